import PyProof.Rows.All
import Wide.All
import OpenK.AllK
import Wide.FinOn
import Lean
import PySem.Challenge.RW_rr0062_01
open PySem PySem.W PyProof.Rows PySem.Calls PySem.Spec
set_option Elab.async false
set_option linter.unusedVariables false
namespace Mine
/-- the head's left side from the library's booted heap on: the run of the top and the looks behind it -/
theorem left_of_boot {p q : Program} {loose : List Str} {Xt : Shared → Bool} {α : Type} {Yf : Shared → α} {Ya : World → α} {N : Nat} {g0 : Bool}
    (e : opening p = plainProg p.main.scope.names) (hN : Nat.ble 600 N = true) (f : ∀ s, fenceModules? p s = some s)
    (h : ∀ (w : World) (os : OsState), (topFrom treeTable p w N ⟨boot_heap w.params, Array.mk [], boot_drawn, boot_toks, os⟩).map (fun s => (openSeen q loose (importedModules p.main.body) Xt g0 s, Yf s)) = some (openGood q loose, Ya w)) : LeftO p q loose Xt Yf Ya N g0 := by
  intro w
  obtain ⟨s, hs, hv⟩ := Option.map_eq_some_iff.mp (boot_open e hN f w)
  obtain ⟨hp, gs, d, k, os⟩ := s
  obtain ⟨rfl, rfl, rfl, rfl⟩ : hp = boot_heap w.params ∧ gs = Array.mk [] ∧ d = boot_drawn ∧ k = boot_toks := by simpa using hv
  unfold openEnds
  rw [hs]
  exact h w os
section
local macro_rules
  | `(tactic| refine $f:ident (q := $q) (loose := $l) (Xt := $x) (XP := $xp) (Yf := $yf) (Ya := $ya) (YP := $yp) (N := $n) ?hl $as*) =>
    `(tactic| refine $f:ident (q := $q) (loose := $l) (Xt := $x) (XP := $xp) (Yf := $yf) (Ya := $ya) (YP := $yp) (N := $n)
      (left_of_boot (by rfl) (by rfl) (fun s => by rfl) (fun w os => by
        delta topFrom
        first | rw [PySem.W.Fast.te14082659384304107361, PySem.W.Fast.te14364793385576792824, PySem.W.Fast.te4187177175401517315, PySem.W.Fast.te5923862056798008813, PySem.W.Fast.te8920871248978507458] | skip
        kernel_rfl)) $as*)
set_option maxRecDepth 100000 in
set_option maxHeartbeats 8000000 in
open_top hd for PySem.Challenge.rw_rr0062_01
end
end Mine
local macro_rules | `(tactic| walk_at $s:str) => `(tactic| k_extra $s)
namespace Mine
set_option maxRecDepth 100000
/-- what a call of the def at f does, from any frame of a def and any ledger -/
def Con (w : World) (mean : ExcName → Option Value) (mg mb : Str → Option Value) (f : Addr) (need : Nat) (vs : List Value) (news news' : List (Addr × Obj)) (R : Value → List (Addr × Obj) → Prop) : Prop :=
  ∀ (dp un : Nat) (gd : Option (List Code)) (cn : Str) (cs : Scope) (a : Addr) (ccd : Value) (cl : List (Str × Addr)) (outer : List Env) (A₀ : Around) (base h₀ : Heap) (L : Addr) (m : Str → Option Value) (s : Shared) (Q E : Value → Shared → Prop),
    Below A₀ base outer h₀ → Fr h₀ L s.heap m → (hd.heap_39 w.params).In h₀ → News h₀ L s.heap news → Top hd.view_39 (looseW hd.view_39 [Str.ofString "RECKONINGS"]) mean mg mb h₀ → cs.kind = .function →
    dp + need < recursionLimit → un + 8 * need < cLine →
    (∀ (v : Value) (tl : List (Addr × Obj)) (h' : Heap) (tk' : Nat), R v tl → Fr h₀ L h' m → News h₀ L h' (tl ++ news') → (∀ p ∈ tl, ∀ q ∈ news', q.1 < p.1) → Q v { s with heap := h', toks := tk' }) →
    wpAny (model PySem.Challenge.rw_rr0062_01.row.prog w) (ktrTop dp un gd cn cs L a ccd cl outer) (call (.ref f) vs) Q E s
theorem Con.use {w : World} {mean : ExcName → Option Value} {mg mb : Str → Option Value} {f : Addr} {need : Nat} {vs : List Value} {news news' : List (Addr × Obj)} {R : Value → List (Addr × Obj) → Prop}
    {dp un : Nat} {gd : Option (List Code)} {cn : Str} {cs : Scope} {a : Addr} {ccd : Value} {cl : List (Str × Addr)} {outer : List Env} {A₀ : Around} {base h₀ : Heap} {L : Addr} {m : Str → Option Value} {s : Shared} {Q E : Value → Shared → Prop}
    (B : Below A₀ base outer h₀) (F : Fr h₀ L s.heap m) (X : (hd.heap_39 w.params).In h₀) (N : News h₀ L s.heap news) (T : Top hd.view_39 (looseW hd.view_39 [Str.ofString "RECKONINGS"]) mean mg mb h₀) (hk : cs.kind = .function)
    (C : Con w mean mg mb f need vs news news' R) (h1 : dp + need < recursionLimit) (h2 : un + 8 * need < cLine)
    (ret : ∀ (v : Value) (tl : List (Addr × Obj)) (h' : Heap) (tk' : Nat), R v tl → Fr h₀ L h' m → News h₀ L h' (tl ++ news') → (∀ p ∈ tl, ∀ q ∈ news', q.1 < p.1) → Q v { s with heap := h', toks := tk' }) :
    wpAny (model PySem.Challenge.rw_rr0062_01.row.prog w) (ktrTop dp un gd cn cs L a ccd cl outer) (call (.ref f) vs) Q E s :=
  C _ _ _ _ _ _ _ _ _ _ _ _ _ _ _ _ _ B F X N T hk h1 h2 ret
def RInt (x : Int) (v : Value) (tl : List (Addr × Obj)) : Prop := tl = [] ∧ ∃ t, v = .int x t
def RBool (x : Bool) (v : Value) (tl : List (Addr × Obj)) : Prop := tl = [] ∧ v = .bool x
theorem rint {x y : Int} {t : Tok} (h : y = x) : RInt x (.int y t) [] := ⟨rfl, t, h ▸ rfl⟩
theorem rbool {x y : Bool} (h : y = x) : RBool x (.bool y) [] := ⟨rfl, h ▸ rfl⟩
theorem no_tl {P : Addr × Obj → Addr × Obj → Prop} {news : List (Addr × Obj)} : ∀ p ∈ ([] : List (Addr × Obj)), ∀ q ∈ news, P q p := fun _ h => nomatch h
def RNone (v : Value) (tl : List (Addr × Obj)) : Prop := tl = [] ∧ v = .none
def RPair (x y : Int) (v : Value) (tl : List (Addr × Obj)) : Prop := ∃ p e f i t t', v = .ref p ∧ tl = [(p, ({ cls := .type "tuple", data := .seq #[.int f t, .int i t'] e } : Obj))] ∧ f = x ∧ i = y
def ROk (x : Int) (v : Value) (tl : List (Addr × Obj)) : Prop := ∃ p t t', v = .ref p ∧ tl = [(p, ({ cls := .type "tuple", data := .seq #[.int 0 t, .int x t'] } : Obj))]
def RBad (o : Int) (v : Value) (tl : List (Addr × Obj)) : Prop := ∃ p t, v = .ref p ∧ tl = [(p, ({ cls := .type "tuple", data := .seq #[.int o t, .none] } : Obj))]
theorem Con.useI {w : World} {mean : ExcName → Option Value} {mg mb : Str → Option Value} {f : Addr} {need : Nat} {vs : List Value} {news : List (Addr × Obj)}
    {dp un : Nat} {gd : Option (List Code)} {cn : Str} {cs : Scope} {a : Addr} {ccd : Value} {cl : List (Str × Addr)} {outer : List Env} {A₀ : Around} {base h₀ : Heap} {L : Addr} {m : Str → Option Value} {s : Shared} {Q E : Value → Shared → Prop} {x : Int}
    (B : Below A₀ base outer h₀) (F : Fr h₀ L s.heap m) (X : (hd.heap_39 w.params).In h₀) (N : News h₀ L s.heap news) (T : Top hd.view_39 (looseW hd.view_39 [Str.ofString "RECKONINGS"]) mean mg mb h₀) (hk : cs.kind = .function)
    (C : Con w mean mg mb f need vs news news (RInt x)) (h1 : dp + need < recursionLimit) (h2 : un + 8 * need < cLine)
    (ret : ∀ (t : Tok) (h' : Heap) (tk' : Nat), Fr h₀ L h' m → News h₀ L h' news → Q (.int x t) { s with heap := h', toks := tk' }) : wpAny (model PySem.Challenge.rw_rr0062_01.row.prog w) (ktrTop dp un gd cn cs L a ccd cl outer) (call (.ref f) vs) Q E s :=
  C.use B F X N T hk h1 h2 (by rintro v tl h' tk' ⟨rfl, t, rfl⟩ F' N' _; exact ret t h' tk' F' N')
theorem Con.useB {w : World} {mean : ExcName → Option Value} {mg mb : Str → Option Value} {f : Addr} {need : Nat} {vs : List Value} {news : List (Addr × Obj)}
    {dp un : Nat} {gd : Option (List Code)} {cn : Str} {cs : Scope} {a : Addr} {ccd : Value} {cl : List (Str × Addr)} {outer : List Env} {A₀ : Around} {base h₀ : Heap} {L : Addr} {m : Str → Option Value} {s : Shared} {Q E : Value → Shared → Prop} {x : Bool}
    (B : Below A₀ base outer h₀) (F : Fr h₀ L s.heap m) (X : (hd.heap_39 w.params).In h₀) (N : News h₀ L s.heap news) (T : Top hd.view_39 (looseW hd.view_39 [Str.ofString "RECKONINGS"]) mean mg mb h₀) (hk : cs.kind = .function)
    (C : Con w mean mg mb f need vs news news (RBool x)) (h1 : dp + need < recursionLimit) (h2 : un + 8 * need < cLine)
    (ret : ∀ (h' : Heap) (tk' : Nat), Fr h₀ L h' m → News h₀ L h' news → Q (.bool x) { s with heap := h', toks := tk' }) : wpAny (model PySem.Challenge.rw_rr0062_01.row.prog w) (ktrTop dp un gd cn cs L a ccd cl outer) (call (.ref f) vs) Q E s :=
  C.use B F X N T hk h1 h2 (by rintro v tl h' tk' ⟨rfl, rfl⟩ F' N' _; exact ret h' tk' F' N')
theorem Con.useN {w : World} {mean : ExcName → Option Value} {mg mb : Str → Option Value} {f : Addr} {need : Nat} {vs : List Value} {news : List (Addr × Obj)}
    {dp un : Nat} {gd : Option (List Code)} {cn : Str} {cs : Scope} {a : Addr} {ccd : Value} {cl : List (Str × Addr)} {outer : List Env} {A₀ : Around} {base h₀ : Heap} {L : Addr} {m : Str → Option Value} {s : Shared} {Q E : Value → Shared → Prop} 
    (B : Below A₀ base outer h₀) (F : Fr h₀ L s.heap m) (X : (hd.heap_39 w.params).In h₀) (N : News h₀ L s.heap news) (T : Top hd.view_39 (looseW hd.view_39 [Str.ofString "RECKONINGS"]) mean mg mb h₀) (hk : cs.kind = .function)
    (C : Con w mean mg mb f need vs news news RNone) (h1 : dp + need < recursionLimit) (h2 : un + 8 * need < cLine)
    (ret : ∀ (h' : Heap) (tk' : Nat), Fr h₀ L h' m → News h₀ L h' news → Q .none { s with heap := h', toks := tk' }) : wpAny (model PySem.Challenge.rw_rr0062_01.row.prog w) (ktrTop dp un gd cn cs L a ccd cl outer) (call (.ref f) vs) Q E s :=
  C.use B F X N T hk h1 h2 (by rintro v tl h' tk' ⟨rfl, rfl⟩ F' N' _; exact ret h' tk' F' N')
theorem Con.useK {w : World} {mean : ExcName → Option Value} {mg mb : Str → Option Value} {f : Addr} {need : Nat} {vs : List Value} {news : List (Addr × Obj)}
    {dp un : Nat} {gd : Option (List Code)} {cn : Str} {cs : Scope} {a : Addr} {ccd : Value} {cl : List (Str × Addr)} {outer : List Env} {A₀ : Around} {base h₀ : Heap} {L : Addr} {m : Str → Option Value} {s : Shared} {Q E : Value → Shared → Prop} {x : Int}
    (B : Below A₀ base outer h₀) (F : Fr h₀ L s.heap m) (X : (hd.heap_39 w.params).In h₀) (N : News h₀ L s.heap news) (T : Top hd.view_39 (looseW hd.view_39 [Str.ofString "RECKONINGS"]) mean mg mb h₀) (hk : cs.kind = .function)
    (C : Con w mean mg mb f need vs news news (ROk x)) (h1 : dp + need < recursionLimit) (h2 : un + 8 * need < cLine)
    (ret : ∀ (p : Addr) (t u : Tok) (h' : Heap) (tk' : Nat), Fr h₀ L h' m → News h₀ L h' ((p, ({ cls := .type "tuple", data := .seq #[.int 0 t, .int x u] } : Obj)) :: news) → (∀ q ∈ news, q.1 < p) → Q (.ref p) { s with heap := h', toks := tk' }) : wpAny (model PySem.Challenge.rw_rr0062_01.row.prog w) (ktrTop dp un gd cn cs L a ccd cl outer) (call (.ref f) vs) Q E s :=
  C.use B F X N T hk h1 h2 (by rintro v tl h' tk' ⟨p, t, u, rfl, rfl⟩ F' N' l; exact ret p t u h' tk' F' N' (l _ (List.mem_singleton.mpr rfl)))
theorem Con.useX {w : World} {mean : ExcName → Option Value} {mg mb : Str → Option Value} {f : Addr} {need : Nat} {vs : List Value} {news : List (Addr × Obj)}
    {dp un : Nat} {gd : Option (List Code)} {cn : Str} {cs : Scope} {a : Addr} {ccd : Value} {cl : List (Str × Addr)} {outer : List Env} {A₀ : Around} {base h₀ : Heap} {L : Addr} {m : Str → Option Value} {s : Shared} {Q E : Value → Shared → Prop} {x : Int}
    (B : Below A₀ base outer h₀) (F : Fr h₀ L s.heap m) (X : (hd.heap_39 w.params).In h₀) (N : News h₀ L s.heap news) (T : Top hd.view_39 (looseW hd.view_39 [Str.ofString "RECKONINGS"]) mean mg mb h₀) (hk : cs.kind = .function)
    (C : Con w mean mg mb f need vs news news (RBad x)) (h1 : dp + need < recursionLimit) (h2 : un + 8 * need < cLine)
    (ret : ∀ (p : Addr) (t : Tok) (h' : Heap) (tk' : Nat), Fr h₀ L h' m → News h₀ L h' ((p, ({ cls := .type "tuple", data := .seq #[.int x t, .none] } : Obj)) :: news) → (∀ q ∈ news, q.1 < p) → Q (.ref p) { s with heap := h', toks := tk' }) : wpAny (model PySem.Challenge.rw_rr0062_01.row.prog w) (ktrTop dp un gd cn cs L a ccd cl outer) (call (.ref f) vs) Q E s :=
  C.use B F X N T hk h1 h2 (by rintro v tl h' tk' ⟨p, t, rfl, rfl⟩ F' N' l; exact ret p t h' tk' F' N' (l _ (List.mem_singleton.mpr rfl)))
theorem Con.useP {w : World} {mean : ExcName → Option Value} {mg mb : Str → Option Value} {f : Addr} {need : Nat} {vs : List Value} {news : List (Addr × Obj)}
    {dp un : Nat} {gd : Option (List Code)} {cn : Str} {cs : Scope} {a : Addr} {ccd : Value} {cl : List (Str × Addr)} {outer : List Env} {A₀ : Around} {base h₀ : Heap} {L : Addr} {m : Str → Option Value} {s : Shared} {Q E : Value → Shared → Prop} {x y : Int}
    (B : Below A₀ base outer h₀) (F : Fr h₀ L s.heap m) (X : (hd.heap_39 w.params).In h₀) (N : News h₀ L s.heap news) (T : Top hd.view_39 (looseW hd.view_39 [Str.ofString "RECKONINGS"]) mean mg mb h₀) (hk : cs.kind = .function)
    (C : Con w mean mg mb f need vs news news (RPair x y)) (h1 : dp + need < recursionLimit) (h2 : un + 8 * need < cLine)
    (ret : ∀ (p : Addr) (e : Nat) (t u : Tok) (h' : Heap) (tk' : Nat), Fr h₀ L h' m → News h₀ L h' ((p, ({ cls := .type "tuple", data := .seq #[.int x t, .int y u] e } : Obj)) :: news) → (∀ q ∈ news, q.1 < p) → Q (.ref p) { s with heap := h', toks := tk' }) : wpAny (model PySem.Challenge.rw_rr0062_01.row.prog w) (ktrTop dp un gd cn cs L a ccd cl outer) (call (.ref f) vs) Q E s :=
  C.use B F X N T hk h1 h2 (by rintro v tl h' tk' ⟨p, e, f, i, t, u, rfl, rfl, rfl, rfl⟩ F' N' l; exact ret p e t u h' tk' F' N' (l _ (List.mem_singleton.mpr rfl)))
section
variable {h₀ h : Heap} {L : Addr} {q r u v : Addr × Obj} {news : List (Addr × Obj)}
theorem drop1 (N : News h₀ L h (q :: news)) : News h₀ L h news := fun p hp => N p (.tail _ hp)
theorem drop2 (N : News h₀ L h (q :: r :: news)) : News h₀ L h news := drop1 (drop1 N)
theorem drop3 (N : News h₀ L h (q :: r :: u :: news)) : News h₀ L h news := drop1 (drop2 N)
theorem drop4 (N : News h₀ L h (q :: r :: u :: v :: news)) : News h₀ L h news := drop1 (drop3 N)
theorem keep1 (N : News h₀ L h (q :: r :: news)) : News h₀ L h ([q] ++ news) := fun p hp => N p ((List.mem_cons.mp hp).elim (fun e => e ▸ .head _) fun hp => .tail _ (.tail _ hp))
end
theorem ord1 {a : Addr} {o : Obj} {news : List (Addr × Obj)} (h : AllLt a news) : ∀ p ∈ [(a, o)], ∀ q ∈ news, q.1 < p.1 := fun p hp q hq => ktn_ord1 h q hq p hp
structure CutMark : Prop where
/-- an expression that comes to one bool on every way is walked once -/
theorem cut_bool {M : Model} {A : Around} {E : Value → Shared → Prop} {s : Shared} {h₀ : Heap} {L : Addr} {m : Str → Option Value} {news : List (Addr × Obj)} {t : Sem Value} {Q : Value → Shared → Prop} (b : Bool)
    (_F : Fr h₀ L s.heap m) (_N : News h₀ L s.heap news)
    (h1 : CutMark → ∀ Q' : Value → Shared → Prop, (∀ h' tk, Fr h₀ L h' m → News h₀ L h' news → Q' (.bool b) { s with heap := h', toks := tk }) → wpAny M A t Q' E s)
    (h2 : ∀ h' tk, Fr h₀ L h' m → News h₀ L h' news → Q (.bool b) { s with heap := h', toks := tk }) : wpAny M A t Q E s := h1 ⟨⟩ Q h2
/-- an argument that is a local name or an int constant: its value by the token -/
inductive ArgV (env : Env) (m : Str → Option Value) : PySem.Expr → (Tok → Value) → Prop
  | name {x : Str} {pos : Pos} {v : Value} (hk : env.scope.kind = .function) (hx : env.kindOf x = some .local) (hd : (x == ("__debug__" : Str)) = false) (hv : m x = some v) : ArgV env m (.Name x pos) (fun _ => v)
  | int {n : Int} {k : Nat} {pos : Pos} : ArgV env m (.Constant (.int n) k pos) (fun t => .int n t)
section
variable {M : Model} {A : Around} {env : Env} {m : Str → Option Value} {h₀ : Heap} {e : PySem.Expr} {V : Tok → Value}
theorem ArgV.run (v : ArgV env m e V) {s : Shared} {Q : Value → Shared → Prop} {E : Value → Shared → Prop} (F : Fr h₀ env.locals s.heap m) (h : ∀ t tk, Q (V t) { s with toks := tk }) : wpAny M A (eval e env) Q E s := by
  cases v with
  | name hk hx hd hv => exact wpAny_Name (wpAny_loadName_local hk hx F.ns hv (h 0 s.toks)) hd
  | int => exact wpAny_Constant_int (h s.toks (s.toks + 1))
theorem ArgV.star (v : ArgV env m e V) (rest : List PySem.Expr) : starEach (e :: rest) env = (false, eval e env) :: starEach rest env := by
  cases v <;> rfl
end
section
variable {M : Model} {A : Around} {E : Value → Shared → Prop} {s : Shared} {K : Frag} {h₀ : Heap} {L a : Addr} {m mg mb : Str → Option Value} {cn : Str} {cs : Scope} {ccd : Value} {cl : List (Str × Addr)} {p : Program} {loose : List Str} {mean : ExcName → Option Value}
  {x : Str} {px pos : Pos} {f : Addr} {Q : Value → Shared → Prop} {e1 e2 e3 e4 : PySem.Expr} {V1 V2 V3 V4 : Tok → Value}
abbrev cenv (cn : Str) (cs : Scope) (L a : Addr) (ccd : Value) (cl : List (Str × Addr)) : Env := envX cn cs L a ccd cl
theorem call_go {args : List PySem.Expr} {e : PySem.Expr} (F : Fr h₀ L s.heap m) (X : K.In h₀) (T : TopRead p loose mg mb h₀) (hf : nsIn K mainGlobals x = some (some (.ref f))) (hkeep : keepIn K (.ref f) = true)
    (hk : cs.kind = .function) (hx : (envX cn cs L a ccd cl).kindOf x = some .globalImplicit) (hd : (x == ("__debug__" : Str)) = false)
    (he : starEach (e :: args) (envX cn cs L a ccd cl) = (false, eval e (envX cn cs L a ccd cl)) :: starEach args (envX cn cs L a ccd cl)) (hp : (backTo pos (starEach args (envX cn cs L a ccd cl))).any (·.1) = false)
    (h : wpAny M A (spliced (backTo pos (starEach (e :: args) (envX cn cs L a ccd cl)))) (fun vs s₁ => K.In s₁.heap ∧ wpAny M A (call (.ref f) ([] ++ vs)) Q E s₁) E s) :
    wpAny M A (eval (.Call (.Name x px) (e :: args) [] pos) (envX cn cs L a ccd cl)) Q E s :=
  Call_ (nameX_K F X T hf (callWith_K X hkeep h he hp) hk hx hd)
theorem call4 (F : Fr h₀ L s.heap m) (X : K.In h₀) (T : TopRead p loose mg mb h₀) (hf : nsIn K mainGlobals x = some (some (.ref f))) (hkeep : keepIn K (.ref f) = true)
    (a1 : ArgV (envX cn cs L a ccd cl) m e1 V1) (a2 : ArgV (envX cn cs L a ccd cl) m e2 V2) (a3 : ArgV (envX cn cs L a ccd cl) m e3 V3) (a4 : ArgV (envX cn cs L a ccd cl) m e4 V4)
    (hk : cs.kind = .function) (hx : (envX cn cs L a ccd cl).kindOf x = some .globalImplicit) (hd : (x == ("__debug__" : Str)) = false)
    (h : ∀ t1 t2 t3 t4 tk, wpAny M A (call (.ref f) [V1 t1, V2 t2, V3 t3, V4 t4]) Q E { s with toks := tk }) :
    wpAny M A (eval (.Call (.Name x px) [e1, e2, e3, e4] [] pos) (envX cn cs L a ccd cl)) Q E s := by
  refine call_go F X T hf hkeep hk hx hd (a1.star _) (by rw [a2.star, a3.star, a4.star]; rfl) ?_
  refine args_cons (a1.run F fun t1 tk1 => ?_) (a1.star _)
  refine args_cons (a2.run F fun t2 tk2 => ?_) (a2.star _)
  refine args_cons (a3.run F fun t3 tk3 => ?_) (a3.star _)
  refine args_cons (a4.run F fun t4 tk4 => ?_) (a4.star _)
  exact args_nil ⟨X.keeps F.keep, h t1 t2 t3 t4 tk4⟩
theorem call3 (F : Fr h₀ L s.heap m) (X : K.In h₀) (T : TopRead p loose mg mb h₀) (hf : nsIn K mainGlobals x = some (some (.ref f))) (hkeep : keepIn K (.ref f) = true)
    (a1 : ArgV (envX cn cs L a ccd cl) m e1 V1) (a2 : ArgV (envX cn cs L a ccd cl) m e2 V2) (a3 : ArgV (envX cn cs L a ccd cl) m e3 V3)
    (hk : cs.kind = .function) (hx : (envX cn cs L a ccd cl).kindOf x = some .globalImplicit) (hd : (x == ("__debug__" : Str)) = false)
    (h : ∀ t1 t2 t3 tk, wpAny M A (call (.ref f) [V1 t1, V2 t2, V3 t3]) Q E { s with toks := tk }) :
    wpAny M A (eval (.Call (.Name x px) [e1, e2, e3] [] pos) (envX cn cs L a ccd cl)) Q E s := by
  refine call_go F X T hf hkeep hk hx hd (a1.star _) (by rw [a2.star, a3.star]; rfl) ?_
  refine args_cons (a1.run F fun t1 tk1 => ?_) (a1.star _)
  refine args_cons (a2.run F fun t2 tk2 => ?_) (a2.star _)
  refine args_cons (a3.run F fun t3 tk3 => ?_) (a3.star _)
  exact args_nil ⟨X.keeps F.keep, h t1 t2 t3 tk3⟩
theorem call2 (F : Fr h₀ L s.heap m) (X : K.In h₀) (T : TopRead p loose mg mb h₀) (hf : nsIn K mainGlobals x = some (some (.ref f))) (hkeep : keepIn K (.ref f) = true)
    (a1 : ArgV (envX cn cs L a ccd cl) m e1 V1) (a2 : ArgV (envX cn cs L a ccd cl) m e2 V2)
    (hk : cs.kind = .function) (hx : (envX cn cs L a ccd cl).kindOf x = some .globalImplicit) (hd : (x == ("__debug__" : Str)) = false)
    (h : ∀ t1 t2 tk, wpAny M A (call (.ref f) [V1 t1, V2 t2]) Q E { s with toks := tk }) :
    wpAny M A (eval (.Call (.Name x px) [e1, e2] [] pos) (envX cn cs L a ccd cl)) Q E s := by
  refine call_go F X T hf hkeep hk hx hd (a1.star _) (by rw [a2.star]; rfl) ?_
  refine args_cons (a1.run F fun t1 tk1 => ?_) (a1.star _)
  refine args_cons (a2.run F fun t2 tk2 => ?_) (a2.star _)
  exact args_nil ⟨X.keeps F.keep, h t1 t2 tk2⟩
theorem call1 (F : Fr h₀ L s.heap m) (X : K.In h₀) (T : TopRead p loose mg mb h₀) (hf : nsIn K mainGlobals x = some (some (.ref f))) (hkeep : keepIn K (.ref f) = true)
    (a1 : ArgV (envX cn cs L a ccd cl) m e1 V1)
    (hk : cs.kind = .function) (hx : (envX cn cs L a ccd cl).kindOf x = some .globalImplicit) (hd : (x == ("__debug__" : Str)) = false)
    (h : ∀ t1 tk, wpAny M A (call (.ref f) [V1 t1]) Q E { s with toks := tk }) :
    wpAny M A (eval (.Call (.Name x px) [e1] [] pos) (envX cn cs L a ccd cl)) Q E s := by
  refine call_go F X T hf hkeep hk hx hd (a1.star _) rfl ?_
  refine args_cons (a1.run F fun t1 tk1 => ?_) (a1.star _)
  exact args_nil ⟨X.keeps F.keep, h t1 tk1⟩
end
theorem fill : PySem.Challenge.rw_rr0062_01 = PySem.Challenge.rw_rr0062_01 ∧ hd.heap_39 = hd.heap_39 := by k_fill; exact ⟨rfl, rfl⟩
end Mine

namespace Mine
theorem two_pow_split {k : Int} (h : 1 ≤ k) : (2 : Int) ^ k.toNat = 2 * 2 ^ (k - 1).toNat := by
  have e : k.toNat = (k - 1).toNat + 1 := by omega
  rw [e, Int.pow_succ]; omega
/-- the text's wrap -/
def wrapZ (n k : Int) : Int := n.bmod (2 ^ k.toNat)
theorem wrapZ_bounds {n k : Int} (h4 : 4 ≤ k) (h16 : k ≤ 16) : -32768 ≤ wrapZ n k ∧ wrapZ n k ≤ 32767 := by
  have e : (2 : Nat) ^ k.toNat ≤ 2 ^ 16 := Nat.pow_le_pow_right (by decide) (by omega)
  have e2 := two_pow_split (k := k) (by omega)
  have e3 : ((2 ^ k.toNat : Nat) : Int) = (2 : Int) ^ k.toNat := kbt_cast _
  have p := kbt_pos (k - 1).toNat
  have h1 := Int.le_bmod (x := n) (m := 2 ^ k.toNat) (by omega)
  have h2 := Int.bmod_lt (x := n) (m := 2 ^ k.toNat) (by omega)
  unfold wrapZ
  omega
theorem wz_mul_l (x y k : Int) : wrapZ (wrapZ x k * y) k = wrapZ (x * y) k := by
  unfold wrapZ; exact Int.bmod_mul_bmod
theorem wz_mul_r (x y k : Int) : wrapZ (x * wrapZ y k) k = wrapZ (x * y) k := by
  unfold wrapZ; exact Int.mul_bmod_bmod
theorem wz_add_l (x y k : Int) : wrapZ (wrapZ x k + y) k = wrapZ (x + y) k := by
  unfold wrapZ; exact Int.bmod_add_bmod
theorem wz_add_r (x y k : Int) : wrapZ (x + wrapZ y k) k = wrapZ (x + y) k := by
  unfold wrapZ; exact Int.add_bmod_bmod
theorem wz_sub_l (x y k : Int) : wrapZ (wrapZ x k - y) k = wrapZ (x - y) k := by
  unfold wrapZ; exact Int.bmod_sub_bmod
theorem wz_wz (x k : Int) : wrapZ (wrapZ x k) k = wrapZ x k := by
  unfold wrapZ; exact Int.bmod_bmod
theorem wz_pow (x k : Int) (n : Nat) : wrapZ (wrapZ x k ^ n) k = wrapZ (x ^ n) k := by
  induction n with
  | zero => rw [Int.pow_zero, Int.pow_zero]
  | succ n ih => rw [Int.pow_succ, Int.pow_succ, wz_mul_r, ← wz_mul_l, ih, wz_mul_l]
theorem wz_id {x k : Int} (h : 1 ≤ k) (h1 : -(2 ^ (k - 1).toNat) ≤ x) (h2 : x < 2 ^ (k - 1).toNat) : wrapZ x k = x := by
  have e2 := two_pow_split h
  have e3 : ((2 ^ k.toNat : Nat) : Int) = (2 : Int) ^ k.toNat := kbt_cast _
  unfold wrapZ
  apply Int.bmod_eq_of_le <;> omega
theorem fdiv2_lt {b : Int} (h : 0 < b) : (b.fdiv 2).toNat < b.toNat := by
  rw [Int.fdiv_eq_ediv_of_nonneg _ (by decide)]; omega
def powEq (x y wd found base b : Int) : Prop := wrapZ (found * base ^ b.toNat) wd = wrapZ (x ^ y.toNat) wd
theorem powEq_odd {x y wd f g b : Int} (hb : 0 < b) (ho : b.fmod 2 = 1) (h : powEq x y wd f g b) : powEq x y wd (wrapZ (f * g) wd) (wrapZ (g * g) wd) (b.fdiv 2) := by
  unfold powEq at *
  rw [← h, wz_mul_l, ← wz_mul_r, wz_pow, wz_mul_r]
  rw [Int.fdiv_eq_ediv_of_nonneg _ (by decide), Int.fmod_eq_emod_of_nonneg _ (by decide)] at *
  have e : b.toNat = 2 * (b / 2).toNat + 1 := by omega
  rw [e, Int.pow_succ, Int.pow_mul, Int.pow_succ, Int.pow_succ, Int.pow_zero, Int.one_mul, Int.mul_assoc, Int.mul_comm g]
theorem powEq_even {x y wd f g b : Int} (hb : 0 < b) (ho : b.fmod 2 ≠ 1) (h : powEq x y wd f g b) : powEq x y wd f (wrapZ (g * g) wd) (b.fdiv 2) := by
  unfold powEq at *
  rw [← h, ← wz_mul_r, wz_pow, wz_mul_r]
  rw [Int.fdiv_eq_ediv_of_nonneg _ (by decide)]
  rw [Int.fmod_eq_emod_of_nonneg _ (by decide)] at ho
  have e : b.toNat = 2 * (b / 2).toNat := by omega
  rw [e, Int.pow_mul, Int.pow_succ, Int.pow_succ, Int.pow_zero, Int.one_mul]
theorem pow_odd {x y wd f g b : Int} (h4 : 4 ≤ wd) (h16 : wd ≤ 16) (hb : 0 < b) (ho : b.fmod 2 = 1) (h : powEq x y wd f g b) :
    0 ≤ b.fdiv 2 ∧ -65536 ≤ wrapZ (f * g) wd ∧ wrapZ (f * g) wd ≤ 65536 ∧ -65536 ≤ wrapZ (g * g) wd ∧ wrapZ (g * g) wd ≤ 65536 ∧ powEq x y wd (wrapZ (f * g) wd) (wrapZ (g * g) wd) (b.fdiv 2) := by
  have h1 := wrapZ_bounds (n := f * g) h4 h16
  have h2 := wrapZ_bounds (n := g * g) h4 h16
  refine ⟨by rw [Int.fdiv_eq_ediv_of_nonneg _ (by decide)]; omega, by omega, by omega, by omega, by omega, powEq_odd hb ho h⟩
theorem pow_even {x y wd f g b : Int} (h4 : 4 ≤ wd) (h16 : wd ≤ 16) (hf1 : -65536 ≤ f) (hf2 : f ≤ 65536) (hb : 0 < b) (ho : b.fmod 2 ≠ 1) (h : powEq x y wd f g b) :
    0 ≤ b.fdiv 2 ∧ -65536 ≤ f ∧ f ≤ 65536 ∧ -65536 ≤ wrapZ (g * g) wd ∧ wrapZ (g * g) wd ≤ 65536 ∧ powEq x y wd f (wrapZ (g * g) wd) (b.fdiv 2) := by
  have h2 := wrapZ_bounds (n := g * g) h4 h16
  refine ⟨by rw [Int.fdiv_eq_ediv_of_nonneg _ (by decide)]; omega, by omega, by omega, by omega, by omega, powEq_even hb ho h⟩
def powNeg (x y : Int) : Int := if x = 1 then 1 else if x = -1 then (if y.fmod 2 = 0 then 1 else -1) else 0
def powZ (x y wd : Int) : Int := if y < 0 then powNeg x y else wrapZ (x ^ y.toNat) wd
theorem pow_end {x y wd f g b : Int} (hy : ¬ y < 0) (hb : 0 ≤ b) (hb' : ¬ 0 < b) (h : powEq x y wd f g b) : wrapZ f wd = powZ x y wd := by
  have e : b = 0 := by omega
  subst e
  unfold powEq at h
  unfold powZ
  rw [if_neg hy, ← h]
  simp
end Mine

namespace Mine
theorem fmod_bounds {x y : Int} (h : y ≠ 0) : (0 < y ∧ 0 ≤ x.fmod y ∧ x.fmod y < y) ∨ (y < 0 ∧ y < x.fmod y ∧ x.fmod y ≤ 0) := by
  rcases Int.lt_or_gt_of_ne h with hy | hy
  · right
    have e : x.fmod y = -((-x).fmod (-y)) := by
      rw [Int.neg_fmod_neg, Int.neg_neg]
    have h1 := Int.fmod_nonneg_of_pos (-x) (b := -y) (by omega)
    have h2 := Int.fmod_lt_of_pos (-x) (b := -y) (by omega)
    omega
  · left
    exact ⟨hy, Int.fmod_nonneg_of_pos x hy, Int.fmod_lt_of_pos x hy⟩
theorem fmod_back (x y : Int) : (x - x.fmod y).fmod y = 0 := by
  have h := Int.mul_fdiv_add_fmod x y
  have e : x - x.fmod y = y * x.fdiv y := by omega
  rw [e, Int.mul_fmod_right]
theorem tdiv_rest (x y : Int) : x - x.tdiv y * y = x.tmod y := by
  have h := Int.mul_tdiv_add_tmod x y
  rw [Int.mul_comm]
  omega
theorem tmod_bounds {x y : Int} (h : y ≠ 0) : ((0 < y ∧ -y < x.tmod y ∧ x.tmod y < y) ∨ (y < 0 ∧ y < x.tmod y ∧ x.tmod y < -y)) ∧ (x.tmod y = 0 ∨ (x.tmod y < 0 ∧ x < 0) ∨ (0 < x.tmod y ∧ 0 < x)) := by
  have a := Int.natAbs_tmod x y
  have b := Nat.mod_lt x.natAbs (y := y.natAbs) (by omega)
  have c := Nat.mod_le x.natAbs y.natAbs
  by_cases hx : 0 ≤ x
  · have d := Int.tmod_nonneg y hx
    omega
  · have d := Int.tmod_nonneg y (a := -x) (by omega)
    rw [Int.neg_tmod] at d
    omega
theorem tdiv_range {x y M : Int} (h0 : y ≠ 0) (h1 : y ≠ -1) (hM : 1 ≤ M) (ha : -M ≤ x) (hb : x < M) : -M ≤ x.tdiv y ∧ x.tdiv y < M := by
  have a := Int.natAbs_tdiv x y
  by_cases h : y = 1
  · subst h; rw [Int.tdiv_one]; exact ⟨ha, hb⟩
  · have b : x.natAbs.div y.natAbs ≤ x.natAbs / 2 := Nat.div_le_div_left (by omega) (by omega)
    omega
end Mine

namespace Mine
/-- the number that a row of figures tells, behind a -/
noncomputable def fv : List UInt8 → Int → Int
  | [], a => a
  | c :: r, a => fv r (a * 10 + ((c.toNat : Int) - 48))
def Digs (l : List UInt8) : Prop := ∀ c ∈ l, 48 ≤ c.toNat ∧ c.toNat ≤ 57
theorem fv_append (l r : List UInt8) : ∀ a, fv (l ++ r) a = fv r (fv l a) := by
  induction l with
  | nil => intro a; rfl
  | cons c l ih => intro a; exact ih _
theorem fv_ge {l : List UInt8} (h : Digs l) : ∀ a, 0 ≤ a → a ≤ fv l a := by
  induction l with
  | nil => intro a _; exact Int.le_refl _
  | cons c l ih =>
    intro a ha
    have hc := h c (.head _)
    have := ih (fun x hx => h x (.tail _ hx)) (a * 10 + ((c.toNat : Int) - 48)) (by omega)
    show a ≤ fv l _
    omega
theorem getD_get {l : List UInt8} {i : Nat} {d : UInt8} (h : i < l.length) : l.getD i d = l[i] := by
  rw [List.getD_eq_getElem?_getD, List.getElem?_eq_getElem h, Option.getD_some]
def figInv (x l : Int) (f : Array UInt8) : Prop := Digs f.toList ∧ fv f.toList l = x.natAbs
theorem fig_in (z : Int) : ∀ n ∈ [48 + z.fmod 10], 0 ≤ n ∧ n < 256 := by
  intro n hn
  rw [List.mem_singleton] at hn
  rw [Int.fmod_eq_emod_of_nonneg _ (by decide)] at hn
  omega
theorem fig_start {x : Int} (h1 : -65536 ≤ x) (h2 : x ≤ 65536) : 0 ≤ (if x < 0 then -x else x) ∧ (if x < 0 then -x else x) + ((#[] : Array UInt8).size : Int) ≤ 65537 ∧ figInv x (if x < 0 then -x else x) #[] := by
  refine ⟨by split <;> omega, by simp; split <;> omega, fun c hc => absurd hc (by simp), ?_⟩
  show (if x < 0 then -x else x) = _
  split <;> omega
theorem toU8 {n : Int} (h0 : 0 ≤ n) (h1 : n < 256) : ((n.toNat.toUInt8.toNat : Nat) : Int) = n := byte_back h0 h1
theorem fig_step {x l : Int} {f : Array UInt8} (hl : 9 < l) (hs : l + f.size ≤ 65537) (h : figInv x l f) :
    0 ≤ l.fdiv 10 ∧ l.fdiv 10 + ((#[(48 + l.fmod 10).toNat.toUInt8] ++ f).size : Int) ≤ 65537 ∧ figInv x (l.fdiv 10) (#[(48 + l.fmod 10).toNat.toUInt8] ++ f) := by
  have e1 : l.fdiv 10 = l / 10 := Int.fdiv_eq_ediv_of_nonneg _ (by decide)
  have e2 : l.fmod 10 = l % 10 := Int.fmod_eq_emod_of_nonneg _ (by decide)
  have e3 := toU8 (n := 48 + l % 10) (by omega) (by omega)
  rw [e1, e2]
  refine ⟨by omega, by rw [Array.size_append]; simp only [List.size_toArray, List.length_cons, List.length_nil]; omega, ?_, ?_⟩
  · intro c hc
    rw [Array.toList_append] at hc
    rcases List.mem_append.mp hc with hc | hc
    · rw [List.mem_singleton.mp hc]; omega
    · exact h.1 c hc
  · rw [Array.toList_append]
    show fv f.toList (l / 10 * 10 + _) = _
    rw [← h.2, e3]
    congr 1
    omega
theorem fig_less {l : Int} (hl : 9 < l) : (l.fdiv 10).toNat < l.toNat := by
  rw [Int.fdiv_eq_ediv_of_nonneg _ (by decide)]; omega
/-- the value of the j figures from place 1 on -/
noncomputable def dv (l : List UInt8) (j : Nat) : Int := fv ((l.drop 1).take j) 0
structure Tells (l : List UInt8) (x : Int) : Prop where
  lo : 2 ≤ l.length
  hi : l.length ≤ 65540
  sgn : ((l.getD 0 0).toNat : Int) = if x < 0 then 45 else 32
  dig : ∀ i : Int, 1 ≤ i → i < (l.length : Int) → 48 ≤ ((l.getD i.toNat 0).toNat : Int) ∧ ((l.getD i.toNat 0).toNat : Int) ≤ 57
  val : dv l (l.length - 1) = x.natAbs
theorem fig_end {x l : Int} {f : Array UInt8} {s : UInt8} (hs : (s.toNat : Int) = if x < 0 then 45 else 32) (h0 : 0 ≤ l) (hl : ¬ 9 < l) (hz : l + f.size ≤ 65537) (h : figInv x l f) :
    ∃ r : List UInt8, #[s, (48 + l).toNat.toUInt8] ++ f = r.toArray ∧ Tells r x := by
  have e3 := toU8 (n := 48 + l) (by omega) (by omega)
  have hD : Digs ((48 + l).toNat.toUInt8 :: f.toList) := fun c hc => by
    rcases List.mem_cons.mp hc with rfl | hc
    · omega
    · exact h.1 c hc
  refine ⟨s :: (48 + l).toNat.toUInt8 :: f.toList, ?_, ?_⟩
  · rw [← Array.toList_inj]; simp
  refine ⟨by simp, by simp; omega, hs, ?_, ?_⟩
  · intro i h1 h2
    obtain ⟨k, rfl⟩ : ∃ k : Nat, i = ((k + 1 : Nat) : Int) := ⟨(i - 1).toNat, by omega⟩
    have hk : k < ((48 + l).toNat.toUInt8 :: f.toList).length := by simp only [List.length_cons] at h2 ⊢; omega
    have hm := hD _ (List.getElem_mem hk)
    rw [Int.toNat_natCast, List.getD_cons_succ, getD_get hk]
    omega
  · unfold dv
    simp only [List.length_cons, Nat.add_sub_cancel, List.drop_succ_cons, List.drop_zero]
    rw [List.take_of_length_le (by simp)]
    show fv f.toList _ = _
    rw [← h.2, e3]
    congr 1
    omega
theorem dv_zero (l : List UInt8) : dv l 0 = 0 := rfl
theorem dv_succ {l : List UInt8} {i : Int} (h1 : 1 ≤ i) (h2 : i < (l.length : Int)) : dv l ((i + 1 - 1).toNat) = dv l ((i - 1).toNat) * 10 + (((l.getD i.toNat 0).toNat : Int) - 48) := by
  obtain ⟨k, rfl⟩ : ∃ k : Nat, i = ((k + 1 : Nat) : Int) := ⟨(i - 1).toNat, by omega⟩
  have e1 : (((k + 1 : Nat) : Int) + 1 - 1).toNat = k + 1 := by omega
  have e2 : (((k + 1 : Nat) : Int) - 1).toNat = k := by omega
  rw [e1, e2, Int.toNat_natCast]
  have hk : k < (l.drop 1).length := by rw [List.length_drop]; omega
  unfold dv
  rw [List.take_add_one, List.getElem?_eq_getElem hk]
  show fv (_ ++ [_]) 0 = _
  rw [fv_append]
  show fv _ 0 * 10 + _ = _
  rw [List.getElem_drop, getD_get (by omega)]
  simp only [Nat.add_comm 1 k]
theorem Tells.digs {l : List UInt8} {x : Int} (T : Tells l x) : Digs (l.drop 1) := by
  intro c hc
  obtain ⟨k, hk, rfl⟩ := List.mem_iff_getElem.mp hc
  rw [List.length_drop] at hk
  have := T.dig ((k + 1 : Nat) : Int) (by omega) (by omega)
  rw [Int.toNat_natCast, getD_get (by omega)] at this
  rw [List.getElem_drop]
  simp only [Nat.add_comm 1 k]
  omega
theorem Tells.dv_le {l : List UInt8} {x : Int} (T : Tells l x) (j : Nat) : 0 ≤ dv l j ∧ dv l j ≤ x.natAbs := by
  have hD := T.digs
  have h1 : Digs ((l.drop 1).take j) := fun c hc => hD c (List.mem_of_mem_take hc)
  have h2 : Digs ((l.drop 1).drop j) := fun c hc => hD c (List.mem_of_mem_drop hc)
  have h3 := fv_ge h1 0 (Int.le_refl _)
  refine ⟨h3, ?_⟩
  have h4 := fv_ge h2 _ h3
  rw [← fv_append, List.take_append_drop] at h4
  have e : fv (l.drop 1) 0 = x.natAbs := by
    rw [← T.val]; unfold dv
    rw [List.take_of_length_le (by rw [List.length_drop]; omega)]
  rw [← e]
  exact h4
def blankZ (x : Int) : Bool := decide (x = 32) || (decide (9 ≤ x) && decide (x ≤ 13))
/-- how many blanks a text begins with -/
noncomputable def nb : List UInt8 → Nat
  | [] => 0
  | c :: r => if blankZ c.toNat = true then nb r + 1 else 0
noncomputable def skipZ (l : List UInt8) (i : Int) : Int := i + nb (l.drop i.toNat)
theorem drop_cons {l : List UInt8} {i : Int} (h0 : 0 ≤ i) (h1 : i < (l.length : Int)) : l.drop i.toNat = l.getD i.toNat 0 :: l.drop (i + 1).toNat := by
  have e : (i + 1).toNat = i.toNat + 1 := by omega
  rw [e, getD_get (by omega)]
  exact List.drop_eq_getElem_cons (by omega)
theorem skip_go {l : List UInt8} {i : Int} (h0 : 0 ≤ i) (h1 : i < (l.length : Int)) (hb : blankZ ((l.getD i.toNat 0).toNat : Int) = true) : skipZ l (i + 1) = skipZ l i := by
  unfold skipZ
  rw [drop_cons h0 h1]
  show _ = i + ((if blankZ ((l.getD i.toNat 0).toNat : Int) = true then _ else _ : Nat) : Int)
  rw [if_pos hb]
  omega
theorem skip_stop {l : List UInt8} {i : Int} (h0 : 0 ≤ i) (h1 : i < (l.length : Int)) (hb : blankZ ((l.getD i.toNat 0).toNat : Int) = false) : skipZ l i = i := by
  unfold skipZ
  rw [drop_cons h0 h1]
  show i + ((if blankZ ((l.getD i.toNat 0).toNat : Int) = true then _ else _ : Nat) : Int) = i
  rw [if_neg (by rw [hb]; exact Bool.false_ne_true)]
  simp
theorem skip_end {l : List UInt8} {i : Int} (h1 : (l.length : Int) ≤ i) : skipZ l i = i := by
  unfold skipZ
  rw [List.drop_eq_nil_of_le (by omega)]
  simp [nb]
theorem byte_lo (c : UInt8) : 0 ≤ (c.toNat : Int) ∧ (c.toNat : Int) < 256 := ⟨by omega, by have := c.toNat_lt; omega⟩
end Mine

namespace Mine
set_option maxRecDepth 100000
theorem wrapZ_hi {n k : Int} (h : 1 ≤ k) (hi : 1 * 2 ^ (k - 1).toNat ≤ Builtin.bitAnd n (1 * 2 ^ k.toNat - 1)) : Builtin.bitAnd n (1 * 2 ^ k.toNat - 1) - 1 * 2 ^ k.toNat = wrapZ n k := by
  rw [Int.one_mul, Int.one_mul, kbt_mask] at *
  have := two_pow_split h
  unfold wrapZ Int.bmod
  have e : ((2 ^ k.toNat : Nat) : Int) = (2 : Int) ^ k.toNat := kbt_cast _
  rw [e, if_neg (by omega)]
theorem wrapZ_lo {n k : Int} (h : 1 ≤ k) (hi : ¬ 1 * 2 ^ (k - 1).toNat ≤ Builtin.bitAnd n (1 * 2 ^ k.toNat - 1)) : Builtin.bitAnd n (1 * 2 ^ k.toNat - 1) = wrapZ n k := by
  rw [Int.one_mul, Int.one_mul, kbt_mask] at *
  have := two_pow_split h
  unfold wrapZ Int.bmod
  have e : ((2 ^ k.toNat : Nat) : Int) = (2 : Int) ^ k.toNat := kbt_cast _
  rw [e, if_pos (by omega)]
set_option maxHeartbeats 4000000 in
theorem wrap_con {w : World} {mean : ExcName → Option Value} {mg mb : Str → Option Value} {n : Int} {t : Tok} {wd : Int} {t' : Tok} {news : List (Addr × Obj)} (h4 : 4 ≤ wd) (h16 : wd ≤ 16) :
   Con w mean mg mb 111 1 [.int n t, .int wd t'] news news (RInt (wrapZ n wd)) := by
  k_with_none
  k_with "eval Call Name cons nil" => (k_here; (with_reducible show wpAny _ _ (eval (PySem.Expr.Call (PySem.Expr.Name _ _) [_] [] _) _) _ _ _); k_dflt (refine' call1 ?zcF ?zcX ?zcT ?zchf ?zchk ?zca1 ?zcs ?zcx (by decide) ?_; (case zcF => k_asm); (case zcX => k_asm); (case zcT => k_asm); (case zchf => k_is); (case zchk => k_is); (case zca1 => (first | exact ArgV.int | exact ArgV.name rfl rfl (by decide) rfl)); (case zcs => rfl); (case zcx => rfl); intro t1 tk9; (try dsimp only)))
  k_with "eval Call Name cons nil" => (k_here; (with_reducible show wpAny _ _ (eval (PySem.Expr.Call (PySem.Expr.Name _ _) [_, _] [] _) _) _ _ _); k_dflt (refine' call2 ?zcF ?zcX ?zcT ?zchf ?zchk ?zca1 ?zca2 ?zcs ?zcx (by decide) ?_; (case zcF => k_asm); (case zcX => k_asm); (case zcT => k_asm); (case zchf => k_is); (case zchk => k_is); (case zca1 => (first | exact ArgV.int | exact ArgV.name rfl rfl (by decide) rfl)); (case zca2 => (first | exact ArgV.int | exact ArgV.name rfl rfl (by decide) rfl)); (case zcs => rfl); (case zcx => rfl); intro t1 t2 tk9; (try dsimp only)))
  k_with "eval Call Name cons nil" => (k_here; (with_reducible show wpAny _ _ (eval (PySem.Expr.Call (PySem.Expr.Name _ _) [_, _, _] [] _) _) _ _ _); k_dflt (refine' call3 ?zcF ?zcX ?zcT ?zchf ?zchk ?zca1 ?zca2 ?zca3 ?zcs ?zcx (by decide) ?_; (case zcF => k_asm); (case zcX => k_asm); (case zcT => k_asm); (case zchf => k_is); (case zchk => k_is); (case zca1 => (first | exact ArgV.int | exact ArgV.name rfl rfl (by decide) rfl)); (case zca2 => (first | exact ArgV.int | exact ArgV.name rfl rfl (by decide) rfl)); (case zca3 => (first | exact ArgV.int | exact ArgV.name rfl rfl (by decide) rfl)); (case zcs => rfl); (case zcx => rfl); intro t1 t2 t3 tk9; (try dsimp only)))
  k_with "eval Call Name cons nil" => (k_here; (with_reducible show wpAny _ _ (eval (PySem.Expr.Call (PySem.Expr.Name _ _) [_, _, _, _] [] _) _) _ _ _); k_dflt (refine' call4 ?zcF ?zcX ?zcT ?zchf ?zchk ?zca1 ?zca2 ?zca3 ?zca4 ?zcs ?zcx (by decide) ?_; (case zcF => k_asm); (case zcX => k_asm); (case zcT => k_asm); (case zchf => k_is); (case zchk => k_is); (case zca1 => (first | exact ArgV.int | exact ArgV.name rfl rfl (by decide) rfl)); (case zca2 => (first | exact ArgV.int | exact ArgV.name rfl rfl (by decide) rfl)); (case zca3 => (first | exact ArgV.int | exact ArgV.name rfl rfl (by decide) rfl)); (case zca4 => (first | exact ArgV.int | exact ArgV.name rfl rfl (by decide) rfl)); (case zcs => rfl); (case zcx => rfl); intro t1 t2 t3 t4 tk9; (try dsimp only)))
  intro dp un gd cn cs a ccd cl outer A₀ base h₀ L m s Q E B F X N T hk hd hu hret
  w_top off
  refine wpAny_call ?_
  k_dflt ktr_enter
  k_steps
  · exact hret _ [] _ _ (rint (wrapZ_hi (by omega) (by assumption))) (by k_asm) (by k_asm) no_tl
  · exact hret _ [] _ _ (rint (wrapZ_lo (by omega) (by assumption))) (by k_asm) (by k_asm) no_tl
end Mine

namespace Mine
set_option maxRecDepth 100000
variable {w : World} {mean : ExcName → Option Value} {mg mb : Str → Option Value} {news : List (Addr × Obj)}
theorem tdivZ (x y : Int) : (if (decide (x < 0) != decide (y < 0)) = true then -((if x < 0 then -x else x).fdiv (if y < 0 then -y else y)) else (if x < 0 then -x else x).fdiv (if y < 0 then -y else y)) = x.tdiv y := by
  have key : ∀ a b : Int, 0 ≤ a → 0 ≤ b → a.fdiv b = a.tdiv b := fun a b ha hb => by rw [Int.fdiv_eq_ediv_of_nonneg _ hb, Int.tdiv_eq_ediv_of_nonneg ha]
  by_cases h1 : x < 0 <;> by_cases h2 : y < 0 <;> simp only [h1, h2, decide_true, decide_false, if_true, if_false, bne_self_eq_false, Bool.false_eq_true, Bool.true_bne, Bool.false_bne, Bool.not_false]
  · rw [key _ _ (by omega) (by omega), Int.neg_tdiv_neg]
  · rw [key _ _ (by omega) (by omega), Int.neg_tdiv, Int.neg_neg]
  · rw [key _ _ (by omega) (by omega), Int.tdiv_neg, Int.neg_neg]
  · rw [key _ _ (by omega) (by omega)]
theorem tdiv_hi {x y : Int} (h : (decide (x < 0) != decide (y < 0)) = true) : -((if x < 0 then -x else x).fdiv (if y < 0 then -y else y)) = x.tdiv y := by
  have := tdivZ x y
  rw [if_pos h] at this; exact this
theorem tdiv_lo {x y : Int} (h : (decide (x < 0) != decide (y < 0)) = false) : (if x < 0 then -x else x).fdiv (if y < 0 then -y else y) = x.tdiv y := by
  have := tdivZ x y
  rw [if_neg (by rw [h]; exact Bool.false_ne_true)] at this; exact this
set_option maxHeartbeats 4000000 in
theorem divide_con {x y : Int} {t t' : Tok} (h0 : y ≠ 0) (hy1 : -1000000 ≤ y) (hy2 : y ≤ 1000000) : Con w mean mg mb 118 1 [.int x t, .int y t'] news news (RInt (x.tdiv y)) := by
  k_with_none
  intro dp un gd cn cs a ccd cl outer A₀ base h₀ L m s Q E B F X N T hk hd hu hret
  have hy : (if y < 0 then -y else y) ≠ 0 := by split <;> omega
  have hyb : (if y < 0 then -y else y).natAbs < 1073741824 := by split <;> omega
  w_top off
  refine wpAny_call ?_
  k_dflt ktr_enter
  k_steps
  · exact hret _ [] _ _ (rint (tdiv_hi (by assumption))) (by k_asm) (by k_asm) no_tl
  · exact hret _ [] _ _ (rint (tdiv_lo (by assumption))) (by k_asm) (by k_asm) no_tl
end Mine

namespace Mine
set_option maxRecDepth 100000
variable {w : World} {mean : ExcName → Option Value} {mg mb : Str → Option Value} {news : List (Addr × Obj)}
set_option maxHeartbeats 4000000 in
theorem isnum_int {x : Int} {t : Tok} : Con w mean mg mb 104 1 [.int x t] news news (RBool true) := by
  k_with_none
  intro dp un gd cn cs a ccd cl outer A₀ base h₀ L m s Q E B F X N T hk hd hu hret
  w_top off
  refine wpAny_call ?_
  k_dflt ktr_enter
  k_steps
  exact hret _ [] _ _ (rbool rfl) (by k_asm) (by k_asm) no_tl
set_option maxHeartbeats 4000000 in
theorem isnum_bool {x : Bool} : Con w mean mg mb 104 1 [.bool x] news news (RBool false) := by
  k_with_none
  intro dp un gd cn cs a ccd cl outer A₀ base h₀ L m s Q E B F X N T hk hd hu hret
  w_top off
  refine wpAny_call ?_
  k_dflt ktr_enter
  k_steps
  exact hret _ [] _ _ (rbool rfl) (by k_asm) (by k_asm) no_tl
set_option maxHeartbeats 4000000 in
theorem isnum_none : Con w mean mg mb 104 1 [.none] news news (RBool false) := by
  k_with_none
  intro dp un gd cn cs a ccd cl outer A₀ base h₀ L m s Q E B F X N T hk hd hu hret
  w_top off
  refine wpAny_call ?_
  k_dflt ktr_enter
  k_steps
  exact hret _ [] _ _ (rbool rfl) (by k_asm) (by k_asm) no_tl
set_option maxHeartbeats 4000000 in
theorem isnum_bytes {x : Array UInt8} {t : Tok} : Con w mean mg mb 104 1 [.bytes x t] news news (RBool false) := by
  k_with_none
  intro dp un gd cn cs a ccd cl outer A₀ base h₀ L m s Q E B F X N T hk hd hu hret
  w_top off
  refine wpAny_call ?_
  k_dflt ktr_enter
  k_steps
  exact hret _ [] _ _ (rbool rfl) (by k_asm) (by k_asm) no_tl
end Mine

namespace Mine
set_option maxRecDepth 100000
variable {w : World} {mean : ExcName → Option Value} {mg mb : Str → Option Value} {news : List (Addr × Obj)}
theorem gives_bytes_contains (b : Array UInt8) (i : Int) (t u : Tok) (h0 : 0 ≤ i) (h1 : i < 256) :
    Gives (Builtin.«bytes.__contains__» ⟨[.bytes b t, .int i u], []⟩) (.val (.bool (b.contains i.toNat.toUInt8))) := by
  refine .of_wp fun M A E s Q hq => ?_
  show wpAny M A (Builtin.Bytes.containsIn "bytes.__contains__" (.bytes b t) (.int i u) >>= fun r => ret (.bool r)) _ E s
  refine wpAny_bind ?_
  unfold Builtin.Bytes.containsIn
  refine wpAny_bind (wpAny_attempt (wpAny_of_eq (a := i) rfl ?_))
  refine wpAny_bind (wpAny_of_eq PySem.W.KBy.buffer_eq ?_)
  have e : (decide (i < 0) || decide (i ≥ 256)) = false := by simp; omega
  dsimp only
  rw [e, if_neg Bool.false_ne_true]
  exact wpAny_pure (wpAny_pure ⟨_, rfl, hq⟩)
theorem in_bytes {prog : Program} {A : Around} {E : Value → Shared → Prop} {s : Shared} {b : Array UInt8} {i : Int} {t u : Tok} {Q : Value → Shared → Prop} (h0 : 0 ≤ i) (h1 : i < 256)
    (h : Q (.bool (b.contains i.toNat.toUInt8)) s) : wpAny (model prog w) A (compareOp .In (.int i u) (.bytes b t)) Q E s :=
  in_gives (typeIs_bytes s b t) FB.slot_bytes_contains FB.entry_bytes_contains (FB.args_bytes_contains_2 _ _) (gives_bytes_contains b i t u h0 h1) h
theorem blankN : ∀ n : Nat, n < 256 → (#[32, 9, 10, 11, 12, 13] : Array UInt8).contains n.toUInt8 = blankZ n := by decide +kernel
theorem blank_eq {x : Int} (h0 : 0 ≤ x) (h1 : x < 256) : (#[32, 9, 10, 11, 12, 13] : Array UInt8).contains x.toNat.toUInt8 = blankZ x := by
  rw [blankN _ (by omega)]; congr; omega
set_option maxHeartbeats 4000000 in
theorem blank_con {x : Int} {t : Tok} (h0 : 0 ≤ x) (h1 : x < 256) : Con w mean mg mb 139 1 [.int x t] news news (RBool (blankZ x)) := by
  k_with_none
  k_with "compareOp In int bytes" => (refine' in_bytes ?zza ?zzb ?_; (case zza => omega); (case zzb => omega))
  intro dp un gd cn cs a ccd cl outer A₀ base h₀ L m s Q E B F X N T hk hd hu hret
  w_top off
  refine wpAny_call ?_
  k_dflt ktr_enter
  k_steps
  exact hret _ [] _ _ (rbool (blank_eq h0 h1)) (by k_asm) (by k_asm) no_tl
set_option maxHeartbeats 4000000 in
theorem digit_con {x : Int} {t : Tok} (h0 : 48 ≤ x) (h1 : x ≤ 57) : Con w mean mg mb 146 1 [.int x t] news news (RInt (x - 48)) := by
  k_with_none
  k_with "compareOp In int bytes" => (refine' in_bytes ?zza ?zzb ?_; (case zza => omega); (case zzb => omega))
  intro dp un gd cn cs a ccd cl outer A₀ base h₀ L m s Q E B F X N T hk hd hu hret
  w_top off
  refine wpAny_call ?_
  k_dflt ktr_enter
  k_steps
  exact hret _ [] _ _ (rint rfl) (by k_asm) (by k_asm) no_tl
def noRes (p x y : Int) : Bool := if p = 3 ∨ p = 4 then decide (y = 0) else decide (p = 5 ∧ x = 0 ∧ y < 0)
set_option maxHeartbeats 4000000 in
theorem nores_con {p x y : Int} {t t' t'' : Tok} : Con w mean mg mb 189 1 [.int p t, .int x t', .int y t''] news news (RBool (noRes p x y)) := by
  k_with_none
  k_with "compareOp In int bytes" => (refine' in_bytes ?zza ?zzb ?_; (case zza => omega); (case zzb => omega))
  intro dp un gd cn cs a ccd cl outer A₀ base h₀ L m s Q E B F X N T hk hd hu hret
  w_top off
  refine wpAny_call ?_
  k_dflt ktr_enter
  k_steps
  all_goals exact hret _ [] _ _ (rbool (by simp_all [noRes] <;> (rw [Bool.eq_iff_iff]; simp))) (by k_asm) (by k_asm) no_tl
end Mine

namespace Mine
set_option maxRecDepth 100000
variable {w : World} {mean : ExcName → Option Value} {mg mb : Str → Option Value} {news : List (Addr × Obj)}
set_option maxHeartbeats 4000000 in
theorem power_con {x y wd : Int} {t t' t'' : Tok} (h0 : ¬ (y < 0 ∧ x = 0)) (hx1 : -65536 ≤ x) (hx2 : x ≤ 65536) (hy1 : -65536 ≤ y) (hy2 : y ≤ 65536) (h4 : 4 ≤ wd) (h16 : wd ≤ 16) :
    Con w mean mg mb 125 2 [.int x t, .int y t', .int wd t''] news news (RInt (powZ x y wd)) := by
  k_with_none
  k_with "eval Call Name cons nil" => (k_here; (with_reducible show wpAny _ _ (eval (PySem.Expr.Call (PySem.Expr.Name _ _) [_] [] _) _) _ _ _); k_dflt (refine' call1 ?zcF ?zcX ?zcT ?zchf ?zchk ?zca1 ?zcs ?zcx (by decide) ?_; (case zcF => k_asm); (case zcX => k_asm); (case zcT => k_asm); (case zchf => k_is); (case zchk => k_is); (case zca1 => (first | exact ArgV.int | exact ArgV.name rfl rfl (by decide) rfl)); (case zcs => rfl); (case zcx => rfl); intro t1 tk9; (try dsimp only)))
  k_with "eval Call Name cons nil" => (k_here; (with_reducible show wpAny _ _ (eval (PySem.Expr.Call (PySem.Expr.Name _ _) [_, _] [] _) _) _ _ _); k_dflt (refine' call2 ?zcF ?zcX ?zcT ?zchf ?zchk ?zca1 ?zca2 ?zcs ?zcx (by decide) ?_; (case zcF => k_asm); (case zcX => k_asm); (case zcT => k_asm); (case zchf => k_is); (case zchk => k_is); (case zca1 => (first | exact ArgV.int | exact ArgV.name rfl rfl (by decide) rfl)); (case zca2 => (first | exact ArgV.int | exact ArgV.name rfl rfl (by decide) rfl)); (case zcs => rfl); (case zcx => rfl); intro t1 t2 tk9; (try dsimp only)))
  k_with "eval Call Name cons nil" => (k_here; (with_reducible show wpAny _ _ (eval (PySem.Expr.Call (PySem.Expr.Name _ _) [_, _, _] [] _) _) _ _ _); k_dflt (refine' call3 ?zcF ?zcX ?zcT ?zchf ?zchk ?zca1 ?zca2 ?zca3 ?zcs ?zcx (by decide) ?_; (case zcF => k_asm); (case zcX => k_asm); (case zcT => k_asm); (case zchf => k_is); (case zchk => k_is); (case zca1 => (first | exact ArgV.int | exact ArgV.name rfl rfl (by decide) rfl)); (case zca2 => (first | exact ArgV.int | exact ArgV.name rfl rfl (by decide) rfl)); (case zca3 => (first | exact ArgV.int | exact ArgV.name rfl rfl (by decide) rfl)); (case zcs => rfl); (case zcx => rfl); intro t1 t2 t3 tk9; (try dsimp only)))
  k_with "eval Call Name cons nil" => (k_here; (with_reducible show wpAny _ _ (eval (PySem.Expr.Call (PySem.Expr.Name _ _) [_, _, _, _] [] _) _) _ _ _); k_dflt (refine' call4 ?zcF ?zcX ?zcT ?zchf ?zchk ?zca1 ?zca2 ?zca3 ?zca4 ?zcs ?zcx (by decide) ?_; (case zcF => k_asm); (case zcX => k_asm); (case zcT => k_asm); (case zchf => k_is); (case zchk => k_is); (case zca1 => (first | exact ArgV.int | exact ArgV.name rfl rfl (by decide) rfl)); (case zca2 => (first | exact ArgV.int | exact ArgV.name rfl rfl (by decide) rfl)); (case zca3 => (first | exact ArgV.int | exact ArgV.name rfl rfl (by decide) rfl)); (case zca4 => (first | exact ArgV.int | exact ArgV.name rfl rfl (by decide) rfl)); (case zcs => rfl); (case zcx => rfl); intro t1 t2 t3 t4 tk9; (try dsimp only)))
  k_with "call ref" => (k_here; (with_reducible show wpAny _ _ (call (Value.ref 111) _) _ _ _); k_dflt (refine' Con.useI ?zzB ?zzF ?zzX ?zzN ?zzT ?zzk (wrap_con ?zzh4 ?zzh16) ?zzd ?zzu ?_; (case zzB => k_asm); (case zzF => k_asm); (case zzX => k_asm); (case zzN => k_asm); (case zzT => k_asm); (case zzk => first | exact rfl | assumption); (case zzh4 => omega); (case zzh16 => omega); (case zzd => ktr_room); (case zzu => ktr_units); intro t9 h9 tk9 F9 N9; (try dsimp only); (try k_sweep); (try k_fold)))
  intro dp un gd cn cs a ccd cl outer A₀ base h₀ L m s Q E B F X N T hk hd hu hret
  have hs0 : powEq x y wd 1 x y := by unfold powEq; rw [Int.one_mul]
  w_top off
  refine wpAny_call ?_
  k_dflt ktr_enter
  k_with "exec While Compare cons nil" => k_while (fun (_ : List Int) f g b => 0 ≤ b ∧ -65536 ≤ f ∧ f ≤ 65536 ∧ -65536 ≤ g ∧ g ≤ 65536 ∧ powEq x y wd f g b) (fun (_ : List Int) _ _ b => b.toNat) "found" "base" "b"
  k_with "state" => first | exact pow_odd (by assumption) (by assumption) (by assumption) (by assumption) (by assumption) | exact pow_even (by assumption) (by assumption) (by assumption) (by assumption) (by assumption) (by assumption) (by assumption)
  k_with "measure" => exact fdiv2_lt (by assumption)
  k_steps
  all_goals first
    | exact hret _ [] _ _ (rint (pow_end (by assumption) (by assumption) (by assumption) (by assumption))) (by k_asm) (drop1 (by k_asm)) no_tl
    | exact hret _ [] _ _ (rint (by simp_all [powZ, powNeg])) (by k_asm) (by k_asm) no_tl
    | (exfalso; omega)
    | skip
end Mine

namespace Mine
set_option maxRecDepth 100000
variable {w : World} {mean : ExcName → Option Value} {mg mb : Str → Option Value} {news : List (Addr × Obj)}
def arithZ (p x y wd : Int) : Int :=
  if p = 0 then wrapZ (x + y) wd else if p = 1 then wrapZ (x - y) wd else if p = 2 then wrapZ (x * y) wd else if p = 3 then wrapZ (x.tdiv y) wd else if p = 4 then wrapZ (x.fmod y) wd else if p = 5 then powZ x y wd else wrapZ (-x) wd
set_option maxHeartbeats 4000000 in
theorem arith_add {x y wd : Int} {bx dx : Addr} {es : List DictEntry} {n : Nat} {t t' t'' tw : Tok} (hb1 : (bx, instObj 53 dx) ∈ news) (hb2 : (dx, dictOf es n) ∈ news) (hb3 : getL (Str.ofString "width") es = some (some (.int wd tw)))
    (hx1 : -65536 ≤ x) (hx2 : x ≤ 65536) (hy1 : -65536 ≤ y) (hy2 : y ≤ 65536) (h4 : 4 ≤ wd) (h16 : wd ≤ 16) :
    Con w mean mg mb 132 3 [.bytes #[97, 100, 100] t, .int x t', .int y t'', .ref bx] news news (RInt (arithZ 0 x y wd)) := by
  k_with_none
  k_with "eval Call Name cons nil" => (k_here; (with_reducible show wpAny _ _ (eval (PySem.Expr.Call (PySem.Expr.Name _ _) [_] [] _) _) _ _ _); k_dflt (refine' call1 ?zcF ?zcX ?zcT ?zchf ?zchk ?zca1 ?zcs ?zcx (by decide) ?_; (case zcF => k_asm); (case zcX => k_asm); (case zcT => k_asm); (case zchf => k_is); (case zchk => k_is); (case zca1 => (first | exact ArgV.int | exact ArgV.name rfl rfl (by decide) rfl)); (case zcs => rfl); (case zcx => rfl); intro t1 tk9; (try dsimp only)))
  k_with "eval Call Name cons nil" => (k_here; (with_reducible show wpAny _ _ (eval (PySem.Expr.Call (PySem.Expr.Name _ _) [_, _] [] _) _) _ _ _); k_dflt (refine' call2 ?zcF ?zcX ?zcT ?zchf ?zchk ?zca1 ?zca2 ?zcs ?zcx (by decide) ?_; (case zcF => k_asm); (case zcX => k_asm); (case zcT => k_asm); (case zchf => k_is); (case zchk => k_is); (case zca1 => (first | exact ArgV.int | exact ArgV.name rfl rfl (by decide) rfl)); (case zca2 => (first | exact ArgV.int | exact ArgV.name rfl rfl (by decide) rfl)); (case zcs => rfl); (case zcx => rfl); intro t1 t2 tk9; (try dsimp only)))
  k_with "eval Call Name cons nil" => (k_here; (with_reducible show wpAny _ _ (eval (PySem.Expr.Call (PySem.Expr.Name _ _) [_, _, _] [] _) _) _ _ _); k_dflt (refine' call3 ?zcF ?zcX ?zcT ?zchf ?zchk ?zca1 ?zca2 ?zca3 ?zcs ?zcx (by decide) ?_; (case zcF => k_asm); (case zcX => k_asm); (case zcT => k_asm); (case zchf => k_is); (case zchk => k_is); (case zca1 => (first | exact ArgV.int | exact ArgV.name rfl rfl (by decide) rfl)); (case zca2 => (first | exact ArgV.int | exact ArgV.name rfl rfl (by decide) rfl)); (case zca3 => (first | exact ArgV.int | exact ArgV.name rfl rfl (by decide) rfl)); (case zcs => rfl); (case zcx => rfl); intro t1 t2 t3 tk9; (try dsimp only)))
  k_with "eval Call Name cons nil" => (k_here; (with_reducible show wpAny _ _ (eval (PySem.Expr.Call (PySem.Expr.Name _ _) [_, _, _, _] [] _) _) _ _ _); k_dflt (refine' call4 ?zcF ?zcX ?zcT ?zchf ?zchk ?zca1 ?zca2 ?zca3 ?zca4 ?zcs ?zcx (by decide) ?_; (case zcF => k_asm); (case zcX => k_asm); (case zcT => k_asm); (case zchf => k_is); (case zchk => k_is); (case zca1 => (first | exact ArgV.int | exact ArgV.name rfl rfl (by decide) rfl)); (case zca2 => (first | exact ArgV.int | exact ArgV.name rfl rfl (by decide) rfl)); (case zca3 => (first | exact ArgV.int | exact ArgV.name rfl rfl (by decide) rfl)); (case zca4 => (first | exact ArgV.int | exact ArgV.name rfl rfl (by decide) rfl)); (case zcs => rfl); (case zcx => rfl); intro t1 t2 t3 t4 tk9; (try dsimp only)))
  k_with "call ref" => (k_here; (with_reducible show wpAny _ _ (call (Value.ref 111) _) _ _ _); k_dflt (refine' Con.useI ?zzB ?zzF ?zzX ?zzN ?zzT ?zzk (wrap_con ?zzh4 ?zzh16) ?zzd ?zzu ?_; (case zzB => k_asm); (case zzF => k_asm); (case zzX => k_asm); (case zzN => k_asm); (case zzT => k_asm); (case zzk => first | exact rfl | assumption); (case zzh4 => omega); (case zzh16 => omega); (case zzd => ktr_room); (case zzu => ktr_units); intro t9 h9 tk9 F9 N9; (try dsimp only); (try k_sweep); (try k_fold)))
  k_with "call ref" => (k_here; (with_reducible show wpAny _ _ (call (Value.ref 118) _) _ _ _); k_dflt (refine' Con.useI ?zzB ?zzF ?zzX ?zzN ?zzT ?zzk (divide_con ?zzh0 ?zzh1 ?zzh2) ?zzd ?zzu ?_; (case zzB => k_asm); (case zzF => k_asm); (case zzX => k_asm); (case zzN => k_asm); (case zzT => k_asm); (case zzk => first | exact rfl | assumption); (case zzh0 => assumption); (case zzh1 => omega); (case zzh2 => omega); (case zzd => ktr_room); (case zzu => ktr_units); intro t9 h9 tk9 F9 N9; (try dsimp only); (try k_sweep); (try k_fold)))
  k_with "call ref" => (k_here; (with_reducible show wpAny _ _ (call (Value.ref 125) _) _ _ _); k_dflt (refine' Con.useI ?zzB ?zzF ?zzX ?zzN ?zzT ?zzk (power_con ?zzh0 ?zzh1 ?zzh2 ?zzh3 ?zzh5 ?zzh4 ?zzh16) ?zzd ?zzu ?_; (case zzB => k_asm); (case zzF => k_asm); (case zzX => k_asm); (case zzN => k_asm); (case zzT => k_asm); (case zzk => first | exact rfl | assumption); (case zzh0 => assumption); (case zzh1 => omega); (case zzh2 => omega); (case zzh3 => omega); (case zzh5 => omega); (case zzh4 => omega); (case zzh16 => omega); (case zzd => ktr_room); (case zzu => ktr_units); intro t9 h9 tk9 F9 N9; (try dsimp only); (try k_sweep); (try k_fold)))
  k_with "getAttr ref" => (k_here; k_dflt (refine' get_own ?zzk1 ?zzk2 ?zzk3 ?zzk4 ?zzk5 ?zzk6 ?zzk7 ?zzk8 ?zzk9 ?_; (case zzk1 => k_asm); (case zzk2 => k_asm); (case zzk3 => k_inst); (case zzk4 => k_is); (case zzk5 => k_is); (case zzk6 => k_is); (case zzk7 => k_is); (case zzk8 => assumption); (case zzk9 => k_handed); k_whole))
  intro dp un gd cn cs a ccd cl outer A₀ base h₀ L m s Q E B F X N T hk hd hu hret
  w_top off
  refine wpAny_call ?_
  k_dflt ktr_enter
  k_steps
  all_goals first | (exact hret _ [] _ _ (rint rfl) (by k_asm) (by k_asm) no_tl) | (exfalso; omega)
set_option maxHeartbeats 4000000 in
theorem arith_sub {x y wd : Int} {bx dx : Addr} {es : List DictEntry} {n : Nat} {t t' t'' tw : Tok} (hb1 : (bx, instObj 53 dx) ∈ news) (hb2 : (dx, dictOf es n) ∈ news) (hb3 : getL (Str.ofString "width") es = some (some (.int wd tw)))
    (hx1 : -65536 ≤ x) (hx2 : x ≤ 65536) (hy1 : -65536 ≤ y) (hy2 : y ≤ 65536) (h4 : 4 ≤ wd) (h16 : wd ≤ 16) :
    Con w mean mg mb 132 3 [.bytes #[115, 117, 98] t, .int x t', .int y t'', .ref bx] news news (RInt (arithZ 1 x y wd)) := by
  k_with_none
  k_with "eval Call Name cons nil" => (k_here; (with_reducible show wpAny _ _ (eval (PySem.Expr.Call (PySem.Expr.Name _ _) [_] [] _) _) _ _ _); k_dflt (refine' call1 ?zcF ?zcX ?zcT ?zchf ?zchk ?zca1 ?zcs ?zcx (by decide) ?_; (case zcF => k_asm); (case zcX => k_asm); (case zcT => k_asm); (case zchf => k_is); (case zchk => k_is); (case zca1 => (first | exact ArgV.int | exact ArgV.name rfl rfl (by decide) rfl)); (case zcs => rfl); (case zcx => rfl); intro t1 tk9; (try dsimp only)))
  k_with "eval Call Name cons nil" => (k_here; (with_reducible show wpAny _ _ (eval (PySem.Expr.Call (PySem.Expr.Name _ _) [_, _] [] _) _) _ _ _); k_dflt (refine' call2 ?zcF ?zcX ?zcT ?zchf ?zchk ?zca1 ?zca2 ?zcs ?zcx (by decide) ?_; (case zcF => k_asm); (case zcX => k_asm); (case zcT => k_asm); (case zchf => k_is); (case zchk => k_is); (case zca1 => (first | exact ArgV.int | exact ArgV.name rfl rfl (by decide) rfl)); (case zca2 => (first | exact ArgV.int | exact ArgV.name rfl rfl (by decide) rfl)); (case zcs => rfl); (case zcx => rfl); intro t1 t2 tk9; (try dsimp only)))
  k_with "eval Call Name cons nil" => (k_here; (with_reducible show wpAny _ _ (eval (PySem.Expr.Call (PySem.Expr.Name _ _) [_, _, _] [] _) _) _ _ _); k_dflt (refine' call3 ?zcF ?zcX ?zcT ?zchf ?zchk ?zca1 ?zca2 ?zca3 ?zcs ?zcx (by decide) ?_; (case zcF => k_asm); (case zcX => k_asm); (case zcT => k_asm); (case zchf => k_is); (case zchk => k_is); (case zca1 => (first | exact ArgV.int | exact ArgV.name rfl rfl (by decide) rfl)); (case zca2 => (first | exact ArgV.int | exact ArgV.name rfl rfl (by decide) rfl)); (case zca3 => (first | exact ArgV.int | exact ArgV.name rfl rfl (by decide) rfl)); (case zcs => rfl); (case zcx => rfl); intro t1 t2 t3 tk9; (try dsimp only)))
  k_with "eval Call Name cons nil" => (k_here; (with_reducible show wpAny _ _ (eval (PySem.Expr.Call (PySem.Expr.Name _ _) [_, _, _, _] [] _) _) _ _ _); k_dflt (refine' call4 ?zcF ?zcX ?zcT ?zchf ?zchk ?zca1 ?zca2 ?zca3 ?zca4 ?zcs ?zcx (by decide) ?_; (case zcF => k_asm); (case zcX => k_asm); (case zcT => k_asm); (case zchf => k_is); (case zchk => k_is); (case zca1 => (first | exact ArgV.int | exact ArgV.name rfl rfl (by decide) rfl)); (case zca2 => (first | exact ArgV.int | exact ArgV.name rfl rfl (by decide) rfl)); (case zca3 => (first | exact ArgV.int | exact ArgV.name rfl rfl (by decide) rfl)); (case zca4 => (first | exact ArgV.int | exact ArgV.name rfl rfl (by decide) rfl)); (case zcs => rfl); (case zcx => rfl); intro t1 t2 t3 t4 tk9; (try dsimp only)))
  k_with "call ref" => (k_here; (with_reducible show wpAny _ _ (call (Value.ref 111) _) _ _ _); k_dflt (refine' Con.useI ?zzB ?zzF ?zzX ?zzN ?zzT ?zzk (wrap_con ?zzh4 ?zzh16) ?zzd ?zzu ?_; (case zzB => k_asm); (case zzF => k_asm); (case zzX => k_asm); (case zzN => k_asm); (case zzT => k_asm); (case zzk => first | exact rfl | assumption); (case zzh4 => omega); (case zzh16 => omega); (case zzd => ktr_room); (case zzu => ktr_units); intro t9 h9 tk9 F9 N9; (try dsimp only); (try k_sweep); (try k_fold)))
  k_with "call ref" => (k_here; (with_reducible show wpAny _ _ (call (Value.ref 118) _) _ _ _); k_dflt (refine' Con.useI ?zzB ?zzF ?zzX ?zzN ?zzT ?zzk (divide_con ?zzh0 ?zzh1 ?zzh2) ?zzd ?zzu ?_; (case zzB => k_asm); (case zzF => k_asm); (case zzX => k_asm); (case zzN => k_asm); (case zzT => k_asm); (case zzk => first | exact rfl | assumption); (case zzh0 => assumption); (case zzh1 => omega); (case zzh2 => omega); (case zzd => ktr_room); (case zzu => ktr_units); intro t9 h9 tk9 F9 N9; (try dsimp only); (try k_sweep); (try k_fold)))
  k_with "call ref" => (k_here; (with_reducible show wpAny _ _ (call (Value.ref 125) _) _ _ _); k_dflt (refine' Con.useI ?zzB ?zzF ?zzX ?zzN ?zzT ?zzk (power_con ?zzh0 ?zzh1 ?zzh2 ?zzh3 ?zzh5 ?zzh4 ?zzh16) ?zzd ?zzu ?_; (case zzB => k_asm); (case zzF => k_asm); (case zzX => k_asm); (case zzN => k_asm); (case zzT => k_asm); (case zzk => first | exact rfl | assumption); (case zzh0 => assumption); (case zzh1 => omega); (case zzh2 => omega); (case zzh3 => omega); (case zzh5 => omega); (case zzh4 => omega); (case zzh16 => omega); (case zzd => ktr_room); (case zzu => ktr_units); intro t9 h9 tk9 F9 N9; (try dsimp only); (try k_sweep); (try k_fold)))
  k_with "getAttr ref" => (k_here; k_dflt (refine' get_own ?zzk1 ?zzk2 ?zzk3 ?zzk4 ?zzk5 ?zzk6 ?zzk7 ?zzk8 ?zzk9 ?_; (case zzk1 => k_asm); (case zzk2 => k_asm); (case zzk3 => k_inst); (case zzk4 => k_is); (case zzk5 => k_is); (case zzk6 => k_is); (case zzk7 => k_is); (case zzk8 => assumption); (case zzk9 => k_handed); k_whole))
  intro dp un gd cn cs a ccd cl outer A₀ base h₀ L m s Q E B F X N T hk hd hu hret
  w_top off
  refine wpAny_call ?_
  k_dflt ktr_enter
  k_steps
  all_goals first | (exact hret _ [] _ _ (rint rfl) (by k_asm) (by k_asm) no_tl) | (exfalso; omega)
set_option maxHeartbeats 4000000 in
theorem arith_mul {x y wd : Int} {bx dx : Addr} {es : List DictEntry} {n : Nat} {t t' t'' tw : Tok} (hb1 : (bx, instObj 53 dx) ∈ news) (hb2 : (dx, dictOf es n) ∈ news) (hb3 : getL (Str.ofString "width") es = some (some (.int wd tw)))
    (hx1 : -65536 ≤ x) (hx2 : x ≤ 65536) (hy1 : -65536 ≤ y) (hy2 : y ≤ 65536) (h4 : 4 ≤ wd) (h16 : wd ≤ 16) :
    Con w mean mg mb 132 3 [.bytes #[109, 117, 108] t, .int x t', .int y t'', .ref bx] news news (RInt (arithZ 2 x y wd)) := by
  k_with_none
  k_with "eval Call Name cons nil" => (k_here; (with_reducible show wpAny _ _ (eval (PySem.Expr.Call (PySem.Expr.Name _ _) [_] [] _) _) _ _ _); k_dflt (refine' call1 ?zcF ?zcX ?zcT ?zchf ?zchk ?zca1 ?zcs ?zcx (by decide) ?_; (case zcF => k_asm); (case zcX => k_asm); (case zcT => k_asm); (case zchf => k_is); (case zchk => k_is); (case zca1 => (first | exact ArgV.int | exact ArgV.name rfl rfl (by decide) rfl)); (case zcs => rfl); (case zcx => rfl); intro t1 tk9; (try dsimp only)))
  k_with "eval Call Name cons nil" => (k_here; (with_reducible show wpAny _ _ (eval (PySem.Expr.Call (PySem.Expr.Name _ _) [_, _] [] _) _) _ _ _); k_dflt (refine' call2 ?zcF ?zcX ?zcT ?zchf ?zchk ?zca1 ?zca2 ?zcs ?zcx (by decide) ?_; (case zcF => k_asm); (case zcX => k_asm); (case zcT => k_asm); (case zchf => k_is); (case zchk => k_is); (case zca1 => (first | exact ArgV.int | exact ArgV.name rfl rfl (by decide) rfl)); (case zca2 => (first | exact ArgV.int | exact ArgV.name rfl rfl (by decide) rfl)); (case zcs => rfl); (case zcx => rfl); intro t1 t2 tk9; (try dsimp only)))
  k_with "eval Call Name cons nil" => (k_here; (with_reducible show wpAny _ _ (eval (PySem.Expr.Call (PySem.Expr.Name _ _) [_, _, _] [] _) _) _ _ _); k_dflt (refine' call3 ?zcF ?zcX ?zcT ?zchf ?zchk ?zca1 ?zca2 ?zca3 ?zcs ?zcx (by decide) ?_; (case zcF => k_asm); (case zcX => k_asm); (case zcT => k_asm); (case zchf => k_is); (case zchk => k_is); (case zca1 => (first | exact ArgV.int | exact ArgV.name rfl rfl (by decide) rfl)); (case zca2 => (first | exact ArgV.int | exact ArgV.name rfl rfl (by decide) rfl)); (case zca3 => (first | exact ArgV.int | exact ArgV.name rfl rfl (by decide) rfl)); (case zcs => rfl); (case zcx => rfl); intro t1 t2 t3 tk9; (try dsimp only)))
  k_with "eval Call Name cons nil" => (k_here; (with_reducible show wpAny _ _ (eval (PySem.Expr.Call (PySem.Expr.Name _ _) [_, _, _, _] [] _) _) _ _ _); k_dflt (refine' call4 ?zcF ?zcX ?zcT ?zchf ?zchk ?zca1 ?zca2 ?zca3 ?zca4 ?zcs ?zcx (by decide) ?_; (case zcF => k_asm); (case zcX => k_asm); (case zcT => k_asm); (case zchf => k_is); (case zchk => k_is); (case zca1 => (first | exact ArgV.int | exact ArgV.name rfl rfl (by decide) rfl)); (case zca2 => (first | exact ArgV.int | exact ArgV.name rfl rfl (by decide) rfl)); (case zca3 => (first | exact ArgV.int | exact ArgV.name rfl rfl (by decide) rfl)); (case zca4 => (first | exact ArgV.int | exact ArgV.name rfl rfl (by decide) rfl)); (case zcs => rfl); (case zcx => rfl); intro t1 t2 t3 t4 tk9; (try dsimp only)))
  k_with "call ref" => (k_here; (with_reducible show wpAny _ _ (call (Value.ref 111) _) _ _ _); k_dflt (refine' Con.useI ?zzB ?zzF ?zzX ?zzN ?zzT ?zzk (wrap_con ?zzh4 ?zzh16) ?zzd ?zzu ?_; (case zzB => k_asm); (case zzF => k_asm); (case zzX => k_asm); (case zzN => k_asm); (case zzT => k_asm); (case zzk => first | exact rfl | assumption); (case zzh4 => omega); (case zzh16 => omega); (case zzd => ktr_room); (case zzu => ktr_units); intro t9 h9 tk9 F9 N9; (try dsimp only); (try k_sweep); (try k_fold)))
  k_with "call ref" => (k_here; (with_reducible show wpAny _ _ (call (Value.ref 118) _) _ _ _); k_dflt (refine' Con.useI ?zzB ?zzF ?zzX ?zzN ?zzT ?zzk (divide_con ?zzh0 ?zzh1 ?zzh2) ?zzd ?zzu ?_; (case zzB => k_asm); (case zzF => k_asm); (case zzX => k_asm); (case zzN => k_asm); (case zzT => k_asm); (case zzk => first | exact rfl | assumption); (case zzh0 => assumption); (case zzh1 => omega); (case zzh2 => omega); (case zzd => ktr_room); (case zzu => ktr_units); intro t9 h9 tk9 F9 N9; (try dsimp only); (try k_sweep); (try k_fold)))
  k_with "call ref" => (k_here; (with_reducible show wpAny _ _ (call (Value.ref 125) _) _ _ _); k_dflt (refine' Con.useI ?zzB ?zzF ?zzX ?zzN ?zzT ?zzk (power_con ?zzh0 ?zzh1 ?zzh2 ?zzh3 ?zzh5 ?zzh4 ?zzh16) ?zzd ?zzu ?_; (case zzB => k_asm); (case zzF => k_asm); (case zzX => k_asm); (case zzN => k_asm); (case zzT => k_asm); (case zzk => first | exact rfl | assumption); (case zzh0 => assumption); (case zzh1 => omega); (case zzh2 => omega); (case zzh3 => omega); (case zzh5 => omega); (case zzh4 => omega); (case zzh16 => omega); (case zzd => ktr_room); (case zzu => ktr_units); intro t9 h9 tk9 F9 N9; (try dsimp only); (try k_sweep); (try k_fold)))
  k_with "getAttr ref" => (k_here; k_dflt (refine' get_own ?zzk1 ?zzk2 ?zzk3 ?zzk4 ?zzk5 ?zzk6 ?zzk7 ?zzk8 ?zzk9 ?_; (case zzk1 => k_asm); (case zzk2 => k_asm); (case zzk3 => k_inst); (case zzk4 => k_is); (case zzk5 => k_is); (case zzk6 => k_is); (case zzk7 => k_is); (case zzk8 => assumption); (case zzk9 => k_handed); k_whole))
  intro dp un gd cn cs a ccd cl outer A₀ base h₀ L m s Q E B F X N T hk hd hu hret
  w_top off
  refine wpAny_call ?_
  k_dflt ktr_enter
  k_steps
  all_goals first | (exact hret _ [] _ _ (rint rfl) (by k_asm) (by k_asm) no_tl) | (exfalso; omega)
set_option maxHeartbeats 4000000 in
theorem arith_div {x y wd : Int} {bx dx : Addr} {es : List DictEntry} {n : Nat} {t t' t'' tw : Tok} (hb1 : (bx, instObj 53 dx) ∈ news) (hb2 : (dx, dictOf es n) ∈ news) (hb3 : getL (Str.ofString "width") es = some (some (.int wd tw)))
    (hx1 : -65536 ≤ x) (hx2 : x ≤ 65536) (hy1 : -65536 ≤ y) (hy2 : y ≤ 65536) (h4 : 4 ≤ wd) (h16 : wd ≤ 16) (h0 : y ≠ 0) :
    Con w mean mg mb 132 3 [.bytes #[100, 105, 118] t, .int x t', .int y t'', .ref bx] news news (RInt (arithZ 3 x y wd)) := by
  k_with_none
  k_with "eval Call Name cons nil" => (k_here; (with_reducible show wpAny _ _ (eval (PySem.Expr.Call (PySem.Expr.Name _ _) [_] [] _) _) _ _ _); k_dflt (refine' call1 ?zcF ?zcX ?zcT ?zchf ?zchk ?zca1 ?zcs ?zcx (by decide) ?_; (case zcF => k_asm); (case zcX => k_asm); (case zcT => k_asm); (case zchf => k_is); (case zchk => k_is); (case zca1 => (first | exact ArgV.int | exact ArgV.name rfl rfl (by decide) rfl)); (case zcs => rfl); (case zcx => rfl); intro t1 tk9; (try dsimp only)))
  k_with "eval Call Name cons nil" => (k_here; (with_reducible show wpAny _ _ (eval (PySem.Expr.Call (PySem.Expr.Name _ _) [_, _] [] _) _) _ _ _); k_dflt (refine' call2 ?zcF ?zcX ?zcT ?zchf ?zchk ?zca1 ?zca2 ?zcs ?zcx (by decide) ?_; (case zcF => k_asm); (case zcX => k_asm); (case zcT => k_asm); (case zchf => k_is); (case zchk => k_is); (case zca1 => (first | exact ArgV.int | exact ArgV.name rfl rfl (by decide) rfl)); (case zca2 => (first | exact ArgV.int | exact ArgV.name rfl rfl (by decide) rfl)); (case zcs => rfl); (case zcx => rfl); intro t1 t2 tk9; (try dsimp only)))
  k_with "eval Call Name cons nil" => (k_here; (with_reducible show wpAny _ _ (eval (PySem.Expr.Call (PySem.Expr.Name _ _) [_, _, _] [] _) _) _ _ _); k_dflt (refine' call3 ?zcF ?zcX ?zcT ?zchf ?zchk ?zca1 ?zca2 ?zca3 ?zcs ?zcx (by decide) ?_; (case zcF => k_asm); (case zcX => k_asm); (case zcT => k_asm); (case zchf => k_is); (case zchk => k_is); (case zca1 => (first | exact ArgV.int | exact ArgV.name rfl rfl (by decide) rfl)); (case zca2 => (first | exact ArgV.int | exact ArgV.name rfl rfl (by decide) rfl)); (case zca3 => (first | exact ArgV.int | exact ArgV.name rfl rfl (by decide) rfl)); (case zcs => rfl); (case zcx => rfl); intro t1 t2 t3 tk9; (try dsimp only)))
  k_with "eval Call Name cons nil" => (k_here; (with_reducible show wpAny _ _ (eval (PySem.Expr.Call (PySem.Expr.Name _ _) [_, _, _, _] [] _) _) _ _ _); k_dflt (refine' call4 ?zcF ?zcX ?zcT ?zchf ?zchk ?zca1 ?zca2 ?zca3 ?zca4 ?zcs ?zcx (by decide) ?_; (case zcF => k_asm); (case zcX => k_asm); (case zcT => k_asm); (case zchf => k_is); (case zchk => k_is); (case zca1 => (first | exact ArgV.int | exact ArgV.name rfl rfl (by decide) rfl)); (case zca2 => (first | exact ArgV.int | exact ArgV.name rfl rfl (by decide) rfl)); (case zca3 => (first | exact ArgV.int | exact ArgV.name rfl rfl (by decide) rfl)); (case zca4 => (first | exact ArgV.int | exact ArgV.name rfl rfl (by decide) rfl)); (case zcs => rfl); (case zcx => rfl); intro t1 t2 t3 t4 tk9; (try dsimp only)))
  k_with "call ref" => (k_here; (with_reducible show wpAny _ _ (call (Value.ref 111) _) _ _ _); k_dflt (refine' Con.useI ?zzB ?zzF ?zzX ?zzN ?zzT ?zzk (wrap_con ?zzh4 ?zzh16) ?zzd ?zzu ?_; (case zzB => k_asm); (case zzF => k_asm); (case zzX => k_asm); (case zzN => k_asm); (case zzT => k_asm); (case zzk => first | exact rfl | assumption); (case zzh4 => omega); (case zzh16 => omega); (case zzd => ktr_room); (case zzu => ktr_units); intro t9 h9 tk9 F9 N9; (try dsimp only); (try k_sweep); (try k_fold)))
  k_with "call ref" => (k_here; (with_reducible show wpAny _ _ (call (Value.ref 118) _) _ _ _); k_dflt (refine' Con.useI ?zzB ?zzF ?zzX ?zzN ?zzT ?zzk (divide_con ?zzh0 ?zzh1 ?zzh2) ?zzd ?zzu ?_; (case zzB => k_asm); (case zzF => k_asm); (case zzX => k_asm); (case zzN => k_asm); (case zzT => k_asm); (case zzk => first | exact rfl | assumption); (case zzh0 => assumption); (case zzh1 => omega); (case zzh2 => omega); (case zzd => ktr_room); (case zzu => ktr_units); intro t9 h9 tk9 F9 N9; (try dsimp only); (try k_sweep); (try k_fold)))
  k_with "call ref" => (k_here; (with_reducible show wpAny _ _ (call (Value.ref 125) _) _ _ _); k_dflt (refine' Con.useI ?zzB ?zzF ?zzX ?zzN ?zzT ?zzk (power_con ?zzh0 ?zzh1 ?zzh2 ?zzh3 ?zzh5 ?zzh4 ?zzh16) ?zzd ?zzu ?_; (case zzB => k_asm); (case zzF => k_asm); (case zzX => k_asm); (case zzN => k_asm); (case zzT => k_asm); (case zzk => first | exact rfl | assumption); (case zzh0 => assumption); (case zzh1 => omega); (case zzh2 => omega); (case zzh3 => omega); (case zzh5 => omega); (case zzh4 => omega); (case zzh16 => omega); (case zzd => ktr_room); (case zzu => ktr_units); intro t9 h9 tk9 F9 N9; (try dsimp only); (try k_sweep); (try k_fold)))
  k_with "getAttr ref" => (k_here; k_dflt (refine' get_own ?zzk1 ?zzk2 ?zzk3 ?zzk4 ?zzk5 ?zzk6 ?zzk7 ?zzk8 ?zzk9 ?_; (case zzk1 => k_asm); (case zzk2 => k_asm); (case zzk3 => k_inst); (case zzk4 => k_is); (case zzk5 => k_is); (case zzk6 => k_is); (case zzk7 => k_is); (case zzk8 => assumption); (case zzk9 => k_handed); k_whole))
  intro dp un gd cn cs a ccd cl outer A₀ base h₀ L m s Q E B F X N T hk hd hu hret
  w_top off
  refine wpAny_call ?_
  k_dflt ktr_enter
  k_steps
  all_goals first | (exact hret _ [] _ _ (rint rfl) (by k_asm) (by k_asm) no_tl) | (exfalso; omega)
set_option maxHeartbeats 4000000 in
theorem arith_mod {x y wd : Int} {bx dx : Addr} {es : List DictEntry} {n : Nat} {t t' t'' tw : Tok} (hb1 : (bx, instObj 53 dx) ∈ news) (hb2 : (dx, dictOf es n) ∈ news) (hb3 : getL (Str.ofString "width") es = some (some (.int wd tw)))
    (hx1 : -65536 ≤ x) (hx2 : x ≤ 65536) (hy1 : -65536 ≤ y) (hy2 : y ≤ 65536) (h4 : 4 ≤ wd) (h16 : wd ≤ 16) (h0 : y ≠ 0) :
    Con w mean mg mb 132 3 [.bytes #[109, 111, 100] t, .int x t', .int y t'', .ref bx] news news (RInt (arithZ 4 x y wd)) := by
  k_with_none
  k_with "eval Call Name cons nil" => (k_here; (with_reducible show wpAny _ _ (eval (PySem.Expr.Call (PySem.Expr.Name _ _) [_] [] _) _) _ _ _); k_dflt (refine' call1 ?zcF ?zcX ?zcT ?zchf ?zchk ?zca1 ?zcs ?zcx (by decide) ?_; (case zcF => k_asm); (case zcX => k_asm); (case zcT => k_asm); (case zchf => k_is); (case zchk => k_is); (case zca1 => (first | exact ArgV.int | exact ArgV.name rfl rfl (by decide) rfl)); (case zcs => rfl); (case zcx => rfl); intro t1 tk9; (try dsimp only)))
  k_with "eval Call Name cons nil" => (k_here; (with_reducible show wpAny _ _ (eval (PySem.Expr.Call (PySem.Expr.Name _ _) [_, _] [] _) _) _ _ _); k_dflt (refine' call2 ?zcF ?zcX ?zcT ?zchf ?zchk ?zca1 ?zca2 ?zcs ?zcx (by decide) ?_; (case zcF => k_asm); (case zcX => k_asm); (case zcT => k_asm); (case zchf => k_is); (case zchk => k_is); (case zca1 => (first | exact ArgV.int | exact ArgV.name rfl rfl (by decide) rfl)); (case zca2 => (first | exact ArgV.int | exact ArgV.name rfl rfl (by decide) rfl)); (case zcs => rfl); (case zcx => rfl); intro t1 t2 tk9; (try dsimp only)))
  k_with "eval Call Name cons nil" => (k_here; (with_reducible show wpAny _ _ (eval (PySem.Expr.Call (PySem.Expr.Name _ _) [_, _, _] [] _) _) _ _ _); k_dflt (refine' call3 ?zcF ?zcX ?zcT ?zchf ?zchk ?zca1 ?zca2 ?zca3 ?zcs ?zcx (by decide) ?_; (case zcF => k_asm); (case zcX => k_asm); (case zcT => k_asm); (case zchf => k_is); (case zchk => k_is); (case zca1 => (first | exact ArgV.int | exact ArgV.name rfl rfl (by decide) rfl)); (case zca2 => (first | exact ArgV.int | exact ArgV.name rfl rfl (by decide) rfl)); (case zca3 => (first | exact ArgV.int | exact ArgV.name rfl rfl (by decide) rfl)); (case zcs => rfl); (case zcx => rfl); intro t1 t2 t3 tk9; (try dsimp only)))
  k_with "eval Call Name cons nil" => (k_here; (with_reducible show wpAny _ _ (eval (PySem.Expr.Call (PySem.Expr.Name _ _) [_, _, _, _] [] _) _) _ _ _); k_dflt (refine' call4 ?zcF ?zcX ?zcT ?zchf ?zchk ?zca1 ?zca2 ?zca3 ?zca4 ?zcs ?zcx (by decide) ?_; (case zcF => k_asm); (case zcX => k_asm); (case zcT => k_asm); (case zchf => k_is); (case zchk => k_is); (case zca1 => (first | exact ArgV.int | exact ArgV.name rfl rfl (by decide) rfl)); (case zca2 => (first | exact ArgV.int | exact ArgV.name rfl rfl (by decide) rfl)); (case zca3 => (first | exact ArgV.int | exact ArgV.name rfl rfl (by decide) rfl)); (case zca4 => (first | exact ArgV.int | exact ArgV.name rfl rfl (by decide) rfl)); (case zcs => rfl); (case zcx => rfl); intro t1 t2 t3 t4 tk9; (try dsimp only)))
  k_with "call ref" => (k_here; (with_reducible show wpAny _ _ (call (Value.ref 111) _) _ _ _); k_dflt (refine' Con.useI ?zzB ?zzF ?zzX ?zzN ?zzT ?zzk (wrap_con ?zzh4 ?zzh16) ?zzd ?zzu ?_; (case zzB => k_asm); (case zzF => k_asm); (case zzX => k_asm); (case zzN => k_asm); (case zzT => k_asm); (case zzk => first | exact rfl | assumption); (case zzh4 => omega); (case zzh16 => omega); (case zzd => ktr_room); (case zzu => ktr_units); intro t9 h9 tk9 F9 N9; (try dsimp only); (try k_sweep); (try k_fold)))
  k_with "call ref" => (k_here; (with_reducible show wpAny _ _ (call (Value.ref 118) _) _ _ _); k_dflt (refine' Con.useI ?zzB ?zzF ?zzX ?zzN ?zzT ?zzk (divide_con ?zzh0 ?zzh1 ?zzh2) ?zzd ?zzu ?_; (case zzB => k_asm); (case zzF => k_asm); (case zzX => k_asm); (case zzN => k_asm); (case zzT => k_asm); (case zzk => first | exact rfl | assumption); (case zzh0 => assumption); (case zzh1 => omega); (case zzh2 => omega); (case zzd => ktr_room); (case zzu => ktr_units); intro t9 h9 tk9 F9 N9; (try dsimp only); (try k_sweep); (try k_fold)))
  k_with "call ref" => (k_here; (with_reducible show wpAny _ _ (call (Value.ref 125) _) _ _ _); k_dflt (refine' Con.useI ?zzB ?zzF ?zzX ?zzN ?zzT ?zzk (power_con ?zzh0 ?zzh1 ?zzh2 ?zzh3 ?zzh5 ?zzh4 ?zzh16) ?zzd ?zzu ?_; (case zzB => k_asm); (case zzF => k_asm); (case zzX => k_asm); (case zzN => k_asm); (case zzT => k_asm); (case zzk => first | exact rfl | assumption); (case zzh0 => assumption); (case zzh1 => omega); (case zzh2 => omega); (case zzh3 => omega); (case zzh5 => omega); (case zzh4 => omega); (case zzh16 => omega); (case zzd => ktr_room); (case zzu => ktr_units); intro t9 h9 tk9 F9 N9; (try dsimp only); (try k_sweep); (try k_fold)))
  k_with "getAttr ref" => (k_here; k_dflt (refine' get_own ?zzk1 ?zzk2 ?zzk3 ?zzk4 ?zzk5 ?zzk6 ?zzk7 ?zzk8 ?zzk9 ?_; (case zzk1 => k_asm); (case zzk2 => k_asm); (case zzk3 => k_inst); (case zzk4 => k_is); (case zzk5 => k_is); (case zzk6 => k_is); (case zzk7 => k_is); (case zzk8 => assumption); (case zzk9 => k_handed); k_whole))
  intro dp un gd cn cs a ccd cl outer A₀ base h₀ L m s Q E B F X N T hk hd hu hret
  w_top off
  refine wpAny_call ?_
  k_dflt ktr_enter
  k_steps
  all_goals first | (exact hret _ [] _ _ (rint rfl) (by k_asm) (by k_asm) no_tl) | (exfalso; omega)
set_option maxHeartbeats 4000000 in
theorem arith_pow {x y wd : Int} {bx dx : Addr} {es : List DictEntry} {n : Nat} {t t' t'' tw : Tok} (hb1 : (bx, instObj 53 dx) ∈ news) (hb2 : (dx, dictOf es n) ∈ news) (hb3 : getL (Str.ofString "width") es = some (some (.int wd tw)))
    (hx1 : -65536 ≤ x) (hx2 : x ≤ 65536) (hy1 : -65536 ≤ y) (hy2 : y ≤ 65536) (h4 : 4 ≤ wd) (h16 : wd ≤ 16) (h0 : ¬ (y < 0 ∧ x = 0)) :
    Con w mean mg mb 132 3 [.bytes #[112, 111, 119] t, .int x t', .int y t'', .ref bx] news news (RInt (arithZ 5 x y wd)) := by
  k_with_none
  k_with "eval Call Name cons nil" => (k_here; (with_reducible show wpAny _ _ (eval (PySem.Expr.Call (PySem.Expr.Name _ _) [_] [] _) _) _ _ _); k_dflt (refine' call1 ?zcF ?zcX ?zcT ?zchf ?zchk ?zca1 ?zcs ?zcx (by decide) ?_; (case zcF => k_asm); (case zcX => k_asm); (case zcT => k_asm); (case zchf => k_is); (case zchk => k_is); (case zca1 => (first | exact ArgV.int | exact ArgV.name rfl rfl (by decide) rfl)); (case zcs => rfl); (case zcx => rfl); intro t1 tk9; (try dsimp only)))
  k_with "eval Call Name cons nil" => (k_here; (with_reducible show wpAny _ _ (eval (PySem.Expr.Call (PySem.Expr.Name _ _) [_, _] [] _) _) _ _ _); k_dflt (refine' call2 ?zcF ?zcX ?zcT ?zchf ?zchk ?zca1 ?zca2 ?zcs ?zcx (by decide) ?_; (case zcF => k_asm); (case zcX => k_asm); (case zcT => k_asm); (case zchf => k_is); (case zchk => k_is); (case zca1 => (first | exact ArgV.int | exact ArgV.name rfl rfl (by decide) rfl)); (case zca2 => (first | exact ArgV.int | exact ArgV.name rfl rfl (by decide) rfl)); (case zcs => rfl); (case zcx => rfl); intro t1 t2 tk9; (try dsimp only)))
  k_with "eval Call Name cons nil" => (k_here; (with_reducible show wpAny _ _ (eval (PySem.Expr.Call (PySem.Expr.Name _ _) [_, _, _] [] _) _) _ _ _); k_dflt (refine' call3 ?zcF ?zcX ?zcT ?zchf ?zchk ?zca1 ?zca2 ?zca3 ?zcs ?zcx (by decide) ?_; (case zcF => k_asm); (case zcX => k_asm); (case zcT => k_asm); (case zchf => k_is); (case zchk => k_is); (case zca1 => (first | exact ArgV.int | exact ArgV.name rfl rfl (by decide) rfl)); (case zca2 => (first | exact ArgV.int | exact ArgV.name rfl rfl (by decide) rfl)); (case zca3 => (first | exact ArgV.int | exact ArgV.name rfl rfl (by decide) rfl)); (case zcs => rfl); (case zcx => rfl); intro t1 t2 t3 tk9; (try dsimp only)))
  k_with "eval Call Name cons nil" => (k_here; (with_reducible show wpAny _ _ (eval (PySem.Expr.Call (PySem.Expr.Name _ _) [_, _, _, _] [] _) _) _ _ _); k_dflt (refine' call4 ?zcF ?zcX ?zcT ?zchf ?zchk ?zca1 ?zca2 ?zca3 ?zca4 ?zcs ?zcx (by decide) ?_; (case zcF => k_asm); (case zcX => k_asm); (case zcT => k_asm); (case zchf => k_is); (case zchk => k_is); (case zca1 => (first | exact ArgV.int | exact ArgV.name rfl rfl (by decide) rfl)); (case zca2 => (first | exact ArgV.int | exact ArgV.name rfl rfl (by decide) rfl)); (case zca3 => (first | exact ArgV.int | exact ArgV.name rfl rfl (by decide) rfl)); (case zca4 => (first | exact ArgV.int | exact ArgV.name rfl rfl (by decide) rfl)); (case zcs => rfl); (case zcx => rfl); intro t1 t2 t3 t4 tk9; (try dsimp only)))
  k_with "call ref" => (k_here; (with_reducible show wpAny _ _ (call (Value.ref 111) _) _ _ _); k_dflt (refine' Con.useI ?zzB ?zzF ?zzX ?zzN ?zzT ?zzk (wrap_con ?zzh4 ?zzh16) ?zzd ?zzu ?_; (case zzB => k_asm); (case zzF => k_asm); (case zzX => k_asm); (case zzN => k_asm); (case zzT => k_asm); (case zzk => first | exact rfl | assumption); (case zzh4 => omega); (case zzh16 => omega); (case zzd => ktr_room); (case zzu => ktr_units); intro t9 h9 tk9 F9 N9; (try dsimp only); (try k_sweep); (try k_fold)))
  k_with "call ref" => (k_here; (with_reducible show wpAny _ _ (call (Value.ref 118) _) _ _ _); k_dflt (refine' Con.useI ?zzB ?zzF ?zzX ?zzN ?zzT ?zzk (divide_con ?zzh0 ?zzh1 ?zzh2) ?zzd ?zzu ?_; (case zzB => k_asm); (case zzF => k_asm); (case zzX => k_asm); (case zzN => k_asm); (case zzT => k_asm); (case zzk => first | exact rfl | assumption); (case zzh0 => assumption); (case zzh1 => omega); (case zzh2 => omega); (case zzd => ktr_room); (case zzu => ktr_units); intro t9 h9 tk9 F9 N9; (try dsimp only); (try k_sweep); (try k_fold)))
  k_with "call ref" => (k_here; (with_reducible show wpAny _ _ (call (Value.ref 125) _) _ _ _); k_dflt (refine' Con.useI ?zzB ?zzF ?zzX ?zzN ?zzT ?zzk (power_con ?zzh0 ?zzh1 ?zzh2 ?zzh3 ?zzh5 ?zzh4 ?zzh16) ?zzd ?zzu ?_; (case zzB => k_asm); (case zzF => k_asm); (case zzX => k_asm); (case zzN => k_asm); (case zzT => k_asm); (case zzk => first | exact rfl | assumption); (case zzh0 => assumption); (case zzh1 => omega); (case zzh2 => omega); (case zzh3 => omega); (case zzh5 => omega); (case zzh4 => omega); (case zzh16 => omega); (case zzd => ktr_room); (case zzu => ktr_units); intro t9 h9 tk9 F9 N9; (try dsimp only); (try k_sweep); (try k_fold)))
  k_with "getAttr ref" => (k_here; k_dflt (refine' get_own ?zzk1 ?zzk2 ?zzk3 ?zzk4 ?zzk5 ?zzk6 ?zzk7 ?zzk8 ?zzk9 ?_; (case zzk1 => k_asm); (case zzk2 => k_asm); (case zzk3 => k_inst); (case zzk4 => k_is); (case zzk5 => k_is); (case zzk6 => k_is); (case zzk7 => k_is); (case zzk8 => assumption); (case zzk9 => k_handed); k_whole))
  intro dp un gd cn cs a ccd cl outer A₀ base h₀ L m s Q E B F X N T hk hd hu hret
  w_top off
  refine wpAny_call ?_
  k_dflt ktr_enter
  k_steps
  all_goals first | (exact hret _ [] _ _ (rint rfl) (by k_asm) (by k_asm) no_tl) | (exfalso; omega)
set_option maxHeartbeats 4000000 in
theorem arith_unm {x y wd : Int} {bx dx : Addr} {es : List DictEntry} {n : Nat} {t t' t'' tw : Tok} (hb1 : (bx, instObj 53 dx) ∈ news) (hb2 : (dx, dictOf es n) ∈ news) (hb3 : getL (Str.ofString "width") es = some (some (.int wd tw)))
    (hx1 : -65536 ≤ x) (hx2 : x ≤ 65536) (hy1 : -65536 ≤ y) (hy2 : y ≤ 65536) (h4 : 4 ≤ wd) (h16 : wd ≤ 16) :
    Con w mean mg mb 132 3 [.bytes #[117, 110, 109] t, .int x t', .int y t'', .ref bx] news news (RInt (arithZ 6 x y wd)) := by
  k_with_none
  k_with "eval Call Name cons nil" => (k_here; (with_reducible show wpAny _ _ (eval (PySem.Expr.Call (PySem.Expr.Name _ _) [_] [] _) _) _ _ _); k_dflt (refine' call1 ?zcF ?zcX ?zcT ?zchf ?zchk ?zca1 ?zcs ?zcx (by decide) ?_; (case zcF => k_asm); (case zcX => k_asm); (case zcT => k_asm); (case zchf => k_is); (case zchk => k_is); (case zca1 => (first | exact ArgV.int | exact ArgV.name rfl rfl (by decide) rfl)); (case zcs => rfl); (case zcx => rfl); intro t1 tk9; (try dsimp only)))
  k_with "eval Call Name cons nil" => (k_here; (with_reducible show wpAny _ _ (eval (PySem.Expr.Call (PySem.Expr.Name _ _) [_, _] [] _) _) _ _ _); k_dflt (refine' call2 ?zcF ?zcX ?zcT ?zchf ?zchk ?zca1 ?zca2 ?zcs ?zcx (by decide) ?_; (case zcF => k_asm); (case zcX => k_asm); (case zcT => k_asm); (case zchf => k_is); (case zchk => k_is); (case zca1 => (first | exact ArgV.int | exact ArgV.name rfl rfl (by decide) rfl)); (case zca2 => (first | exact ArgV.int | exact ArgV.name rfl rfl (by decide) rfl)); (case zcs => rfl); (case zcx => rfl); intro t1 t2 tk9; (try dsimp only)))
  k_with "eval Call Name cons nil" => (k_here; (with_reducible show wpAny _ _ (eval (PySem.Expr.Call (PySem.Expr.Name _ _) [_, _, _] [] _) _) _ _ _); k_dflt (refine' call3 ?zcF ?zcX ?zcT ?zchf ?zchk ?zca1 ?zca2 ?zca3 ?zcs ?zcx (by decide) ?_; (case zcF => k_asm); (case zcX => k_asm); (case zcT => k_asm); (case zchf => k_is); (case zchk => k_is); (case zca1 => (first | exact ArgV.int | exact ArgV.name rfl rfl (by decide) rfl)); (case zca2 => (first | exact ArgV.int | exact ArgV.name rfl rfl (by decide) rfl)); (case zca3 => (first | exact ArgV.int | exact ArgV.name rfl rfl (by decide) rfl)); (case zcs => rfl); (case zcx => rfl); intro t1 t2 t3 tk9; (try dsimp only)))
  k_with "eval Call Name cons nil" => (k_here; (with_reducible show wpAny _ _ (eval (PySem.Expr.Call (PySem.Expr.Name _ _) [_, _, _, _] [] _) _) _ _ _); k_dflt (refine' call4 ?zcF ?zcX ?zcT ?zchf ?zchk ?zca1 ?zca2 ?zca3 ?zca4 ?zcs ?zcx (by decide) ?_; (case zcF => k_asm); (case zcX => k_asm); (case zcT => k_asm); (case zchf => k_is); (case zchk => k_is); (case zca1 => (first | exact ArgV.int | exact ArgV.name rfl rfl (by decide) rfl)); (case zca2 => (first | exact ArgV.int | exact ArgV.name rfl rfl (by decide) rfl)); (case zca3 => (first | exact ArgV.int | exact ArgV.name rfl rfl (by decide) rfl)); (case zca4 => (first | exact ArgV.int | exact ArgV.name rfl rfl (by decide) rfl)); (case zcs => rfl); (case zcx => rfl); intro t1 t2 t3 t4 tk9; (try dsimp only)))
  k_with "call ref" => (k_here; (with_reducible show wpAny _ _ (call (Value.ref 111) _) _ _ _); k_dflt (refine' Con.useI ?zzB ?zzF ?zzX ?zzN ?zzT ?zzk (wrap_con ?zzh4 ?zzh16) ?zzd ?zzu ?_; (case zzB => k_asm); (case zzF => k_asm); (case zzX => k_asm); (case zzN => k_asm); (case zzT => k_asm); (case zzk => first | exact rfl | assumption); (case zzh4 => omega); (case zzh16 => omega); (case zzd => ktr_room); (case zzu => ktr_units); intro t9 h9 tk9 F9 N9; (try dsimp only); (try k_sweep); (try k_fold)))
  k_with "call ref" => (k_here; (with_reducible show wpAny _ _ (call (Value.ref 118) _) _ _ _); k_dflt (refine' Con.useI ?zzB ?zzF ?zzX ?zzN ?zzT ?zzk (divide_con ?zzh0 ?zzh1 ?zzh2) ?zzd ?zzu ?_; (case zzB => k_asm); (case zzF => k_asm); (case zzX => k_asm); (case zzN => k_asm); (case zzT => k_asm); (case zzk => first | exact rfl | assumption); (case zzh0 => assumption); (case zzh1 => omega); (case zzh2 => omega); (case zzd => ktr_room); (case zzu => ktr_units); intro t9 h9 tk9 F9 N9; (try dsimp only); (try k_sweep); (try k_fold)))
  k_with "call ref" => (k_here; (with_reducible show wpAny _ _ (call (Value.ref 125) _) _ _ _); k_dflt (refine' Con.useI ?zzB ?zzF ?zzX ?zzN ?zzT ?zzk (power_con ?zzh0 ?zzh1 ?zzh2 ?zzh3 ?zzh5 ?zzh4 ?zzh16) ?zzd ?zzu ?_; (case zzB => k_asm); (case zzF => k_asm); (case zzX => k_asm); (case zzN => k_asm); (case zzT => k_asm); (case zzk => first | exact rfl | assumption); (case zzh0 => assumption); (case zzh1 => omega); (case zzh2 => omega); (case zzh3 => omega); (case zzh5 => omega); (case zzh4 => omega); (case zzh16 => omega); (case zzd => ktr_room); (case zzu => ktr_units); intro t9 h9 tk9 F9 N9; (try dsimp only); (try k_sweep); (try k_fold)))
  k_with "getAttr ref" => (k_here; k_dflt (refine' get_own ?zzk1 ?zzk2 ?zzk3 ?zzk4 ?zzk5 ?zzk6 ?zzk7 ?zzk8 ?zzk9 ?_; (case zzk1 => k_asm); (case zzk2 => k_asm); (case zzk3 => k_inst); (case zzk4 => k_is); (case zzk5 => k_is); (case zzk6 => k_is); (case zzk7 => k_is); (case zzk8 => assumption); (case zzk9 => k_handed); k_whole))
  intro dp un gd cn cs a ccd cl outer A₀ base h₀ L m s Q E B F X N T hk hd hu hret
  w_top off
  refine wpAny_call ?_
  k_dflt ktr_enter
  k_steps
  all_goals first | (exact hret _ [] _ _ (rint rfl) (by k_asm) (by k_asm) no_tl) | (exfalso; omega)
end Mine

namespace Mine
set_option maxRecDepth 100000
variable {w : World} {mean : ExcName → Option Value} {mg mb : Str → Option Value} {news : List (Addr × Obj)}
def RText (x : Int) (v : Value) (tl : List (Addr × Obj)) : Prop := tl = [] ∧ ∃ l t, v = .bytes (List.toArray l) t ∧ Tells l x
theorem rtext {x : Int} {b : Array UInt8} {t : Tok} (h : ∃ l : List UInt8, b = l.toArray ∧ Tells l x) : RText x (.bytes b t) [] := by
  obtain ⟨l, rfl, h⟩ := h
  exact ⟨rfl, l, t, rfl, h⟩
theorem Con.useS {w : World} {mean : ExcName → Option Value} {mg mb : Str → Option Value} {f : Addr} {need : Nat} {vs : List Value} {news : List (Addr × Obj)}
    {dp un : Nat} {gd : Option (List Code)} {cn : Str} {cs : Scope} {a : Addr} {ccd : Value} {cl : List (Str × Addr)} {outer : List Env} {A₀ : Around} {base h₀ : Heap} {L : Addr} {m : Str → Option Value} {s : Shared} {Q E : Value → Shared → Prop} {x : Int}
    (B : Below A₀ base outer h₀) (F : Fr h₀ L s.heap m) (X : (hd.heap_39 w.params).In h₀) (N : News h₀ L s.heap news) (T : Top hd.view_39 (looseW hd.view_39 [Str.ofString "RECKONINGS"]) mean mg mb h₀) (hk : cs.kind = .function)
    (C : Con w mean mg mb f need vs news news (RText x)) (h1 : dp + need < recursionLimit) (h2 : un + 8 * need < cLine)
    (ret : ∀ (l : List UInt8) (t : Tok) (h' : Heap) (tk' : Nat), Tells l x → Fr h₀ L h' m → News h₀ L h' news → Q (.bytes l.toArray t) { s with heap := h', toks := tk' }) : wpAny (model PySem.Challenge.rw_rr0062_01.row.prog w) (ktrTop dp un gd cn cs L a ccd cl outer) (call (.ref f) vs) Q E s :=
  C.use B F X N T hk h1 h2 (by rintro v tl h' tk' ⟨rfl, l, t, rfl, hT⟩ F' N' _; exact ret l t h' tk' hT F' N')
set_option maxHeartbeats 4000000 in
theorem written_con {x : Int} {t : Tok} (h1 : -65536 ≤ x) (h2 : x ≤ 65536) : Con w mean mg mb 217 1 [.int x t] news news (RText x) := by
  k_with_none
  k_with "eval Call Name cons nil" => (k_here; (with_reducible show wpAny _ _ (eval (PySem.Expr.Call (PySem.Expr.Name _ _) [_] [] _) _) _ _ _); k_dflt (refine' call1 ?zcF ?zcX ?zcT ?zchf ?zchk ?zca1 ?zcs ?zcx (by decide) ?_; (case zcF => k_asm); (case zcX => k_asm); (case zcT => k_asm); (case zchf => k_is); (case zchk => k_is); (case zca1 => (first | exact ArgV.int | exact ArgV.name rfl rfl (by decide) rfl)); (case zcs => rfl); (case zcx => rfl); intro t1 tk9; (try dsimp only)))
  k_with "eval Call Name cons nil" => (k_here; (with_reducible show wpAny _ _ (eval (PySem.Expr.Call (PySem.Expr.Name _ _) [_, _] [] _) _) _ _ _); k_dflt (refine' call2 ?zcF ?zcX ?zcT ?zchf ?zchk ?zca1 ?zca2 ?zcs ?zcx (by decide) ?_; (case zcF => k_asm); (case zcX => k_asm); (case zcT => k_asm); (case zchf => k_is); (case zchk => k_is); (case zca1 => (first | exact ArgV.int | exact ArgV.name rfl rfl (by decide) rfl)); (case zca2 => (first | exact ArgV.int | exact ArgV.name rfl rfl (by decide) rfl)); (case zcs => rfl); (case zcx => rfl); intro t1 t2 tk9; (try dsimp only)))
  k_with "eval Call Name cons nil" => (k_here; (with_reducible show wpAny _ _ (eval (PySem.Expr.Call (PySem.Expr.Name _ _) [_, _, _] [] _) _) _ _ _); k_dflt (refine' call3 ?zcF ?zcX ?zcT ?zchf ?zchk ?zca1 ?zca2 ?zca3 ?zcs ?zcx (by decide) ?_; (case zcF => k_asm); (case zcX => k_asm); (case zcT => k_asm); (case zchf => k_is); (case zchk => k_is); (case zca1 => (first | exact ArgV.int | exact ArgV.name rfl rfl (by decide) rfl)); (case zca2 => (first | exact ArgV.int | exact ArgV.name rfl rfl (by decide) rfl)); (case zca3 => (first | exact ArgV.int | exact ArgV.name rfl rfl (by decide) rfl)); (case zcs => rfl); (case zcx => rfl); intro t1 t2 t3 tk9; (try dsimp only)))
  k_with "eval Call Name cons nil" => (k_here; (with_reducible show wpAny _ _ (eval (PySem.Expr.Call (PySem.Expr.Name _ _) [_, _, _, _] [] _) _) _ _ _); k_dflt (refine' call4 ?zcF ?zcX ?zcT ?zchf ?zchk ?zca1 ?zca2 ?zca3 ?zca4 ?zcs ?zcx (by decide) ?_; (case zcF => k_asm); (case zcX => k_asm); (case zcT => k_asm); (case zchf => k_is); (case zchk => k_is); (case zca1 => (first | exact ArgV.int | exact ArgV.name rfl rfl (by decide) rfl)); (case zca2 => (first | exact ArgV.int | exact ArgV.name rfl rfl (by decide) rfl)); (case zca3 => (first | exact ArgV.int | exact ArgV.name rfl rfl (by decide) rfl)); (case zca4 => (first | exact ArgV.int | exact ArgV.name rfl rfl (by decide) rfl)); (case zcs => rfl); (case zcx => rfl); intro t1 t2 t3 t4 tk9; (try dsimp only)))
  k_with "call type:bytes" => (k_here; (with_reducible show wpAny _ _ (call (Value.type _) [Value.ref _]) _ _ _); k_dflt (refine' bytes_K ?zzF ?zzN ?zzl ?zzi ?zzr ?zzz ?zzh ?_; (case zzF => k_asm); (case zzN => k_asm); (case zzl => is_list); (case zzi => first | l_ints | l_intsW); (case zzr => exact fig_in _); (case zzz => first | size_fits | (simp only [sizeLine_eq, List.length_cons, List.length_nil]; decide)); (case zzh => with_unfolding_all rfl); k_whole); intro h' t' k' F' N' hB'; (try dsimp only [List.map]); (try k_sweep))
  intro dp un gd cn cs a ccd cl outer A₀ base h₀ L m s Q E B F X N T hk hd hu hret
  w_top off
  refine wpAny_call ?_
  k_dflt ktr_enter
  k_with "exec While Compare cons nil" => k_while (fun (_ : List Int) f l => 0 ≤ l ∧ l + f.size ≤ 65537 ∧ figInv x l f) (fun (_ : List Int) _ l => l.toNat) "figures" "left"
  k_with "state" => first | exact fig_start (by assumption) (by assumption) | exact fig_step (by assumption) (by assumption) (by assumption)
  k_with "measure" => exact fig_less (by assumption)
  k_steps
  all_goals first
    | exact hret _ [] _ _ (rtext (fig_end (by rw [if_pos (by assumption)]; rfl) (by assumption) (by assumption) (by assumption) (by assumption))) (by k_asm) (drop2 (by k_asm)) no_tl
    | exact hret _ [] _ _ (rtext (fig_end (by rw [if_neg (by assumption)]; rfl) (by assumption) (by assumption) (by assumption) (by assumption))) (by k_asm) (drop2 (by k_asm)) no_tl
    | skip
  all_goals trace_state
end Mine

namespace Mine
set_option maxRecDepth 100000
variable {w : World} {mean : ExcName → Option Value} {mg mb : Str → Option Value} {news : List (Addr × Obj)}
theorem skip_state {l : List UInt8} {j i : Int} (h0 : 0 ≤ j) (h1 : j < (l.toArray.size : Int)) (hb : blankZ ((l.getD j.toNat 0).toNat : Int) = true) (e : skipZ l j = skipZ l i) : 0 ≤ j + 1 ∧ j + 1 ≤ (l.length : Int) ∧ skipZ l (j + 1) = skipZ l i := by
  rw [List.size_toArray] at h1
  exact ⟨by omega, by omega, (skip_go h0 h1 hb).trans e⟩
theorem skip_stop' {l : List UInt8} {j i : Int} (h0 : 0 ≤ j) (h1 : j < (l.toArray.size : Int)) (hb : blankZ ((l.getD j.toNat 0).toNat : Int) = false) (e : skipZ l j = skipZ l i) : j = skipZ l i := by
  rw [List.size_toArray] at h1
  exact (skip_stop h0 h1 hb).symm.trans e
theorem skip_end' {l : List UInt8} {j i : Int} (h1 : ¬ j < (l.toArray.size : Int)) (e : skipZ l j = skipZ l i) : j = skipZ l i := by
  rw [List.size_toArray] at h1
  exact (skip_end (by omega)).symm.trans e
theorem skip_less {l : List UInt8} {j : Int} (h0 : 0 ≤ j) (h1 : j < (l.toArray.size : Int)) : l.length - (j + 1).toNat < l.length - j.toNat := by
  rw [List.size_toArray] at h1
  omega
set_option maxHeartbeats 4000000 in
theorem skip_con {l : List UInt8} {i : Int} {t t' : Tok} (h0 : 0 ≤ i) (h1 : i ≤ (l.length : Int)) (hz : l.length ≤ 100000) : Con w mean mg mb 160 2 [.bytes l.toArray t, .int i t'] news news (RInt (skipZ l i)) := by
  k_with_none
  k_with "eval Call Name cons nil" => (k_here; (with_reducible show wpAny _ _ (eval (PySem.Expr.Call (PySem.Expr.Name _ _) [_] [] _) _) _ _ _); k_dflt (refine' call1 ?zcF ?zcX ?zcT ?zchf ?zchk ?zca1 ?zcs ?zcx (by decide) ?_; (case zcF => k_asm); (case zcX => k_asm); (case zcT => k_asm); (case zchf => k_is); (case zchk => k_is); (case zca1 => (first | exact ArgV.int | exact ArgV.name rfl rfl (by decide) rfl)); (case zcs => rfl); (case zcx => rfl); intro t1 tk9; (try dsimp only)))
  k_with "eval Call Name cons nil" => (k_here; (with_reducible show wpAny _ _ (eval (PySem.Expr.Call (PySem.Expr.Name _ _) [_, _] [] _) _) _ _ _); k_dflt (refine' call2 ?zcF ?zcX ?zcT ?zchf ?zchk ?zca1 ?zca2 ?zcs ?zcx (by decide) ?_; (case zcF => k_asm); (case zcX => k_asm); (case zcT => k_asm); (case zchf => k_is); (case zchk => k_is); (case zca1 => (first | exact ArgV.int | exact ArgV.name rfl rfl (by decide) rfl)); (case zca2 => (first | exact ArgV.int | exact ArgV.name rfl rfl (by decide) rfl)); (case zcs => rfl); (case zcx => rfl); intro t1 t2 tk9; (try dsimp only)))
  k_with "eval Call Name cons nil" => (k_here; (with_reducible show wpAny _ _ (eval (PySem.Expr.Call (PySem.Expr.Name _ _) [_, _, _] [] _) _) _ _ _); k_dflt (refine' call3 ?zcF ?zcX ?zcT ?zchf ?zchk ?zca1 ?zca2 ?zca3 ?zcs ?zcx (by decide) ?_; (case zcF => k_asm); (case zcX => k_asm); (case zcT => k_asm); (case zchf => k_is); (case zchk => k_is); (case zca1 => (first | exact ArgV.int | exact ArgV.name rfl rfl (by decide) rfl)); (case zca2 => (first | exact ArgV.int | exact ArgV.name rfl rfl (by decide) rfl)); (case zca3 => (first | exact ArgV.int | exact ArgV.name rfl rfl (by decide) rfl)); (case zcs => rfl); (case zcx => rfl); intro t1 t2 t3 tk9; (try dsimp only)))
  k_with "eval Call Name cons nil" => (k_here; (with_reducible show wpAny _ _ (eval (PySem.Expr.Call (PySem.Expr.Name _ _) [_, _, _, _] [] _) _) _ _ _); k_dflt (refine' call4 ?zcF ?zcX ?zcT ?zchf ?zchk ?zca1 ?zca2 ?zca3 ?zca4 ?zcs ?zcx (by decide) ?_; (case zcF => k_asm); (case zcX => k_asm); (case zcT => k_asm); (case zchf => k_is); (case zchk => k_is); (case zca1 => (first | exact ArgV.int | exact ArgV.name rfl rfl (by decide) rfl)); (case zca2 => (first | exact ArgV.int | exact ArgV.name rfl rfl (by decide) rfl)); (case zca3 => (first | exact ArgV.int | exact ArgV.name rfl rfl (by decide) rfl)); (case zca4 => (first | exact ArgV.int | exact ArgV.name rfl rfl (by decide) rfl)); (case zcs => rfl); (case zcx => rfl); intro t1 t2 t3 t4 tk9; (try dsimp only)))
  k_with "call ref" => (k_here; (with_reducible show wpAny _ _ (call (Value.ref 139) _) _ _ _); k_dflt (refine' Con.useB ?zzB ?zzF ?zzX ?zzN ?zzT ?zzk (blank_con ?zzb1 ?zzb2) ?zzd ?zzu ?_; (case zzB => k_asm); (case zzF => k_asm); (case zzX => k_asm); (case zzN => k_asm); (case zzT => k_asm); (case zzk => first | exact rfl | assumption); (case zzb1 => exact (byte_lo _).1); (case zzb2 => exact (byte_lo _).2); (case zzd => ktr_room); (case zzu => ktr_units); intro h9 tk9 F9 N9; (try dsimp only); (try k_sweep); (try k_fold)))
  intro dp un gd cn cs a ccd cl outer A₀ base h₀ L m s Q E B F X N T hk hd hu hret
  w_top off
  refine wpAny_call ?_
  k_dflt ktr_enter
  k_with "exec While BoolOp" => k_while (fun (_ : List Int) j => 0 ≤ j ∧ j ≤ (l.length : Int) ∧ skipZ l j = skipZ l i) (fun (_ : List Int) j => l.length - j.toNat) "at"
  k_with "state" => first | exact ⟨by assumption, by assumption, rfl⟩ | exact skip_state (by assumption) (by assumption) (by assumption) (by assumption)
  k_with "measure" => exact skip_less (by assumption) (by assumption)
  k_steps
  · exact hret _ [] _ _ (rint (skip_stop' (by assumption) (by assumption) (by assumption) (by assumption))) (by k_asm) (by k_asm) no_tl
  · exact hret _ [] _ _ (rint (skip_end' (by assumption) (by assumption))) (by k_asm) (by k_asm) no_tl
end Mine

namespace Mine
set_option maxRecDepth 100000
variable {w : World} {mean : ExcName → Option Value} {mg mb : Str → Option Value} {news : List (Addr × Obj)}
theorem tells_lo {l : List UInt8} {x i : Int} (hT : Tells l x) (ha : 1 ≤ i) (hb : i < (l.toArray.size : Int)) : 48 ≤ ((l.getD i.toNat 0).toNat : Int) := (hT.dig i ha (by rw [List.size_toArray] at hb; exact hb)).1
theorem tells_hi {l : List UInt8} {x i : Int} (hT : Tells l x) (ha : 1 ≤ i) (hb : i < (l.toArray.size : Int)) : ((l.getD i.toNat 0).toNat : Int) ≤ 57 := (hT.dig i ha (by rw [List.size_toArray] at hb; exact hb)).2
theorem tells_no1 {l : List UInt8} {x i : Int} (hT : Tells l x) (ha : 1 ≤ i) (hb : i < (l.toArray.size : Int)) (h : ((l.getD i.toNat 0).toNat : Int) - 48 < 0) : False := by
  have := tells_lo hT ha hb
  omega
theorem tells_no2 {l : List UInt8} {x i : Int} (hT : Tells l x) (ha : 1 ≤ i) (hb : i < (l.toArray.size : Int)) (h : 10 ≤ ((l.getD i.toNat 0).toNat : Int) - 48) : False := by
  have := tells_hi hT ha hb
  omega
theorem rd_start {l : List UInt8} (h : 2 ≤ l.length) : 1 ≤ (1 : Int) ∧ (1 : Int) ≤ (l.length : Int) ∧ (0 : Int) = dv l (1 - 1 : Int).toNat := ⟨by omega, by omega, rfl⟩
theorem rd_state {l : List UInt8} {x i f wd : Int} (hT : Tells l x) (hx : (x.natAbs : Int) < 2 ^ wd.toNat) (ha : 1 ≤ i) (hb : i < (l.toArray.size : Int)) (e : f = dv l (i - 1).toNat) :
    1 ≤ i + 1 ∧ i + 1 ≤ (l.length : Int) ∧ Builtin.bitAnd (f * 10 + (((l.getD i.toNat 0).toNat : Int) - 48)) (1 * 2 ^ wd.toNat - 1) = dv l (i + 1 - 1).toNat := by
  rw [List.size_toArray] at hb
  have h := hT.dv_le (i + 1 - 1).toNat
  refine ⟨by omega, by omega, ?_⟩
  rw [Int.one_mul, kbt_mask, e, ← dv_succ ha hb]
  exact Int.emod_eq_of_lt h.1 (by omega)
theorem rd_less {l : List UInt8} {j : Int} (h0 : 1 ≤ j) (h1 : j < (l.toArray.size : Int)) : l.length - (j + 1).toNat < l.length - j.toNat := by
  rw [List.size_toArray] at h1
  omega
/-- a made tuple of two ints -/
theorem rd_end {l : List UInt8} {x f i : Int} {p e t t'} (hT : Tells l x) (h1 : i ≤ (l.length : Int)) (h2 : ¬ i < (l.toArray.size : Int)) (h3 : f = dv l (i - 1).toNat) : RPair x.natAbs l.length (.ref p) [(p, ({ cls := .type "tuple", data := .seq #[.int f t, .int i t'] e } : Obj))] := by
  rw [List.size_toArray] at h2
  have e : i = (l.length : Int) := by omega
  refine ⟨_, _, _, _, _, _, rfl, rfl, ?_, e⟩
  rw [h3, ← hT.val, e]
  congr 1; omega
set_option maxHeartbeats 4000000 in
theorem digits_con {l : List UInt8} {x wd : Int} {t t' t'' t3 : Tok} (hT : Tells l x) (hx : (x.natAbs : Int) < 2 ^ wd.toNat) (h4 : 4 ≤ wd) (h16 : wd ≤ 16) : Con w mean mg mb 153 2 [.bytes l.toArray t, .int 1 t', .int 10 t'', .int wd t3] news news (RPair x.natAbs l.length) := by
  k_with_none
  k_with "eval Call Name cons nil" => (k_here; (with_reducible show wpAny _ _ (eval (PySem.Expr.Call (PySem.Expr.Name _ _) [_] [] _) _) _ _ _); k_dflt (refine' call1 ?zcF ?zcX ?zcT ?zchf ?zchk ?zca1 ?zcs ?zcx (by decide) ?_; (case zcF => k_asm); (case zcX => k_asm); (case zcT => k_asm); (case zchf => k_is); (case zchk => k_is); (case zca1 => (first | exact ArgV.int | exact ArgV.name rfl rfl (by decide) rfl)); (case zcs => rfl); (case zcx => rfl); intro t1 tk9; (try dsimp only)))
  k_with "eval Call Name cons nil" => (k_here; (with_reducible show wpAny _ _ (eval (PySem.Expr.Call (PySem.Expr.Name _ _) [_, _] [] _) _) _ _ _); k_dflt (refine' call2 ?zcF ?zcX ?zcT ?zchf ?zchk ?zca1 ?zca2 ?zcs ?zcx (by decide) ?_; (case zcF => k_asm); (case zcX => k_asm); (case zcT => k_asm); (case zchf => k_is); (case zchk => k_is); (case zca1 => (first | exact ArgV.int | exact ArgV.name rfl rfl (by decide) rfl)); (case zca2 => (first | exact ArgV.int | exact ArgV.name rfl rfl (by decide) rfl)); (case zcs => rfl); (case zcx => rfl); intro t1 t2 tk9; (try dsimp only)))
  k_with "eval Call Name cons nil" => (k_here; (with_reducible show wpAny _ _ (eval (PySem.Expr.Call (PySem.Expr.Name _ _) [_, _, _] [] _) _) _ _ _); k_dflt (refine' call3 ?zcF ?zcX ?zcT ?zchf ?zchk ?zca1 ?zca2 ?zca3 ?zcs ?zcx (by decide) ?_; (case zcF => k_asm); (case zcX => k_asm); (case zcT => k_asm); (case zchf => k_is); (case zchk => k_is); (case zca1 => (first | exact ArgV.int | exact ArgV.name rfl rfl (by decide) rfl)); (case zca2 => (first | exact ArgV.int | exact ArgV.name rfl rfl (by decide) rfl)); (case zca3 => (first | exact ArgV.int | exact ArgV.name rfl rfl (by decide) rfl)); (case zcs => rfl); (case zcx => rfl); intro t1 t2 t3 tk9; (try dsimp only)))
  k_with "eval Call Name cons nil" => (k_here; (with_reducible show wpAny _ _ (eval (PySem.Expr.Call (PySem.Expr.Name _ _) [_, _, _, _] [] _) _) _ _ _); k_dflt (refine' call4 ?zcF ?zcX ?zcT ?zchf ?zchk ?zca1 ?zca2 ?zca3 ?zca4 ?zcs ?zcx (by decide) ?_; (case zcF => k_asm); (case zcX => k_asm); (case zcT => k_asm); (case zchf => k_is); (case zchk => k_is); (case zca1 => (first | exact ArgV.int | exact ArgV.name rfl rfl (by decide) rfl)); (case zca2 => (first | exact ArgV.int | exact ArgV.name rfl rfl (by decide) rfl)); (case zca3 => (first | exact ArgV.int | exact ArgV.name rfl rfl (by decide) rfl)); (case zca4 => (first | exact ArgV.int | exact ArgV.name rfl rfl (by decide) rfl)); (case zcs => rfl); (case zcx => rfl); intro t1 t2 t3 t4 tk9; (try dsimp only)))
  k_with "call ref" => (k_here; (with_reducible show wpAny _ _ (call (Value.ref 146) _) _ _ _); k_dflt (refine' Con.useI ?zzB ?zzF ?zzX ?zzN ?zzT ?zzk (digit_con ?zzb1 ?zzb2) ?zzd ?zzu ?_; (case zzB => k_asm); (case zzF => k_asm); (case zzX => k_asm); (case zzN => k_asm); (case zzT => k_asm); (case zzk => first | exact rfl | assumption); (case zzb1 => exact tells_lo (by assumption) (by assumption) (by assumption)); (case zzb2 => exact tells_hi (by assumption) (by assumption) (by assumption)); (case zzd => ktr_room); (case zzu => ktr_units); intro t9 h9 tk9 F9 N9; (try dsimp only); (try k_sweep); (try k_fold)))
  intro dp un gd cn cs a ccd cl outer A₀ base h₀ L m s Q E B F X N T hk hd hu hret
  have hlo := hT.lo
  have hhi := hT.hi
  w_top off
  refine wpAny_call ?_
  k_dflt ktr_enter
  k_with "exec While Compare cons nil" => k_while (fun (_ : List Int) f i => 1 ≤ i ∧ i ≤ (l.length : Int) ∧ f = dv l (i - 1).toNat) (fun (_ : List Int) _ i => l.length - i.toNat) "found" "at"
  k_with "state" => first | exact rd_start (by assumption) | exact rd_state (by assumption) (by assumption) (by assumption) (by assumption) (by assumption)
  k_with "measure" => exact rd_less (by assumption) (by assumption)
  k_steps
  all_goals first
    | exact (tells_no1 (by assumption) (by assumption) (by assumption) (by assumption)).elim
    | exact (tells_no2 (by assumption) (by assumption) (by assumption) (by assumption)).elim
    | exact hret _ _ _ _ (rd_end (by assumption) (by assumption) (by assumption) (by assumption)) (by k_asm) (keep1 (by k_asm)) (ord1 (And.right (by assumption)))
    | trace_state
end Mine

namespace Mine
set_option maxRecDepth 100000
variable {w : World} {mean : ExcName → Option Value} {mg mb : Str → Option Value} {news : List (Addr × Obj)}
theorem skip_to {l : List UInt8} {i k : Int} {t t' : Tok} (hk : skipZ l i = k) (h0 : 0 ≤ i) (h1 : i ≤ (l.length : Int)) (hz : l.length ≤ 100000) : Con w mean mg mb 160 2 [.bytes l.toArray t, .int i t'] news news (RInt k) := hk ▸ skip_con h0 h1 hz
local macro_rules | `(tactic| k_mem) => `(tactic| first | exact List.mem_cons_of_mem _ (by assumption) | exact List.mem_cons_of_mem _ (List.mem_cons_of_mem _ (by assumption)) | exact List.mem_cons_of_mem _ (List.mem_cons_of_mem _ (List.mem_cons_of_mem _ (by assumption))) | exact List.mem_cons_of_mem _ (List.mem_cons_of_mem _ (List.mem_cons_of_mem _ (List.mem_cons_of_mem _ (by assumption)))))
def pmZ (i : Int) : Bool := decide (i = 43 ∨ i = 45)
def xxZ (i : Int) : Bool := decide (i = 88 ∨ i = 120)
theorem pmN : ∀ n : Nat, n < 256 → (#[43, 45] : Array UInt8).contains n.toUInt8 = pmZ n := by decide +kernel
theorem xxN : ∀ n : Nat, n < 256 → (#[120, 88] : Array UInt8).contains n.toUInt8 = xxZ n := by decide +kernel
theorem pm_eq {x : Int} (h0 : 0 ≤ x) (h1 : x < 256) : (#[43, 45] : Array UInt8).contains x.toNat.toUInt8 = pmZ x := by
  rw [pmN _ (by omega)]; congr; omega
theorem xx_eq {x : Int} (h0 : 0 ≤ x) (h1 : x < 256) : (#[120, 88] : Array UInt8).contains x.toNat.toUInt8 = xxZ x := by
  rw [xxN _ (by omega)]; congr; omega
theorem in_pm {prog : Program} {A : Around} {E : Value → Shared → Prop} {s : Shared} {c : UInt8} {t u : Tok} {Q : Value → Shared → Prop} {r : Bool} (e : pmZ (c.toNat : Int) = r) (h : Q (.bool r) s) : wpAny (model prog w) A (compareOp .In (.int (c.toNat : Int) u) (.bytes #[43, 45] t)) Q E s :=
  in_bytes (byte_lo c).1 (byte_lo c).2 (by rw [pm_eq (byte_lo c).1 (byte_lo c).2, e]; exact h)
theorem in_xx {prog : Program} {A : Around} {E : Value → Shared → Prop} {s : Shared} {c : UInt8} {t u : Tok} {Q : Value → Shared → Prop} {r : Bool} (e : xxZ (c.toNat : Int) = r) (h : Q (.bool r) s) : wpAny (model prog w) A (compareOp .In (.int (c.toNat : Int) u) (.bytes #[120, 88] t)) Q E s :=
  in_bytes (byte_lo c).1 (byte_lo c).2 (by rw [xx_eq (byte_lo c).1 (byte_lo c).2, e]; exact h)
theorem dig_pm {l : List UInt8} {x i : Int} (hT : Tells l x) (ha : 1 ≤ i) (hb : i < (l.length : Int)) : pmZ ((l.getD i.toNat 0).toNat : Int) = false := by
  have := hT.dig i ha hb
  unfold pmZ; exact decide_eq_false (by omega)
theorem dig_xx {l : List UInt8} {x i : Int} (hT : Tells l x) (ha : 1 ≤ i) (hb : i < (l.length : Int)) : xxZ ((l.getD i.toNat 0).toNat : Int) = false := by
  have := hT.dig i ha hb
  unfold xxZ; exact decide_eq_false (by omega)
theorem neg_pm {l : List UInt8} {x : Int} (hT : Tells l x) (hx : x < 0) : pmZ ((l.getD (0 : Int).toNat 0).toNat : Int) = true := by
  have := hT.sgn
  rw [if_pos hx] at this
  unfold pmZ
  exact decide_eq_true (.inr this)
theorem Tells.skip0 {l : List UInt8} {x : Int} (hT : Tells l x) : skipZ l 0 = if x < 0 then 0 else 1 := by
  have h1 := hT.lo
  have h2 := hT.sgn
  have h3 := hT.dig 1 (by omega) (by omega)
  by_cases hx : x < 0
  · rw [if_pos hx] at h2 ⊢
    refine skip_stop (by omega) (by omega) ?_
    show blankZ ((l.getD 0 0).toNat : Int) = false
    rw [h2]; rfl
  · rw [if_neg hx] at h2 ⊢
    rw [← skip_go (by omega) (by omega) (by show blankZ ((l.getD 0 0).toNat : Int) = true; rw [h2]; rfl)]
    refine skip_stop (by omega) (by omega) ?_
    unfold blankZ
    have h4 : ¬ (((l.getD (0 + 1 : Int).toNat 0).toNat : Int) = 32) := by
      show ¬ (((l.getD (1 : Int).toNat 0).toNat : Int) = 32)
      omega
    have h5 : ¬ (((l.getD (0 + 1 : Int).toNat 0).toNat : Int) ≤ 13) := by
      show ¬ (((l.getD (1 : Int).toNat 0).toNat : Int) ≤ 13)
      omega
    rw [decide_eq_false h4, decide_eq_false h5, Bool.and_false, Bool.or_false]
theorem neg_abs {x : Int} (h : x < 0) : -(x.natAbs : Int) = x := by omega
set_option maxHeartbeats 8000000 in
theorem tib_neg {l : List UInt8} {x wd : Int} {bx dx : Addr} {es : List DictEntry} {n : Nat} {t t' tw : Tok} (hb1 : (bx, instObj 53 dx) ∈ news) (hb2 : (dx, dictOf es n) ∈ news) (hb3 : getL (Str.ofString "width") es = some (some (.int wd tw)))
    (hT : Tells l x) (hx : (x.natAbs : Int) < 2 ^ wd.toNat) (h4 : 4 ≤ wd) (h16 : wd ≤ 16) (hn : x < 0) : Con w mean mg mb 174 3 [.bytes l.toArray t, .int 0 t', .ref bx] news news (RInt (wrapZ x wd)) := by
  k_with_none
  k_with "eval Call Name cons nil" => (k_here; (with_reducible show wpAny _ _ (eval (PySem.Expr.Call (PySem.Expr.Name _ _) [_] [] _) _) _ _ _); k_dflt (refine' call1 ?zcF ?zcX ?zcT ?zchf ?zchk ?zca1 ?zcs ?zcx (by decide) ?_; (case zcF => k_asm); (case zcX => k_asm); (case zcT => k_asm); (case zchf => k_is); (case zchk => k_is); (case zca1 => (first | exact ArgV.int | exact ArgV.name rfl rfl (by decide) rfl)); (case zcs => rfl); (case zcx => rfl); intro t1 tk9; (try dsimp only)))
  k_with "eval Call Name cons nil" => (k_here; (with_reducible show wpAny _ _ (eval (PySem.Expr.Call (PySem.Expr.Name _ _) [_, _] [] _) _) _ _ _); k_dflt (refine' call2 ?zcF ?zcX ?zcT ?zchf ?zchk ?zca1 ?zca2 ?zcs ?zcx (by decide) ?_; (case zcF => k_asm); (case zcX => k_asm); (case zcT => k_asm); (case zchf => k_is); (case zchk => k_is); (case zca1 => (first | exact ArgV.int | exact ArgV.name rfl rfl (by decide) rfl)); (case zca2 => (first | exact ArgV.int | exact ArgV.name rfl rfl (by decide) rfl)); (case zcs => rfl); (case zcx => rfl); intro t1 t2 tk9; (try dsimp only)))
  k_with "eval Call Name cons nil" => (k_here; (with_reducible show wpAny _ _ (eval (PySem.Expr.Call (PySem.Expr.Name _ _) [_, _, _] [] _) _) _ _ _); k_dflt (refine' call3 ?zcF ?zcX ?zcT ?zchf ?zchk ?zca1 ?zca2 ?zca3 ?zcs ?zcx (by decide) ?_; (case zcF => k_asm); (case zcX => k_asm); (case zcT => k_asm); (case zchf => k_is); (case zchk => k_is); (case zca1 => (first | exact ArgV.int | exact ArgV.name rfl rfl (by decide) rfl)); (case zca2 => (first | exact ArgV.int | exact ArgV.name rfl rfl (by decide) rfl)); (case zca3 => (first | exact ArgV.int | exact ArgV.name rfl rfl (by decide) rfl)); (case zcs => rfl); (case zcx => rfl); intro t1 t2 t3 tk9; (try dsimp only)))
  k_with "eval Call Name cons nil" => (k_here; (with_reducible show wpAny _ _ (eval (PySem.Expr.Call (PySem.Expr.Name _ _) [_, _, _, _] [] _) _) _ _ _); k_dflt (refine' call4 ?zcF ?zcX ?zcT ?zchf ?zchk ?zca1 ?zca2 ?zca3 ?zca4 ?zcs ?zcx (by decide) ?_; (case zcF => k_asm); (case zcX => k_asm); (case zcT => k_asm); (case zchf => k_is); (case zchk => k_is); (case zca1 => (first | exact ArgV.int | exact ArgV.name rfl rfl (by decide) rfl)); (case zca2 => (first | exact ArgV.int | exact ArgV.name rfl rfl (by decide) rfl)); (case zca3 => (first | exact ArgV.int | exact ArgV.name rfl rfl (by decide) rfl)); (case zca4 => (first | exact ArgV.int | exact ArgV.name rfl rfl (by decide) rfl)); (case zcs => rfl); (case zcx => rfl); intro t1 t2 t3 t4 tk9; (try dsimp only)))
  k_with "call ref" => (k_here; (with_reducible show wpAny _ _ (call (Value.ref 111) _) _ _ _); k_dflt (refine' Con.useI ?zzB ?zzF ?zzX ?zzN ?zzT ?zzk (wrap_con ?zzh4 ?zzh16) ?zzd ?zzu ?_; (case zzB => k_asm); (case zzF => k_asm); (case zzX => k_asm); (case zzN => k_asm); (case zzT => k_asm); (case zzk => first | exact rfl | assumption); (case zzh4 => omega); (case zzh16 => omega); (case zzd => ktr_room); (case zzu => ktr_units); intro t9 h9 tk9 F9 N9; (try dsimp only); (try k_sweep); (try k_fold)))
  k_with "call ref" => (k_here; (with_reducible show wpAny _ _ (call (Value.ref 160) _) _ _ _); k_dflt (refine' Con.useI ?zzB ?zzF ?zzX ?zzN ?zzT ?zzk (skip_to ?zzhk ?zzh0 ?zzh1 ?zzhz) ?zzd ?zzu ?_; (case zzB => k_asm); (case zzF => k_asm); (case zzX => k_asm); (case zzN => k_asm); (case zzT => k_asm); (case zzk => first | exact rfl | assumption); (case zzhk => assumption); (case zzh0 => omega); (case zzh1 => omega); (case zzhz => omega); (case zzd => ktr_room); (case zzu => ktr_units); intro t9 h9 tk9 F9 N9; (try dsimp only); (try k_sweep); (try k_fold)))
  k_with "call ref" => (k_here; (with_reducible show wpAny _ _ (call (Value.ref 153) _) _ _ _); k_dflt (refine' Con.useP ?zzB ?zzF ?zzX ?zzN ?zzT ?zzk (digits_con ?zzhT ?zzhx ?zzh4 ?zzh16) ?zzd ?zzu ?_; (case zzB => k_asm); (case zzF => k_asm); (case zzX => k_asm); (case zzN => k_asm); (case zzT => k_asm); (case zzk => first | exact rfl | assumption); (case zzhT => assumption); (case zzhx => assumption); (case zzh4 => omega); (case zzh16 => omega); (case zzd => ktr_room); (case zzu => ktr_units); intro p9 e9 tf9 ti9 h9 tk9 F9 N9 l9; (try k_lt l9); (try dsimp only); (try k_sweep); (try k_fold)))
  k_with "getAttr ref" => (k_here; k_dflt (refine' get_own ?zzk1 ?zzk2 ?zzk3 ?zzk4 ?zzk5 ?zzk6 ?zzk7 ?zzk8 ?zzk9 ?_; (case zzk1 => k_asm); (case zzk2 => k_asm); (case zzk3 => k_inst); (case zzk4 => k_is); (case zzk5 => k_is); (case zzk6 => k_is); (case zzk7 => k_is); (case zzk8 => assumption); (case zzk9 => k_handed); k_whole))
  k_with "compareOp In int bytes" => first | (refine' in_pm ?zze ?_; (case zze => first | exact neg_pm (by assumption) (by assumption) | exact dig_pm (by assumption) (by omega) (by omega))) | (refine' in_xx ?zze ?_; (case zze => exact dig_xx (by assumption) (by omega) (by omega)))
  k_with "ite" => (k_here; k_openite; first | (refine PySem.W.ite_pos (by omega) ?_; walk_say "MINE POS") | (refine PySem.W.ite_neg (by omega) ?_; walk_say "MINE NEG"))
  k_with "eval BoolOp" => (k_here; (fail_if_success (have hm : CutMark := by assumption)); k_dflt (refine' cut_bool false ?zzF ?zzN ?zza ?zzb; (case zzF => k_asm); (case zzN => k_asm); (case zza => intro hM9 Q9 hQ9; k_steps; all_goals (first | (exfalso; omega) | exact hQ9 _ _ (by k_asm) (by k_asm)))); intro h9 tk9 F9 N9; (try dsimp only); (try k_sweep); (try k_fold))
  intro dp un gd cn cs a ccd cl outer A₀ base h₀ L m s Q E B F X N T hk hd hu hret
  have hlo := hT.lo
  have hhi := hT.hi
  have hsk : skipZ l 0 = 0 := by rw [hT.skip0, if_pos hn]
  have hsz : ((l.toArray.size : Nat) : Int) = (l.length : Int) := by rw [List.size_toArray]
  have hsg : ((l.getD (0 : Int).toNat 0).toNat : Int) = 45 := by have h := hT.sgn; rw [if_pos hn] at h; exact h
  have hse : skipZ l (l.length : Int) = (l.length : Int) := skip_end (Int.le_refl _)
  w_top off
  refine wpAny_call ?_
  k_dflt ktr_enter
  k_steps
  all_goals first
    | (exfalso; omega)
    | exact hret _ [] _ _ (rint (by rw [neg_abs (by assumption)])) (by k_asm) (by first | k_asm | exact drop1 (by k_asm) | exact drop2 (by k_asm) | exact drop3 (by k_asm) | exact drop4 (by k_asm)) no_tl
    | trace_state
theorem pos_abs {x : Int} (h : ¬ x < 0) : (x.natAbs : Int) = x := by omega
set_option maxHeartbeats 8000000 in
theorem tib_pos {l : List UInt8} {x wd : Int} {bx dx : Addr} {es : List DictEntry} {n : Nat} {t t' tw : Tok} (hb1 : (bx, instObj 53 dx) ∈ news) (hb2 : (dx, dictOf es n) ∈ news) (hb3 : getL (Str.ofString "width") es = some (some (.int wd tw)))
    (hT : Tells l x) (hx : (x.natAbs : Int) < 2 ^ wd.toNat) (h4 : 4 ≤ wd) (h16 : wd ≤ 16) (hn : ¬ x < 0) : Con w mean mg mb 174 3 [.bytes l.toArray t, .int 0 t', .ref bx] news news (RInt (wrapZ x wd)) := by
  k_with_none
  k_with "eval Call Name cons nil" => (k_here; (with_reducible show wpAny _ _ (eval (PySem.Expr.Call (PySem.Expr.Name _ _) [_] [] _) _) _ _ _); k_dflt (refine' call1 ?zcF ?zcX ?zcT ?zchf ?zchk ?zca1 ?zcs ?zcx (by decide) ?_; (case zcF => k_asm); (case zcX => k_asm); (case zcT => k_asm); (case zchf => k_is); (case zchk => k_is); (case zca1 => (first | exact ArgV.int | exact ArgV.name rfl rfl (by decide) rfl)); (case zcs => rfl); (case zcx => rfl); intro t1 tk9; (try dsimp only)))
  k_with "eval Call Name cons nil" => (k_here; (with_reducible show wpAny _ _ (eval (PySem.Expr.Call (PySem.Expr.Name _ _) [_, _] [] _) _) _ _ _); k_dflt (refine' call2 ?zcF ?zcX ?zcT ?zchf ?zchk ?zca1 ?zca2 ?zcs ?zcx (by decide) ?_; (case zcF => k_asm); (case zcX => k_asm); (case zcT => k_asm); (case zchf => k_is); (case zchk => k_is); (case zca1 => (first | exact ArgV.int | exact ArgV.name rfl rfl (by decide) rfl)); (case zca2 => (first | exact ArgV.int | exact ArgV.name rfl rfl (by decide) rfl)); (case zcs => rfl); (case zcx => rfl); intro t1 t2 tk9; (try dsimp only)))
  k_with "eval Call Name cons nil" => (k_here; (with_reducible show wpAny _ _ (eval (PySem.Expr.Call (PySem.Expr.Name _ _) [_, _, _] [] _) _) _ _ _); k_dflt (refine' call3 ?zcF ?zcX ?zcT ?zchf ?zchk ?zca1 ?zca2 ?zca3 ?zcs ?zcx (by decide) ?_; (case zcF => k_asm); (case zcX => k_asm); (case zcT => k_asm); (case zchf => k_is); (case zchk => k_is); (case zca1 => (first | exact ArgV.int | exact ArgV.name rfl rfl (by decide) rfl)); (case zca2 => (first | exact ArgV.int | exact ArgV.name rfl rfl (by decide) rfl)); (case zca3 => (first | exact ArgV.int | exact ArgV.name rfl rfl (by decide) rfl)); (case zcs => rfl); (case zcx => rfl); intro t1 t2 t3 tk9; (try dsimp only)))
  k_with "eval Call Name cons nil" => (k_here; (with_reducible show wpAny _ _ (eval (PySem.Expr.Call (PySem.Expr.Name _ _) [_, _, _, _] [] _) _) _ _ _); k_dflt (refine' call4 ?zcF ?zcX ?zcT ?zchf ?zchk ?zca1 ?zca2 ?zca3 ?zca4 ?zcs ?zcx (by decide) ?_; (case zcF => k_asm); (case zcX => k_asm); (case zcT => k_asm); (case zchf => k_is); (case zchk => k_is); (case zca1 => (first | exact ArgV.int | exact ArgV.name rfl rfl (by decide) rfl)); (case zca2 => (first | exact ArgV.int | exact ArgV.name rfl rfl (by decide) rfl)); (case zca3 => (first | exact ArgV.int | exact ArgV.name rfl rfl (by decide) rfl)); (case zca4 => (first | exact ArgV.int | exact ArgV.name rfl rfl (by decide) rfl)); (case zcs => rfl); (case zcx => rfl); intro t1 t2 t3 t4 tk9; (try dsimp only)))
  k_with "call ref" => (k_here; (with_reducible show wpAny _ _ (call (Value.ref 111) _) _ _ _); k_dflt (refine' Con.useI ?zzB ?zzF ?zzX ?zzN ?zzT ?zzk (wrap_con ?zzh4 ?zzh16) ?zzd ?zzu ?_; (case zzB => k_asm); (case zzF => k_asm); (case zzX => k_asm); (case zzN => k_asm); (case zzT => k_asm); (case zzk => first | exact rfl | assumption); (case zzh4 => omega); (case zzh16 => omega); (case zzd => ktr_room); (case zzu => ktr_units); intro t9 h9 tk9 F9 N9; (try dsimp only); (try k_sweep); (try k_fold)))
  k_with "call ref" => (k_here; (with_reducible show wpAny _ _ (call (Value.ref 160) _) _ _ _); k_dflt (refine' Con.useI ?zzB ?zzF ?zzX ?zzN ?zzT ?zzk (skip_to ?zzhk ?zzh0 ?zzh1 ?zzhz) ?zzd ?zzu ?_; (case zzB => k_asm); (case zzF => k_asm); (case zzX => k_asm); (case zzN => k_asm); (case zzT => k_asm); (case zzk => first | exact rfl | assumption); (case zzhk => assumption); (case zzh0 => omega); (case zzh1 => omega); (case zzhz => omega); (case zzd => ktr_room); (case zzu => ktr_units); intro t9 h9 tk9 F9 N9; (try dsimp only); (try k_sweep); (try k_fold)))
  k_with "call ref" => (k_here; (with_reducible show wpAny _ _ (call (Value.ref 153) _) _ _ _); k_dflt (refine' Con.useP ?zzB ?zzF ?zzX ?zzN ?zzT ?zzk (digits_con ?zzhT ?zzhx ?zzh4 ?zzh16) ?zzd ?zzu ?_; (case zzB => k_asm); (case zzF => k_asm); (case zzX => k_asm); (case zzN => k_asm); (case zzT => k_asm); (case zzk => first | exact rfl | assumption); (case zzhT => assumption); (case zzhx => assumption); (case zzh4 => omega); (case zzh16 => omega); (case zzd => ktr_room); (case zzu => ktr_units); intro p9 e9 tf9 ti9 h9 tk9 F9 N9 l9; (try k_lt l9); (try dsimp only); (try k_sweep); (try k_fold)))
  k_with "getAttr ref" => (k_here; k_dflt (refine' get_own ?zzk1 ?zzk2 ?zzk3 ?zzk4 ?zzk5 ?zzk6 ?zzk7 ?zzk8 ?zzk9 ?_; (case zzk1 => k_asm); (case zzk2 => k_asm); (case zzk3 => k_inst); (case zzk4 => k_is); (case zzk5 => k_is); (case zzk6 => k_is); (case zzk7 => k_is); (case zzk8 => assumption); (case zzk9 => k_handed); k_whole))
  k_with "compareOp In int bytes" => first | (refine' in_pm ?zze ?_; (case zze => first | exact neg_pm (by assumption) (by assumption) | exact dig_pm (by assumption) (by omega) (by omega))) | (refine' in_xx ?zze ?_; (case zze => exact dig_xx (by assumption) (by omega) (by omega)))
  k_with "ite" => (k_here; k_openite; first | (refine PySem.W.ite_pos (by omega) ?_; walk_say "MINE POS") | (refine PySem.W.ite_neg (by omega) ?_; walk_say "MINE NEG"))
  k_with "eval BoolOp" => (k_here; (fail_if_success (have hm : CutMark := by assumption)); k_dflt (refine' cut_bool false ?zzF ?zzN ?zza ?zzb; (case zzF => k_asm); (case zzN => k_asm); (case zza => intro hM9 Q9 hQ9; k_steps; all_goals (first | (exfalso; omega) | exact hQ9 _ _ (by k_asm) (by k_asm)))); intro h9 tk9 F9 N9; (try dsimp only); (try k_sweep); (try k_fold))
  intro dp un gd cn cs a ccd cl outer A₀ base h₀ L m s Q E B F X N T hk hd hu hret
  have hlo := hT.lo
  have hhi := hT.hi
  have hsk : skipZ l 0 = 1 := by rw [hT.skip0, if_neg hn]
  have hsz : ((l.toArray.size : Nat) : Int) = (l.length : Int) := by rw [List.size_toArray]
  have hse : skipZ l (l.length : Int) = (l.length : Int) := skip_end (Int.le_refl _)
  w_top off
  refine wpAny_call ?_
  k_dflt ktr_enter
  k_steps
  all_goals first
    | (exfalso; omega)
    | exact hret _ [] _ _ (rint (by rw [pos_abs (by assumption)])) (by k_asm) (by first | k_asm | exact drop1 (by k_asm) | exact drop2 (by k_asm) | exact drop3 (by k_asm) | exact drop4 (by k_asm)) no_tl
    | trace_state
end Mine

namespace Mine
set_option maxRecDepth 100000
variable {w : World} {mean : ExcName → Option Value} {mg mb : Str → Option Value} {news : List (Addr × Obj)}
local macro_rules | `(tactic| k_mem) => `(tactic| first | exact List.mem_cons_of_mem _ (by assumption) | exact List.mem_cons_of_mem _ (List.mem_cons_of_mem _ (by assumption)) | exact List.mem_cons_of_mem _ (List.mem_cons_of_mem _ (List.mem_cons_of_mem _ (by assumption))) | exact List.mem_cons_of_mem _ (List.mem_cons_of_mem _ (List.mem_cons_of_mem _ (List.mem_cons_of_mem _ (by assumption)))))
theorem rnone : RNone .none [] := ⟨rfl, rfl⟩
set_option maxHeartbeats 4000000 in
theorem digit_low {x : Int} {t : Tok} (h0 : 97 ≤ x) (h1 : x ≤ 122) : Con w mean mg mb 146 1 [.int x t] news news (RInt (x - 87)) := by
  k_with_none
  k_with "eval Call Name cons nil" => (k_here; (with_reducible show wpAny _ _ (eval (PySem.Expr.Call (PySem.Expr.Name _ _) [_] [] _) _) _ _ _); k_dflt (refine' call1 ?zcF ?zcX ?zcT ?zchf ?zchk ?zca1 ?zcs ?zcx (by decide) ?_; (case zcF => k_asm); (case zcX => k_asm); (case zcT => k_asm); (case zchf => k_is); (case zchk => k_is); (case zca1 => (first | exact ArgV.int | exact ArgV.name rfl rfl (by decide) rfl)); (case zcs => rfl); (case zcx => rfl); intro t1 tk9; (try dsimp only)))
  k_with "eval Call Name cons nil" => (k_here; (with_reducible show wpAny _ _ (eval (PySem.Expr.Call (PySem.Expr.Name _ _) [_, _] [] _) _) _ _ _); k_dflt (refine' call2 ?zcF ?zcX ?zcT ?zchf ?zchk ?zca1 ?zca2 ?zcs ?zcx (by decide) ?_; (case zcF => k_asm); (case zcX => k_asm); (case zcT => k_asm); (case zchf => k_is); (case zchk => k_is); (case zca1 => (first | exact ArgV.int | exact ArgV.name rfl rfl (by decide) rfl)); (case zca2 => (first | exact ArgV.int | exact ArgV.name rfl rfl (by decide) rfl)); (case zcs => rfl); (case zcx => rfl); intro t1 t2 tk9; (try dsimp only)))
  k_with "eval Call Name cons nil" => (k_here; (with_reducible show wpAny _ _ (eval (PySem.Expr.Call (PySem.Expr.Name _ _) [_, _, _] [] _) _) _ _ _); k_dflt (refine' call3 ?zcF ?zcX ?zcT ?zchf ?zchk ?zca1 ?zca2 ?zca3 ?zcs ?zcx (by decide) ?_; (case zcF => k_asm); (case zcX => k_asm); (case zcT => k_asm); (case zchf => k_is); (case zchk => k_is); (case zca1 => (first | exact ArgV.int | exact ArgV.name rfl rfl (by decide) rfl)); (case zca2 => (first | exact ArgV.int | exact ArgV.name rfl rfl (by decide) rfl)); (case zca3 => (first | exact ArgV.int | exact ArgV.name rfl rfl (by decide) rfl)); (case zcs => rfl); (case zcx => rfl); intro t1 t2 t3 tk9; (try dsimp only)))
  k_with "eval Call Name cons nil" => (k_here; (with_reducible show wpAny _ _ (eval (PySem.Expr.Call (PySem.Expr.Name _ _) [_, _, _, _] [] _) _) _ _ _); k_dflt (refine' call4 ?zcF ?zcX ?zcT ?zchf ?zchk ?zca1 ?zca2 ?zca3 ?zca4 ?zcs ?zcx (by decide) ?_; (case zcF => k_asm); (case zcX => k_asm); (case zcT => k_asm); (case zchf => k_is); (case zchk => k_is); (case zca1 => (first | exact ArgV.int | exact ArgV.name rfl rfl (by decide) rfl)); (case zca2 => (first | exact ArgV.int | exact ArgV.name rfl rfl (by decide) rfl)); (case zca3 => (first | exact ArgV.int | exact ArgV.name rfl rfl (by decide) rfl)); (case zca4 => (first | exact ArgV.int | exact ArgV.name rfl rfl (by decide) rfl)); (case zcs => rfl); (case zcx => rfl); intro t1 t2 t3 t4 tk9; (try dsimp only)))
  k_with "getAttr ref" => (k_here; k_dflt (refine' get_own ?zzk1 ?zzk2 ?zzk3 ?zzk4 ?zzk5 ?zzk6 ?zzk7 ?zzk8 ?zzk9 ?_; (case zzk1 => k_asm); (case zzk2 => k_asm); (case zzk3 => k_inst); (case zzk4 => k_is); (case zzk5 => k_is); (case zzk6 => k_is); (case zzk7 => k_is); (case zzk8 => assumption); (case zzk9 => k_handed); k_whole))
  intro dp un gd cn cs a ccd cl outer A₀ base h₀ L m s Q E B F X N T hk hd hu hret
  w_top off
  refine wpAny_call ?_
  k_dflt ktr_enter
  k_steps
  exact hret _ [] _ _ (rint rfl) (by k_asm) (by k_asm) no_tl
theorem skip_at {l : List UInt8} {i k : Int} {t t' : Tok} (hk : skipZ l i = k) (h0 : 0 ≤ i) (h1 : i ≤ (l.length : Int)) (hz : l.length ≤ 100000) : Con w mean mg mb 160 2 [.bytes l.toArray t, .int i t'] news news (RInt k) := hk ▸ skip_con h0 h1 hz
theorem skip_empty {t t' : Tok} : Con w mean mg mb 160 2 [.bytes #[] t, .int 0 t'] news news (RInt 0) := skip_at (l := []) rfl (by decide) (by decide) (by decide)
theorem skip_zed {t t' : Tok} : Con w mean mg mb 160 2 [.bytes #[122] t, .int 0 t'] news news (RInt 0) := skip_at (l := [122]) (by decide) (by decide) (by decide) (by decide)
set_option maxHeartbeats 8000000 in
theorem digits_empty {wd : Int} {t t' t'' t3 : Tok} (h4 : 4 ≤ wd) (h16 : wd ≤ 16) : Con w mean mg mb 153 2 [.bytes #[] t, .int 0 t', .int 10 t'', .int wd t3] news news (RPair 0 0) := by
  k_with_none
  k_with "eval Call Name cons nil" => (k_here; (with_reducible show wpAny _ _ (eval (PySem.Expr.Call (PySem.Expr.Name _ _) [_] [] _) _) _ _ _); k_dflt (refine' call1 ?zcF ?zcX ?zcT ?zchf ?zchk ?zca1 ?zcs ?zcx (by decide) ?_; (case zcF => k_asm); (case zcX => k_asm); (case zcT => k_asm); (case zchf => k_is); (case zchk => k_is); (case zca1 => (first | exact ArgV.int | exact ArgV.name rfl rfl (by decide) rfl)); (case zcs => rfl); (case zcx => rfl); intro t1 tk9; (try dsimp only)))
  k_with "eval Call Name cons nil" => (k_here; (with_reducible show wpAny _ _ (eval (PySem.Expr.Call (PySem.Expr.Name _ _) [_, _] [] _) _) _ _ _); k_dflt (refine' call2 ?zcF ?zcX ?zcT ?zchf ?zchk ?zca1 ?zca2 ?zcs ?zcx (by decide) ?_; (case zcF => k_asm); (case zcX => k_asm); (case zcT => k_asm); (case zchf => k_is); (case zchk => k_is); (case zca1 => (first | exact ArgV.int | exact ArgV.name rfl rfl (by decide) rfl)); (case zca2 => (first | exact ArgV.int | exact ArgV.name rfl rfl (by decide) rfl)); (case zcs => rfl); (case zcx => rfl); intro t1 t2 tk9; (try dsimp only)))
  k_with "eval Call Name cons nil" => (k_here; (with_reducible show wpAny _ _ (eval (PySem.Expr.Call (PySem.Expr.Name _ _) [_, _, _] [] _) _) _ _ _); k_dflt (refine' call3 ?zcF ?zcX ?zcT ?zchf ?zchk ?zca1 ?zca2 ?zca3 ?zcs ?zcx (by decide) ?_; (case zcF => k_asm); (case zcX => k_asm); (case zcT => k_asm); (case zchf => k_is); (case zchk => k_is); (case zca1 => (first | exact ArgV.int | exact ArgV.name rfl rfl (by decide) rfl)); (case zca2 => (first | exact ArgV.int | exact ArgV.name rfl rfl (by decide) rfl)); (case zca3 => (first | exact ArgV.int | exact ArgV.name rfl rfl (by decide) rfl)); (case zcs => rfl); (case zcx => rfl); intro t1 t2 t3 tk9; (try dsimp only)))
  k_with "eval Call Name cons nil" => (k_here; (with_reducible show wpAny _ _ (eval (PySem.Expr.Call (PySem.Expr.Name _ _) [_, _, _, _] [] _) _) _ _ _); k_dflt (refine' call4 ?zcF ?zcX ?zcT ?zchf ?zchk ?zca1 ?zca2 ?zca3 ?zca4 ?zcs ?zcx (by decide) ?_; (case zcF => k_asm); (case zcX => k_asm); (case zcT => k_asm); (case zchf => k_is); (case zchk => k_is); (case zca1 => (first | exact ArgV.int | exact ArgV.name rfl rfl (by decide) rfl)); (case zca2 => (first | exact ArgV.int | exact ArgV.name rfl rfl (by decide) rfl)); (case zca3 => (first | exact ArgV.int | exact ArgV.name rfl rfl (by decide) rfl)); (case zca4 => (first | exact ArgV.int | exact ArgV.name rfl rfl (by decide) rfl)); (case zcs => rfl); (case zcx => rfl); intro t1 t2 t3 t4 tk9; (try dsimp only)))
  k_with "getAttr ref" => (k_here; k_dflt (refine' get_own ?zzk1 ?zzk2 ?zzk3 ?zzk4 ?zzk5 ?zzk6 ?zzk7 ?zzk8 ?zzk9 ?_; (case zzk1 => k_asm); (case zzk2 => k_asm); (case zzk3 => k_inst); (case zzk4 => k_is); (case zzk5 => k_is); (case zzk6 => k_is); (case zzk7 => k_is); (case zzk8 => assumption); (case zzk9 => k_handed); k_whole))
  k_with "compareOp In int bytes" => (refine' in_pm (r := false) ?zze ?_; (case zze => decide +kernel))
  k_with "call ref" => (k_here; (with_reducible show wpAny _ _ (call (Value.ref 160) _) _ _ _); k_dflt (refine' Con.useI ?zzB ?zzF ?zzX ?zzN ?zzT ?zzk (skip_empty ) ?zzd ?zzu ?_; (case zzB => k_asm); (case zzF => k_asm); (case zzX => k_asm); (case zzN => k_asm); (case zzT => k_asm); (case zzk => first | exact rfl | assumption);  (case zzd => ktr_room); (case zzu => ktr_units); intro t9 h9 tk9 F9 N9; (try dsimp only); (try k_sweep); (try k_fold)))
  k_with "call ref" => (k_here; (with_reducible show wpAny _ _ (call (Value.ref 160) _) _ _ _); k_dflt (refine' Con.useI ?zzB ?zzF ?zzX ?zzN ?zzT ?zzk (skip_zed ) ?zzd ?zzu ?_; (case zzB => k_asm); (case zzF => k_asm); (case zzX => k_asm); (case zzN => k_asm); (case zzT => k_asm); (case zzk => first | exact rfl | assumption);  (case zzd => ktr_room); (case zzu => ktr_units); intro t9 h9 tk9 F9 N9; (try dsimp only); (try k_sweep); (try k_fold)))
  k_with "call ref" => (k_here; (with_reducible show wpAny _ _ (call (Value.ref 146) _) _ _ _); k_dflt (refine' Con.useI ?zzB ?zzF ?zzX ?zzN ?zzT ?zzk (digit_low ?zzhk ?zzh0) ?zzd ?zzu ?_; (case zzB => k_asm); (case zzF => k_asm); (case zzX => k_asm); (case zzN => k_asm); (case zzT => k_asm); (case zzk => first | exact rfl | assumption); (case zzhk => decide); (case zzh0 => decide); (case zzd => ktr_room); (case zzu => ktr_units); intro t9 h9 tk9 F9 N9; (try dsimp only); (try k_sweep); (try k_fold)))
  intro dp un gd cn cs a ccd cl outer A₀ base h₀ L m s Q E B F X N T hk hd hu hret
  w_top off
  refine wpAny_call ?_
  k_dflt ktr_enter
  k_steps
  all_goals first
    | exact hret _ _ _ _ ⟨_, _, _, _, _, _, rfl, rfl, rfl, rfl⟩ (by k_asm) (keep1 (by k_asm)) (ord1 (And.right (by assumption)))
    | trace_state
set_option maxHeartbeats 8000000 in
theorem digits_zed {wd : Int} {t t' t'' t3 : Tok} (h4 : 4 ≤ wd) (h16 : wd ≤ 16) : Con w mean mg mb 153 2 [.bytes #[122] t, .int 0 t', .int 10 t'', .int wd t3] news news (RPair 0 0) := by
  k_with_none
  k_with "eval Call Name cons nil" => (k_here; (with_reducible show wpAny _ _ (eval (PySem.Expr.Call (PySem.Expr.Name _ _) [_] [] _) _) _ _ _); k_dflt (refine' call1 ?zcF ?zcX ?zcT ?zchf ?zchk ?zca1 ?zcs ?zcx (by decide) ?_; (case zcF => k_asm); (case zcX => k_asm); (case zcT => k_asm); (case zchf => k_is); (case zchk => k_is); (case zca1 => (first | exact ArgV.int | exact ArgV.name rfl rfl (by decide) rfl)); (case zcs => rfl); (case zcx => rfl); intro t1 tk9; (try dsimp only)))
  k_with "eval Call Name cons nil" => (k_here; (with_reducible show wpAny _ _ (eval (PySem.Expr.Call (PySem.Expr.Name _ _) [_, _] [] _) _) _ _ _); k_dflt (refine' call2 ?zcF ?zcX ?zcT ?zchf ?zchk ?zca1 ?zca2 ?zcs ?zcx (by decide) ?_; (case zcF => k_asm); (case zcX => k_asm); (case zcT => k_asm); (case zchf => k_is); (case zchk => k_is); (case zca1 => (first | exact ArgV.int | exact ArgV.name rfl rfl (by decide) rfl)); (case zca2 => (first | exact ArgV.int | exact ArgV.name rfl rfl (by decide) rfl)); (case zcs => rfl); (case zcx => rfl); intro t1 t2 tk9; (try dsimp only)))
  k_with "eval Call Name cons nil" => (k_here; (with_reducible show wpAny _ _ (eval (PySem.Expr.Call (PySem.Expr.Name _ _) [_, _, _] [] _) _) _ _ _); k_dflt (refine' call3 ?zcF ?zcX ?zcT ?zchf ?zchk ?zca1 ?zca2 ?zca3 ?zcs ?zcx (by decide) ?_; (case zcF => k_asm); (case zcX => k_asm); (case zcT => k_asm); (case zchf => k_is); (case zchk => k_is); (case zca1 => (first | exact ArgV.int | exact ArgV.name rfl rfl (by decide) rfl)); (case zca2 => (first | exact ArgV.int | exact ArgV.name rfl rfl (by decide) rfl)); (case zca3 => (first | exact ArgV.int | exact ArgV.name rfl rfl (by decide) rfl)); (case zcs => rfl); (case zcx => rfl); intro t1 t2 t3 tk9; (try dsimp only)))
  k_with "eval Call Name cons nil" => (k_here; (with_reducible show wpAny _ _ (eval (PySem.Expr.Call (PySem.Expr.Name _ _) [_, _, _, _] [] _) _) _ _ _); k_dflt (refine' call4 ?zcF ?zcX ?zcT ?zchf ?zchk ?zca1 ?zca2 ?zca3 ?zca4 ?zcs ?zcx (by decide) ?_; (case zcF => k_asm); (case zcX => k_asm); (case zcT => k_asm); (case zchf => k_is); (case zchk => k_is); (case zca1 => (first | exact ArgV.int | exact ArgV.name rfl rfl (by decide) rfl)); (case zca2 => (first | exact ArgV.int | exact ArgV.name rfl rfl (by decide) rfl)); (case zca3 => (first | exact ArgV.int | exact ArgV.name rfl rfl (by decide) rfl)); (case zca4 => (first | exact ArgV.int | exact ArgV.name rfl rfl (by decide) rfl)); (case zcs => rfl); (case zcx => rfl); intro t1 t2 t3 t4 tk9; (try dsimp only)))
  k_with "getAttr ref" => (k_here; k_dflt (refine' get_own ?zzk1 ?zzk2 ?zzk3 ?zzk4 ?zzk5 ?zzk6 ?zzk7 ?zzk8 ?zzk9 ?_; (case zzk1 => k_asm); (case zzk2 => k_asm); (case zzk3 => k_inst); (case zzk4 => k_is); (case zzk5 => k_is); (case zzk6 => k_is); (case zzk7 => k_is); (case zzk8 => assumption); (case zzk9 => k_handed); k_whole))
  k_with "compareOp In int bytes" => (refine' in_pm (r := false) ?zze ?_; (case zze => decide +kernel))
  k_with "call ref" => (k_here; (with_reducible show wpAny _ _ (call (Value.ref 160) _) _ _ _); k_dflt (refine' Con.useI ?zzB ?zzF ?zzX ?zzN ?zzT ?zzk (skip_empty ) ?zzd ?zzu ?_; (case zzB => k_asm); (case zzF => k_asm); (case zzX => k_asm); (case zzN => k_asm); (case zzT => k_asm); (case zzk => first | exact rfl | assumption);  (case zzd => ktr_room); (case zzu => ktr_units); intro t9 h9 tk9 F9 N9; (try dsimp only); (try k_sweep); (try k_fold)))
  k_with "call ref" => (k_here; (with_reducible show wpAny _ _ (call (Value.ref 160) _) _ _ _); k_dflt (refine' Con.useI ?zzB ?zzF ?zzX ?zzN ?zzT ?zzk (skip_zed ) ?zzd ?zzu ?_; (case zzB => k_asm); (case zzF => k_asm); (case zzX => k_asm); (case zzN => k_asm); (case zzT => k_asm); (case zzk => first | exact rfl | assumption);  (case zzd => ktr_room); (case zzu => ktr_units); intro t9 h9 tk9 F9 N9; (try dsimp only); (try k_sweep); (try k_fold)))
  k_with "call ref" => (k_here; (with_reducible show wpAny _ _ (call (Value.ref 146) _) _ _ _); k_dflt (refine' Con.useI ?zzB ?zzF ?zzX ?zzN ?zzT ?zzk (digit_low ?zzhk ?zzh0) ?zzd ?zzu ?_; (case zzB => k_asm); (case zzF => k_asm); (case zzX => k_asm); (case zzN => k_asm); (case zzT => k_asm); (case zzk => first | exact rfl | assumption); (case zzhk => decide); (case zzh0 => decide); (case zzd => ktr_room); (case zzu => ktr_units); intro t9 h9 tk9 F9 N9; (try dsimp only); (try k_sweep); (try k_fold)))
  k_with "call ref" => (k_here; (with_reducible show wpAny _ _ (call (Value.ref 153) _) _ _ _); k_dflt (refine' Con.useP ?zzB ?zzF ?zzX ?zzN ?zzT ?zzk (digits_empty ?zzh4 ?zzh16) ?zzd ?zzu ?_; (case zzB => k_asm); (case zzF => k_asm); (case zzX => k_asm); (case zzN => k_asm); (case zzT => k_asm); (case zzk => first | exact rfl | assumption); (case zzh4 => omega); (case zzh16 => omega); (case zzd => ktr_room); (case zzu => ktr_units); intro p9 e9 tf9 ti9 h9 tk9 F9 N9 l9; (try k_lt l9); (try dsimp only); (try k_sweep); (try k_fold)))
  intro dp un gd cn cs a ccd cl outer A₀ base h₀ L m s Q E B F X N T hk hd hu hret
  w_top off
  refine wpAny_call ?_
  k_dflt ktr_enter
  k_steps
  all_goals first
    | exact hret _ _ _ _ ⟨_, _, _, _, _, _, rfl, rfl, rfl, rfl⟩ (by k_asm) (keep1 (by k_asm)) (ord1 (And.right (by assumption)))
    | trace_state
set_option maxHeartbeats 8000000 in
theorem tib_empty {wd : Int} {bx dx : Addr} {es : List DictEntry} {n : Nat} {t t' tw : Tok} (hb1 : (bx, instObj 53 dx) ∈ news) (hb2 : (dx, dictOf es n) ∈ news) (hb3 : getL (Str.ofString "width") es = some (some (.int wd tw)))
    (h4 : 4 ≤ wd) (h16 : wd ≤ 16) : Con w mean mg mb 174 3 [.bytes #[] t, .int 0 t', .ref bx] news news RNone := by
  k_with_none
  k_with "eval Call Name cons nil" => (k_here; (with_reducible show wpAny _ _ (eval (PySem.Expr.Call (PySem.Expr.Name _ _) [_] [] _) _) _ _ _); k_dflt (refine' call1 ?zcF ?zcX ?zcT ?zchf ?zchk ?zca1 ?zcs ?zcx (by decide) ?_; (case zcF => k_asm); (case zcX => k_asm); (case zcT => k_asm); (case zchf => k_is); (case zchk => k_is); (case zca1 => (first | exact ArgV.int | exact ArgV.name rfl rfl (by decide) rfl)); (case zcs => rfl); (case zcx => rfl); intro t1 tk9; (try dsimp only)))
  k_with "eval Call Name cons nil" => (k_here; (with_reducible show wpAny _ _ (eval (PySem.Expr.Call (PySem.Expr.Name _ _) [_, _] [] _) _) _ _ _); k_dflt (refine' call2 ?zcF ?zcX ?zcT ?zchf ?zchk ?zca1 ?zca2 ?zcs ?zcx (by decide) ?_; (case zcF => k_asm); (case zcX => k_asm); (case zcT => k_asm); (case zchf => k_is); (case zchk => k_is); (case zca1 => (first | exact ArgV.int | exact ArgV.name rfl rfl (by decide) rfl)); (case zca2 => (first | exact ArgV.int | exact ArgV.name rfl rfl (by decide) rfl)); (case zcs => rfl); (case zcx => rfl); intro t1 t2 tk9; (try dsimp only)))
  k_with "eval Call Name cons nil" => (k_here; (with_reducible show wpAny _ _ (eval (PySem.Expr.Call (PySem.Expr.Name _ _) [_, _, _] [] _) _) _ _ _); k_dflt (refine' call3 ?zcF ?zcX ?zcT ?zchf ?zchk ?zca1 ?zca2 ?zca3 ?zcs ?zcx (by decide) ?_; (case zcF => k_asm); (case zcX => k_asm); (case zcT => k_asm); (case zchf => k_is); (case zchk => k_is); (case zca1 => (first | exact ArgV.int | exact ArgV.name rfl rfl (by decide) rfl)); (case zca2 => (first | exact ArgV.int | exact ArgV.name rfl rfl (by decide) rfl)); (case zca3 => (first | exact ArgV.int | exact ArgV.name rfl rfl (by decide) rfl)); (case zcs => rfl); (case zcx => rfl); intro t1 t2 t3 tk9; (try dsimp only)))
  k_with "eval Call Name cons nil" => (k_here; (with_reducible show wpAny _ _ (eval (PySem.Expr.Call (PySem.Expr.Name _ _) [_, _, _, _] [] _) _) _ _ _); k_dflt (refine' call4 ?zcF ?zcX ?zcT ?zchf ?zchk ?zca1 ?zca2 ?zca3 ?zca4 ?zcs ?zcx (by decide) ?_; (case zcF => k_asm); (case zcX => k_asm); (case zcT => k_asm); (case zchf => k_is); (case zchk => k_is); (case zca1 => (first | exact ArgV.int | exact ArgV.name rfl rfl (by decide) rfl)); (case zca2 => (first | exact ArgV.int | exact ArgV.name rfl rfl (by decide) rfl)); (case zca3 => (first | exact ArgV.int | exact ArgV.name rfl rfl (by decide) rfl)); (case zca4 => (first | exact ArgV.int | exact ArgV.name rfl rfl (by decide) rfl)); (case zcs => rfl); (case zcx => rfl); intro t1 t2 t3 t4 tk9; (try dsimp only)))
  k_with "getAttr ref" => (k_here; k_dflt (refine' get_own ?zzk1 ?zzk2 ?zzk3 ?zzk4 ?zzk5 ?zzk6 ?zzk7 ?zzk8 ?zzk9 ?_; (case zzk1 => k_asm); (case zzk2 => k_asm); (case zzk3 => k_inst); (case zzk4 => k_is); (case zzk5 => k_is); (case zzk6 => k_is); (case zzk7 => k_is); (case zzk8 => assumption); (case zzk9 => k_handed); k_whole))
  k_with "compareOp In int bytes" => (refine' in_pm (r := false) ?zze ?_; (case zze => decide +kernel))
  k_with "call ref" => (k_here; (with_reducible show wpAny _ _ (call (Value.ref 160) _) _ _ _); k_dflt (refine' Con.useI ?zzB ?zzF ?zzX ?zzN ?zzT ?zzk (skip_empty ) ?zzd ?zzu ?_; (case zzB => k_asm); (case zzF => k_asm); (case zzX => k_asm); (case zzN => k_asm); (case zzT => k_asm); (case zzk => first | exact rfl | assumption);  (case zzd => ktr_room); (case zzu => ktr_units); intro t9 h9 tk9 F9 N9; (try dsimp only); (try k_sweep); (try k_fold)))
  k_with "call ref" => (k_here; (with_reducible show wpAny _ _ (call (Value.ref 160) _) _ _ _); k_dflt (refine' Con.useI ?zzB ?zzF ?zzX ?zzN ?zzT ?zzk (skip_zed ) ?zzd ?zzu ?_; (case zzB => k_asm); (case zzF => k_asm); (case zzX => k_asm); (case zzN => k_asm); (case zzT => k_asm); (case zzk => first | exact rfl | assumption);  (case zzd => ktr_room); (case zzu => ktr_units); intro t9 h9 tk9 F9 N9; (try dsimp only); (try k_sweep); (try k_fold)))
  k_with "call ref" => (k_here; (with_reducible show wpAny _ _ (call (Value.ref 146) _) _ _ _); k_dflt (refine' Con.useI ?zzB ?zzF ?zzX ?zzN ?zzT ?zzk (digit_low ?zzhk ?zzh0) ?zzd ?zzu ?_; (case zzB => k_asm); (case zzF => k_asm); (case zzX => k_asm); (case zzN => k_asm); (case zzT => k_asm); (case zzk => first | exact rfl | assumption); (case zzhk => decide); (case zzh0 => decide); (case zzd => ktr_room); (case zzu => ktr_units); intro t9 h9 tk9 F9 N9; (try dsimp only); (try k_sweep); (try k_fold)))
  k_with "call ref" => (k_here; (with_reducible show wpAny _ _ (call (Value.ref 153) _) _ _ _); k_dflt (refine' Con.useP ?zzB ?zzF ?zzX ?zzN ?zzT ?zzk (digits_empty ?zzh4 ?zzh16) ?zzd ?zzu ?_; (case zzB => k_asm); (case zzF => k_asm); (case zzX => k_asm); (case zzN => k_asm); (case zzT => k_asm); (case zzk => first | exact rfl | assumption); (case zzh4 => omega); (case zzh16 => omega); (case zzd => ktr_room); (case zzu => ktr_units); intro p9 e9 tf9 ti9 h9 tk9 F9 N9 l9; (try k_lt l9); (try dsimp only); (try k_sweep); (try k_fold)))
  k_with "call ref" => (k_here; (with_reducible show wpAny _ _ (call (Value.ref 153) _) _ _ _); k_dflt (refine' Con.useP ?zzB ?zzF ?zzX ?zzN ?zzT ?zzk (digits_zed ?zzh4 ?zzh16) ?zzd ?zzu ?_; (case zzB => k_asm); (case zzF => k_asm); (case zzX => k_asm); (case zzN => k_asm); (case zzT => k_asm); (case zzk => first | exact rfl | assumption); (case zzh4 => omega); (case zzh16 => omega); (case zzd => ktr_room); (case zzu => ktr_units); intro p9 e9 tf9 ti9 h9 tk9 F9 N9 l9; (try k_lt l9); (try dsimp only); (try k_sweep); (try k_fold)))
  intro dp un gd cn cs a ccd cl outer A₀ base h₀ L m s Q E B F X N T hk hd hu hret
  w_top off
  refine wpAny_call ?_
  k_dflt ktr_enter
  k_steps
  all_goals first
    | exact hret _ [] _ _ rnone (by k_asm) (by first | k_asm | exact drop1 (by k_asm) | exact drop2 (by k_asm) | exact drop3 (by k_asm) | exact drop4 (by k_asm)) no_tl
    | trace_state
set_option maxHeartbeats 8000000 in
theorem tib_zed {wd : Int} {bx dx : Addr} {es : List DictEntry} {n : Nat} {t t' tw : Tok} (hb1 : (bx, instObj 53 dx) ∈ news) (hb2 : (dx, dictOf es n) ∈ news) (hb3 : getL (Str.ofString "width") es = some (some (.int wd tw)))
    (h4 : 4 ≤ wd) (h16 : wd ≤ 16) : Con w mean mg mb 174 3 [.bytes #[122] t, .int 0 t', .ref bx] news news RNone := by
  k_with_none
  k_with "eval Call Name cons nil" => (k_here; (with_reducible show wpAny _ _ (eval (PySem.Expr.Call (PySem.Expr.Name _ _) [_] [] _) _) _ _ _); k_dflt (refine' call1 ?zcF ?zcX ?zcT ?zchf ?zchk ?zca1 ?zcs ?zcx (by decide) ?_; (case zcF => k_asm); (case zcX => k_asm); (case zcT => k_asm); (case zchf => k_is); (case zchk => k_is); (case zca1 => (first | exact ArgV.int | exact ArgV.name rfl rfl (by decide) rfl)); (case zcs => rfl); (case zcx => rfl); intro t1 tk9; (try dsimp only)))
  k_with "eval Call Name cons nil" => (k_here; (with_reducible show wpAny _ _ (eval (PySem.Expr.Call (PySem.Expr.Name _ _) [_, _] [] _) _) _ _ _); k_dflt (refine' call2 ?zcF ?zcX ?zcT ?zchf ?zchk ?zca1 ?zca2 ?zcs ?zcx (by decide) ?_; (case zcF => k_asm); (case zcX => k_asm); (case zcT => k_asm); (case zchf => k_is); (case zchk => k_is); (case zca1 => (first | exact ArgV.int | exact ArgV.name rfl rfl (by decide) rfl)); (case zca2 => (first | exact ArgV.int | exact ArgV.name rfl rfl (by decide) rfl)); (case zcs => rfl); (case zcx => rfl); intro t1 t2 tk9; (try dsimp only)))
  k_with "eval Call Name cons nil" => (k_here; (with_reducible show wpAny _ _ (eval (PySem.Expr.Call (PySem.Expr.Name _ _) [_, _, _] [] _) _) _ _ _); k_dflt (refine' call3 ?zcF ?zcX ?zcT ?zchf ?zchk ?zca1 ?zca2 ?zca3 ?zcs ?zcx (by decide) ?_; (case zcF => k_asm); (case zcX => k_asm); (case zcT => k_asm); (case zchf => k_is); (case zchk => k_is); (case zca1 => (first | exact ArgV.int | exact ArgV.name rfl rfl (by decide) rfl)); (case zca2 => (first | exact ArgV.int | exact ArgV.name rfl rfl (by decide) rfl)); (case zca3 => (first | exact ArgV.int | exact ArgV.name rfl rfl (by decide) rfl)); (case zcs => rfl); (case zcx => rfl); intro t1 t2 t3 tk9; (try dsimp only)))
  k_with "eval Call Name cons nil" => (k_here; (with_reducible show wpAny _ _ (eval (PySem.Expr.Call (PySem.Expr.Name _ _) [_, _, _, _] [] _) _) _ _ _); k_dflt (refine' call4 ?zcF ?zcX ?zcT ?zchf ?zchk ?zca1 ?zca2 ?zca3 ?zca4 ?zcs ?zcx (by decide) ?_; (case zcF => k_asm); (case zcX => k_asm); (case zcT => k_asm); (case zchf => k_is); (case zchk => k_is); (case zca1 => (first | exact ArgV.int | exact ArgV.name rfl rfl (by decide) rfl)); (case zca2 => (first | exact ArgV.int | exact ArgV.name rfl rfl (by decide) rfl)); (case zca3 => (first | exact ArgV.int | exact ArgV.name rfl rfl (by decide) rfl)); (case zca4 => (first | exact ArgV.int | exact ArgV.name rfl rfl (by decide) rfl)); (case zcs => rfl); (case zcx => rfl); intro t1 t2 t3 t4 tk9; (try dsimp only)))
  k_with "getAttr ref" => (k_here; k_dflt (refine' get_own ?zzk1 ?zzk2 ?zzk3 ?zzk4 ?zzk5 ?zzk6 ?zzk7 ?zzk8 ?zzk9 ?_; (case zzk1 => k_asm); (case zzk2 => k_asm); (case zzk3 => k_inst); (case zzk4 => k_is); (case zzk5 => k_is); (case zzk6 => k_is); (case zzk7 => k_is); (case zzk8 => assumption); (case zzk9 => k_handed); k_whole))
  k_with "compareOp In int bytes" => (refine' in_pm (r := false) ?zze ?_; (case zze => decide +kernel))
  k_with "call ref" => (k_here; (with_reducible show wpAny _ _ (call (Value.ref 160) _) _ _ _); k_dflt (refine' Con.useI ?zzB ?zzF ?zzX ?zzN ?zzT ?zzk (skip_empty ) ?zzd ?zzu ?_; (case zzB => k_asm); (case zzF => k_asm); (case zzX => k_asm); (case zzN => k_asm); (case zzT => k_asm); (case zzk => first | exact rfl | assumption);  (case zzd => ktr_room); (case zzu => ktr_units); intro t9 h9 tk9 F9 N9; (try dsimp only); (try k_sweep); (try k_fold)))
  k_with "call ref" => (k_here; (with_reducible show wpAny _ _ (call (Value.ref 160) _) _ _ _); k_dflt (refine' Con.useI ?zzB ?zzF ?zzX ?zzN ?zzT ?zzk (skip_zed ) ?zzd ?zzu ?_; (case zzB => k_asm); (case zzF => k_asm); (case zzX => k_asm); (case zzN => k_asm); (case zzT => k_asm); (case zzk => first | exact rfl | assumption);  (case zzd => ktr_room); (case zzu => ktr_units); intro t9 h9 tk9 F9 N9; (try dsimp only); (try k_sweep); (try k_fold)))
  k_with "call ref" => (k_here; (with_reducible show wpAny _ _ (call (Value.ref 146) _) _ _ _); k_dflt (refine' Con.useI ?zzB ?zzF ?zzX ?zzN ?zzT ?zzk (digit_low ?zzhk ?zzh0) ?zzd ?zzu ?_; (case zzB => k_asm); (case zzF => k_asm); (case zzX => k_asm); (case zzN => k_asm); (case zzT => k_asm); (case zzk => first | exact rfl | assumption); (case zzhk => decide); (case zzh0 => decide); (case zzd => ktr_room); (case zzu => ktr_units); intro t9 h9 tk9 F9 N9; (try dsimp only); (try k_sweep); (try k_fold)))
  k_with "call ref" => (k_here; (with_reducible show wpAny _ _ (call (Value.ref 153) _) _ _ _); k_dflt (refine' Con.useP ?zzB ?zzF ?zzX ?zzN ?zzT ?zzk (digits_empty ?zzh4 ?zzh16) ?zzd ?zzu ?_; (case zzB => k_asm); (case zzF => k_asm); (case zzX => k_asm); (case zzN => k_asm); (case zzT => k_asm); (case zzk => first | exact rfl | assumption); (case zzh4 => omega); (case zzh16 => omega); (case zzd => ktr_room); (case zzu => ktr_units); intro p9 e9 tf9 ti9 h9 tk9 F9 N9 l9; (try k_lt l9); (try dsimp only); (try k_sweep); (try k_fold)))
  k_with "call ref" => (k_here; (with_reducible show wpAny _ _ (call (Value.ref 153) _) _ _ _); k_dflt (refine' Con.useP ?zzB ?zzF ?zzX ?zzN ?zzT ?zzk (digits_zed ?zzh4 ?zzh16) ?zzd ?zzu ?_; (case zzB => k_asm); (case zzF => k_asm); (case zzX => k_asm); (case zzN => k_asm); (case zzT => k_asm); (case zzk => first | exact rfl | assumption); (case zzh4 => omega); (case zzh16 => omega); (case zzd => ktr_room); (case zzu => ktr_units); intro p9 e9 tf9 ti9 h9 tk9 F9 N9 l9; (try k_lt l9); (try dsimp only); (try k_sweep); (try k_fold)))
  intro dp un gd cn cs a ccd cl outer A₀ base h₀ L m s Q E B F X N T hk hd hu hret
  w_top off
  refine wpAny_call ?_
  k_dflt ktr_enter
  k_steps
  all_goals first
    | exact hret _ [] _ _ rnone (by k_asm) (by first | k_asm | exact drop1 (by k_asm) | exact drop2 (by k_asm) | exact drop3 (by k_asm) | exact drop4 (by k_asm)) no_tl
    | trace_state
end Mine

namespace Mine
set_option maxRecDepth 100000
variable {w : World} {mean : ExcName → Option Value} {mg mb : Str → Option Value} {news : List (Addr × Obj)}
local macro_rules | `(tactic| k_mem) => `(tactic| first | exact List.mem_cons_of_mem _ (by assumption) | exact List.mem_cons_of_mem _ (List.mem_cons_of_mem _ (by assumption)) | exact List.mem_cons_of_mem _ (List.mem_cons_of_mem _ (List.mem_cons_of_mem _ (by assumption))) | exact List.mem_cons_of_mem _ (List.mem_cons_of_mem _ (List.mem_cons_of_mem _ (List.mem_cons_of_mem _ (by assumption)))))
theorem tib_con {l : List UInt8} {x : Int} {wd : Int} {bx dx : Addr} {es : List DictEntry} {n : Nat} {t t' tw : Tok} (hb1 : (bx, instObj 53 dx) ∈ news) (hb2 : (dx, dictOf es n) ∈ news) (hb3 : getL (Str.ofString "width") es = some (some (.int wd tw))) (h4 : 4 ≤ wd) (h16 : wd ≤ 16)
    (hT : Tells l x) (h1 : -(2 ^ (wd - 1).toNat) ≤ x) (h2 : x < 2 ^ (wd - 1).toNat) : Con w mean mg mb 174 3 [.bytes l.toArray t, .int 0 t', .ref bx] news news (RInt x) := by
  have e := two_pow_split (k := wd) (by omega)
  have hx : (x.natAbs : Int) < 2 ^ wd.toNat := by omega
  have := wz_id (k := wd) (x := x) (by omega) h1 h2
  by_cases hn : x < 0
  · have c := tib_neg (w := w) (mean := mean) (mg := mg) (mb := mb) (t := t) (t' := t') hb1 hb2 hb3 hT hx h4 h16 hn
    rw [this] at c; exact c
  · have c := tib_pos (w := w) (mean := mean) (mg := mg) (mb := mb) (t := t) (t' := t') hb1 hb2 hb3 hT hx h4 h16 hn
    rw [this] at c; exact c
set_option maxHeartbeats 8000000 in
theorem sn_text {l : List UInt8} {x : Int} {wd : Int} {bx dx : Addr} {es : List DictEntry} {n : Nat} {t tw : Tok} (hb1 : (bx, instObj 53 dx) ∈ news) (hb2 : (dx, dictOf es n) ∈ news) (hb3 : getL (Str.ofString "width") es = some (some (.int wd tw))) (h4 : 4 ≤ wd) (h16 : wd ≤ 16) (hT : Tells l x) (h1 : -(2 ^ (wd - 1).toNat) ≤ x) (h2 : x < 2 ^ (wd - 1).toNat) : Con w mean mg mb 167 4 [.bytes l.toArray t, .ref bx] news news (RInt x) := by
  k_with_none
  k_with "eval Call Name cons nil" => (k_here; (with_reducible show wpAny _ _ (eval (PySem.Expr.Call (PySem.Expr.Name _ _) [_] [] _) _) _ _ _); k_dflt (refine' call1 ?zcF ?zcX ?zcT ?zchf ?zchk ?zca1 ?zcs ?zcx (by decide) ?_; (case zcF => k_asm); (case zcX => k_asm); (case zcT => k_asm); (case zchf => k_is); (case zchk => k_is); (case zca1 => (first | exact ArgV.int | exact ArgV.name rfl rfl (by decide) rfl)); (case zcs => rfl); (case zcx => rfl); intro t1 tk9; (try dsimp only)))
  k_with "eval Call Name cons nil" => (k_here; (with_reducible show wpAny _ _ (eval (PySem.Expr.Call (PySem.Expr.Name _ _) [_, _] [] _) _) _ _ _); k_dflt (refine' call2 ?zcF ?zcX ?zcT ?zchf ?zchk ?zca1 ?zca2 ?zcs ?zcx (by decide) ?_; (case zcF => k_asm); (case zcX => k_asm); (case zcT => k_asm); (case zchf => k_is); (case zchk => k_is); (case zca1 => (first | exact ArgV.int | exact ArgV.name rfl rfl (by decide) rfl)); (case zca2 => (first | exact ArgV.int | exact ArgV.name rfl rfl (by decide) rfl)); (case zcs => rfl); (case zcx => rfl); intro t1 t2 tk9; (try dsimp only)))
  k_with "eval Call Name cons nil" => (k_here; (with_reducible show wpAny _ _ (eval (PySem.Expr.Call (PySem.Expr.Name _ _) [_, _, _] [] _) _) _ _ _); k_dflt (refine' call3 ?zcF ?zcX ?zcT ?zchf ?zchk ?zca1 ?zca2 ?zca3 ?zcs ?zcx (by decide) ?_; (case zcF => k_asm); (case zcX => k_asm); (case zcT => k_asm); (case zchf => k_is); (case zchk => k_is); (case zca1 => (first | exact ArgV.int | exact ArgV.name rfl rfl (by decide) rfl)); (case zca2 => (first | exact ArgV.int | exact ArgV.name rfl rfl (by decide) rfl)); (case zca3 => (first | exact ArgV.int | exact ArgV.name rfl rfl (by decide) rfl)); (case zcs => rfl); (case zcx => rfl); intro t1 t2 t3 tk9; (try dsimp only)))
  k_with "eval Call Name cons nil" => (k_here; (with_reducible show wpAny _ _ (eval (PySem.Expr.Call (PySem.Expr.Name _ _) [_, _, _, _] [] _) _) _ _ _); k_dflt (refine' call4 ?zcF ?zcX ?zcT ?zchf ?zchk ?zca1 ?zca2 ?zca3 ?zca4 ?zcs ?zcx (by decide) ?_; (case zcF => k_asm); (case zcX => k_asm); (case zcT => k_asm); (case zchf => k_is); (case zchk => k_is); (case zca1 => (first | exact ArgV.int | exact ArgV.name rfl rfl (by decide) rfl)); (case zca2 => (first | exact ArgV.int | exact ArgV.name rfl rfl (by decide) rfl)); (case zca3 => (first | exact ArgV.int | exact ArgV.name rfl rfl (by decide) rfl)); (case zca4 => (first | exact ArgV.int | exact ArgV.name rfl rfl (by decide) rfl)); (case zcs => rfl); (case zcx => rfl); intro t1 t2 t3 t4 tk9; (try dsimp only)))
  k_with "getAttr ref" => (k_here; k_dflt (refine' get_own ?zzk1 ?zzk2 ?zzk3 ?zzk4 ?zzk5 ?zzk6 ?zzk7 ?zzk8 ?zzk9 ?_; (case zzk1 => k_asm); (case zzk2 => k_asm); (case zzk3 => k_inst); (case zzk4 => k_is); (case zzk5 => k_is); (case zzk6 => k_is); (case zzk7 => k_is); (case zzk8 => assumption); (case zzk9 => k_handed); k_whole))
  k_with "call ref" => (k_here; (with_reducible show wpAny _ _ (call (Value.ref 174) _) _ _ _); k_dflt (refine' Con.useI ?zzB ?zzF ?zzX ?zzN ?zzT ?zzk (tib_con ?zzhb1 ?zzhb2 ?zzhb3 ?zzh4 ?zzh16 ?zzhT ?zzh1 ?zzh2) ?zzd ?zzu ?_; (case zzB => k_asm); (case zzF => k_asm); (case zzX => k_asm); (case zzN => k_asm); (case zzT => k_asm); (case zzk => first | exact rfl | assumption); (case zzhb1 => assumption); (case zzhb2 => assumption); (case zzhb3 => assumption); (case zzh4 => assumption); (case zzh16 => assumption); (case zzhT => assumption); (case zzh1 => assumption); (case zzh2 => assumption); (case zzd => ktr_room); (case zzu => ktr_units); intro t9 h9 tk9 F9 N9; (try dsimp only); (try k_sweep); (try k_fold)))
  k_with "call ref" => (k_here; (with_reducible show wpAny _ _ (call (Value.ref 174) _) _ _ _); k_dflt (refine' Con.useN ?zzB ?zzF ?zzX ?zzN ?zzT ?zzk (tib_empty ?zzhb1 ?zzhb2 ?zzhb3 ?zzh4 ?zzh16) ?zzd ?zzu ?_; (case zzB => k_asm); (case zzF => k_asm); (case zzX => k_asm); (case zzN => k_asm); (case zzT => k_asm); (case zzk => first | exact rfl | assumption); (case zzhb1 => assumption); (case zzhb2 => assumption); (case zzhb3 => assumption); (case zzh4 => assumption); (case zzh16 => assumption); (case zzd => ktr_room); (case zzu => ktr_units); intro h9 tk9 F9 N9; (try dsimp only); (try k_sweep); (try k_fold)))
  k_with "call ref" => (k_here; (with_reducible show wpAny _ _ (call (Value.ref 174) _) _ _ _); k_dflt (refine' Con.useN ?zzB ?zzF ?zzX ?zzN ?zzT ?zzk (tib_zed ?zzhb1 ?zzhb2 ?zzhb3 ?zzh4 ?zzh16) ?zzd ?zzu ?_; (case zzB => k_asm); (case zzF => k_asm); (case zzX => k_asm); (case zzN => k_asm); (case zzT => k_asm); (case zzk => first | exact rfl | assumption); (case zzhb1 => assumption); (case zzhb2 => assumption); (case zzhb3 => assumption); (case zzh4 => assumption); (case zzh16 => assumption); (case zzd => ktr_room); (case zzu => ktr_units); intro h9 tk9 F9 N9; (try dsimp only); (try k_sweep); (try k_fold)))
  intro dp un gd cn cs a ccd cl outer A₀ base h₀ L m s Q E B F X N T hk hd hu hret
  w_top off
  refine wpAny_call ?_
  k_dflt ktr_enter
  k_steps
  all_goals first
    | exact hret _ [] _ _ (rint rfl) (by k_asm) (by first | k_asm | exact drop1 (by k_asm) | exact drop2 (by k_asm) | exact drop3 (by k_asm) | exact drop4 (by k_asm)) no_tl
    | trace_state
set_option maxHeartbeats 8000000 in
theorem sn_empty  {wd : Int} {bx dx : Addr} {es : List DictEntry} {n : Nat} {t tw : Tok} (hb1 : (bx, instObj 53 dx) ∈ news) (hb2 : (dx, dictOf es n) ∈ news) (hb3 : getL (Str.ofString "width") es = some (some (.int wd tw))) (h4 : 4 ≤ wd) (h16 : wd ≤ 16)  : Con w mean mg mb 167 4 [.bytes #[] t, .ref bx] news news RNone := by
  k_with_none
  k_with "eval Call Name cons nil" => (k_here; (with_reducible show wpAny _ _ (eval (PySem.Expr.Call (PySem.Expr.Name _ _) [_] [] _) _) _ _ _); k_dflt (refine' call1 ?zcF ?zcX ?zcT ?zchf ?zchk ?zca1 ?zcs ?zcx (by decide) ?_; (case zcF => k_asm); (case zcX => k_asm); (case zcT => k_asm); (case zchf => k_is); (case zchk => k_is); (case zca1 => (first | exact ArgV.int | exact ArgV.name rfl rfl (by decide) rfl)); (case zcs => rfl); (case zcx => rfl); intro t1 tk9; (try dsimp only)))
  k_with "eval Call Name cons nil" => (k_here; (with_reducible show wpAny _ _ (eval (PySem.Expr.Call (PySem.Expr.Name _ _) [_, _] [] _) _) _ _ _); k_dflt (refine' call2 ?zcF ?zcX ?zcT ?zchf ?zchk ?zca1 ?zca2 ?zcs ?zcx (by decide) ?_; (case zcF => k_asm); (case zcX => k_asm); (case zcT => k_asm); (case zchf => k_is); (case zchk => k_is); (case zca1 => (first | exact ArgV.int | exact ArgV.name rfl rfl (by decide) rfl)); (case zca2 => (first | exact ArgV.int | exact ArgV.name rfl rfl (by decide) rfl)); (case zcs => rfl); (case zcx => rfl); intro t1 t2 tk9; (try dsimp only)))
  k_with "eval Call Name cons nil" => (k_here; (with_reducible show wpAny _ _ (eval (PySem.Expr.Call (PySem.Expr.Name _ _) [_, _, _] [] _) _) _ _ _); k_dflt (refine' call3 ?zcF ?zcX ?zcT ?zchf ?zchk ?zca1 ?zca2 ?zca3 ?zcs ?zcx (by decide) ?_; (case zcF => k_asm); (case zcX => k_asm); (case zcT => k_asm); (case zchf => k_is); (case zchk => k_is); (case zca1 => (first | exact ArgV.int | exact ArgV.name rfl rfl (by decide) rfl)); (case zca2 => (first | exact ArgV.int | exact ArgV.name rfl rfl (by decide) rfl)); (case zca3 => (first | exact ArgV.int | exact ArgV.name rfl rfl (by decide) rfl)); (case zcs => rfl); (case zcx => rfl); intro t1 t2 t3 tk9; (try dsimp only)))
  k_with "eval Call Name cons nil" => (k_here; (with_reducible show wpAny _ _ (eval (PySem.Expr.Call (PySem.Expr.Name _ _) [_, _, _, _] [] _) _) _ _ _); k_dflt (refine' call4 ?zcF ?zcX ?zcT ?zchf ?zchk ?zca1 ?zca2 ?zca3 ?zca4 ?zcs ?zcx (by decide) ?_; (case zcF => k_asm); (case zcX => k_asm); (case zcT => k_asm); (case zchf => k_is); (case zchk => k_is); (case zca1 => (first | exact ArgV.int | exact ArgV.name rfl rfl (by decide) rfl)); (case zca2 => (first | exact ArgV.int | exact ArgV.name rfl rfl (by decide) rfl)); (case zca3 => (first | exact ArgV.int | exact ArgV.name rfl rfl (by decide) rfl)); (case zca4 => (first | exact ArgV.int | exact ArgV.name rfl rfl (by decide) rfl)); (case zcs => rfl); (case zcx => rfl); intro t1 t2 t3 t4 tk9; (try dsimp only)))
  k_with "getAttr ref" => (k_here; k_dflt (refine' get_own ?zzk1 ?zzk2 ?zzk3 ?zzk4 ?zzk5 ?zzk6 ?zzk7 ?zzk8 ?zzk9 ?_; (case zzk1 => k_asm); (case zzk2 => k_asm); (case zzk3 => k_inst); (case zzk4 => k_is); (case zzk5 => k_is); (case zzk6 => k_is); (case zzk7 => k_is); (case zzk8 => assumption); (case zzk9 => k_handed); k_whole))
  k_with "call ref" => (k_here; (with_reducible show wpAny _ _ (call (Value.ref 174) _) _ _ _); k_dflt (refine' Con.useI ?zzB ?zzF ?zzX ?zzN ?zzT ?zzk (tib_con ?zzhb1 ?zzhb2 ?zzhb3 ?zzh4 ?zzh16 ?zzhT ?zzh1 ?zzh2) ?zzd ?zzu ?_; (case zzB => k_asm); (case zzF => k_asm); (case zzX => k_asm); (case zzN => k_asm); (case zzT => k_asm); (case zzk => first | exact rfl | assumption); (case zzhb1 => assumption); (case zzhb2 => assumption); (case zzhb3 => assumption); (case zzh4 => assumption); (case zzh16 => assumption); (case zzhT => assumption); (case zzh1 => assumption); (case zzh2 => assumption); (case zzd => ktr_room); (case zzu => ktr_units); intro t9 h9 tk9 F9 N9; (try dsimp only); (try k_sweep); (try k_fold)))
  k_with "call ref" => (k_here; (with_reducible show wpAny _ _ (call (Value.ref 174) _) _ _ _); k_dflt (refine' Con.useN ?zzB ?zzF ?zzX ?zzN ?zzT ?zzk (tib_empty ?zzhb1 ?zzhb2 ?zzhb3 ?zzh4 ?zzh16) ?zzd ?zzu ?_; (case zzB => k_asm); (case zzF => k_asm); (case zzX => k_asm); (case zzN => k_asm); (case zzT => k_asm); (case zzk => first | exact rfl | assumption); (case zzhb1 => assumption); (case zzhb2 => assumption); (case zzhb3 => assumption); (case zzh4 => assumption); (case zzh16 => assumption); (case zzd => ktr_room); (case zzu => ktr_units); intro h9 tk9 F9 N9; (try dsimp only); (try k_sweep); (try k_fold)))
  k_with "call ref" => (k_here; (with_reducible show wpAny _ _ (call (Value.ref 174) _) _ _ _); k_dflt (refine' Con.useN ?zzB ?zzF ?zzX ?zzN ?zzT ?zzk (tib_zed ?zzhb1 ?zzhb2 ?zzhb3 ?zzh4 ?zzh16) ?zzd ?zzu ?_; (case zzB => k_asm); (case zzF => k_asm); (case zzX => k_asm); (case zzN => k_asm); (case zzT => k_asm); (case zzk => first | exact rfl | assumption); (case zzhb1 => assumption); (case zzhb2 => assumption); (case zzhb3 => assumption); (case zzh4 => assumption); (case zzh16 => assumption); (case zzd => ktr_room); (case zzu => ktr_units); intro h9 tk9 F9 N9; (try dsimp only); (try k_sweep); (try k_fold)))
  intro dp un gd cn cs a ccd cl outer A₀ base h₀ L m s Q E B F X N T hk hd hu hret
  w_top off
  refine wpAny_call ?_
  k_dflt ktr_enter
  k_steps
  all_goals first
    | exact hret _ [] _ _ rnone (by k_asm) (by first | k_asm | exact drop1 (by k_asm) | exact drop2 (by k_asm) | exact drop3 (by k_asm) | exact drop4 (by k_asm)) no_tl
    | trace_state
set_option maxHeartbeats 8000000 in
theorem sn_zed  {wd : Int} {bx dx : Addr} {es : List DictEntry} {n : Nat} {t tw : Tok} (hb1 : (bx, instObj 53 dx) ∈ news) (hb2 : (dx, dictOf es n) ∈ news) (hb3 : getL (Str.ofString "width") es = some (some (.int wd tw))) (h4 : 4 ≤ wd) (h16 : wd ≤ 16)  : Con w mean mg mb 167 4 [.bytes #[122] t, .ref bx] news news RNone := by
  k_with_none
  k_with "eval Call Name cons nil" => (k_here; (with_reducible show wpAny _ _ (eval (PySem.Expr.Call (PySem.Expr.Name _ _) [_] [] _) _) _ _ _); k_dflt (refine' call1 ?zcF ?zcX ?zcT ?zchf ?zchk ?zca1 ?zcs ?zcx (by decide) ?_; (case zcF => k_asm); (case zcX => k_asm); (case zcT => k_asm); (case zchf => k_is); (case zchk => k_is); (case zca1 => (first | exact ArgV.int | exact ArgV.name rfl rfl (by decide) rfl)); (case zcs => rfl); (case zcx => rfl); intro t1 tk9; (try dsimp only)))
  k_with "eval Call Name cons nil" => (k_here; (with_reducible show wpAny _ _ (eval (PySem.Expr.Call (PySem.Expr.Name _ _) [_, _] [] _) _) _ _ _); k_dflt (refine' call2 ?zcF ?zcX ?zcT ?zchf ?zchk ?zca1 ?zca2 ?zcs ?zcx (by decide) ?_; (case zcF => k_asm); (case zcX => k_asm); (case zcT => k_asm); (case zchf => k_is); (case zchk => k_is); (case zca1 => (first | exact ArgV.int | exact ArgV.name rfl rfl (by decide) rfl)); (case zca2 => (first | exact ArgV.int | exact ArgV.name rfl rfl (by decide) rfl)); (case zcs => rfl); (case zcx => rfl); intro t1 t2 tk9; (try dsimp only)))
  k_with "eval Call Name cons nil" => (k_here; (with_reducible show wpAny _ _ (eval (PySem.Expr.Call (PySem.Expr.Name _ _) [_, _, _] [] _) _) _ _ _); k_dflt (refine' call3 ?zcF ?zcX ?zcT ?zchf ?zchk ?zca1 ?zca2 ?zca3 ?zcs ?zcx (by decide) ?_; (case zcF => k_asm); (case zcX => k_asm); (case zcT => k_asm); (case zchf => k_is); (case zchk => k_is); (case zca1 => (first | exact ArgV.int | exact ArgV.name rfl rfl (by decide) rfl)); (case zca2 => (first | exact ArgV.int | exact ArgV.name rfl rfl (by decide) rfl)); (case zca3 => (first | exact ArgV.int | exact ArgV.name rfl rfl (by decide) rfl)); (case zcs => rfl); (case zcx => rfl); intro t1 t2 t3 tk9; (try dsimp only)))
  k_with "eval Call Name cons nil" => (k_here; (with_reducible show wpAny _ _ (eval (PySem.Expr.Call (PySem.Expr.Name _ _) [_, _, _, _] [] _) _) _ _ _); k_dflt (refine' call4 ?zcF ?zcX ?zcT ?zchf ?zchk ?zca1 ?zca2 ?zca3 ?zca4 ?zcs ?zcx (by decide) ?_; (case zcF => k_asm); (case zcX => k_asm); (case zcT => k_asm); (case zchf => k_is); (case zchk => k_is); (case zca1 => (first | exact ArgV.int | exact ArgV.name rfl rfl (by decide) rfl)); (case zca2 => (first | exact ArgV.int | exact ArgV.name rfl rfl (by decide) rfl)); (case zca3 => (first | exact ArgV.int | exact ArgV.name rfl rfl (by decide) rfl)); (case zca4 => (first | exact ArgV.int | exact ArgV.name rfl rfl (by decide) rfl)); (case zcs => rfl); (case zcx => rfl); intro t1 t2 t3 t4 tk9; (try dsimp only)))
  k_with "getAttr ref" => (k_here; k_dflt (refine' get_own ?zzk1 ?zzk2 ?zzk3 ?zzk4 ?zzk5 ?zzk6 ?zzk7 ?zzk8 ?zzk9 ?_; (case zzk1 => k_asm); (case zzk2 => k_asm); (case zzk3 => k_inst); (case zzk4 => k_is); (case zzk5 => k_is); (case zzk6 => k_is); (case zzk7 => k_is); (case zzk8 => assumption); (case zzk9 => k_handed); k_whole))
  k_with "call ref" => (k_here; (with_reducible show wpAny _ _ (call (Value.ref 174) _) _ _ _); k_dflt (refine' Con.useI ?zzB ?zzF ?zzX ?zzN ?zzT ?zzk (tib_con ?zzhb1 ?zzhb2 ?zzhb3 ?zzh4 ?zzh16 ?zzhT ?zzh1 ?zzh2) ?zzd ?zzu ?_; (case zzB => k_asm); (case zzF => k_asm); (case zzX => k_asm); (case zzN => k_asm); (case zzT => k_asm); (case zzk => first | exact rfl | assumption); (case zzhb1 => assumption); (case zzhb2 => assumption); (case zzhb3 => assumption); (case zzh4 => assumption); (case zzh16 => assumption); (case zzhT => assumption); (case zzh1 => assumption); (case zzh2 => assumption); (case zzd => ktr_room); (case zzu => ktr_units); intro t9 h9 tk9 F9 N9; (try dsimp only); (try k_sweep); (try k_fold)))
  k_with "call ref" => (k_here; (with_reducible show wpAny _ _ (call (Value.ref 174) _) _ _ _); k_dflt (refine' Con.useN ?zzB ?zzF ?zzX ?zzN ?zzT ?zzk (tib_empty ?zzhb1 ?zzhb2 ?zzhb3 ?zzh4 ?zzh16) ?zzd ?zzu ?_; (case zzB => k_asm); (case zzF => k_asm); (case zzX => k_asm); (case zzN => k_asm); (case zzT => k_asm); (case zzk => first | exact rfl | assumption); (case zzhb1 => assumption); (case zzhb2 => assumption); (case zzhb3 => assumption); (case zzh4 => assumption); (case zzh16 => assumption); (case zzd => ktr_room); (case zzu => ktr_units); intro h9 tk9 F9 N9; (try dsimp only); (try k_sweep); (try k_fold)))
  k_with "call ref" => (k_here; (with_reducible show wpAny _ _ (call (Value.ref 174) _) _ _ _); k_dflt (refine' Con.useN ?zzB ?zzF ?zzX ?zzN ?zzT ?zzk (tib_zed ?zzhb1 ?zzhb2 ?zzhb3 ?zzh4 ?zzh16) ?zzd ?zzu ?_; (case zzB => k_asm); (case zzF => k_asm); (case zzX => k_asm); (case zzN => k_asm); (case zzT => k_asm); (case zzk => first | exact rfl | assumption); (case zzhb1 => assumption); (case zzhb2 => assumption); (case zzhb3 => assumption); (case zzh4 => assumption); (case zzh16 => assumption); (case zzd => ktr_room); (case zzu => ktr_units); intro h9 tk9 F9 N9; (try dsimp only); (try k_sweep); (try k_fold)))
  intro dp un gd cn cs a ccd cl outer A₀ base h₀ L m s Q E B F X N T hk hd hu hret
  w_top off
  refine wpAny_call ?_
  k_dflt ktr_enter
  k_steps
  all_goals first
    | exact hret _ [] _ _ rnone (by k_asm) (by first | k_asm | exact drop1 (by k_asm) | exact drop2 (by k_asm) | exact drop3 (by k_asm) | exact drop4 (by k_asm)) no_tl
    | trace_state
set_option maxHeartbeats 8000000 in
theorem tn_text {l : List UInt8} {x : Int} {wd : Int} {bx dx : Addr} {es : List DictEntry} {n : Nat} {t tw : Tok} (hb1 : (bx, instObj 53 dx) ∈ news) (hb2 : (dx, dictOf es n) ∈ news) (hb3 : getL (Str.ofString "width") es = some (some (.int wd tw))) (h4 : 4 ≤ wd) (h16 : wd ≤ 16) (hT : Tells l x) (h1 : -(2 ^ (wd - 1).toNat) ≤ x) (h2 : x < 2 ^ (wd - 1).toNat) : Con w mean mg mb 181 5 [.bytes l.toArray t, .ref bx] news news (RInt x) := by
  k_with_none
  k_with "eval Call Name cons nil" => (k_here; (with_reducible show wpAny _ _ (eval (PySem.Expr.Call (PySem.Expr.Name _ _) [_] [] _) _) _ _ _); k_dflt (refine' call1 ?zcF ?zcX ?zcT ?zchf ?zchk ?zca1 ?zcs ?zcx (by decide) ?_; (case zcF => k_asm); (case zcX => k_asm); (case zcT => k_asm); (case zchf => k_is); (case zchk => k_is); (case zca1 => (first | exact ArgV.int | exact ArgV.name rfl rfl (by decide) rfl)); (case zcs => rfl); (case zcx => rfl); intro t1 tk9; (try dsimp only)))
  k_with "eval Call Name cons nil" => (k_here; (with_reducible show wpAny _ _ (eval (PySem.Expr.Call (PySem.Expr.Name _ _) [_, _] [] _) _) _ _ _); k_dflt (refine' call2 ?zcF ?zcX ?zcT ?zchf ?zchk ?zca1 ?zca2 ?zcs ?zcx (by decide) ?_; (case zcF => k_asm); (case zcX => k_asm); (case zcT => k_asm); (case zchf => k_is); (case zchk => k_is); (case zca1 => (first | exact ArgV.int | exact ArgV.name rfl rfl (by decide) rfl)); (case zca2 => (first | exact ArgV.int | exact ArgV.name rfl rfl (by decide) rfl)); (case zcs => rfl); (case zcx => rfl); intro t1 t2 tk9; (try dsimp only)))
  k_with "eval Call Name cons nil" => (k_here; (with_reducible show wpAny _ _ (eval (PySem.Expr.Call (PySem.Expr.Name _ _) [_, _, _] [] _) _) _ _ _); k_dflt (refine' call3 ?zcF ?zcX ?zcT ?zchf ?zchk ?zca1 ?zca2 ?zca3 ?zcs ?zcx (by decide) ?_; (case zcF => k_asm); (case zcX => k_asm); (case zcT => k_asm); (case zchf => k_is); (case zchk => k_is); (case zca1 => (first | exact ArgV.int | exact ArgV.name rfl rfl (by decide) rfl)); (case zca2 => (first | exact ArgV.int | exact ArgV.name rfl rfl (by decide) rfl)); (case zca3 => (first | exact ArgV.int | exact ArgV.name rfl rfl (by decide) rfl)); (case zcs => rfl); (case zcx => rfl); intro t1 t2 t3 tk9; (try dsimp only)))
  k_with "eval Call Name cons nil" => (k_here; (with_reducible show wpAny _ _ (eval (PySem.Expr.Call (PySem.Expr.Name _ _) [_, _, _, _] [] _) _) _ _ _); k_dflt (refine' call4 ?zcF ?zcX ?zcT ?zchf ?zchk ?zca1 ?zca2 ?zca3 ?zca4 ?zcs ?zcx (by decide) ?_; (case zcF => k_asm); (case zcX => k_asm); (case zcT => k_asm); (case zchf => k_is); (case zchk => k_is); (case zca1 => (first | exact ArgV.int | exact ArgV.name rfl rfl (by decide) rfl)); (case zca2 => (first | exact ArgV.int | exact ArgV.name rfl rfl (by decide) rfl)); (case zca3 => (first | exact ArgV.int | exact ArgV.name rfl rfl (by decide) rfl)); (case zca4 => (first | exact ArgV.int | exact ArgV.name rfl rfl (by decide) rfl)); (case zcs => rfl); (case zcx => rfl); intro t1 t2 t3 t4 tk9; (try dsimp only)))
  k_with "getAttr ref" => (k_here; k_dflt (refine' get_own ?zzk1 ?zzk2 ?zzk3 ?zzk4 ?zzk5 ?zzk6 ?zzk7 ?zzk8 ?zzk9 ?_; (case zzk1 => k_asm); (case zzk2 => k_asm); (case zzk3 => k_inst); (case zzk4 => k_is); (case zzk5 => k_is); (case zzk6 => k_is); (case zzk7 => k_is); (case zzk8 => assumption); (case zzk9 => k_handed); k_whole))
  k_with "call ref" => (k_here; (with_reducible show wpAny _ _ (call (Value.ref 174) _) _ _ _); k_dflt (refine' Con.useI ?zzB ?zzF ?zzX ?zzN ?zzT ?zzk (tib_con ?zzhb1 ?zzhb2 ?zzhb3 ?zzh4 ?zzh16 ?zzhT ?zzh1 ?zzh2) ?zzd ?zzu ?_; (case zzB => k_asm); (case zzF => k_asm); (case zzX => k_asm); (case zzN => k_asm); (case zzT => k_asm); (case zzk => first | exact rfl | assumption); (case zzhb1 => assumption); (case zzhb2 => assumption); (case zzhb3 => assumption); (case zzh4 => assumption); (case zzh16 => assumption); (case zzhT => assumption); (case zzh1 => assumption); (case zzh2 => assumption); (case zzd => ktr_room); (case zzu => ktr_units); intro t9 h9 tk9 F9 N9; (try dsimp only); (try k_sweep); (try k_fold)))
  k_with "call ref" => (k_here; (with_reducible show wpAny _ _ (call (Value.ref 174) _) _ _ _); k_dflt (refine' Con.useN ?zzB ?zzF ?zzX ?zzN ?zzT ?zzk (tib_empty ?zzhb1 ?zzhb2 ?zzhb3 ?zzh4 ?zzh16) ?zzd ?zzu ?_; (case zzB => k_asm); (case zzF => k_asm); (case zzX => k_asm); (case zzN => k_asm); (case zzT => k_asm); (case zzk => first | exact rfl | assumption); (case zzhb1 => assumption); (case zzhb2 => assumption); (case zzhb3 => assumption); (case zzh4 => assumption); (case zzh16 => assumption); (case zzd => ktr_room); (case zzu => ktr_units); intro h9 tk9 F9 N9; (try dsimp only); (try k_sweep); (try k_fold)))
  k_with "call ref" => (k_here; (with_reducible show wpAny _ _ (call (Value.ref 174) _) _ _ _); k_dflt (refine' Con.useN ?zzB ?zzF ?zzX ?zzN ?zzT ?zzk (tib_zed ?zzhb1 ?zzhb2 ?zzhb3 ?zzh4 ?zzh16) ?zzd ?zzu ?_; (case zzB => k_asm); (case zzF => k_asm); (case zzX => k_asm); (case zzN => k_asm); (case zzT => k_asm); (case zzk => first | exact rfl | assumption); (case zzhb1 => assumption); (case zzhb2 => assumption); (case zzhb3 => assumption); (case zzh4 => assumption); (case zzh16 => assumption); (case zzd => ktr_room); (case zzu => ktr_units); intro h9 tk9 F9 N9; (try dsimp only); (try k_sweep); (try k_fold)))
  k_with "call ref" => (k_here; (with_reducible show wpAny _ _ (call (Value.ref 167) _) _ _ _); k_dflt (refine' Con.useI ?zzB ?zzF ?zzX ?zzN ?zzT ?zzk (sn_text ?zzhb1 ?zzhb2 ?zzhb3 ?zzh4 ?zzh16 ?zzhT ?zzh1 ?zzh2) ?zzd ?zzu ?_; (case zzB => k_asm); (case zzF => k_asm); (case zzX => k_asm); (case zzN => k_asm); (case zzT => k_asm); (case zzk => first | exact rfl | assumption); (case zzhb1 => assumption); (case zzhb2 => assumption); (case zzhb3 => assumption); (case zzh4 => assumption); (case zzh16 => assumption); (case zzhT => assumption); (case zzh1 => assumption); (case zzh2 => assumption); (case zzd => ktr_room); (case zzu => ktr_units); intro t9 h9 tk9 F9 N9; (try dsimp only); (try k_sweep); (try k_fold)))
  k_with "call ref" => (k_here; (with_reducible show wpAny _ _ (call (Value.ref 167) _) _ _ _); k_dflt (refine' Con.useN ?zzB ?zzF ?zzX ?zzN ?zzT ?zzk (sn_empty ?zzhb1 ?zzhb2 ?zzhb3 ?zzh4 ?zzh16) ?zzd ?zzu ?_; (case zzB => k_asm); (case zzF => k_asm); (case zzX => k_asm); (case zzN => k_asm); (case zzT => k_asm); (case zzk => first | exact rfl | assumption); (case zzhb1 => assumption); (case zzhb2 => assumption); (case zzhb3 => assumption); (case zzh4 => assumption); (case zzh16 => assumption); (case zzd => ktr_room); (case zzu => ktr_units); intro h9 tk9 F9 N9; (try dsimp only); (try k_sweep); (try k_fold)))
  k_with "call ref" => (k_here; (with_reducible show wpAny _ _ (call (Value.ref 167) _) _ _ _); k_dflt (refine' Con.useN ?zzB ?zzF ?zzX ?zzN ?zzT ?zzk (sn_zed ?zzhb1 ?zzhb2 ?zzhb3 ?zzh4 ?zzh16) ?zzd ?zzu ?_; (case zzB => k_asm); (case zzF => k_asm); (case zzX => k_asm); (case zzN => k_asm); (case zzT => k_asm); (case zzk => first | exact rfl | assumption); (case zzhb1 => assumption); (case zzhb2 => assumption); (case zzhb3 => assumption); (case zzh4 => assumption); (case zzh16 => assumption); (case zzd => ktr_room); (case zzu => ktr_units); intro h9 tk9 F9 N9; (try dsimp only); (try k_sweep); (try k_fold)))
  k_with "call ref" => (k_here; (with_reducible show wpAny _ _ (call (Value.ref 104) _) _ _ _); k_dflt (refine' Con.useB ?zzB ?zzF ?zzX ?zzN ?zzT ?zzk (isnum_int ) ?zzd ?zzu ?_; (case zzB => k_asm); (case zzF => k_asm); (case zzX => k_asm); (case zzN => k_asm); (case zzT => k_asm); (case zzk => first | exact rfl | assumption);  (case zzd => ktr_room); (case zzu => ktr_units); intro h9 tk9 F9 N9; (try dsimp only); (try k_sweep); (try k_fold)))
  k_with "call ref" => (k_here; (with_reducible show wpAny _ _ (call (Value.ref 104) _) _ _ _); k_dflt (refine' Con.useB ?zzB ?zzF ?zzX ?zzN ?zzT ?zzk (isnum_bool ) ?zzd ?zzu ?_; (case zzB => k_asm); (case zzF => k_asm); (case zzX => k_asm); (case zzN => k_asm); (case zzT => k_asm); (case zzk => first | exact rfl | assumption);  (case zzd => ktr_room); (case zzu => ktr_units); intro h9 tk9 F9 N9; (try dsimp only); (try k_sweep); (try k_fold)))
  k_with "call ref" => (k_here; (with_reducible show wpAny _ _ (call (Value.ref 104) _) _ _ _); k_dflt (refine' Con.useB ?zzB ?zzF ?zzX ?zzN ?zzT ?zzk (isnum_none ) ?zzd ?zzu ?_; (case zzB => k_asm); (case zzF => k_asm); (case zzX => k_asm); (case zzN => k_asm); (case zzT => k_asm); (case zzk => first | exact rfl | assumption);  (case zzd => ktr_room); (case zzu => ktr_units); intro h9 tk9 F9 N9; (try dsimp only); (try k_sweep); (try k_fold)))
  k_with "call ref" => (k_here; (with_reducible show wpAny _ _ (call (Value.ref 104) _) _ _ _); k_dflt (refine' Con.useB ?zzB ?zzF ?zzX ?zzN ?zzT ?zzk (isnum_bytes ) ?zzd ?zzu ?_; (case zzB => k_asm); (case zzF => k_asm); (case zzX => k_asm); (case zzN => k_asm); (case zzT => k_asm); (case zzk => first | exact rfl | assumption);  (case zzd => ktr_room); (case zzu => ktr_units); intro h9 tk9 F9 N9; (try dsimp only); (try k_sweep); (try k_fold)))
  intro dp un gd cn cs a ccd cl outer A₀ base h₀ L m s Q E B F X N T hk hd hu hret
  w_top off
  refine wpAny_call ?_
  k_dflt ktr_enter
  k_steps
  all_goals first
    | exact hret _ [] _ _ (rint rfl) (by k_asm) (by first | k_asm | exact drop1 (by k_asm) | exact drop2 (by k_asm) | exact drop3 (by k_asm) | exact drop4 (by k_asm)) no_tl
    | trace_state
set_option maxHeartbeats 8000000 in
theorem tn_empty  {wd : Int} {bx dx : Addr} {es : List DictEntry} {n : Nat} {t tw : Tok} (hb1 : (bx, instObj 53 dx) ∈ news) (hb2 : (dx, dictOf es n) ∈ news) (hb3 : getL (Str.ofString "width") es = some (some (.int wd tw))) (h4 : 4 ≤ wd) (h16 : wd ≤ 16)  : Con w mean mg mb 181 5 [.bytes #[] t, .ref bx] news news RNone := by
  k_with_none
  k_with "eval Call Name cons nil" => (k_here; (with_reducible show wpAny _ _ (eval (PySem.Expr.Call (PySem.Expr.Name _ _) [_] [] _) _) _ _ _); k_dflt (refine' call1 ?zcF ?zcX ?zcT ?zchf ?zchk ?zca1 ?zcs ?zcx (by decide) ?_; (case zcF => k_asm); (case zcX => k_asm); (case zcT => k_asm); (case zchf => k_is); (case zchk => k_is); (case zca1 => (first | exact ArgV.int | exact ArgV.name rfl rfl (by decide) rfl)); (case zcs => rfl); (case zcx => rfl); intro t1 tk9; (try dsimp only)))
  k_with "eval Call Name cons nil" => (k_here; (with_reducible show wpAny _ _ (eval (PySem.Expr.Call (PySem.Expr.Name _ _) [_, _] [] _) _) _ _ _); k_dflt (refine' call2 ?zcF ?zcX ?zcT ?zchf ?zchk ?zca1 ?zca2 ?zcs ?zcx (by decide) ?_; (case zcF => k_asm); (case zcX => k_asm); (case zcT => k_asm); (case zchf => k_is); (case zchk => k_is); (case zca1 => (first | exact ArgV.int | exact ArgV.name rfl rfl (by decide) rfl)); (case zca2 => (first | exact ArgV.int | exact ArgV.name rfl rfl (by decide) rfl)); (case zcs => rfl); (case zcx => rfl); intro t1 t2 tk9; (try dsimp only)))
  k_with "eval Call Name cons nil" => (k_here; (with_reducible show wpAny _ _ (eval (PySem.Expr.Call (PySem.Expr.Name _ _) [_, _, _] [] _) _) _ _ _); k_dflt (refine' call3 ?zcF ?zcX ?zcT ?zchf ?zchk ?zca1 ?zca2 ?zca3 ?zcs ?zcx (by decide) ?_; (case zcF => k_asm); (case zcX => k_asm); (case zcT => k_asm); (case zchf => k_is); (case zchk => k_is); (case zca1 => (first | exact ArgV.int | exact ArgV.name rfl rfl (by decide) rfl)); (case zca2 => (first | exact ArgV.int | exact ArgV.name rfl rfl (by decide) rfl)); (case zca3 => (first | exact ArgV.int | exact ArgV.name rfl rfl (by decide) rfl)); (case zcs => rfl); (case zcx => rfl); intro t1 t2 t3 tk9; (try dsimp only)))
  k_with "eval Call Name cons nil" => (k_here; (with_reducible show wpAny _ _ (eval (PySem.Expr.Call (PySem.Expr.Name _ _) [_, _, _, _] [] _) _) _ _ _); k_dflt (refine' call4 ?zcF ?zcX ?zcT ?zchf ?zchk ?zca1 ?zca2 ?zca3 ?zca4 ?zcs ?zcx (by decide) ?_; (case zcF => k_asm); (case zcX => k_asm); (case zcT => k_asm); (case zchf => k_is); (case zchk => k_is); (case zca1 => (first | exact ArgV.int | exact ArgV.name rfl rfl (by decide) rfl)); (case zca2 => (first | exact ArgV.int | exact ArgV.name rfl rfl (by decide) rfl)); (case zca3 => (first | exact ArgV.int | exact ArgV.name rfl rfl (by decide) rfl)); (case zca4 => (first | exact ArgV.int | exact ArgV.name rfl rfl (by decide) rfl)); (case zcs => rfl); (case zcx => rfl); intro t1 t2 t3 t4 tk9; (try dsimp only)))
  k_with "getAttr ref" => (k_here; k_dflt (refine' get_own ?zzk1 ?zzk2 ?zzk3 ?zzk4 ?zzk5 ?zzk6 ?zzk7 ?zzk8 ?zzk9 ?_; (case zzk1 => k_asm); (case zzk2 => k_asm); (case zzk3 => k_inst); (case zzk4 => k_is); (case zzk5 => k_is); (case zzk6 => k_is); (case zzk7 => k_is); (case zzk8 => assumption); (case zzk9 => k_handed); k_whole))
  k_with "call ref" => (k_here; (with_reducible show wpAny _ _ (call (Value.ref 174) _) _ _ _); k_dflt (refine' Con.useI ?zzB ?zzF ?zzX ?zzN ?zzT ?zzk (tib_con ?zzhb1 ?zzhb2 ?zzhb3 ?zzh4 ?zzh16 ?zzhT ?zzh1 ?zzh2) ?zzd ?zzu ?_; (case zzB => k_asm); (case zzF => k_asm); (case zzX => k_asm); (case zzN => k_asm); (case zzT => k_asm); (case zzk => first | exact rfl | assumption); (case zzhb1 => assumption); (case zzhb2 => assumption); (case zzhb3 => assumption); (case zzh4 => assumption); (case zzh16 => assumption); (case zzhT => assumption); (case zzh1 => assumption); (case zzh2 => assumption); (case zzd => ktr_room); (case zzu => ktr_units); intro t9 h9 tk9 F9 N9; (try dsimp only); (try k_sweep); (try k_fold)))
  k_with "call ref" => (k_here; (with_reducible show wpAny _ _ (call (Value.ref 174) _) _ _ _); k_dflt (refine' Con.useN ?zzB ?zzF ?zzX ?zzN ?zzT ?zzk (tib_empty ?zzhb1 ?zzhb2 ?zzhb3 ?zzh4 ?zzh16) ?zzd ?zzu ?_; (case zzB => k_asm); (case zzF => k_asm); (case zzX => k_asm); (case zzN => k_asm); (case zzT => k_asm); (case zzk => first | exact rfl | assumption); (case zzhb1 => assumption); (case zzhb2 => assumption); (case zzhb3 => assumption); (case zzh4 => assumption); (case zzh16 => assumption); (case zzd => ktr_room); (case zzu => ktr_units); intro h9 tk9 F9 N9; (try dsimp only); (try k_sweep); (try k_fold)))
  k_with "call ref" => (k_here; (with_reducible show wpAny _ _ (call (Value.ref 174) _) _ _ _); k_dflt (refine' Con.useN ?zzB ?zzF ?zzX ?zzN ?zzT ?zzk (tib_zed ?zzhb1 ?zzhb2 ?zzhb3 ?zzh4 ?zzh16) ?zzd ?zzu ?_; (case zzB => k_asm); (case zzF => k_asm); (case zzX => k_asm); (case zzN => k_asm); (case zzT => k_asm); (case zzk => first | exact rfl | assumption); (case zzhb1 => assumption); (case zzhb2 => assumption); (case zzhb3 => assumption); (case zzh4 => assumption); (case zzh16 => assumption); (case zzd => ktr_room); (case zzu => ktr_units); intro h9 tk9 F9 N9; (try dsimp only); (try k_sweep); (try k_fold)))
  k_with "call ref" => (k_here; (with_reducible show wpAny _ _ (call (Value.ref 167) _) _ _ _); k_dflt (refine' Con.useI ?zzB ?zzF ?zzX ?zzN ?zzT ?zzk (sn_text ?zzhb1 ?zzhb2 ?zzhb3 ?zzh4 ?zzh16 ?zzhT ?zzh1 ?zzh2) ?zzd ?zzu ?_; (case zzB => k_asm); (case zzF => k_asm); (case zzX => k_asm); (case zzN => k_asm); (case zzT => k_asm); (case zzk => first | exact rfl | assumption); (case zzhb1 => assumption); (case zzhb2 => assumption); (case zzhb3 => assumption); (case zzh4 => assumption); (case zzh16 => assumption); (case zzhT => assumption); (case zzh1 => assumption); (case zzh2 => assumption); (case zzd => ktr_room); (case zzu => ktr_units); intro t9 h9 tk9 F9 N9; (try dsimp only); (try k_sweep); (try k_fold)))
  k_with "call ref" => (k_here; (with_reducible show wpAny _ _ (call (Value.ref 167) _) _ _ _); k_dflt (refine' Con.useN ?zzB ?zzF ?zzX ?zzN ?zzT ?zzk (sn_empty ?zzhb1 ?zzhb2 ?zzhb3 ?zzh4 ?zzh16) ?zzd ?zzu ?_; (case zzB => k_asm); (case zzF => k_asm); (case zzX => k_asm); (case zzN => k_asm); (case zzT => k_asm); (case zzk => first | exact rfl | assumption); (case zzhb1 => assumption); (case zzhb2 => assumption); (case zzhb3 => assumption); (case zzh4 => assumption); (case zzh16 => assumption); (case zzd => ktr_room); (case zzu => ktr_units); intro h9 tk9 F9 N9; (try dsimp only); (try k_sweep); (try k_fold)))
  k_with "call ref" => (k_here; (with_reducible show wpAny _ _ (call (Value.ref 167) _) _ _ _); k_dflt (refine' Con.useN ?zzB ?zzF ?zzX ?zzN ?zzT ?zzk (sn_zed ?zzhb1 ?zzhb2 ?zzhb3 ?zzh4 ?zzh16) ?zzd ?zzu ?_; (case zzB => k_asm); (case zzF => k_asm); (case zzX => k_asm); (case zzN => k_asm); (case zzT => k_asm); (case zzk => first | exact rfl | assumption); (case zzhb1 => assumption); (case zzhb2 => assumption); (case zzhb3 => assumption); (case zzh4 => assumption); (case zzh16 => assumption); (case zzd => ktr_room); (case zzu => ktr_units); intro h9 tk9 F9 N9; (try dsimp only); (try k_sweep); (try k_fold)))
  k_with "call ref" => (k_here; (with_reducible show wpAny _ _ (call (Value.ref 104) _) _ _ _); k_dflt (refine' Con.useB ?zzB ?zzF ?zzX ?zzN ?zzT ?zzk (isnum_int ) ?zzd ?zzu ?_; (case zzB => k_asm); (case zzF => k_asm); (case zzX => k_asm); (case zzN => k_asm); (case zzT => k_asm); (case zzk => first | exact rfl | assumption);  (case zzd => ktr_room); (case zzu => ktr_units); intro h9 tk9 F9 N9; (try dsimp only); (try k_sweep); (try k_fold)))
  k_with "call ref" => (k_here; (with_reducible show wpAny _ _ (call (Value.ref 104) _) _ _ _); k_dflt (refine' Con.useB ?zzB ?zzF ?zzX ?zzN ?zzT ?zzk (isnum_bool ) ?zzd ?zzu ?_; (case zzB => k_asm); (case zzF => k_asm); (case zzX => k_asm); (case zzN => k_asm); (case zzT => k_asm); (case zzk => first | exact rfl | assumption);  (case zzd => ktr_room); (case zzu => ktr_units); intro h9 tk9 F9 N9; (try dsimp only); (try k_sweep); (try k_fold)))
  k_with "call ref" => (k_here; (with_reducible show wpAny _ _ (call (Value.ref 104) _) _ _ _); k_dflt (refine' Con.useB ?zzB ?zzF ?zzX ?zzN ?zzT ?zzk (isnum_none ) ?zzd ?zzu ?_; (case zzB => k_asm); (case zzF => k_asm); (case zzX => k_asm); (case zzN => k_asm); (case zzT => k_asm); (case zzk => first | exact rfl | assumption);  (case zzd => ktr_room); (case zzu => ktr_units); intro h9 tk9 F9 N9; (try dsimp only); (try k_sweep); (try k_fold)))
  k_with "call ref" => (k_here; (with_reducible show wpAny _ _ (call (Value.ref 104) _) _ _ _); k_dflt (refine' Con.useB ?zzB ?zzF ?zzX ?zzN ?zzT ?zzk (isnum_bytes ) ?zzd ?zzu ?_; (case zzB => k_asm); (case zzF => k_asm); (case zzX => k_asm); (case zzN => k_asm); (case zzT => k_asm); (case zzk => first | exact rfl | assumption);  (case zzd => ktr_room); (case zzu => ktr_units); intro h9 tk9 F9 N9; (try dsimp only); (try k_sweep); (try k_fold)))
  intro dp un gd cn cs a ccd cl outer A₀ base h₀ L m s Q E B F X N T hk hd hu hret
  w_top off
  refine wpAny_call ?_
  k_dflt ktr_enter
  k_steps
  all_goals first
    | exact hret _ [] _ _ rnone (by k_asm) (by first | k_asm | exact drop1 (by k_asm) | exact drop2 (by k_asm) | exact drop3 (by k_asm) | exact drop4 (by k_asm)) no_tl
    | trace_state
set_option maxHeartbeats 8000000 in
theorem tn_zed  {wd : Int} {bx dx : Addr} {es : List DictEntry} {n : Nat} {t tw : Tok} (hb1 : (bx, instObj 53 dx) ∈ news) (hb2 : (dx, dictOf es n) ∈ news) (hb3 : getL (Str.ofString "width") es = some (some (.int wd tw))) (h4 : 4 ≤ wd) (h16 : wd ≤ 16)  : Con w mean mg mb 181 5 [.bytes #[122] t, .ref bx] news news RNone := by
  k_with_none
  k_with "eval Call Name cons nil" => (k_here; (with_reducible show wpAny _ _ (eval (PySem.Expr.Call (PySem.Expr.Name _ _) [_] [] _) _) _ _ _); k_dflt (refine' call1 ?zcF ?zcX ?zcT ?zchf ?zchk ?zca1 ?zcs ?zcx (by decide) ?_; (case zcF => k_asm); (case zcX => k_asm); (case zcT => k_asm); (case zchf => k_is); (case zchk => k_is); (case zca1 => (first | exact ArgV.int | exact ArgV.name rfl rfl (by decide) rfl)); (case zcs => rfl); (case zcx => rfl); intro t1 tk9; (try dsimp only)))
  k_with "eval Call Name cons nil" => (k_here; (with_reducible show wpAny _ _ (eval (PySem.Expr.Call (PySem.Expr.Name _ _) [_, _] [] _) _) _ _ _); k_dflt (refine' call2 ?zcF ?zcX ?zcT ?zchf ?zchk ?zca1 ?zca2 ?zcs ?zcx (by decide) ?_; (case zcF => k_asm); (case zcX => k_asm); (case zcT => k_asm); (case zchf => k_is); (case zchk => k_is); (case zca1 => (first | exact ArgV.int | exact ArgV.name rfl rfl (by decide) rfl)); (case zca2 => (first | exact ArgV.int | exact ArgV.name rfl rfl (by decide) rfl)); (case zcs => rfl); (case zcx => rfl); intro t1 t2 tk9; (try dsimp only)))
  k_with "eval Call Name cons nil" => (k_here; (with_reducible show wpAny _ _ (eval (PySem.Expr.Call (PySem.Expr.Name _ _) [_, _, _] [] _) _) _ _ _); k_dflt (refine' call3 ?zcF ?zcX ?zcT ?zchf ?zchk ?zca1 ?zca2 ?zca3 ?zcs ?zcx (by decide) ?_; (case zcF => k_asm); (case zcX => k_asm); (case zcT => k_asm); (case zchf => k_is); (case zchk => k_is); (case zca1 => (first | exact ArgV.int | exact ArgV.name rfl rfl (by decide) rfl)); (case zca2 => (first | exact ArgV.int | exact ArgV.name rfl rfl (by decide) rfl)); (case zca3 => (first | exact ArgV.int | exact ArgV.name rfl rfl (by decide) rfl)); (case zcs => rfl); (case zcx => rfl); intro t1 t2 t3 tk9; (try dsimp only)))
  k_with "eval Call Name cons nil" => (k_here; (with_reducible show wpAny _ _ (eval (PySem.Expr.Call (PySem.Expr.Name _ _) [_, _, _, _] [] _) _) _ _ _); k_dflt (refine' call4 ?zcF ?zcX ?zcT ?zchf ?zchk ?zca1 ?zca2 ?zca3 ?zca4 ?zcs ?zcx (by decide) ?_; (case zcF => k_asm); (case zcX => k_asm); (case zcT => k_asm); (case zchf => k_is); (case zchk => k_is); (case zca1 => (first | exact ArgV.int | exact ArgV.name rfl rfl (by decide) rfl)); (case zca2 => (first | exact ArgV.int | exact ArgV.name rfl rfl (by decide) rfl)); (case zca3 => (first | exact ArgV.int | exact ArgV.name rfl rfl (by decide) rfl)); (case zca4 => (first | exact ArgV.int | exact ArgV.name rfl rfl (by decide) rfl)); (case zcs => rfl); (case zcx => rfl); intro t1 t2 t3 t4 tk9; (try dsimp only)))
  k_with "getAttr ref" => (k_here; k_dflt (refine' get_own ?zzk1 ?zzk2 ?zzk3 ?zzk4 ?zzk5 ?zzk6 ?zzk7 ?zzk8 ?zzk9 ?_; (case zzk1 => k_asm); (case zzk2 => k_asm); (case zzk3 => k_inst); (case zzk4 => k_is); (case zzk5 => k_is); (case zzk6 => k_is); (case zzk7 => k_is); (case zzk8 => assumption); (case zzk9 => k_handed); k_whole))
  k_with "call ref" => (k_here; (with_reducible show wpAny _ _ (call (Value.ref 174) _) _ _ _); k_dflt (refine' Con.useI ?zzB ?zzF ?zzX ?zzN ?zzT ?zzk (tib_con ?zzhb1 ?zzhb2 ?zzhb3 ?zzh4 ?zzh16 ?zzhT ?zzh1 ?zzh2) ?zzd ?zzu ?_; (case zzB => k_asm); (case zzF => k_asm); (case zzX => k_asm); (case zzN => k_asm); (case zzT => k_asm); (case zzk => first | exact rfl | assumption); (case zzhb1 => assumption); (case zzhb2 => assumption); (case zzhb3 => assumption); (case zzh4 => assumption); (case zzh16 => assumption); (case zzhT => assumption); (case zzh1 => assumption); (case zzh2 => assumption); (case zzd => ktr_room); (case zzu => ktr_units); intro t9 h9 tk9 F9 N9; (try dsimp only); (try k_sweep); (try k_fold)))
  k_with "call ref" => (k_here; (with_reducible show wpAny _ _ (call (Value.ref 174) _) _ _ _); k_dflt (refine' Con.useN ?zzB ?zzF ?zzX ?zzN ?zzT ?zzk (tib_empty ?zzhb1 ?zzhb2 ?zzhb3 ?zzh4 ?zzh16) ?zzd ?zzu ?_; (case zzB => k_asm); (case zzF => k_asm); (case zzX => k_asm); (case zzN => k_asm); (case zzT => k_asm); (case zzk => first | exact rfl | assumption); (case zzhb1 => assumption); (case zzhb2 => assumption); (case zzhb3 => assumption); (case zzh4 => assumption); (case zzh16 => assumption); (case zzd => ktr_room); (case zzu => ktr_units); intro h9 tk9 F9 N9; (try dsimp only); (try k_sweep); (try k_fold)))
  k_with "call ref" => (k_here; (with_reducible show wpAny _ _ (call (Value.ref 174) _) _ _ _); k_dflt (refine' Con.useN ?zzB ?zzF ?zzX ?zzN ?zzT ?zzk (tib_zed ?zzhb1 ?zzhb2 ?zzhb3 ?zzh4 ?zzh16) ?zzd ?zzu ?_; (case zzB => k_asm); (case zzF => k_asm); (case zzX => k_asm); (case zzN => k_asm); (case zzT => k_asm); (case zzk => first | exact rfl | assumption); (case zzhb1 => assumption); (case zzhb2 => assumption); (case zzhb3 => assumption); (case zzh4 => assumption); (case zzh16 => assumption); (case zzd => ktr_room); (case zzu => ktr_units); intro h9 tk9 F9 N9; (try dsimp only); (try k_sweep); (try k_fold)))
  k_with "call ref" => (k_here; (with_reducible show wpAny _ _ (call (Value.ref 167) _) _ _ _); k_dflt (refine' Con.useI ?zzB ?zzF ?zzX ?zzN ?zzT ?zzk (sn_text ?zzhb1 ?zzhb2 ?zzhb3 ?zzh4 ?zzh16 ?zzhT ?zzh1 ?zzh2) ?zzd ?zzu ?_; (case zzB => k_asm); (case zzF => k_asm); (case zzX => k_asm); (case zzN => k_asm); (case zzT => k_asm); (case zzk => first | exact rfl | assumption); (case zzhb1 => assumption); (case zzhb2 => assumption); (case zzhb3 => assumption); (case zzh4 => assumption); (case zzh16 => assumption); (case zzhT => assumption); (case zzh1 => assumption); (case zzh2 => assumption); (case zzd => ktr_room); (case zzu => ktr_units); intro t9 h9 tk9 F9 N9; (try dsimp only); (try k_sweep); (try k_fold)))
  k_with "call ref" => (k_here; (with_reducible show wpAny _ _ (call (Value.ref 167) _) _ _ _); k_dflt (refine' Con.useN ?zzB ?zzF ?zzX ?zzN ?zzT ?zzk (sn_empty ?zzhb1 ?zzhb2 ?zzhb3 ?zzh4 ?zzh16) ?zzd ?zzu ?_; (case zzB => k_asm); (case zzF => k_asm); (case zzX => k_asm); (case zzN => k_asm); (case zzT => k_asm); (case zzk => first | exact rfl | assumption); (case zzhb1 => assumption); (case zzhb2 => assumption); (case zzhb3 => assumption); (case zzh4 => assumption); (case zzh16 => assumption); (case zzd => ktr_room); (case zzu => ktr_units); intro h9 tk9 F9 N9; (try dsimp only); (try k_sweep); (try k_fold)))
  k_with "call ref" => (k_here; (with_reducible show wpAny _ _ (call (Value.ref 167) _) _ _ _); k_dflt (refine' Con.useN ?zzB ?zzF ?zzX ?zzN ?zzT ?zzk (sn_zed ?zzhb1 ?zzhb2 ?zzhb3 ?zzh4 ?zzh16) ?zzd ?zzu ?_; (case zzB => k_asm); (case zzF => k_asm); (case zzX => k_asm); (case zzN => k_asm); (case zzT => k_asm); (case zzk => first | exact rfl | assumption); (case zzhb1 => assumption); (case zzhb2 => assumption); (case zzhb3 => assumption); (case zzh4 => assumption); (case zzh16 => assumption); (case zzd => ktr_room); (case zzu => ktr_units); intro h9 tk9 F9 N9; (try dsimp only); (try k_sweep); (try k_fold)))
  k_with "call ref" => (k_here; (with_reducible show wpAny _ _ (call (Value.ref 104) _) _ _ _); k_dflt (refine' Con.useB ?zzB ?zzF ?zzX ?zzN ?zzT ?zzk (isnum_int ) ?zzd ?zzu ?_; (case zzB => k_asm); (case zzF => k_asm); (case zzX => k_asm); (case zzN => k_asm); (case zzT => k_asm); (case zzk => first | exact rfl | assumption);  (case zzd => ktr_room); (case zzu => ktr_units); intro h9 tk9 F9 N9; (try dsimp only); (try k_sweep); (try k_fold)))
  k_with "call ref" => (k_here; (with_reducible show wpAny _ _ (call (Value.ref 104) _) _ _ _); k_dflt (refine' Con.useB ?zzB ?zzF ?zzX ?zzN ?zzT ?zzk (isnum_bool ) ?zzd ?zzu ?_; (case zzB => k_asm); (case zzF => k_asm); (case zzX => k_asm); (case zzN => k_asm); (case zzT => k_asm); (case zzk => first | exact rfl | assumption);  (case zzd => ktr_room); (case zzu => ktr_units); intro h9 tk9 F9 N9; (try dsimp only); (try k_sweep); (try k_fold)))
  k_with "call ref" => (k_here; (with_reducible show wpAny _ _ (call (Value.ref 104) _) _ _ _); k_dflt (refine' Con.useB ?zzB ?zzF ?zzX ?zzN ?zzT ?zzk (isnum_none ) ?zzd ?zzu ?_; (case zzB => k_asm); (case zzF => k_asm); (case zzX => k_asm); (case zzN => k_asm); (case zzT => k_asm); (case zzk => first | exact rfl | assumption);  (case zzd => ktr_room); (case zzu => ktr_units); intro h9 tk9 F9 N9; (try dsimp only); (try k_sweep); (try k_fold)))
  k_with "call ref" => (k_here; (with_reducible show wpAny _ _ (call (Value.ref 104) _) _ _ _); k_dflt (refine' Con.useB ?zzB ?zzF ?zzX ?zzN ?zzT ?zzk (isnum_bytes ) ?zzd ?zzu ?_; (case zzB => k_asm); (case zzF => k_asm); (case zzX => k_asm); (case zzN => k_asm); (case zzT => k_asm); (case zzk => first | exact rfl | assumption);  (case zzd => ktr_room); (case zzu => ktr_units); intro h9 tk9 F9 N9; (try dsimp only); (try k_sweep); (try k_fold)))
  intro dp un gd cn cs a ccd cl outer A₀ base h₀ L m s Q E B F X N T hk hd hu hret
  w_top off
  refine wpAny_call ?_
  k_dflt ktr_enter
  k_steps
  all_goals first
    | exact hret _ [] _ _ rnone (by k_asm) (by first | k_asm | exact drop1 (by k_asm) | exact drop2 (by k_asm) | exact drop3 (by k_asm) | exact drop4 (by k_asm)) no_tl
    | trace_state
set_option maxHeartbeats 8000000 in
theorem tn_int {x : Int} {wd : Int} {bx dx : Addr} {es : List DictEntry} {n : Nat} {t tw : Tok} (hb1 : (bx, instObj 53 dx) ∈ news) (hb2 : (dx, dictOf es n) ∈ news) (hb3 : getL (Str.ofString "width") es = some (some (.int wd tw))) (h4 : 4 ≤ wd) (h16 : wd ≤ 16)  : Con w mean mg mb 181 5 [.int x t, .ref bx] news news (RInt x) := by
  k_with_none
  k_with "eval Call Name cons nil" => (k_here; (with_reducible show wpAny _ _ (eval (PySem.Expr.Call (PySem.Expr.Name _ _) [_] [] _) _) _ _ _); k_dflt (refine' call1 ?zcF ?zcX ?zcT ?zchf ?zchk ?zca1 ?zcs ?zcx (by decide) ?_; (case zcF => k_asm); (case zcX => k_asm); (case zcT => k_asm); (case zchf => k_is); (case zchk => k_is); (case zca1 => (first | exact ArgV.int | exact ArgV.name rfl rfl (by decide) rfl)); (case zcs => rfl); (case zcx => rfl); intro t1 tk9; (try dsimp only)))
  k_with "eval Call Name cons nil" => (k_here; (with_reducible show wpAny _ _ (eval (PySem.Expr.Call (PySem.Expr.Name _ _) [_, _] [] _) _) _ _ _); k_dflt (refine' call2 ?zcF ?zcX ?zcT ?zchf ?zchk ?zca1 ?zca2 ?zcs ?zcx (by decide) ?_; (case zcF => k_asm); (case zcX => k_asm); (case zcT => k_asm); (case zchf => k_is); (case zchk => k_is); (case zca1 => (first | exact ArgV.int | exact ArgV.name rfl rfl (by decide) rfl)); (case zca2 => (first | exact ArgV.int | exact ArgV.name rfl rfl (by decide) rfl)); (case zcs => rfl); (case zcx => rfl); intro t1 t2 tk9; (try dsimp only)))
  k_with "eval Call Name cons nil" => (k_here; (with_reducible show wpAny _ _ (eval (PySem.Expr.Call (PySem.Expr.Name _ _) [_, _, _] [] _) _) _ _ _); k_dflt (refine' call3 ?zcF ?zcX ?zcT ?zchf ?zchk ?zca1 ?zca2 ?zca3 ?zcs ?zcx (by decide) ?_; (case zcF => k_asm); (case zcX => k_asm); (case zcT => k_asm); (case zchf => k_is); (case zchk => k_is); (case zca1 => (first | exact ArgV.int | exact ArgV.name rfl rfl (by decide) rfl)); (case zca2 => (first | exact ArgV.int | exact ArgV.name rfl rfl (by decide) rfl)); (case zca3 => (first | exact ArgV.int | exact ArgV.name rfl rfl (by decide) rfl)); (case zcs => rfl); (case zcx => rfl); intro t1 t2 t3 tk9; (try dsimp only)))
  k_with "eval Call Name cons nil" => (k_here; (with_reducible show wpAny _ _ (eval (PySem.Expr.Call (PySem.Expr.Name _ _) [_, _, _, _] [] _) _) _ _ _); k_dflt (refine' call4 ?zcF ?zcX ?zcT ?zchf ?zchk ?zca1 ?zca2 ?zca3 ?zca4 ?zcs ?zcx (by decide) ?_; (case zcF => k_asm); (case zcX => k_asm); (case zcT => k_asm); (case zchf => k_is); (case zchk => k_is); (case zca1 => (first | exact ArgV.int | exact ArgV.name rfl rfl (by decide) rfl)); (case zca2 => (first | exact ArgV.int | exact ArgV.name rfl rfl (by decide) rfl)); (case zca3 => (first | exact ArgV.int | exact ArgV.name rfl rfl (by decide) rfl)); (case zca4 => (first | exact ArgV.int | exact ArgV.name rfl rfl (by decide) rfl)); (case zcs => rfl); (case zcx => rfl); intro t1 t2 t3 t4 tk9; (try dsimp only)))
  k_with "getAttr ref" => (k_here; k_dflt (refine' get_own ?zzk1 ?zzk2 ?zzk3 ?zzk4 ?zzk5 ?zzk6 ?zzk7 ?zzk8 ?zzk9 ?_; (case zzk1 => k_asm); (case zzk2 => k_asm); (case zzk3 => k_inst); (case zzk4 => k_is); (case zzk5 => k_is); (case zzk6 => k_is); (case zzk7 => k_is); (case zzk8 => assumption); (case zzk9 => k_handed); k_whole))
  k_with "call ref" => (k_here; (with_reducible show wpAny _ _ (call (Value.ref 174) _) _ _ _); k_dflt (refine' Con.useI ?zzB ?zzF ?zzX ?zzN ?zzT ?zzk (tib_con ?zzhb1 ?zzhb2 ?zzhb3 ?zzh4 ?zzh16 ?zzhT ?zzh1 ?zzh2) ?zzd ?zzu ?_; (case zzB => k_asm); (case zzF => k_asm); (case zzX => k_asm); (case zzN => k_asm); (case zzT => k_asm); (case zzk => first | exact rfl | assumption); (case zzhb1 => assumption); (case zzhb2 => assumption); (case zzhb3 => assumption); (case zzh4 => assumption); (case zzh16 => assumption); (case zzhT => assumption); (case zzh1 => assumption); (case zzh2 => assumption); (case zzd => ktr_room); (case zzu => ktr_units); intro t9 h9 tk9 F9 N9; (try dsimp only); (try k_sweep); (try k_fold)))
  k_with "call ref" => (k_here; (with_reducible show wpAny _ _ (call (Value.ref 174) _) _ _ _); k_dflt (refine' Con.useN ?zzB ?zzF ?zzX ?zzN ?zzT ?zzk (tib_empty ?zzhb1 ?zzhb2 ?zzhb3 ?zzh4 ?zzh16) ?zzd ?zzu ?_; (case zzB => k_asm); (case zzF => k_asm); (case zzX => k_asm); (case zzN => k_asm); (case zzT => k_asm); (case zzk => first | exact rfl | assumption); (case zzhb1 => assumption); (case zzhb2 => assumption); (case zzhb3 => assumption); (case zzh4 => assumption); (case zzh16 => assumption); (case zzd => ktr_room); (case zzu => ktr_units); intro h9 tk9 F9 N9; (try dsimp only); (try k_sweep); (try k_fold)))
  k_with "call ref" => (k_here; (with_reducible show wpAny _ _ (call (Value.ref 174) _) _ _ _); k_dflt (refine' Con.useN ?zzB ?zzF ?zzX ?zzN ?zzT ?zzk (tib_zed ?zzhb1 ?zzhb2 ?zzhb3 ?zzh4 ?zzh16) ?zzd ?zzu ?_; (case zzB => k_asm); (case zzF => k_asm); (case zzX => k_asm); (case zzN => k_asm); (case zzT => k_asm); (case zzk => first | exact rfl | assumption); (case zzhb1 => assumption); (case zzhb2 => assumption); (case zzhb3 => assumption); (case zzh4 => assumption); (case zzh16 => assumption); (case zzd => ktr_room); (case zzu => ktr_units); intro h9 tk9 F9 N9; (try dsimp only); (try k_sweep); (try k_fold)))
  k_with "call ref" => (k_here; (with_reducible show wpAny _ _ (call (Value.ref 167) _) _ _ _); k_dflt (refine' Con.useI ?zzB ?zzF ?zzX ?zzN ?zzT ?zzk (sn_text ?zzhb1 ?zzhb2 ?zzhb3 ?zzh4 ?zzh16 ?zzhT ?zzh1 ?zzh2) ?zzd ?zzu ?_; (case zzB => k_asm); (case zzF => k_asm); (case zzX => k_asm); (case zzN => k_asm); (case zzT => k_asm); (case zzk => first | exact rfl | assumption); (case zzhb1 => assumption); (case zzhb2 => assumption); (case zzhb3 => assumption); (case zzh4 => assumption); (case zzh16 => assumption); (case zzhT => assumption); (case zzh1 => assumption); (case zzh2 => assumption); (case zzd => ktr_room); (case zzu => ktr_units); intro t9 h9 tk9 F9 N9; (try dsimp only); (try k_sweep); (try k_fold)))
  k_with "call ref" => (k_here; (with_reducible show wpAny _ _ (call (Value.ref 167) _) _ _ _); k_dflt (refine' Con.useN ?zzB ?zzF ?zzX ?zzN ?zzT ?zzk (sn_empty ?zzhb1 ?zzhb2 ?zzhb3 ?zzh4 ?zzh16) ?zzd ?zzu ?_; (case zzB => k_asm); (case zzF => k_asm); (case zzX => k_asm); (case zzN => k_asm); (case zzT => k_asm); (case zzk => first | exact rfl | assumption); (case zzhb1 => assumption); (case zzhb2 => assumption); (case zzhb3 => assumption); (case zzh4 => assumption); (case zzh16 => assumption); (case zzd => ktr_room); (case zzu => ktr_units); intro h9 tk9 F9 N9; (try dsimp only); (try k_sweep); (try k_fold)))
  k_with "call ref" => (k_here; (with_reducible show wpAny _ _ (call (Value.ref 167) _) _ _ _); k_dflt (refine' Con.useN ?zzB ?zzF ?zzX ?zzN ?zzT ?zzk (sn_zed ?zzhb1 ?zzhb2 ?zzhb3 ?zzh4 ?zzh16) ?zzd ?zzu ?_; (case zzB => k_asm); (case zzF => k_asm); (case zzX => k_asm); (case zzN => k_asm); (case zzT => k_asm); (case zzk => first | exact rfl | assumption); (case zzhb1 => assumption); (case zzhb2 => assumption); (case zzhb3 => assumption); (case zzh4 => assumption); (case zzh16 => assumption); (case zzd => ktr_room); (case zzu => ktr_units); intro h9 tk9 F9 N9; (try dsimp only); (try k_sweep); (try k_fold)))
  k_with "call ref" => (k_here; (with_reducible show wpAny _ _ (call (Value.ref 104) _) _ _ _); k_dflt (refine' Con.useB ?zzB ?zzF ?zzX ?zzN ?zzT ?zzk (isnum_int ) ?zzd ?zzu ?_; (case zzB => k_asm); (case zzF => k_asm); (case zzX => k_asm); (case zzN => k_asm); (case zzT => k_asm); (case zzk => first | exact rfl | assumption);  (case zzd => ktr_room); (case zzu => ktr_units); intro h9 tk9 F9 N9; (try dsimp only); (try k_sweep); (try k_fold)))
  k_with "call ref" => (k_here; (with_reducible show wpAny _ _ (call (Value.ref 104) _) _ _ _); k_dflt (refine' Con.useB ?zzB ?zzF ?zzX ?zzN ?zzT ?zzk (isnum_bool ) ?zzd ?zzu ?_; (case zzB => k_asm); (case zzF => k_asm); (case zzX => k_asm); (case zzN => k_asm); (case zzT => k_asm); (case zzk => first | exact rfl | assumption);  (case zzd => ktr_room); (case zzu => ktr_units); intro h9 tk9 F9 N9; (try dsimp only); (try k_sweep); (try k_fold)))
  k_with "call ref" => (k_here; (with_reducible show wpAny _ _ (call (Value.ref 104) _) _ _ _); k_dflt (refine' Con.useB ?zzB ?zzF ?zzX ?zzN ?zzT ?zzk (isnum_none ) ?zzd ?zzu ?_; (case zzB => k_asm); (case zzF => k_asm); (case zzX => k_asm); (case zzN => k_asm); (case zzT => k_asm); (case zzk => first | exact rfl | assumption);  (case zzd => ktr_room); (case zzu => ktr_units); intro h9 tk9 F9 N9; (try dsimp only); (try k_sweep); (try k_fold)))
  k_with "call ref" => (k_here; (with_reducible show wpAny _ _ (call (Value.ref 104) _) _ _ _); k_dflt (refine' Con.useB ?zzB ?zzF ?zzX ?zzN ?zzT ?zzk (isnum_bytes ) ?zzd ?zzu ?_; (case zzB => k_asm); (case zzF => k_asm); (case zzX => k_asm); (case zzN => k_asm); (case zzT => k_asm); (case zzk => first | exact rfl | assumption);  (case zzd => ktr_room); (case zzu => ktr_units); intro h9 tk9 F9 N9; (try dsimp only); (try k_sweep); (try k_fold)))
  intro dp un gd cn cs a ccd cl outer A₀ base h₀ L m s Q E B F X N T hk hd hu hret
  w_top off
  refine wpAny_call ?_
  k_dflt ktr_enter
  k_steps
  all_goals first
    | exact hret _ [] _ _ (rint rfl) (by k_asm) (by first | k_asm | exact drop1 (by k_asm) | exact drop2 (by k_asm) | exact drop3 (by k_asm) | exact drop4 (by k_asm)) no_tl
    | trace_state
set_option maxHeartbeats 8000000 in
theorem tn_bool {x : Bool} {wd : Int} {bx dx : Addr} {es : List DictEntry} {n : Nat} {tw : Tok} (hb1 : (bx, instObj 53 dx) ∈ news) (hb2 : (dx, dictOf es n) ∈ news) (hb3 : getL (Str.ofString "width") es = some (some (.int wd tw))) (h4 : 4 ≤ wd) (h16 : wd ≤ 16)  : Con w mean mg mb 181 5 [.bool x, .ref bx] news news RNone := by
  k_with_none
  k_with "eval Call Name cons nil" => (k_here; (with_reducible show wpAny _ _ (eval (PySem.Expr.Call (PySem.Expr.Name _ _) [_] [] _) _) _ _ _); k_dflt (refine' call1 ?zcF ?zcX ?zcT ?zchf ?zchk ?zca1 ?zcs ?zcx (by decide) ?_; (case zcF => k_asm); (case zcX => k_asm); (case zcT => k_asm); (case zchf => k_is); (case zchk => k_is); (case zca1 => (first | exact ArgV.int | exact ArgV.name rfl rfl (by decide) rfl)); (case zcs => rfl); (case zcx => rfl); intro t1 tk9; (try dsimp only)))
  k_with "eval Call Name cons nil" => (k_here; (with_reducible show wpAny _ _ (eval (PySem.Expr.Call (PySem.Expr.Name _ _) [_, _] [] _) _) _ _ _); k_dflt (refine' call2 ?zcF ?zcX ?zcT ?zchf ?zchk ?zca1 ?zca2 ?zcs ?zcx (by decide) ?_; (case zcF => k_asm); (case zcX => k_asm); (case zcT => k_asm); (case zchf => k_is); (case zchk => k_is); (case zca1 => (first | exact ArgV.int | exact ArgV.name rfl rfl (by decide) rfl)); (case zca2 => (first | exact ArgV.int | exact ArgV.name rfl rfl (by decide) rfl)); (case zcs => rfl); (case zcx => rfl); intro t1 t2 tk9; (try dsimp only)))
  k_with "eval Call Name cons nil" => (k_here; (with_reducible show wpAny _ _ (eval (PySem.Expr.Call (PySem.Expr.Name _ _) [_, _, _] [] _) _) _ _ _); k_dflt (refine' call3 ?zcF ?zcX ?zcT ?zchf ?zchk ?zca1 ?zca2 ?zca3 ?zcs ?zcx (by decide) ?_; (case zcF => k_asm); (case zcX => k_asm); (case zcT => k_asm); (case zchf => k_is); (case zchk => k_is); (case zca1 => (first | exact ArgV.int | exact ArgV.name rfl rfl (by decide) rfl)); (case zca2 => (first | exact ArgV.int | exact ArgV.name rfl rfl (by decide) rfl)); (case zca3 => (first | exact ArgV.int | exact ArgV.name rfl rfl (by decide) rfl)); (case zcs => rfl); (case zcx => rfl); intro t1 t2 t3 tk9; (try dsimp only)))
  k_with "eval Call Name cons nil" => (k_here; (with_reducible show wpAny _ _ (eval (PySem.Expr.Call (PySem.Expr.Name _ _) [_, _, _, _] [] _) _) _ _ _); k_dflt (refine' call4 ?zcF ?zcX ?zcT ?zchf ?zchk ?zca1 ?zca2 ?zca3 ?zca4 ?zcs ?zcx (by decide) ?_; (case zcF => k_asm); (case zcX => k_asm); (case zcT => k_asm); (case zchf => k_is); (case zchk => k_is); (case zca1 => (first | exact ArgV.int | exact ArgV.name rfl rfl (by decide) rfl)); (case zca2 => (first | exact ArgV.int | exact ArgV.name rfl rfl (by decide) rfl)); (case zca3 => (first | exact ArgV.int | exact ArgV.name rfl rfl (by decide) rfl)); (case zca4 => (first | exact ArgV.int | exact ArgV.name rfl rfl (by decide) rfl)); (case zcs => rfl); (case zcx => rfl); intro t1 t2 t3 t4 tk9; (try dsimp only)))
  k_with "getAttr ref" => (k_here; k_dflt (refine' get_own ?zzk1 ?zzk2 ?zzk3 ?zzk4 ?zzk5 ?zzk6 ?zzk7 ?zzk8 ?zzk9 ?_; (case zzk1 => k_asm); (case zzk2 => k_asm); (case zzk3 => k_inst); (case zzk4 => k_is); (case zzk5 => k_is); (case zzk6 => k_is); (case zzk7 => k_is); (case zzk8 => assumption); (case zzk9 => k_handed); k_whole))
  k_with "call ref" => (k_here; (with_reducible show wpAny _ _ (call (Value.ref 174) _) _ _ _); k_dflt (refine' Con.useI ?zzB ?zzF ?zzX ?zzN ?zzT ?zzk (tib_con ?zzhb1 ?zzhb2 ?zzhb3 ?zzh4 ?zzh16 ?zzhT ?zzh1 ?zzh2) ?zzd ?zzu ?_; (case zzB => k_asm); (case zzF => k_asm); (case zzX => k_asm); (case zzN => k_asm); (case zzT => k_asm); (case zzk => first | exact rfl | assumption); (case zzhb1 => assumption); (case zzhb2 => assumption); (case zzhb3 => assumption); (case zzh4 => assumption); (case zzh16 => assumption); (case zzhT => assumption); (case zzh1 => assumption); (case zzh2 => assumption); (case zzd => ktr_room); (case zzu => ktr_units); intro t9 h9 tk9 F9 N9; (try dsimp only); (try k_sweep); (try k_fold)))
  k_with "call ref" => (k_here; (with_reducible show wpAny _ _ (call (Value.ref 174) _) _ _ _); k_dflt (refine' Con.useN ?zzB ?zzF ?zzX ?zzN ?zzT ?zzk (tib_empty ?zzhb1 ?zzhb2 ?zzhb3 ?zzh4 ?zzh16) ?zzd ?zzu ?_; (case zzB => k_asm); (case zzF => k_asm); (case zzX => k_asm); (case zzN => k_asm); (case zzT => k_asm); (case zzk => first | exact rfl | assumption); (case zzhb1 => assumption); (case zzhb2 => assumption); (case zzhb3 => assumption); (case zzh4 => assumption); (case zzh16 => assumption); (case zzd => ktr_room); (case zzu => ktr_units); intro h9 tk9 F9 N9; (try dsimp only); (try k_sweep); (try k_fold)))
  k_with "call ref" => (k_here; (with_reducible show wpAny _ _ (call (Value.ref 174) _) _ _ _); k_dflt (refine' Con.useN ?zzB ?zzF ?zzX ?zzN ?zzT ?zzk (tib_zed ?zzhb1 ?zzhb2 ?zzhb3 ?zzh4 ?zzh16) ?zzd ?zzu ?_; (case zzB => k_asm); (case zzF => k_asm); (case zzX => k_asm); (case zzN => k_asm); (case zzT => k_asm); (case zzk => first | exact rfl | assumption); (case zzhb1 => assumption); (case zzhb2 => assumption); (case zzhb3 => assumption); (case zzh4 => assumption); (case zzh16 => assumption); (case zzd => ktr_room); (case zzu => ktr_units); intro h9 tk9 F9 N9; (try dsimp only); (try k_sweep); (try k_fold)))
  k_with "call ref" => (k_here; (with_reducible show wpAny _ _ (call (Value.ref 167) _) _ _ _); k_dflt (refine' Con.useI ?zzB ?zzF ?zzX ?zzN ?zzT ?zzk (sn_text ?zzhb1 ?zzhb2 ?zzhb3 ?zzh4 ?zzh16 ?zzhT ?zzh1 ?zzh2) ?zzd ?zzu ?_; (case zzB => k_asm); (case zzF => k_asm); (case zzX => k_asm); (case zzN => k_asm); (case zzT => k_asm); (case zzk => first | exact rfl | assumption); (case zzhb1 => assumption); (case zzhb2 => assumption); (case zzhb3 => assumption); (case zzh4 => assumption); (case zzh16 => assumption); (case zzhT => assumption); (case zzh1 => assumption); (case zzh2 => assumption); (case zzd => ktr_room); (case zzu => ktr_units); intro t9 h9 tk9 F9 N9; (try dsimp only); (try k_sweep); (try k_fold)))
  k_with "call ref" => (k_here; (with_reducible show wpAny _ _ (call (Value.ref 167) _) _ _ _); k_dflt (refine' Con.useN ?zzB ?zzF ?zzX ?zzN ?zzT ?zzk (sn_empty ?zzhb1 ?zzhb2 ?zzhb3 ?zzh4 ?zzh16) ?zzd ?zzu ?_; (case zzB => k_asm); (case zzF => k_asm); (case zzX => k_asm); (case zzN => k_asm); (case zzT => k_asm); (case zzk => first | exact rfl | assumption); (case zzhb1 => assumption); (case zzhb2 => assumption); (case zzhb3 => assumption); (case zzh4 => assumption); (case zzh16 => assumption); (case zzd => ktr_room); (case zzu => ktr_units); intro h9 tk9 F9 N9; (try dsimp only); (try k_sweep); (try k_fold)))
  k_with "call ref" => (k_here; (with_reducible show wpAny _ _ (call (Value.ref 167) _) _ _ _); k_dflt (refine' Con.useN ?zzB ?zzF ?zzX ?zzN ?zzT ?zzk (sn_zed ?zzhb1 ?zzhb2 ?zzhb3 ?zzh4 ?zzh16) ?zzd ?zzu ?_; (case zzB => k_asm); (case zzF => k_asm); (case zzX => k_asm); (case zzN => k_asm); (case zzT => k_asm); (case zzk => first | exact rfl | assumption); (case zzhb1 => assumption); (case zzhb2 => assumption); (case zzhb3 => assumption); (case zzh4 => assumption); (case zzh16 => assumption); (case zzd => ktr_room); (case zzu => ktr_units); intro h9 tk9 F9 N9; (try dsimp only); (try k_sweep); (try k_fold)))
  k_with "call ref" => (k_here; (with_reducible show wpAny _ _ (call (Value.ref 104) _) _ _ _); k_dflt (refine' Con.useB ?zzB ?zzF ?zzX ?zzN ?zzT ?zzk (isnum_int ) ?zzd ?zzu ?_; (case zzB => k_asm); (case zzF => k_asm); (case zzX => k_asm); (case zzN => k_asm); (case zzT => k_asm); (case zzk => first | exact rfl | assumption);  (case zzd => ktr_room); (case zzu => ktr_units); intro h9 tk9 F9 N9; (try dsimp only); (try k_sweep); (try k_fold)))
  k_with "call ref" => (k_here; (with_reducible show wpAny _ _ (call (Value.ref 104) _) _ _ _); k_dflt (refine' Con.useB ?zzB ?zzF ?zzX ?zzN ?zzT ?zzk (isnum_bool ) ?zzd ?zzu ?_; (case zzB => k_asm); (case zzF => k_asm); (case zzX => k_asm); (case zzN => k_asm); (case zzT => k_asm); (case zzk => first | exact rfl | assumption);  (case zzd => ktr_room); (case zzu => ktr_units); intro h9 tk9 F9 N9; (try dsimp only); (try k_sweep); (try k_fold)))
  k_with "call ref" => (k_here; (with_reducible show wpAny _ _ (call (Value.ref 104) _) _ _ _); k_dflt (refine' Con.useB ?zzB ?zzF ?zzX ?zzN ?zzT ?zzk (isnum_none ) ?zzd ?zzu ?_; (case zzB => k_asm); (case zzF => k_asm); (case zzX => k_asm); (case zzN => k_asm); (case zzT => k_asm); (case zzk => first | exact rfl | assumption);  (case zzd => ktr_room); (case zzu => ktr_units); intro h9 tk9 F9 N9; (try dsimp only); (try k_sweep); (try k_fold)))
  k_with "call ref" => (k_here; (with_reducible show wpAny _ _ (call (Value.ref 104) _) _ _ _); k_dflt (refine' Con.useB ?zzB ?zzF ?zzX ?zzN ?zzT ?zzk (isnum_bytes ) ?zzd ?zzu ?_; (case zzB => k_asm); (case zzF => k_asm); (case zzX => k_asm); (case zzN => k_asm); (case zzT => k_asm); (case zzk => first | exact rfl | assumption);  (case zzd => ktr_room); (case zzu => ktr_units); intro h9 tk9 F9 N9; (try dsimp only); (try k_sweep); (try k_fold)))
  intro dp un gd cn cs a ccd cl outer A₀ base h₀ L m s Q E B F X N T hk hd hu hret
  w_top off
  refine wpAny_call ?_
  k_dflt ktr_enter
  k_steps
  all_goals first
    | exact hret _ [] _ _ rnone (by k_asm) (by first | k_asm | exact drop1 (by k_asm) | exact drop2 (by k_asm) | exact drop3 (by k_asm) | exact drop4 (by k_asm)) no_tl
    | trace_state
set_option maxHeartbeats 8000000 in
theorem tn_none  {wd : Int} {bx dx : Addr} {es : List DictEntry} {n : Nat} {tw : Tok} (hb1 : (bx, instObj 53 dx) ∈ news) (hb2 : (dx, dictOf es n) ∈ news) (hb3 : getL (Str.ofString "width") es = some (some (.int wd tw))) (h4 : 4 ≤ wd) (h16 : wd ≤ 16)  : Con w mean mg mb 181 5 [.none, .ref bx] news news RNone := by
  k_with_none
  k_with "eval Call Name cons nil" => (k_here; (with_reducible show wpAny _ _ (eval (PySem.Expr.Call (PySem.Expr.Name _ _) [_] [] _) _) _ _ _); k_dflt (refine' call1 ?zcF ?zcX ?zcT ?zchf ?zchk ?zca1 ?zcs ?zcx (by decide) ?_; (case zcF => k_asm); (case zcX => k_asm); (case zcT => k_asm); (case zchf => k_is); (case zchk => k_is); (case zca1 => (first | exact ArgV.int | exact ArgV.name rfl rfl (by decide) rfl)); (case zcs => rfl); (case zcx => rfl); intro t1 tk9; (try dsimp only)))
  k_with "eval Call Name cons nil" => (k_here; (with_reducible show wpAny _ _ (eval (PySem.Expr.Call (PySem.Expr.Name _ _) [_, _] [] _) _) _ _ _); k_dflt (refine' call2 ?zcF ?zcX ?zcT ?zchf ?zchk ?zca1 ?zca2 ?zcs ?zcx (by decide) ?_; (case zcF => k_asm); (case zcX => k_asm); (case zcT => k_asm); (case zchf => k_is); (case zchk => k_is); (case zca1 => (first | exact ArgV.int | exact ArgV.name rfl rfl (by decide) rfl)); (case zca2 => (first | exact ArgV.int | exact ArgV.name rfl rfl (by decide) rfl)); (case zcs => rfl); (case zcx => rfl); intro t1 t2 tk9; (try dsimp only)))
  k_with "eval Call Name cons nil" => (k_here; (with_reducible show wpAny _ _ (eval (PySem.Expr.Call (PySem.Expr.Name _ _) [_, _, _] [] _) _) _ _ _); k_dflt (refine' call3 ?zcF ?zcX ?zcT ?zchf ?zchk ?zca1 ?zca2 ?zca3 ?zcs ?zcx (by decide) ?_; (case zcF => k_asm); (case zcX => k_asm); (case zcT => k_asm); (case zchf => k_is); (case zchk => k_is); (case zca1 => (first | exact ArgV.int | exact ArgV.name rfl rfl (by decide) rfl)); (case zca2 => (first | exact ArgV.int | exact ArgV.name rfl rfl (by decide) rfl)); (case zca3 => (first | exact ArgV.int | exact ArgV.name rfl rfl (by decide) rfl)); (case zcs => rfl); (case zcx => rfl); intro t1 t2 t3 tk9; (try dsimp only)))
  k_with "eval Call Name cons nil" => (k_here; (with_reducible show wpAny _ _ (eval (PySem.Expr.Call (PySem.Expr.Name _ _) [_, _, _, _] [] _) _) _ _ _); k_dflt (refine' call4 ?zcF ?zcX ?zcT ?zchf ?zchk ?zca1 ?zca2 ?zca3 ?zca4 ?zcs ?zcx (by decide) ?_; (case zcF => k_asm); (case zcX => k_asm); (case zcT => k_asm); (case zchf => k_is); (case zchk => k_is); (case zca1 => (first | exact ArgV.int | exact ArgV.name rfl rfl (by decide) rfl)); (case zca2 => (first | exact ArgV.int | exact ArgV.name rfl rfl (by decide) rfl)); (case zca3 => (first | exact ArgV.int | exact ArgV.name rfl rfl (by decide) rfl)); (case zca4 => (first | exact ArgV.int | exact ArgV.name rfl rfl (by decide) rfl)); (case zcs => rfl); (case zcx => rfl); intro t1 t2 t3 t4 tk9; (try dsimp only)))
  k_with "getAttr ref" => (k_here; k_dflt (refine' get_own ?zzk1 ?zzk2 ?zzk3 ?zzk4 ?zzk5 ?zzk6 ?zzk7 ?zzk8 ?zzk9 ?_; (case zzk1 => k_asm); (case zzk2 => k_asm); (case zzk3 => k_inst); (case zzk4 => k_is); (case zzk5 => k_is); (case zzk6 => k_is); (case zzk7 => k_is); (case zzk8 => assumption); (case zzk9 => k_handed); k_whole))
  k_with "call ref" => (k_here; (with_reducible show wpAny _ _ (call (Value.ref 174) _) _ _ _); k_dflt (refine' Con.useI ?zzB ?zzF ?zzX ?zzN ?zzT ?zzk (tib_con ?zzhb1 ?zzhb2 ?zzhb3 ?zzh4 ?zzh16 ?zzhT ?zzh1 ?zzh2) ?zzd ?zzu ?_; (case zzB => k_asm); (case zzF => k_asm); (case zzX => k_asm); (case zzN => k_asm); (case zzT => k_asm); (case zzk => first | exact rfl | assumption); (case zzhb1 => assumption); (case zzhb2 => assumption); (case zzhb3 => assumption); (case zzh4 => assumption); (case zzh16 => assumption); (case zzhT => assumption); (case zzh1 => assumption); (case zzh2 => assumption); (case zzd => ktr_room); (case zzu => ktr_units); intro t9 h9 tk9 F9 N9; (try dsimp only); (try k_sweep); (try k_fold)))
  k_with "call ref" => (k_here; (with_reducible show wpAny _ _ (call (Value.ref 174) _) _ _ _); k_dflt (refine' Con.useN ?zzB ?zzF ?zzX ?zzN ?zzT ?zzk (tib_empty ?zzhb1 ?zzhb2 ?zzhb3 ?zzh4 ?zzh16) ?zzd ?zzu ?_; (case zzB => k_asm); (case zzF => k_asm); (case zzX => k_asm); (case zzN => k_asm); (case zzT => k_asm); (case zzk => first | exact rfl | assumption); (case zzhb1 => assumption); (case zzhb2 => assumption); (case zzhb3 => assumption); (case zzh4 => assumption); (case zzh16 => assumption); (case zzd => ktr_room); (case zzu => ktr_units); intro h9 tk9 F9 N9; (try dsimp only); (try k_sweep); (try k_fold)))
  k_with "call ref" => (k_here; (with_reducible show wpAny _ _ (call (Value.ref 174) _) _ _ _); k_dflt (refine' Con.useN ?zzB ?zzF ?zzX ?zzN ?zzT ?zzk (tib_zed ?zzhb1 ?zzhb2 ?zzhb3 ?zzh4 ?zzh16) ?zzd ?zzu ?_; (case zzB => k_asm); (case zzF => k_asm); (case zzX => k_asm); (case zzN => k_asm); (case zzT => k_asm); (case zzk => first | exact rfl | assumption); (case zzhb1 => assumption); (case zzhb2 => assumption); (case zzhb3 => assumption); (case zzh4 => assumption); (case zzh16 => assumption); (case zzd => ktr_room); (case zzu => ktr_units); intro h9 tk9 F9 N9; (try dsimp only); (try k_sweep); (try k_fold)))
  k_with "call ref" => (k_here; (with_reducible show wpAny _ _ (call (Value.ref 167) _) _ _ _); k_dflt (refine' Con.useI ?zzB ?zzF ?zzX ?zzN ?zzT ?zzk (sn_text ?zzhb1 ?zzhb2 ?zzhb3 ?zzh4 ?zzh16 ?zzhT ?zzh1 ?zzh2) ?zzd ?zzu ?_; (case zzB => k_asm); (case zzF => k_asm); (case zzX => k_asm); (case zzN => k_asm); (case zzT => k_asm); (case zzk => first | exact rfl | assumption); (case zzhb1 => assumption); (case zzhb2 => assumption); (case zzhb3 => assumption); (case zzh4 => assumption); (case zzh16 => assumption); (case zzhT => assumption); (case zzh1 => assumption); (case zzh2 => assumption); (case zzd => ktr_room); (case zzu => ktr_units); intro t9 h9 tk9 F9 N9; (try dsimp only); (try k_sweep); (try k_fold)))
  k_with "call ref" => (k_here; (with_reducible show wpAny _ _ (call (Value.ref 167) _) _ _ _); k_dflt (refine' Con.useN ?zzB ?zzF ?zzX ?zzN ?zzT ?zzk (sn_empty ?zzhb1 ?zzhb2 ?zzhb3 ?zzh4 ?zzh16) ?zzd ?zzu ?_; (case zzB => k_asm); (case zzF => k_asm); (case zzX => k_asm); (case zzN => k_asm); (case zzT => k_asm); (case zzk => first | exact rfl | assumption); (case zzhb1 => assumption); (case zzhb2 => assumption); (case zzhb3 => assumption); (case zzh4 => assumption); (case zzh16 => assumption); (case zzd => ktr_room); (case zzu => ktr_units); intro h9 tk9 F9 N9; (try dsimp only); (try k_sweep); (try k_fold)))
  k_with "call ref" => (k_here; (with_reducible show wpAny _ _ (call (Value.ref 167) _) _ _ _); k_dflt (refine' Con.useN ?zzB ?zzF ?zzX ?zzN ?zzT ?zzk (sn_zed ?zzhb1 ?zzhb2 ?zzhb3 ?zzh4 ?zzh16) ?zzd ?zzu ?_; (case zzB => k_asm); (case zzF => k_asm); (case zzX => k_asm); (case zzN => k_asm); (case zzT => k_asm); (case zzk => first | exact rfl | assumption); (case zzhb1 => assumption); (case zzhb2 => assumption); (case zzhb3 => assumption); (case zzh4 => assumption); (case zzh16 => assumption); (case zzd => ktr_room); (case zzu => ktr_units); intro h9 tk9 F9 N9; (try dsimp only); (try k_sweep); (try k_fold)))
  k_with "call ref" => (k_here; (with_reducible show wpAny _ _ (call (Value.ref 104) _) _ _ _); k_dflt (refine' Con.useB ?zzB ?zzF ?zzX ?zzN ?zzT ?zzk (isnum_int ) ?zzd ?zzu ?_; (case zzB => k_asm); (case zzF => k_asm); (case zzX => k_asm); (case zzN => k_asm); (case zzT => k_asm); (case zzk => first | exact rfl | assumption);  (case zzd => ktr_room); (case zzu => ktr_units); intro h9 tk9 F9 N9; (try dsimp only); (try k_sweep); (try k_fold)))
  k_with "call ref" => (k_here; (with_reducible show wpAny _ _ (call (Value.ref 104) _) _ _ _); k_dflt (refine' Con.useB ?zzB ?zzF ?zzX ?zzN ?zzT ?zzk (isnum_bool ) ?zzd ?zzu ?_; (case zzB => k_asm); (case zzF => k_asm); (case zzX => k_asm); (case zzN => k_asm); (case zzT => k_asm); (case zzk => first | exact rfl | assumption);  (case zzd => ktr_room); (case zzu => ktr_units); intro h9 tk9 F9 N9; (try dsimp only); (try k_sweep); (try k_fold)))
  k_with "call ref" => (k_here; (with_reducible show wpAny _ _ (call (Value.ref 104) _) _ _ _); k_dflt (refine' Con.useB ?zzB ?zzF ?zzX ?zzN ?zzT ?zzk (isnum_none ) ?zzd ?zzu ?_; (case zzB => k_asm); (case zzF => k_asm); (case zzX => k_asm); (case zzN => k_asm); (case zzT => k_asm); (case zzk => first | exact rfl | assumption);  (case zzd => ktr_room); (case zzu => ktr_units); intro h9 tk9 F9 N9; (try dsimp only); (try k_sweep); (try k_fold)))
  k_with "call ref" => (k_here; (with_reducible show wpAny _ _ (call (Value.ref 104) _) _ _ _); k_dflt (refine' Con.useB ?zzB ?zzF ?zzX ?zzN ?zzT ?zzk (isnum_bytes ) ?zzd ?zzu ?_; (case zzB => k_asm); (case zzF => k_asm); (case zzX => k_asm); (case zzN => k_asm); (case zzT => k_asm); (case zzk => first | exact rfl | assumption);  (case zzd => ktr_room); (case zzu => ktr_units); intro h9 tk9 F9 N9; (try dsimp only); (try k_sweep); (try k_fold)))
  intro dp un gd cn cs a ccd cl outer A₀ base h₀ L m s Q E B F X N T hk hd hu hret
  w_top off
  refine wpAny_call ?_
  k_dflt ktr_enter
  k_steps
  all_goals first
    | exact hret _ [] _ _ rnone (by k_asm) (by first | k_asm | exact drop1 (by k_asm) | exact drop2 (by k_asm) | exact drop3 (by k_asm) | exact drop4 (by k_asm)) no_tl
    | trace_state
end Mine

namespace Mine
set_option maxRecDepth 100000
variable {w : World} {mean : ExcName → Option Value} {mg mb : Str → Option Value} {news : List (Addr × Obj)}
local macro_rules | `(tactic| k_mem) => `(tactic| first | exact List.mem_cons_of_mem _ (by assumption) | exact List.mem_cons_of_mem _ (List.mem_cons_of_mem _ (by assumption)) | exact List.mem_cons_of_mem _ (List.mem_cons_of_mem _ (List.mem_cons_of_mem _ (by assumption))) | exact List.mem_cons_of_mem _ (List.mem_cons_of_mem _ (List.mem_cons_of_mem _ (List.mem_cons_of_mem _ (by assumption)))))
theorem rok {p q x y wd : Int} {a : Addr} {t t' : Tok} (h : p = q) : ROk (arithZ p x y wd) (.ref a) [(a, ({ cls := .type "tuple", data := .seq #[.int 0 t, .int (arithZ q x y wd) t'] } : Obj))] := ⟨a, t, t', rfl, h ▸ rfl⟩
theorem rbad {o : Int} {p : Addr} {t : Tok} : RBad o (.ref p) [(p, ({ cls := .type "tuple", data := .seq #[.int o t, .none] } : Obj))] := ⟨p, t, rfl, rfl⟩
theorem nores_div {p x y : Int} (h : noRes p x y = false) (hp : p = 3 ∨ p = 4) : y ≠ 0 := by
  unfold noRes at h; rw [if_pos hp] at h; simpa using h
theorem nores_pow {p x y : Int} (h : noRes p x y = false) (hp : p = 5) : ¬ (y < 0 ∧ x = 0) := by
  unfold noRes at h; rw [if_neg (by omega)] at h
  intro ⟨h1, h2⟩
  exact (of_decide_eq_false h) ⟨hp, h2, h1⟩
set_option maxHeartbeats 8000000 in
theorem reck_ok {p x y : Int} {vl vr : Value} {wd : Int} {bx dx : Addr} {es : List DictEntry} {n : Nat} {t tw : Tok} (hb1 : (bx, instObj 53 dx) ∈ news) (hb2 : (dx, dictOf es n) ∈ news) (hb3 : getL (Str.ofString "width") es = some (some (.int wd tw))) (h4 : 4 ≤ wd) (h16 : wd ≤ 16) (hx1 : -65536 ≤ x) (hx2 : x ≤ 65536) (hy1 : -65536 ≤ y) (hy2 : y ≤ 65536) (C1 : Con w mean mg mb 181 5 [vl, .ref bx] news news (RInt x)) (C2 : Con w mean mg mb 181 5 [vr, .ref bx] news news (RInt y)) (hp0 : 0 ≤ p) (hp1 : p < 7) (hno : noRes p x y = false) : Con w mean mg mb 196 6 [.int p t, vl, vr, .ref bx] news news (ROk (arithZ p x y wd)) := by
  k_with_none
  k_with "eval Call Name cons nil" => (k_here; (with_reducible show wpAny _ _ (eval (PySem.Expr.Call (PySem.Expr.Name _ _) [_] [] _) _) _ _ _); k_dflt (refine' call1 ?zcF ?zcX ?zcT ?zchf ?zchk ?zca1 ?zcs ?zcx (by decide) ?_; (case zcF => k_asm); (case zcX => k_asm); (case zcT => k_asm); (case zchf => k_is); (case zchk => k_is); (case zca1 => (first | exact ArgV.int | exact ArgV.name rfl rfl (by decide) rfl)); (case zcs => rfl); (case zcx => rfl); intro t1 tk9; (try dsimp only)))
  k_with "eval Call Name cons nil" => (k_here; (with_reducible show wpAny _ _ (eval (PySem.Expr.Call (PySem.Expr.Name _ _) [_, _] [] _) _) _ _ _); k_dflt (refine' call2 ?zcF ?zcX ?zcT ?zchf ?zchk ?zca1 ?zca2 ?zcs ?zcx (by decide) ?_; (case zcF => k_asm); (case zcX => k_asm); (case zcT => k_asm); (case zchf => k_is); (case zchk => k_is); (case zca1 => (first | exact ArgV.int | exact ArgV.name rfl rfl (by decide) rfl)); (case zca2 => (first | exact ArgV.int | exact ArgV.name rfl rfl (by decide) rfl)); (case zcs => rfl); (case zcx => rfl); intro t1 t2 tk9; (try dsimp only)))
  k_with "eval Call Name cons nil" => (k_here; (with_reducible show wpAny _ _ (eval (PySem.Expr.Call (PySem.Expr.Name _ _) [_, _, _] [] _) _) _ _ _); k_dflt (refine' call3 ?zcF ?zcX ?zcT ?zchf ?zchk ?zca1 ?zca2 ?zca3 ?zcs ?zcx (by decide) ?_; (case zcF => k_asm); (case zcX => k_asm); (case zcT => k_asm); (case zchf => k_is); (case zchk => k_is); (case zca1 => (first | exact ArgV.int | exact ArgV.name rfl rfl (by decide) rfl)); (case zca2 => (first | exact ArgV.int | exact ArgV.name rfl rfl (by decide) rfl)); (case zca3 => (first | exact ArgV.int | exact ArgV.name rfl rfl (by decide) rfl)); (case zcs => rfl); (case zcx => rfl); intro t1 t2 t3 tk9; (try dsimp only)))
  k_with "eval Call Name cons nil" => (k_here; (with_reducible show wpAny _ _ (eval (PySem.Expr.Call (PySem.Expr.Name _ _) [_, _, _, _] [] _) _) _ _ _); k_dflt (refine' call4 ?zcF ?zcX ?zcT ?zchf ?zchk ?zca1 ?zca2 ?zca3 ?zca4 ?zcs ?zcx (by decide) ?_; (case zcF => k_asm); (case zcX => k_asm); (case zcT => k_asm); (case zchf => k_is); (case zchk => k_is); (case zca1 => (first | exact ArgV.int | exact ArgV.name rfl rfl (by decide) rfl)); (case zca2 => (first | exact ArgV.int | exact ArgV.name rfl rfl (by decide) rfl)); (case zca3 => (first | exact ArgV.int | exact ArgV.name rfl rfl (by decide) rfl)); (case zca4 => (first | exact ArgV.int | exact ArgV.name rfl rfl (by decide) rfl)); (case zcs => rfl); (case zcx => rfl); intro t1 t2 t3 t4 tk9; (try dsimp only)))
  k_with "call ref" => (k_here; (with_reducible show wpAny _ _ (call (Value.ref 181) _) _ _ _); k_dflt (refine' Con.useN ?zzB ?zzF ?zzX ?zzN ?zzT ?zzk ?zzC ?zzd ?zzu ?_; (case zzB => k_asm); (case zzF => k_asm); (case zzX => k_asm); (case zzN => k_asm); (case zzT => k_asm); (case zzk => first | exact rfl | assumption); (case zzC => assumption); (case zzd => ktr_room); (case zzu => ktr_units); intro h9 tk9 F9 N9; (try dsimp only); (try k_sweep); (try k_fold)))
  k_with "call ref" => (k_here; (with_reducible show wpAny _ _ (call (Value.ref 181) _) _ _ _); k_dflt (refine' Con.useI ?zzB ?zzF ?zzX ?zzN ?zzT ?zzk ?zzC ?zzd ?zzu ?_; (case zzB => k_asm); (case zzF => k_asm); (case zzX => k_asm); (case zzN => k_asm); (case zzT => k_asm); (case zzk => first | exact rfl | assumption); (case zzC => assumption); (case zzd => ktr_room); (case zzu => ktr_units); intro t9 h9 tk9 F9 N9; (try dsimp only); (try k_sweep); (try k_fold)))
  k_with "call ref" => (k_here; (with_reducible show wpAny _ _ (call (Value.ref 132) _) _ _ _); k_dflt (refine' Con.useI ?zzB ?zzF ?zzX ?zzN ?zzT ?zzk (arith_add ?zzhb1 ?zzhb2 ?zzhb3 ?zzhx1 ?zzhx2 ?zzhy1 ?zzhy2 ?zzh4 ?zzh16) ?zzd ?zzu ?_; (case zzB => k_asm); (case zzF => k_asm); (case zzX => k_asm); (case zzN => k_asm); (case zzT => k_asm); (case zzk => first | exact rfl | assumption); (case zzhb1 => k_mem); (case zzhb2 => k_mem); (case zzhb3 => assumption); (case zzhx1 => assumption); (case zzhx2 => assumption); (case zzhy1 => assumption); (case zzhy2 => assumption); (case zzh4 => assumption); (case zzh16 => assumption); (case zzd => ktr_room); (case zzu => ktr_units); intro t9 h9 tk9 F9 N9; (try dsimp only); (try k_sweep); (try k_fold)))
  k_with "call ref" => (k_here; (with_reducible show wpAny _ _ (call (Value.ref 132) _) _ _ _); k_dflt (refine' Con.useI ?zzB ?zzF ?zzX ?zzN ?zzT ?zzk (arith_sub ?zzhb1 ?zzhb2 ?zzhb3 ?zzhx1 ?zzhx2 ?zzhy1 ?zzhy2 ?zzh4 ?zzh16) ?zzd ?zzu ?_; (case zzB => k_asm); (case zzF => k_asm); (case zzX => k_asm); (case zzN => k_asm); (case zzT => k_asm); (case zzk => first | exact rfl | assumption); (case zzhb1 => k_mem); (case zzhb2 => k_mem); (case zzhb3 => assumption); (case zzhx1 => assumption); (case zzhx2 => assumption); (case zzhy1 => assumption); (case zzhy2 => assumption); (case zzh4 => assumption); (case zzh16 => assumption); (case zzd => ktr_room); (case zzu => ktr_units); intro t9 h9 tk9 F9 N9; (try dsimp only); (try k_sweep); (try k_fold)))
  k_with "call ref" => (k_here; (with_reducible show wpAny _ _ (call (Value.ref 132) _) _ _ _); k_dflt (refine' Con.useI ?zzB ?zzF ?zzX ?zzN ?zzT ?zzk (arith_mul ?zzhb1 ?zzhb2 ?zzhb3 ?zzhx1 ?zzhx2 ?zzhy1 ?zzhy2 ?zzh4 ?zzh16) ?zzd ?zzu ?_; (case zzB => k_asm); (case zzF => k_asm); (case zzX => k_asm); (case zzN => k_asm); (case zzT => k_asm); (case zzk => first | exact rfl | assumption); (case zzhb1 => k_mem); (case zzhb2 => k_mem); (case zzhb3 => assumption); (case zzhx1 => assumption); (case zzhx2 => assumption); (case zzhy1 => assumption); (case zzhy2 => assumption); (case zzh4 => assumption); (case zzh16 => assumption); (case zzd => ktr_room); (case zzu => ktr_units); intro t9 h9 tk9 F9 N9; (try dsimp only); (try k_sweep); (try k_fold)))
  k_with "call ref" => (k_here; (with_reducible show wpAny _ _ (call (Value.ref 132) _) _ _ _); k_dflt (refine' Con.useI ?zzB ?zzF ?zzX ?zzN ?zzT ?zzk (arith_div ?zzhb1 ?zzhb2 ?zzhb3 ?zzhx1 ?zzhx2 ?zzhy1 ?zzhy2 ?zzh4 ?zzh16 ?zzh0) ?zzd ?zzu ?_; (case zzB => k_asm); (case zzF => k_asm); (case zzX => k_asm); (case zzN => k_asm); (case zzT => k_asm); (case zzk => first | exact rfl | assumption); (case zzhb1 => k_mem); (case zzhb2 => k_mem); (case zzhb3 => assumption); (case zzhx1 => assumption); (case zzhx2 => assumption); (case zzhy1 => assumption); (case zzhy2 => assumption); (case zzh4 => assumption); (case zzh16 => assumption); (case zzh0 => exact nores_div (by assumption) (by omega)); (case zzd => ktr_room); (case zzu => ktr_units); intro t9 h9 tk9 F9 N9; (try dsimp only); (try k_sweep); (try k_fold)))
  k_with "call ref" => (k_here; (with_reducible show wpAny _ _ (call (Value.ref 132) _) _ _ _); k_dflt (refine' Con.useI ?zzB ?zzF ?zzX ?zzN ?zzT ?zzk (arith_mod ?zzhb1 ?zzhb2 ?zzhb3 ?zzhx1 ?zzhx2 ?zzhy1 ?zzhy2 ?zzh4 ?zzh16 ?zzh0) ?zzd ?zzu ?_; (case zzB => k_asm); (case zzF => k_asm); (case zzX => k_asm); (case zzN => k_asm); (case zzT => k_asm); (case zzk => first | exact rfl | assumption); (case zzhb1 => k_mem); (case zzhb2 => k_mem); (case zzhb3 => assumption); (case zzhx1 => assumption); (case zzhx2 => assumption); (case zzhy1 => assumption); (case zzhy2 => assumption); (case zzh4 => assumption); (case zzh16 => assumption); (case zzh0 => exact nores_div (by assumption) (by omega)); (case zzd => ktr_room); (case zzu => ktr_units); intro t9 h9 tk9 F9 N9; (try dsimp only); (try k_sweep); (try k_fold)))
  k_with "call ref" => (k_here; (with_reducible show wpAny _ _ (call (Value.ref 132) _) _ _ _); k_dflt (refine' Con.useI ?zzB ?zzF ?zzX ?zzN ?zzT ?zzk (arith_pow ?zzhb1 ?zzhb2 ?zzhb3 ?zzhx1 ?zzhx2 ?zzhy1 ?zzhy2 ?zzh4 ?zzh16 ?zzh0) ?zzd ?zzu ?_; (case zzB => k_asm); (case zzF => k_asm); (case zzX => k_asm); (case zzN => k_asm); (case zzT => k_asm); (case zzk => first | exact rfl | assumption); (case zzhb1 => k_mem); (case zzhb2 => k_mem); (case zzhb3 => assumption); (case zzhx1 => assumption); (case zzhx2 => assumption); (case zzhy1 => assumption); (case zzhy2 => assumption); (case zzh4 => assumption); (case zzh16 => assumption); (case zzh0 => exact nores_pow (by assumption) (by omega)); (case zzd => ktr_room); (case zzu => ktr_units); intro t9 h9 tk9 F9 N9; (try dsimp only); (try k_sweep); (try k_fold)))
  k_with "call ref" => (k_here; (with_reducible show wpAny _ _ (call (Value.ref 132) _) _ _ _); k_dflt (refine' Con.useI ?zzB ?zzF ?zzX ?zzN ?zzT ?zzk (arith_unm ?zzhb1 ?zzhb2 ?zzhb3 ?zzhx1 ?zzhx2 ?zzhy1 ?zzhy2 ?zzh4 ?zzh16) ?zzd ?zzu ?_; (case zzB => k_asm); (case zzF => k_asm); (case zzX => k_asm); (case zzN => k_asm); (case zzT => k_asm); (case zzk => first | exact rfl | assumption); (case zzhb1 => k_mem); (case zzhb2 => k_mem); (case zzhb3 => assumption); (case zzhx1 => assumption); (case zzhx2 => assumption); (case zzhy1 => assumption); (case zzhy2 => assumption); (case zzh4 => assumption); (case zzh16 => assumption); (case zzd => ktr_room); (case zzu => ktr_units); intro t9 h9 tk9 F9 N9; (try dsimp only); (try k_sweep); (try k_fold)))
  k_with "call ref" => (k_here; (with_reducible show wpAny _ _ (call (Value.ref 189) _) _ _ _); k_dflt (refine' Con.useB ?zzB ?zzF ?zzX ?zzN ?zzT ?zzk (nores_con ) ?zzd ?zzu ?_; (case zzB => k_asm); (case zzF => k_asm); (case zzX => k_asm); (case zzN => k_asm); (case zzT => k_asm); (case zzk => first | exact rfl | assumption);  (case zzd => ktr_room); (case zzu => ktr_units); intro h9 tk9 F9 N9; (try dsimp only); (try k_sweep); (try k_fold)))
  intro dp un gd cn cs a ccd cl outer A₀ base h₀ L m s Q E B F X N T hk hd hu hret
  w_top off
  refine wpAny_call ?_
  k_dflt ktr_enter
  k_steps
  all_goals first
    | exact hret _ _ _ _ (rok (by omega)) (by k_asm) (keep1 (by k_asm)) (ord1 (And.right (by assumption)))
    | (exfalso; omega)
    | trace_state
set_option maxHeartbeats 8000000 in
theorem reck_zero {p x y : Int} {vl vr : Value} {wd : Int} {bx dx : Addr} {es : List DictEntry} {n : Nat} {t tw : Tok} (hb1 : (bx, instObj 53 dx) ∈ news) (hb2 : (dx, dictOf es n) ∈ news) (hb3 : getL (Str.ofString "width") es = some (some (.int wd tw))) (h4 : 4 ≤ wd) (h16 : wd ≤ 16) (C1 : Con w mean mg mb 181 5 [vl, .ref bx] news news (RInt x)) (C2 : Con w mean mg mb 181 5 [vr, .ref bx] news news (RInt y)) (hno : noRes p x y = true) : Con w mean mg mb 196 6 [.int p t, vl, vr, .ref bx] news news (RBad 2) := by
  k_with_none
  k_with "eval Call Name cons nil" => (k_here; (with_reducible show wpAny _ _ (eval (PySem.Expr.Call (PySem.Expr.Name _ _) [_] [] _) _) _ _ _); k_dflt (refine' call1 ?zcF ?zcX ?zcT ?zchf ?zchk ?zca1 ?zcs ?zcx (by decide) ?_; (case zcF => k_asm); (case zcX => k_asm); (case zcT => k_asm); (case zchf => k_is); (case zchk => k_is); (case zca1 => (first | exact ArgV.int | exact ArgV.name rfl rfl (by decide) rfl)); (case zcs => rfl); (case zcx => rfl); intro t1 tk9; (try dsimp only)))
  k_with "eval Call Name cons nil" => (k_here; (with_reducible show wpAny _ _ (eval (PySem.Expr.Call (PySem.Expr.Name _ _) [_, _] [] _) _) _ _ _); k_dflt (refine' call2 ?zcF ?zcX ?zcT ?zchf ?zchk ?zca1 ?zca2 ?zcs ?zcx (by decide) ?_; (case zcF => k_asm); (case zcX => k_asm); (case zcT => k_asm); (case zchf => k_is); (case zchk => k_is); (case zca1 => (first | exact ArgV.int | exact ArgV.name rfl rfl (by decide) rfl)); (case zca2 => (first | exact ArgV.int | exact ArgV.name rfl rfl (by decide) rfl)); (case zcs => rfl); (case zcx => rfl); intro t1 t2 tk9; (try dsimp only)))
  k_with "eval Call Name cons nil" => (k_here; (with_reducible show wpAny _ _ (eval (PySem.Expr.Call (PySem.Expr.Name _ _) [_, _, _] [] _) _) _ _ _); k_dflt (refine' call3 ?zcF ?zcX ?zcT ?zchf ?zchk ?zca1 ?zca2 ?zca3 ?zcs ?zcx (by decide) ?_; (case zcF => k_asm); (case zcX => k_asm); (case zcT => k_asm); (case zchf => k_is); (case zchk => k_is); (case zca1 => (first | exact ArgV.int | exact ArgV.name rfl rfl (by decide) rfl)); (case zca2 => (first | exact ArgV.int | exact ArgV.name rfl rfl (by decide) rfl)); (case zca3 => (first | exact ArgV.int | exact ArgV.name rfl rfl (by decide) rfl)); (case zcs => rfl); (case zcx => rfl); intro t1 t2 t3 tk9; (try dsimp only)))
  k_with "eval Call Name cons nil" => (k_here; (with_reducible show wpAny _ _ (eval (PySem.Expr.Call (PySem.Expr.Name _ _) [_, _, _, _] [] _) _) _ _ _); k_dflt (refine' call4 ?zcF ?zcX ?zcT ?zchf ?zchk ?zca1 ?zca2 ?zca3 ?zca4 ?zcs ?zcx (by decide) ?_; (case zcF => k_asm); (case zcX => k_asm); (case zcT => k_asm); (case zchf => k_is); (case zchk => k_is); (case zca1 => (first | exact ArgV.int | exact ArgV.name rfl rfl (by decide) rfl)); (case zca2 => (first | exact ArgV.int | exact ArgV.name rfl rfl (by decide) rfl)); (case zca3 => (first | exact ArgV.int | exact ArgV.name rfl rfl (by decide) rfl)); (case zca4 => (first | exact ArgV.int | exact ArgV.name rfl rfl (by decide) rfl)); (case zcs => rfl); (case zcx => rfl); intro t1 t2 t3 t4 tk9; (try dsimp only)))
  k_with "call ref" => (k_here; (with_reducible show wpAny _ _ (call (Value.ref 181) _) _ _ _); k_dflt (refine' Con.useN ?zzB ?zzF ?zzX ?zzN ?zzT ?zzk ?zzC ?zzd ?zzu ?_; (case zzB => k_asm); (case zzF => k_asm); (case zzX => k_asm); (case zzN => k_asm); (case zzT => k_asm); (case zzk => first | exact rfl | assumption); (case zzC => assumption); (case zzd => ktr_room); (case zzu => ktr_units); intro h9 tk9 F9 N9; (try dsimp only); (try k_sweep); (try k_fold)))
  k_with "call ref" => (k_here; (with_reducible show wpAny _ _ (call (Value.ref 181) _) _ _ _); k_dflt (refine' Con.useI ?zzB ?zzF ?zzX ?zzN ?zzT ?zzk ?zzC ?zzd ?zzu ?_; (case zzB => k_asm); (case zzF => k_asm); (case zzX => k_asm); (case zzN => k_asm); (case zzT => k_asm); (case zzk => first | exact rfl | assumption); (case zzC => assumption); (case zzd => ktr_room); (case zzu => ktr_units); intro t9 h9 tk9 F9 N9; (try dsimp only); (try k_sweep); (try k_fold)))
  k_with "call ref" => (k_here; (with_reducible show wpAny _ _ (call (Value.ref 132) _) _ _ _); k_dflt (refine' Con.useI ?zzB ?zzF ?zzX ?zzN ?zzT ?zzk (arith_add ?zzhb1 ?zzhb2 ?zzhb3 ?zzhx1 ?zzhx2 ?zzhy1 ?zzhy2 ?zzh4 ?zzh16) ?zzd ?zzu ?_; (case zzB => k_asm); (case zzF => k_asm); (case zzX => k_asm); (case zzN => k_asm); (case zzT => k_asm); (case zzk => first | exact rfl | assumption); (case zzhb1 => k_mem); (case zzhb2 => k_mem); (case zzhb3 => assumption); (case zzhx1 => assumption); (case zzhx2 => assumption); (case zzhy1 => assumption); (case zzhy2 => assumption); (case zzh4 => assumption); (case zzh16 => assumption); (case zzd => ktr_room); (case zzu => ktr_units); intro t9 h9 tk9 F9 N9; (try dsimp only); (try k_sweep); (try k_fold)))
  k_with "call ref" => (k_here; (with_reducible show wpAny _ _ (call (Value.ref 132) _) _ _ _); k_dflt (refine' Con.useI ?zzB ?zzF ?zzX ?zzN ?zzT ?zzk (arith_sub ?zzhb1 ?zzhb2 ?zzhb3 ?zzhx1 ?zzhx2 ?zzhy1 ?zzhy2 ?zzh4 ?zzh16) ?zzd ?zzu ?_; (case zzB => k_asm); (case zzF => k_asm); (case zzX => k_asm); (case zzN => k_asm); (case zzT => k_asm); (case zzk => first | exact rfl | assumption); (case zzhb1 => k_mem); (case zzhb2 => k_mem); (case zzhb3 => assumption); (case zzhx1 => assumption); (case zzhx2 => assumption); (case zzhy1 => assumption); (case zzhy2 => assumption); (case zzh4 => assumption); (case zzh16 => assumption); (case zzd => ktr_room); (case zzu => ktr_units); intro t9 h9 tk9 F9 N9; (try dsimp only); (try k_sweep); (try k_fold)))
  k_with "call ref" => (k_here; (with_reducible show wpAny _ _ (call (Value.ref 132) _) _ _ _); k_dflt (refine' Con.useI ?zzB ?zzF ?zzX ?zzN ?zzT ?zzk (arith_mul ?zzhb1 ?zzhb2 ?zzhb3 ?zzhx1 ?zzhx2 ?zzhy1 ?zzhy2 ?zzh4 ?zzh16) ?zzd ?zzu ?_; (case zzB => k_asm); (case zzF => k_asm); (case zzX => k_asm); (case zzN => k_asm); (case zzT => k_asm); (case zzk => first | exact rfl | assumption); (case zzhb1 => k_mem); (case zzhb2 => k_mem); (case zzhb3 => assumption); (case zzhx1 => assumption); (case zzhx2 => assumption); (case zzhy1 => assumption); (case zzhy2 => assumption); (case zzh4 => assumption); (case zzh16 => assumption); (case zzd => ktr_room); (case zzu => ktr_units); intro t9 h9 tk9 F9 N9; (try dsimp only); (try k_sweep); (try k_fold)))
  k_with "call ref" => (k_here; (with_reducible show wpAny _ _ (call (Value.ref 132) _) _ _ _); k_dflt (refine' Con.useI ?zzB ?zzF ?zzX ?zzN ?zzT ?zzk (arith_div ?zzhb1 ?zzhb2 ?zzhb3 ?zzhx1 ?zzhx2 ?zzhy1 ?zzhy2 ?zzh4 ?zzh16 ?zzh0) ?zzd ?zzu ?_; (case zzB => k_asm); (case zzF => k_asm); (case zzX => k_asm); (case zzN => k_asm); (case zzT => k_asm); (case zzk => first | exact rfl | assumption); (case zzhb1 => k_mem); (case zzhb2 => k_mem); (case zzhb3 => assumption); (case zzhx1 => assumption); (case zzhx2 => assumption); (case zzhy1 => assumption); (case zzhy2 => assumption); (case zzh4 => assumption); (case zzh16 => assumption); (case zzh0 => exact nores_div (by assumption) (by omega)); (case zzd => ktr_room); (case zzu => ktr_units); intro t9 h9 tk9 F9 N9; (try dsimp only); (try k_sweep); (try k_fold)))
  k_with "call ref" => (k_here; (with_reducible show wpAny _ _ (call (Value.ref 132) _) _ _ _); k_dflt (refine' Con.useI ?zzB ?zzF ?zzX ?zzN ?zzT ?zzk (arith_mod ?zzhb1 ?zzhb2 ?zzhb3 ?zzhx1 ?zzhx2 ?zzhy1 ?zzhy2 ?zzh4 ?zzh16 ?zzh0) ?zzd ?zzu ?_; (case zzB => k_asm); (case zzF => k_asm); (case zzX => k_asm); (case zzN => k_asm); (case zzT => k_asm); (case zzk => first | exact rfl | assumption); (case zzhb1 => k_mem); (case zzhb2 => k_mem); (case zzhb3 => assumption); (case zzhx1 => assumption); (case zzhx2 => assumption); (case zzhy1 => assumption); (case zzhy2 => assumption); (case zzh4 => assumption); (case zzh16 => assumption); (case zzh0 => exact nores_div (by assumption) (by omega)); (case zzd => ktr_room); (case zzu => ktr_units); intro t9 h9 tk9 F9 N9; (try dsimp only); (try k_sweep); (try k_fold)))
  k_with "call ref" => (k_here; (with_reducible show wpAny _ _ (call (Value.ref 132) _) _ _ _); k_dflt (refine' Con.useI ?zzB ?zzF ?zzX ?zzN ?zzT ?zzk (arith_pow ?zzhb1 ?zzhb2 ?zzhb3 ?zzhx1 ?zzhx2 ?zzhy1 ?zzhy2 ?zzh4 ?zzh16 ?zzh0) ?zzd ?zzu ?_; (case zzB => k_asm); (case zzF => k_asm); (case zzX => k_asm); (case zzN => k_asm); (case zzT => k_asm); (case zzk => first | exact rfl | assumption); (case zzhb1 => k_mem); (case zzhb2 => k_mem); (case zzhb3 => assumption); (case zzhx1 => assumption); (case zzhx2 => assumption); (case zzhy1 => assumption); (case zzhy2 => assumption); (case zzh4 => assumption); (case zzh16 => assumption); (case zzh0 => exact nores_pow (by assumption) (by omega)); (case zzd => ktr_room); (case zzu => ktr_units); intro t9 h9 tk9 F9 N9; (try dsimp only); (try k_sweep); (try k_fold)))
  k_with "call ref" => (k_here; (with_reducible show wpAny _ _ (call (Value.ref 132) _) _ _ _); k_dflt (refine' Con.useI ?zzB ?zzF ?zzX ?zzN ?zzT ?zzk (arith_unm ?zzhb1 ?zzhb2 ?zzhb3 ?zzhx1 ?zzhx2 ?zzhy1 ?zzhy2 ?zzh4 ?zzh16) ?zzd ?zzu ?_; (case zzB => k_asm); (case zzF => k_asm); (case zzX => k_asm); (case zzN => k_asm); (case zzT => k_asm); (case zzk => first | exact rfl | assumption); (case zzhb1 => k_mem); (case zzhb2 => k_mem); (case zzhb3 => assumption); (case zzhx1 => assumption); (case zzhx2 => assumption); (case zzhy1 => assumption); (case zzhy2 => assumption); (case zzh4 => assumption); (case zzh16 => assumption); (case zzd => ktr_room); (case zzu => ktr_units); intro t9 h9 tk9 F9 N9; (try dsimp only); (try k_sweep); (try k_fold)))
  k_with "call ref" => (k_here; (with_reducible show wpAny _ _ (call (Value.ref 189) _) _ _ _); k_dflt (refine' Con.useB ?zzB ?zzF ?zzX ?zzN ?zzT ?zzk (nores_con ) ?zzd ?zzu ?_; (case zzB => k_asm); (case zzF => k_asm); (case zzX => k_asm); (case zzN => k_asm); (case zzT => k_asm); (case zzk => first | exact rfl | assumption);  (case zzd => ktr_room); (case zzu => ktr_units); intro h9 tk9 F9 N9; (try dsimp only); (try k_sweep); (try k_fold)))
  intro dp un gd cn cs a ccd cl outer A₀ base h₀ L m s Q E B F X N T hk hd hu hret
  w_top off
  refine wpAny_call ?_
  k_dflt ktr_enter
  k_steps
  all_goals first
    | exact hret _ _ _ _ rbad (by k_asm) (keep1 (by k_asm)) (ord1 (And.right (by assumption)))
    | (exfalso; omega)
    | trace_state
set_option maxHeartbeats 8000000 in
theorem reck_bad {p x y : Int} {vl vr : Value} {wd : Int} {bx dx : Addr} {es : List DictEntry} {n : Nat} {t tw : Tok} (hb1 : (bx, instObj 53 dx) ∈ news) (hb2 : (dx, dictOf es n) ∈ news) (hb3 : getL (Str.ofString "width") es = some (some (.int wd tw))) (h4 : 4 ≤ wd) (h16 : wd ≤ 16) (C1 : Con w mean mg mb 181 5 [vl, .ref bx] news news (RInt x)) (C2 : Con w mean mg mb 181 5 [vr, .ref bx] news news RNone) : Con w mean mg mb 196 6 [.int p t, vl, vr, .ref bx] news news (RBad 1) := by
  k_with_none
  k_with "eval Call Name cons nil" => (k_here; (with_reducible show wpAny _ _ (eval (PySem.Expr.Call (PySem.Expr.Name _ _) [_] [] _) _) _ _ _); k_dflt (refine' call1 ?zcF ?zcX ?zcT ?zchf ?zchk ?zca1 ?zcs ?zcx (by decide) ?_; (case zcF => k_asm); (case zcX => k_asm); (case zcT => k_asm); (case zchf => k_is); (case zchk => k_is); (case zca1 => (first | exact ArgV.int | exact ArgV.name rfl rfl (by decide) rfl)); (case zcs => rfl); (case zcx => rfl); intro t1 tk9; (try dsimp only)))
  k_with "eval Call Name cons nil" => (k_here; (with_reducible show wpAny _ _ (eval (PySem.Expr.Call (PySem.Expr.Name _ _) [_, _] [] _) _) _ _ _); k_dflt (refine' call2 ?zcF ?zcX ?zcT ?zchf ?zchk ?zca1 ?zca2 ?zcs ?zcx (by decide) ?_; (case zcF => k_asm); (case zcX => k_asm); (case zcT => k_asm); (case zchf => k_is); (case zchk => k_is); (case zca1 => (first | exact ArgV.int | exact ArgV.name rfl rfl (by decide) rfl)); (case zca2 => (first | exact ArgV.int | exact ArgV.name rfl rfl (by decide) rfl)); (case zcs => rfl); (case zcx => rfl); intro t1 t2 tk9; (try dsimp only)))
  k_with "eval Call Name cons nil" => (k_here; (with_reducible show wpAny _ _ (eval (PySem.Expr.Call (PySem.Expr.Name _ _) [_, _, _] [] _) _) _ _ _); k_dflt (refine' call3 ?zcF ?zcX ?zcT ?zchf ?zchk ?zca1 ?zca2 ?zca3 ?zcs ?zcx (by decide) ?_; (case zcF => k_asm); (case zcX => k_asm); (case zcT => k_asm); (case zchf => k_is); (case zchk => k_is); (case zca1 => (first | exact ArgV.int | exact ArgV.name rfl rfl (by decide) rfl)); (case zca2 => (first | exact ArgV.int | exact ArgV.name rfl rfl (by decide) rfl)); (case zca3 => (first | exact ArgV.int | exact ArgV.name rfl rfl (by decide) rfl)); (case zcs => rfl); (case zcx => rfl); intro t1 t2 t3 tk9; (try dsimp only)))
  k_with "eval Call Name cons nil" => (k_here; (with_reducible show wpAny _ _ (eval (PySem.Expr.Call (PySem.Expr.Name _ _) [_, _, _, _] [] _) _) _ _ _); k_dflt (refine' call4 ?zcF ?zcX ?zcT ?zchf ?zchk ?zca1 ?zca2 ?zca3 ?zca4 ?zcs ?zcx (by decide) ?_; (case zcF => k_asm); (case zcX => k_asm); (case zcT => k_asm); (case zchf => k_is); (case zchk => k_is); (case zca1 => (first | exact ArgV.int | exact ArgV.name rfl rfl (by decide) rfl)); (case zca2 => (first | exact ArgV.int | exact ArgV.name rfl rfl (by decide) rfl)); (case zca3 => (first | exact ArgV.int | exact ArgV.name rfl rfl (by decide) rfl)); (case zca4 => (first | exact ArgV.int | exact ArgV.name rfl rfl (by decide) rfl)); (case zcs => rfl); (case zcx => rfl); intro t1 t2 t3 t4 tk9; (try dsimp only)))
  k_with "call ref" => (k_here; (with_reducible show wpAny _ _ (call (Value.ref 181) _) _ _ _); k_dflt (refine' Con.useN ?zzB ?zzF ?zzX ?zzN ?zzT ?zzk ?zzC ?zzd ?zzu ?_; (case zzB => k_asm); (case zzF => k_asm); (case zzX => k_asm); (case zzN => k_asm); (case zzT => k_asm); (case zzk => first | exact rfl | assumption); (case zzC => assumption); (case zzd => ktr_room); (case zzu => ktr_units); intro h9 tk9 F9 N9; (try dsimp only); (try k_sweep); (try k_fold)))
  k_with "call ref" => (k_here; (with_reducible show wpAny _ _ (call (Value.ref 181) _) _ _ _); k_dflt (refine' Con.useI ?zzB ?zzF ?zzX ?zzN ?zzT ?zzk ?zzC ?zzd ?zzu ?_; (case zzB => k_asm); (case zzF => k_asm); (case zzX => k_asm); (case zzN => k_asm); (case zzT => k_asm); (case zzk => first | exact rfl | assumption); (case zzC => assumption); (case zzd => ktr_room); (case zzu => ktr_units); intro t9 h9 tk9 F9 N9; (try dsimp only); (try k_sweep); (try k_fold)))
  k_with "call ref" => (k_here; (with_reducible show wpAny _ _ (call (Value.ref 132) _) _ _ _); k_dflt (refine' Con.useI ?zzB ?zzF ?zzX ?zzN ?zzT ?zzk (arith_add ?zzhb1 ?zzhb2 ?zzhb3 ?zzhx1 ?zzhx2 ?zzhy1 ?zzhy2 ?zzh4 ?zzh16) ?zzd ?zzu ?_; (case zzB => k_asm); (case zzF => k_asm); (case zzX => k_asm); (case zzN => k_asm); (case zzT => k_asm); (case zzk => first | exact rfl | assumption); (case zzhb1 => k_mem); (case zzhb2 => k_mem); (case zzhb3 => assumption); (case zzhx1 => assumption); (case zzhx2 => assumption); (case zzhy1 => assumption); (case zzhy2 => assumption); (case zzh4 => assumption); (case zzh16 => assumption); (case zzd => ktr_room); (case zzu => ktr_units); intro t9 h9 tk9 F9 N9; (try dsimp only); (try k_sweep); (try k_fold)))
  k_with "call ref" => (k_here; (with_reducible show wpAny _ _ (call (Value.ref 132) _) _ _ _); k_dflt (refine' Con.useI ?zzB ?zzF ?zzX ?zzN ?zzT ?zzk (arith_sub ?zzhb1 ?zzhb2 ?zzhb3 ?zzhx1 ?zzhx2 ?zzhy1 ?zzhy2 ?zzh4 ?zzh16) ?zzd ?zzu ?_; (case zzB => k_asm); (case zzF => k_asm); (case zzX => k_asm); (case zzN => k_asm); (case zzT => k_asm); (case zzk => first | exact rfl | assumption); (case zzhb1 => k_mem); (case zzhb2 => k_mem); (case zzhb3 => assumption); (case zzhx1 => assumption); (case zzhx2 => assumption); (case zzhy1 => assumption); (case zzhy2 => assumption); (case zzh4 => assumption); (case zzh16 => assumption); (case zzd => ktr_room); (case zzu => ktr_units); intro t9 h9 tk9 F9 N9; (try dsimp only); (try k_sweep); (try k_fold)))
  k_with "call ref" => (k_here; (with_reducible show wpAny _ _ (call (Value.ref 132) _) _ _ _); k_dflt (refine' Con.useI ?zzB ?zzF ?zzX ?zzN ?zzT ?zzk (arith_mul ?zzhb1 ?zzhb2 ?zzhb3 ?zzhx1 ?zzhx2 ?zzhy1 ?zzhy2 ?zzh4 ?zzh16) ?zzd ?zzu ?_; (case zzB => k_asm); (case zzF => k_asm); (case zzX => k_asm); (case zzN => k_asm); (case zzT => k_asm); (case zzk => first | exact rfl | assumption); (case zzhb1 => k_mem); (case zzhb2 => k_mem); (case zzhb3 => assumption); (case zzhx1 => assumption); (case zzhx2 => assumption); (case zzhy1 => assumption); (case zzhy2 => assumption); (case zzh4 => assumption); (case zzh16 => assumption); (case zzd => ktr_room); (case zzu => ktr_units); intro t9 h9 tk9 F9 N9; (try dsimp only); (try k_sweep); (try k_fold)))
  k_with "call ref" => (k_here; (with_reducible show wpAny _ _ (call (Value.ref 132) _) _ _ _); k_dflt (refine' Con.useI ?zzB ?zzF ?zzX ?zzN ?zzT ?zzk (arith_div ?zzhb1 ?zzhb2 ?zzhb3 ?zzhx1 ?zzhx2 ?zzhy1 ?zzhy2 ?zzh4 ?zzh16 ?zzh0) ?zzd ?zzu ?_; (case zzB => k_asm); (case zzF => k_asm); (case zzX => k_asm); (case zzN => k_asm); (case zzT => k_asm); (case zzk => first | exact rfl | assumption); (case zzhb1 => k_mem); (case zzhb2 => k_mem); (case zzhb3 => assumption); (case zzhx1 => assumption); (case zzhx2 => assumption); (case zzhy1 => assumption); (case zzhy2 => assumption); (case zzh4 => assumption); (case zzh16 => assumption); (case zzh0 => exact nores_div (by assumption) (by omega)); (case zzd => ktr_room); (case zzu => ktr_units); intro t9 h9 tk9 F9 N9; (try dsimp only); (try k_sweep); (try k_fold)))
  k_with "call ref" => (k_here; (with_reducible show wpAny _ _ (call (Value.ref 132) _) _ _ _); k_dflt (refine' Con.useI ?zzB ?zzF ?zzX ?zzN ?zzT ?zzk (arith_mod ?zzhb1 ?zzhb2 ?zzhb3 ?zzhx1 ?zzhx2 ?zzhy1 ?zzhy2 ?zzh4 ?zzh16 ?zzh0) ?zzd ?zzu ?_; (case zzB => k_asm); (case zzF => k_asm); (case zzX => k_asm); (case zzN => k_asm); (case zzT => k_asm); (case zzk => first | exact rfl | assumption); (case zzhb1 => k_mem); (case zzhb2 => k_mem); (case zzhb3 => assumption); (case zzhx1 => assumption); (case zzhx2 => assumption); (case zzhy1 => assumption); (case zzhy2 => assumption); (case zzh4 => assumption); (case zzh16 => assumption); (case zzh0 => exact nores_div (by assumption) (by omega)); (case zzd => ktr_room); (case zzu => ktr_units); intro t9 h9 tk9 F9 N9; (try dsimp only); (try k_sweep); (try k_fold)))
  k_with "call ref" => (k_here; (with_reducible show wpAny _ _ (call (Value.ref 132) _) _ _ _); k_dflt (refine' Con.useI ?zzB ?zzF ?zzX ?zzN ?zzT ?zzk (arith_pow ?zzhb1 ?zzhb2 ?zzhb3 ?zzhx1 ?zzhx2 ?zzhy1 ?zzhy2 ?zzh4 ?zzh16 ?zzh0) ?zzd ?zzu ?_; (case zzB => k_asm); (case zzF => k_asm); (case zzX => k_asm); (case zzN => k_asm); (case zzT => k_asm); (case zzk => first | exact rfl | assumption); (case zzhb1 => k_mem); (case zzhb2 => k_mem); (case zzhb3 => assumption); (case zzhx1 => assumption); (case zzhx2 => assumption); (case zzhy1 => assumption); (case zzhy2 => assumption); (case zzh4 => assumption); (case zzh16 => assumption); (case zzh0 => exact nores_pow (by assumption) (by omega)); (case zzd => ktr_room); (case zzu => ktr_units); intro t9 h9 tk9 F9 N9; (try dsimp only); (try k_sweep); (try k_fold)))
  k_with "call ref" => (k_here; (with_reducible show wpAny _ _ (call (Value.ref 132) _) _ _ _); k_dflt (refine' Con.useI ?zzB ?zzF ?zzX ?zzN ?zzT ?zzk (arith_unm ?zzhb1 ?zzhb2 ?zzhb3 ?zzhx1 ?zzhx2 ?zzhy1 ?zzhy2 ?zzh4 ?zzh16) ?zzd ?zzu ?_; (case zzB => k_asm); (case zzF => k_asm); (case zzX => k_asm); (case zzN => k_asm); (case zzT => k_asm); (case zzk => first | exact rfl | assumption); (case zzhb1 => k_mem); (case zzhb2 => k_mem); (case zzhb3 => assumption); (case zzhx1 => assumption); (case zzhx2 => assumption); (case zzhy1 => assumption); (case zzhy2 => assumption); (case zzh4 => assumption); (case zzh16 => assumption); (case zzd => ktr_room); (case zzu => ktr_units); intro t9 h9 tk9 F9 N9; (try dsimp only); (try k_sweep); (try k_fold)))
  k_with "call ref" => (k_here; (with_reducible show wpAny _ _ (call (Value.ref 189) _) _ _ _); k_dflt (refine' Con.useB ?zzB ?zzF ?zzX ?zzN ?zzT ?zzk (nores_con ) ?zzd ?zzu ?_; (case zzB => k_asm); (case zzF => k_asm); (case zzX => k_asm); (case zzN => k_asm); (case zzT => k_asm); (case zzk => first | exact rfl | assumption);  (case zzd => ktr_room); (case zzu => ktr_units); intro h9 tk9 F9 N9; (try dsimp only); (try k_sweep); (try k_fold)))
  intro dp un gd cn cs a ccd cl outer A₀ base h₀ L m s Q E B F X N T hk hd hu hret
  w_top off
  refine wpAny_call ?_
  k_dflt ktr_enter
  k_steps
  all_goals first
    | exact hret _ _ _ _ rbad (by k_asm) (keep1 (by k_asm)) (ord1 (And.right (by assumption)))
    | (exfalso; omega)
    | trace_state
end Mine

namespace Mine
set_option maxRecDepth 100000
variable {w : World} {mean : ExcName → Option Value} {mg mb : Str → Option Value} {news : List (Addr × Obj)}
local macro_rules | `(tactic| k_mem) => `(tactic| first | exact List.mem_cons_of_mem _ (by assumption) | exact List.mem_cons_of_mem _ (List.mem_cons_of_mem _ (by assumption)) | exact List.mem_cons_of_mem _ (List.mem_cons_of_mem _ (List.mem_cons_of_mem _ (by assumption))) | exact List.mem_cons_of_mem _ (List.mem_cons_of_mem _ (List.mem_cons_of_mem _ (List.mem_cons_of_mem _ (by assumption)))))
theorem reck_int {p x y : Int} {wd : Int} {bx dx : Addr} {es : List DictEntry} {n : Nat} {t t' t'' tw : Tok} (hb1 : (bx, instObj 53 dx) ∈ news) (hb2 : (dx, dictOf es n) ∈ news) (hb3 : getL (Str.ofString "width") es = some (some (.int wd tw))) (h4 : 4 ≤ wd) (h16 : wd ≤ 16) (hx1 : -65536 ≤ x) (hx2 : x ≤ 65536) (hy1 : -65536 ≤ y) (hy2 : y ≤ 65536) (hp0 : 0 ≤ p) (hp1 : p < 7) (hno : noRes p x y = false) : Con w mean mg mb 196 6 [.int p t, .int x t', .int y t'', .ref bx] news news (ROk (arithZ p x y wd)) :=
  reck_ok hb1 hb2 hb3 h4 h16 hx1 hx2 hy1 hy2 (tn_int hb1 hb2 hb3 h4 h16) (tn_int hb1 hb2 hb3 h4 h16) hp0 hp1 hno
theorem reck_int0 {p x y : Int} {wd : Int} {bx dx : Addr} {es : List DictEntry} {n : Nat} {t t' t'' tw : Tok} (hb1 : (bx, instObj 53 dx) ∈ news) (hb2 : (dx, dictOf es n) ∈ news) (hb3 : getL (Str.ofString "width") es = some (some (.int wd tw))) (h4 : 4 ≤ wd) (h16 : wd ≤ 16) (hno : noRes p x y = true) : Con w mean mg mb 196 6 [.int p t, .int x t', .int y t'', .ref bx] news news (RBad 2) :=
  reck_zero hb1 hb2 hb3 h4 h16 (tn_int hb1 hb2 hb3 h4 h16) (tn_int hb1 hb2 hb3 h4 h16) hno
set_option maxHeartbeats 8000000 in
theorem of_con {p x y : Int} {wd : Int} {bx dx : Addr} {es : List DictEntry} {n : Nat} {t t' t'' tw : Tok} (hb1 : (bx, instObj 53 dx) ∈ news) (hb2 : (dx, dictOf es n) ∈ news) (hb3 : getL (Str.ofString "width") es = some (some (.int wd tw))) (h4 : 4 ≤ wd) (h16 : wd ≤ 16) (hx1 : -65536 ≤ x) (hx2 : x ≤ 65536) (hy1 : -65536 ≤ y) (hy2 : y ≤ 65536) (hp0 : 0 ≤ p) (hp1 : p < 7) (hno : noRes p x y = false) : Con w mean mg mb 210 7 [.int p t, .int x t', .int y t'', .ref bx] news news (RInt (arithZ p x y wd)) := by
  k_with_none
  k_with "eval Call Name cons nil" => (k_here; (with_reducible show wpAny _ _ (eval (PySem.Expr.Call (PySem.Expr.Name _ _) [_] [] _) _) _ _ _); k_dflt (refine' call1 ?zcF ?zcX ?zcT ?zchf ?zchk ?zca1 ?zcs ?zcx (by decide) ?_; (case zcF => k_asm); (case zcX => k_asm); (case zcT => k_asm); (case zchf => k_is); (case zchk => k_is); (case zca1 => (first | exact ArgV.int | exact ArgV.name rfl rfl (by decide) rfl)); (case zcs => rfl); (case zcx => rfl); intro t1 tk9; (try dsimp only)))
  k_with "eval Call Name cons nil" => (k_here; (with_reducible show wpAny _ _ (eval (PySem.Expr.Call (PySem.Expr.Name _ _) [_, _] [] _) _) _ _ _); k_dflt (refine' call2 ?zcF ?zcX ?zcT ?zchf ?zchk ?zca1 ?zca2 ?zcs ?zcx (by decide) ?_; (case zcF => k_asm); (case zcX => k_asm); (case zcT => k_asm); (case zchf => k_is); (case zchk => k_is); (case zca1 => (first | exact ArgV.int | exact ArgV.name rfl rfl (by decide) rfl)); (case zca2 => (first | exact ArgV.int | exact ArgV.name rfl rfl (by decide) rfl)); (case zcs => rfl); (case zcx => rfl); intro t1 t2 tk9; (try dsimp only)))
  k_with "eval Call Name cons nil" => (k_here; (with_reducible show wpAny _ _ (eval (PySem.Expr.Call (PySem.Expr.Name _ _) [_, _, _] [] _) _) _ _ _); k_dflt (refine' call3 ?zcF ?zcX ?zcT ?zchf ?zchk ?zca1 ?zca2 ?zca3 ?zcs ?zcx (by decide) ?_; (case zcF => k_asm); (case zcX => k_asm); (case zcT => k_asm); (case zchf => k_is); (case zchk => k_is); (case zca1 => (first | exact ArgV.int | exact ArgV.name rfl rfl (by decide) rfl)); (case zca2 => (first | exact ArgV.int | exact ArgV.name rfl rfl (by decide) rfl)); (case zca3 => (first | exact ArgV.int | exact ArgV.name rfl rfl (by decide) rfl)); (case zcs => rfl); (case zcx => rfl); intro t1 t2 t3 tk9; (try dsimp only)))
  k_with "eval Call Name cons nil" => (k_here; (with_reducible show wpAny _ _ (eval (PySem.Expr.Call (PySem.Expr.Name _ _) [_, _, _, _] [] _) _) _ _ _); k_dflt (refine' call4 ?zcF ?zcX ?zcT ?zchf ?zchk ?zca1 ?zca2 ?zca3 ?zca4 ?zcs ?zcx (by decide) ?_; (case zcF => k_asm); (case zcX => k_asm); (case zcT => k_asm); (case zchf => k_is); (case zchk => k_is); (case zca1 => (first | exact ArgV.int | exact ArgV.name rfl rfl (by decide) rfl)); (case zca2 => (first | exact ArgV.int | exact ArgV.name rfl rfl (by decide) rfl)); (case zca3 => (first | exact ArgV.int | exact ArgV.name rfl rfl (by decide) rfl)); (case zca4 => (first | exact ArgV.int | exact ArgV.name rfl rfl (by decide) rfl)); (case zcs => rfl); (case zcx => rfl); intro t1 t2 t3 t4 tk9; (try dsimp only)))
  k_with "call ref" => (k_here; (with_reducible show wpAny _ _ (call (Value.ref 196) _) _ _ _); k_dflt (refine' Con.useK ?zzB ?zzF ?zzX ?zzN ?zzT ?zzk (reck_int ?zzhb1 ?zzhb2 ?zzhb3 ?zzh4 ?zzh16 ?zzhx1 ?zzhx2 ?zzhy1 ?zzhy2 ?zzhp0 ?zzhp1 ?zzhno) ?zzd ?zzu ?_; (case zzB => k_asm); (case zzF => k_asm); (case zzX => k_asm); (case zzN => k_asm); (case zzT => k_asm); (case zzk => first | exact rfl | assumption); (case zzhb1 => k_mem); (case zzhb2 => k_mem); (case zzhb3 => assumption); (case zzh4 => assumption); (case zzh16 => assumption); (case zzhx1 => assumption); (case zzhx2 => assumption); (case zzhy1 => assumption); (case zzhy2 => assumption); (case zzhp0 => assumption); (case zzhp1 => assumption); (case zzhno => assumption); (case zzd => ktr_room); (case zzu => ktr_units); intro p9 t9 u9 h9 tk9 F9 N9 l9; (try k_lt l9); (try dsimp only); (try k_sweep); (try k_fold)))
  intro dp un gd cn cs a ccd cl outer A₀ base h₀ L m s Q E B F X N T hk hd hu hret
  w_top off
  refine wpAny_call ?_
  k_dflt ktr_enter
  k_steps
  all_goals first
    | exact hret _ [] _ _ (rint rfl) (by k_asm) (by first | k_asm | exact drop1 (by k_asm) | exact drop2 (by k_asm) | exact drop3 (by k_asm) | exact drop4 (by k_asm)) no_tl
    | trace_state
end Mine

namespace Mine
set_option maxRecDepth 100000
variable {w : World} {mean : ExcName → Option Value} {mg mb : Str → Option Value} {news : List (Addr × Obj)}
local macro_rules | `(tactic| k_mem) => `(tactic| first | exact List.mem_cons_of_mem _ (by assumption) | exact List.mem_cons_of_mem _ (List.mem_cons_of_mem _ (by assumption)) | exact List.mem_cons_of_mem _ (List.mem_cons_of_mem _ (List.mem_cons_of_mem _ (by assumption))) | exact List.mem_cons_of_mem _ (List.mem_cons_of_mem _ (List.mem_cons_of_mem _ (List.mem_cons_of_mem _ (by assumption)))))
theorem powNeg_bounds (x y : Int) : -32768 ≤ powNeg x y ∧ powNeg x y ≤ 32767 := by
  unfold powNeg; split
  · omega
  · split
    · split <;> omega
    · omega
theorem arithZ_bounds {p x y wd : Int} (h4 : 4 ≤ wd) (h16 : wd ≤ 16) : -32768 ≤ arithZ p x y wd ∧ arithZ p x y wd ≤ 32767 := by
  unfold arithZ
  repeat' split
  all_goals first
    | exact wrapZ_bounds h4 h16
    | (unfold powZ; split; exact powNeg_bounds x y; exact wrapZ_bounds h4 h16)
theorem arithZ_lo {p x y wd : Int} (h4 : 4 ≤ wd) (h16 : wd ≤ 16) : -65536 ≤ arithZ p x y wd := by
  have := arithZ_bounds (p := p) (x := x) (y := y) h4 h16; omega
theorem arithZ_hi {p x y wd : Int} (h4 : 4 ≤ wd) (h16 : wd ≤ 16) : arithZ p x y wd ≤ 65536 := by
  have := arithZ_bounds (p := p) (x := x) (y := y) h4 h16; omega
theorem nores_easy {p x y : Int} (h3 : p ≠ 3) (h4 : p ≠ 4) (h5 : p ≠ 5) : noRes p x y = false := by
  unfold noRes; rw [if_neg (by omega)]; exact decide_eq_false (by omega)
theorem nores_nz {p x y : Int} (hp : p = 3 ∨ p = 4) (h : y ≠ 0) : noRes p x y = false := by
  unfold noRes; rw [if_pos hp]; exact decide_eq_false h
theorem nores_nn {p x y : Int} (hp : p = 5) (h : 0 ≤ y) : noRes p x y = false := by
  unfold noRes; rw [if_neg (by omega)]; exact decide_eq_false (by omega)
theorem az0 (x y wd : Int) : arithZ 0 x y wd = wrapZ (x + y) wd := rfl
theorem az1 (x y wd : Int) : arithZ 1 x y wd = wrapZ (x - y) wd := rfl
theorem az2 (x y wd : Int) : arithZ 2 x y wd = wrapZ (x * y) wd := rfl
theorem az3 (x y wd : Int) : arithZ 3 x y wd = wrapZ (x.tdiv y) wd := rfl
theorem az4 (x y wd : Int) : arithZ 4 x y wd = wrapZ (x.fmod y) wd := rfl
theorem az5 (x y wd : Int) : arithZ 5 x y wd = powZ x y wd := rfl
theorem az6 (x y wd : Int) : arithZ 6 x y wd = wrapZ (-x) wd := rfl
theorem ring1 (a b wd : Int) : arithZ 0 a b wd = arithZ 0 b a wd := by rw [az0, az0, Int.add_comm]
theorem ring2 (a b wd : Int) : arithZ 2 a b wd = arithZ 2 b a wd := by rw [az2, az2, Int.mul_comm]
theorem ring3 (a b c wd : Int) : arithZ 0 (arithZ 0 a b wd) c wd = arithZ 0 a (arithZ 0 b c wd) wd := by
  simp only [az0, wz_add_l, wz_add_r, Int.add_assoc]
theorem ring4 (a b c wd : Int) : arithZ 2 (arithZ 2 a b wd) c wd = arithZ 2 a (arithZ 2 b c wd) wd := by
  simp only [az2, wz_mul_l, wz_mul_r, Int.mul_assoc]
theorem ring5 (a b c wd : Int) : arithZ 2 (arithZ 0 a b wd) c wd = arithZ 0 (arithZ 2 a c wd) (arithZ 2 b c wd) wd := by
  simp only [az0, az2, wz_mul_l, wz_add_l, wz_add_r, Int.add_mul]
theorem ring6 {a b wd : Int} (h4 : 4 ≤ wd) (h1 : -(2 ^ (wd - 1).toNat) ≤ a) (h2 : a < 2 ^ (wd - 1).toNat) : arithZ 1 (arithZ 0 a b wd) b wd = a := by
  simp only [az0, az1, wz_sub_l, Int.add_sub_cancel]
  exact wz_id (by omega) h1 h2
theorem ring7 (a wd : Int) : arithZ 0 a (arithZ 6 a a wd) wd = 0 := by
  simp only [az0, az6, wz_add_r, Int.add_right_neg]
  unfold wrapZ; exact Int.zero_bmod
theorem ring8 (a b wd : Int) : arithZ 1 a b wd = arithZ 0 a (arithZ 6 b b wd) wd := by
  simp only [az0, az1, az6, wz_add_r, Int.sub_eq_add_neg]
theorem ne_known {prog : Program} {A : Around} {E : Value → Shared → Prop} {s : Shared} {a b : Int} {t u : Tok} {Q : Value → Shared → Prop} (e : a = b) (h : Q (.bool false) s) : wpAny (model prog w) A (compareOp .NotEq (.int a t) (.int b u)) Q E s :=
  PyProof.Rows.ne_int (by subst e; rw [bne_self_eq_false]; exact h)
theorem eq_known {prog : Program} {A : Around} {E : Value → Shared → Prop} {s : Shared} {a b : Int} {t u : Tok} {Q : Value → Shared → Prop} (e : a = b) (h : Q (.bool true) s) : wpAny (model prog w) A (compareOp .Eq (.int a t) (.int b u)) Q E s :=
  PyProof.Rows.eq_int (by subst e; rw [beq_self_eq_true]; exact h)
set_option maxHeartbeats 8000000 in
theorem ring_con {x y z : Int} {wd : Int} {bx dx : Addr} {es : List DictEntry} {n : Nat} {t t' t'' tw : Tok} (hb1 : (bx, instObj 53 dx) ∈ news) (hb2 : (dx, dictOf es n) ∈ news) (hb3 : getL (Str.ofString "width") es = some (some (.int wd tw))) (h4 : 4 ≤ wd) (h16 : wd ≤ 16) (hx1 : -65536 ≤ x) (hx2 : x ≤ 65536) (hy1 : -65536 ≤ y) (hy2 : y ≤ 65536) (hz1 : -65536 ≤ z) (hz2 : z ≤ 65536) (hr1 : -(2 ^ (wd - 1).toNat) ≤ x) (hr2 : x < 2 ^ (wd - 1).toNat) : Con w mean mg mb 224 8 [.int x t, .int y t', .int z t'', .ref bx] news news (RBool true) := by
  k_with_none
  k_with "eval Call Name cons nil" => (k_here; (with_reducible show wpAny _ _ (eval (PySem.Expr.Call (PySem.Expr.Name _ _) [_] [] _) _) _ _ _); k_dflt (refine' call1 ?zcF ?zcX ?zcT ?zchf ?zchk ?zca1 ?zcs ?zcx (by decide) ?_; (case zcF => k_asm); (case zcX => k_asm); (case zcT => k_asm); (case zchf => k_is); (case zchk => k_is); (case zca1 => (first | exact ArgV.int | exact ArgV.name rfl rfl (by decide) rfl)); (case zcs => rfl); (case zcx => rfl); intro t1 tk9; (try dsimp only)))
  k_with "eval Call Name cons nil" => (k_here; (with_reducible show wpAny _ _ (eval (PySem.Expr.Call (PySem.Expr.Name _ _) [_, _] [] _) _) _ _ _); k_dflt (refine' call2 ?zcF ?zcX ?zcT ?zchf ?zchk ?zca1 ?zca2 ?zcs ?zcx (by decide) ?_; (case zcF => k_asm); (case zcX => k_asm); (case zcT => k_asm); (case zchf => k_is); (case zchk => k_is); (case zca1 => (first | exact ArgV.int | exact ArgV.name rfl rfl (by decide) rfl)); (case zca2 => (first | exact ArgV.int | exact ArgV.name rfl rfl (by decide) rfl)); (case zcs => rfl); (case zcx => rfl); intro t1 t2 tk9; (try dsimp only)))
  k_with "eval Call Name cons nil" => (k_here; (with_reducible show wpAny _ _ (eval (PySem.Expr.Call (PySem.Expr.Name _ _) [_, _, _] [] _) _) _ _ _); k_dflt (refine' call3 ?zcF ?zcX ?zcT ?zchf ?zchk ?zca1 ?zca2 ?zca3 ?zcs ?zcx (by decide) ?_; (case zcF => k_asm); (case zcX => k_asm); (case zcT => k_asm); (case zchf => k_is); (case zchk => k_is); (case zca1 => (first | exact ArgV.int | exact ArgV.name rfl rfl (by decide) rfl)); (case zca2 => (first | exact ArgV.int | exact ArgV.name rfl rfl (by decide) rfl)); (case zca3 => (first | exact ArgV.int | exact ArgV.name rfl rfl (by decide) rfl)); (case zcs => rfl); (case zcx => rfl); intro t1 t2 t3 tk9; (try dsimp only)))
  k_with "eval Call Name cons nil" => (k_here; (with_reducible show wpAny _ _ (eval (PySem.Expr.Call (PySem.Expr.Name _ _) [_, _, _, _] [] _) _) _ _ _); k_dflt (refine' call4 ?zcF ?zcX ?zcT ?zchf ?zchk ?zca1 ?zca2 ?zca3 ?zca4 ?zcs ?zcx (by decide) ?_; (case zcF => k_asm); (case zcX => k_asm); (case zcT => k_asm); (case zchf => k_is); (case zchk => k_is); (case zca1 => (first | exact ArgV.int | exact ArgV.name rfl rfl (by decide) rfl)); (case zca2 => (first | exact ArgV.int | exact ArgV.name rfl rfl (by decide) rfl)); (case zca3 => (first | exact ArgV.int | exact ArgV.name rfl rfl (by decide) rfl)); (case zca4 => (first | exact ArgV.int | exact ArgV.name rfl rfl (by decide) rfl)); (case zcs => rfl); (case zcx => rfl); intro t1 t2 t3 t4 tk9; (try dsimp only)))
  k_with "compareOp NotEq int int" => (k_here; refine' ne_known ?zze ?_; (case zze => with_reducible first | exact ring1 _ _ _ | exact ring2 _ _ _ | exact ring3 _ _ _ _ | exact ring4 _ _ _ _ | exact ring5 _ _ _ _ | exact ring6 (by assumption) (by assumption) (by assumption) | exact ring7 _ _))
  k_with "compareOp Eq int int" => (k_here; refine' eq_known ?zze ?_; (case zze => with_reducible exact ring8 _ _ _))
  k_with "call ref" => (k_here; (with_reducible show wpAny _ _ (call (Value.ref 210) _) _ _ _); k_dflt (refine' Con.useI ?zzB ?zzF ?zzX ?zzN ?zzT ?zzk (of_con ?zzhb1 ?zzhb2 ?zzhb3 ?zzh4 ?zzh16 ?zzhx1 ?zzhx2 ?zzhy1 ?zzhy2 ?zzhp0 ?zzhp1 ?zzhno) ?zzd ?zzu ?_; (case zzB => k_asm); (case zzF => k_asm); (case zzX => k_asm); (case zzN => k_asm); (case zzT => k_asm); (case zzk => first | exact rfl | assumption); (case zzhb1 => k_mem); (case zzhb2 => k_mem); (case zzhb3 => assumption); (case zzh4 => assumption); (case zzh16 => assumption); (case zzhx1 => first | with_reducible assumption | exact arithZ_lo (by assumption) (by assumption)); (case zzhx2 => first | with_reducible assumption | exact arithZ_hi (by assumption) (by assumption)); (case zzhy1 => first | with_reducible assumption | exact arithZ_lo (by assumption) (by assumption)); (case zzhy2 => first | with_reducible assumption | exact arithZ_hi (by assumption) (by assumption)); (case zzhp0 => decide); (case zzhp1 => decide); (case zzhno => exact nores_easy (by decide) (by decide) (by decide)); (case zzd => ktr_room); (case zzu => ktr_units); intro t9 h9 tk9 F9 N9; (try dsimp only); (try k_sweep); (try k_fold)))
  intro dp un gd cn cs a ccd cl outer A₀ base h₀ L m s Q E B F X N T hk hd hu hret
  w_top off
  refine wpAny_call ?_
  k_dflt ktr_enter
  k_steps
  all_goals first
    | exact absurd (ring1 _ _ _) (by assumption)
    | exact absurd (ring2 _ _ _) (by assumption)
    | exact absurd (ring3 _ _ _ _) (by assumption)
    | exact absurd (ring4 _ _ _ _) (by assumption)
    | exact absurd (ring5 _ _ _ _) (by assumption)
    | exact absurd (ring6 (by assumption) (by assumption) (by assumption)) (by assumption)
    | exact absurd (ring7 _ _) (by assumption)
    | exact hret _ [] _ _ (rbool rfl) (by k_asm) (by first | k_asm | exact drop1 (by k_asm) | exact drop2 (by k_asm) | exact drop3 (by k_asm) | exact drop4 (by k_asm)) no_tl
    | trace_state
end Mine

namespace Mine
set_option maxRecDepth 100000
variable {w : World} {mean : ExcName → Option Value} {mg mb : Str → Option Value} {news : List (Addr × Obj)}
local macro_rules | `(tactic| k_mem) => `(tactic| first | exact List.mem_cons_of_mem _ (by assumption) | exact List.mem_cons_of_mem _ (List.mem_cons_of_mem _ (by assumption)) | exact List.mem_cons_of_mem _ (List.mem_cons_of_mem _ (List.mem_cons_of_mem _ (by assumption))) | exact List.mem_cons_of_mem _ (List.mem_cons_of_mem _ (List.mem_cons_of_mem _ (List.mem_cons_of_mem _ (by assumption)))))
theorem of_at {p x y z : Int} {wd : Int} {bx dx : Addr} {es : List DictEntry} {n : Nat} {t t' t'' tw : Tok} (hb1 : (bx, instObj 53 dx) ∈ news) (hb2 : (dx, dictOf es n) ∈ news) (hb3 : getL (Str.ofString "width") es = some (some (.int wd tw))) (h4 : 4 ≤ wd) (h16 : wd ≤ 16) (hx1 : -65536 ≤ x) (hx2 : x ≤ 65536) (hy1 : -65536 ≤ y) (hy2 : y ≤ 65536) (hp0 : 0 ≤ p) (hp1 : p < 7) (hno : noRes p x y = false) (e : arithZ p x y wd = z) : Con w mean mg mb 210 7 [.int p t, .int x t', .int y t'', .ref bx] news news (RInt z) :=
  e ▸ of_con hb1 hb2 hb3 h4 h16 hx1 hx2 hy1 hy2 hp0 hp1 hno
theorem div_e1 {r y : Int} (F1 : (0 < y ∧ 0 ≤ r ∧ r < y) ∨ (y < 0 ∧ y < r ∧ r ≤ 0)) (h0 : r ≠ 0) (h : (decide (r < 0) != decide (y < 0)) = true) : False := by
  rw [bne_iff_ne, ne_eq, decide_eq_decide] at h
  omega
theorem div_e3 {d x : Int} (F4 : d = 0 ∨ (d < 0 ∧ x < 0) ∨ (0 < d ∧ 0 < x)) (h : d ≠ 0) : (decide (d < 0) == decide (x < 0)) = true := by
  rw [beq_iff_eq, decide_eq_decide]
  omega
theorem zero3 {x : Int} : noRes 3 x 0 = true := rfl
theorem zero4 {x : Int} : noRes 4 x 0 = true := rfl
theorem fmod_m1 (z : Int) : z.fmod (-1) = 0 := by
  have := fmod_bounds (x := z) (y := -1) (by decide)
  omega
set_option maxHeartbeats 8000000 in
theorem div_zero {x : Int} {wd : Int} {bx dx : Addr} {es : List DictEntry} {n : Nat} {t t' tw : Tok} (hb1 : (bx, instObj 53 dx) ∈ news) (hb2 : (dx, dictOf es n) ∈ news) (hb3 : getL (Str.ofString "width") es = some (some (.int wd tw))) (h4 : 4 ≤ wd) (h16 : wd ≤ 16) : Con w mean mg mb 231 20 [.int x t, .int 0 t', .ref bx] news news (RBool true) := by
  k_with_none
  k_with "eval Call Name cons nil" => (k_here; (with_reducible show wpAny _ _ (eval (PySem.Expr.Call (PySem.Expr.Name _ _) [_] [] _) _) _ _ _); k_dflt (refine' call1 ?zcF ?zcX ?zcT ?zchf ?zchk ?zca1 ?zcs ?zcx (by decide) ?_; (case zcF => k_asm); (case zcX => k_asm); (case zcT => k_asm); (case zchf => k_is); (case zchk => k_is); (case zca1 => (first | exact ArgV.int | exact ArgV.name rfl rfl (by decide) rfl)); (case zcs => rfl); (case zcx => rfl); intro t1 tk9; (try dsimp only)))
  k_with "eval Call Name cons nil" => (k_here; (with_reducible show wpAny _ _ (eval (PySem.Expr.Call (PySem.Expr.Name _ _) [_, _] [] _) _) _ _ _); k_dflt (refine' call2 ?zcF ?zcX ?zcT ?zchf ?zchk ?zca1 ?zca2 ?zcs ?zcx (by decide) ?_; (case zcF => k_asm); (case zcX => k_asm); (case zcT => k_asm); (case zchf => k_is); (case zchk => k_is); (case zca1 => (first | exact ArgV.int | exact ArgV.name rfl rfl (by decide) rfl)); (case zca2 => (first | exact ArgV.int | exact ArgV.name rfl rfl (by decide) rfl)); (case zcs => rfl); (case zcx => rfl); intro t1 t2 tk9; (try dsimp only)))
  k_with "eval Call Name cons nil" => (k_here; (with_reducible show wpAny _ _ (eval (PySem.Expr.Call (PySem.Expr.Name _ _) [_, _, _] [] _) _) _ _ _); k_dflt (refine' call3 ?zcF ?zcX ?zcT ?zchf ?zchk ?zca1 ?zca2 ?zca3 ?zcs ?zcx (by decide) ?_; (case zcF => k_asm); (case zcX => k_asm); (case zcT => k_asm); (case zchf => k_is); (case zchk => k_is); (case zca1 => (first | exact ArgV.int | exact ArgV.name rfl rfl (by decide) rfl)); (case zca2 => (first | exact ArgV.int | exact ArgV.name rfl rfl (by decide) rfl)); (case zca3 => (first | exact ArgV.int | exact ArgV.name rfl rfl (by decide) rfl)); (case zcs => rfl); (case zcx => rfl); intro t1 t2 t3 tk9; (try dsimp only)))
  k_with "eval Call Name cons nil" => (k_here; (with_reducible show wpAny _ _ (eval (PySem.Expr.Call (PySem.Expr.Name _ _) [_, _, _, _] [] _) _) _ _ _); k_dflt (refine' call4 ?zcF ?zcX ?zcT ?zchf ?zchk ?zca1 ?zca2 ?zca3 ?zca4 ?zcs ?zcx (by decide) ?_; (case zcF => k_asm); (case zcX => k_asm); (case zcT => k_asm); (case zchf => k_is); (case zchk => k_is); (case zca1 => (first | exact ArgV.int | exact ArgV.name rfl rfl (by decide) rfl)); (case zca2 => (first | exact ArgV.int | exact ArgV.name rfl rfl (by decide) rfl)); (case zca3 => (first | exact ArgV.int | exact ArgV.name rfl rfl (by decide) rfl)); (case zca4 => (first | exact ArgV.int | exact ArgV.name rfl rfl (by decide) rfl)); (case zcs => rfl); (case zcx => rfl); intro t1 t2 t3 t4 tk9; (try dsimp only)))
  k_with "call ref" => (k_here; (with_reducible show wpAny _ _ (call (Value.ref 210) _) _ _ _); k_dflt (refine' Con.useI ?zzB ?zzF ?zzX ?zzN ?zzT ?zzk (of_at ?zzhb1 ?zzhb2 ?zzhb3 ?zzh4 ?zzh16 ?zzhx1 ?zzhx2 ?zzhy1 ?zzhy2 ?zzhp0 ?zzhp1 ?zzhno ?zze) ?zzd ?zzu ?_; (case zzB => k_asm); (case zzF => k_asm); (case zzX => k_asm); (case zzN => k_asm); (case zzT => k_asm); (case zzk => first | exact rfl | assumption); (case zzhb1 => k_mem); (case zzhb2 => k_mem); (case zzhb3 => assumption); (case zzh4 => assumption); (case zzh16 => assumption); (case zzhx1 => with_reducible assumption); (case zzhx2 => with_reducible assumption); (case zzhy1 => with_reducible assumption); (case zzhy2 => with_reducible assumption); (case zzhp0 => decide); (case zzhp1 => decide); (case zzhno => first | exact nores_nz (by decide) (by with_reducible assumption) | exact nores_nz (by decide) (by decide) | exact nores_easy (by decide) (by decide) (by decide)); (case zze => with_reducible assumption); (case zzd => ktr_room); (case zzu => ktr_units); intro t9 h9 tk9 F9 N9; (try dsimp only); (try k_sweep); (try k_fold)))
  k_with "call ref" => (k_here; (with_reducible show wpAny _ _ (call (Value.ref 196) _) _ _ _); k_dflt (refine' Con.useX ?zzB ?zzF ?zzX ?zzN ?zzT ?zzk (reck_int0 ?zzhb1 ?zzhb2 ?zzhb3 ?zzh4 ?zzh16 ?zzhno) ?zzd ?zzu ?_; (case zzB => k_asm); (case zzF => k_asm); (case zzX => k_asm); (case zzN => k_asm); (case zzT => k_asm); (case zzk => first | exact rfl | assumption); (case zzhb1 => k_mem); (case zzhb2 => k_mem); (case zzhb3 => assumption); (case zzh4 => assumption); (case zzh16 => assumption); (case zzhno => first | exact zero3 | exact zero4); (case zzd => ktr_room); (case zzu => ktr_units); intro p9 t9 h9 tk9 F9 N9 l9; (try k_lt l9); (try dsimp only); (try k_sweep); (try k_fold)))
  k_with "compareOp Eq ref ref" => (k_here; (with_reducible show wpAny _ _ (compareOp CmpOp.Eq (Value.ref _) (Value.ref _)) _ _ _); k_dflt (refine' eq_dataH ?zza ?zzb ?zzc ?zzd ?zzu ?_; (case zza => ke_read); (case zzb => ke_read); (case zzc => ke_shaped); (case zzd => ke_shaped); (case zzu => ktr_units)); ke_norm)
  intro dp un gd cn cs a ccd cl outer A₀ base h₀ L m s Q E B F X N T hk hd hu hret
  w_top off
  refine wpAny_call ?_
  k_dflt ktr_enter
  k_steps
  all_goals first
    | exact hret _ [] _ _ (rbool rfl) (by k_asm) (by first | k_asm | exact drop1 (by k_asm) | exact drop2 (by k_asm) | exact drop3 (by k_asm) | exact drop4 (by k_asm)) no_tl
    | trace_state
set_option maxHeartbeats 8000000 in
theorem div_any {x y q r : Int} {wd : Int} {bx dx : Addr} {es : List DictEntry} {n : Nat} {t t' tw : Tok} (hb1 : (bx, instObj 53 dx) ∈ news) (hb2 : (dx, dictOf es n) ∈ news) (hb3 : getL (Str.ofString "width") es = some (some (.int wd tw))) (h4 : 4 ≤ wd) (h16 : wd ≤ 16) (hx1 : -65536 ≤ x) (hx2 : x ≤ 65536) (hq1 : -65536 ≤ q) (hq2 : q ≤ 65536) (hy1 : -65536 ≤ y) (hy2 : y ≤ 65536) (hy : y ≠ 0) (hy' : y ≠ -1) (hq : arithZ 3 x y wd = q) (hr : arithZ 4 x y wd = r)
    (F1 : (0 < y ∧ 0 ≤ r ∧ r < y) ∨ (y < 0 ∧ y < r ∧ r ≤ 0)) (F2 : (x - r).fmod y = 0) (F3 : (0 < y ∧ -y < x - q * y ∧ x - q * y < y) ∨ (y < 0 ∧ y < x - q * y ∧ x - q * y < -y)) (F4 : x - q * y = 0 ∨ (x - q * y < 0 ∧ x < 0) ∨ (0 < x - q * y ∧ 0 < x)) : Con w mean mg mb 231 20 [.int x t, .int y t', .ref bx] news news (RBool true) := by
  k_with_none
  k_with "eval Call Name cons nil" => (k_here; (with_reducible show wpAny _ _ (eval (PySem.Expr.Call (PySem.Expr.Name _ _) [_] [] _) _) _ _ _); k_dflt (refine' call1 ?zcF ?zcX ?zcT ?zchf ?zchk ?zca1 ?zcs ?zcx (by decide) ?_; (case zcF => k_asm); (case zcX => k_asm); (case zcT => k_asm); (case zchf => k_is); (case zchk => k_is); (case zca1 => (first | exact ArgV.int | exact ArgV.name rfl rfl (by decide) rfl)); (case zcs => rfl); (case zcx => rfl); intro t1 tk9; (try dsimp only)))
  k_with "eval Call Name cons nil" => (k_here; (with_reducible show wpAny _ _ (eval (PySem.Expr.Call (PySem.Expr.Name _ _) [_, _] [] _) _) _ _ _); k_dflt (refine' call2 ?zcF ?zcX ?zcT ?zchf ?zchk ?zca1 ?zca2 ?zcs ?zcx (by decide) ?_; (case zcF => k_asm); (case zcX => k_asm); (case zcT => k_asm); (case zchf => k_is); (case zchk => k_is); (case zca1 => (first | exact ArgV.int | exact ArgV.name rfl rfl (by decide) rfl)); (case zca2 => (first | exact ArgV.int | exact ArgV.name rfl rfl (by decide) rfl)); (case zcs => rfl); (case zcx => rfl); intro t1 t2 tk9; (try dsimp only)))
  k_with "eval Call Name cons nil" => (k_here; (with_reducible show wpAny _ _ (eval (PySem.Expr.Call (PySem.Expr.Name _ _) [_, _, _] [] _) _) _ _ _); k_dflt (refine' call3 ?zcF ?zcX ?zcT ?zchf ?zchk ?zca1 ?zca2 ?zca3 ?zcs ?zcx (by decide) ?_; (case zcF => k_asm); (case zcX => k_asm); (case zcT => k_asm); (case zchf => k_is); (case zchk => k_is); (case zca1 => (first | exact ArgV.int | exact ArgV.name rfl rfl (by decide) rfl)); (case zca2 => (first | exact ArgV.int | exact ArgV.name rfl rfl (by decide) rfl)); (case zca3 => (first | exact ArgV.int | exact ArgV.name rfl rfl (by decide) rfl)); (case zcs => rfl); (case zcx => rfl); intro t1 t2 t3 tk9; (try dsimp only)))
  k_with "eval Call Name cons nil" => (k_here; (with_reducible show wpAny _ _ (eval (PySem.Expr.Call (PySem.Expr.Name _ _) [_, _, _, _] [] _) _) _ _ _); k_dflt (refine' call4 ?zcF ?zcX ?zcT ?zchf ?zchk ?zca1 ?zca2 ?zca3 ?zca4 ?zcs ?zcx (by decide) ?_; (case zcF => k_asm); (case zcX => k_asm); (case zcT => k_asm); (case zchf => k_is); (case zchk => k_is); (case zca1 => (first | exact ArgV.int | exact ArgV.name rfl rfl (by decide) rfl)); (case zca2 => (first | exact ArgV.int | exact ArgV.name rfl rfl (by decide) rfl)); (case zca3 => (first | exact ArgV.int | exact ArgV.name rfl rfl (by decide) rfl)); (case zca4 => (first | exact ArgV.int | exact ArgV.name rfl rfl (by decide) rfl)); (case zcs => rfl); (case zcx => rfl); intro t1 t2 t3 t4 tk9; (try dsimp only)))
  k_with "call ref" => (k_here; (with_reducible show wpAny _ _ (call (Value.ref 210) _) _ _ _); k_dflt (refine' Con.useI ?zzB ?zzF ?zzX ?zzN ?zzT ?zzk (of_at ?zzhb1 ?zzhb2 ?zzhb3 ?zzh4 ?zzh16 ?zzhx1 ?zzhx2 ?zzhy1 ?zzhy2 ?zzhp0 ?zzhp1 ?zzhno ?zze) ?zzd ?zzu ?_; (case zzB => k_asm); (case zzF => k_asm); (case zzX => k_asm); (case zzN => k_asm); (case zzT => k_asm); (case zzk => first | exact rfl | assumption); (case zzhb1 => k_mem); (case zzhb2 => k_mem); (case zzhb3 => assumption); (case zzh4 => assumption); (case zzh16 => assumption); (case zzhx1 => with_reducible assumption); (case zzhx2 => with_reducible assumption); (case zzhy1 => with_reducible assumption); (case zzhy2 => with_reducible assumption); (case zzhp0 => decide); (case zzhp1 => decide); (case zzhno => first | exact nores_nz (by decide) (by with_reducible assumption) | exact nores_nz (by decide) (by decide) | exact nores_easy (by decide) (by decide) (by decide)); (case zze => with_reducible assumption); (case zzd => ktr_room); (case zzu => ktr_units); intro t9 h9 tk9 F9 N9; (try dsimp only); (try k_sweep); (try k_fold)))
  k_with "call ref" => (k_here; (with_reducible show wpAny _ _ (call (Value.ref 196) _) _ _ _); k_dflt (refine' Con.useX ?zzB ?zzF ?zzX ?zzN ?zzT ?zzk (reck_int0 ?zzhb1 ?zzhb2 ?zzhb3 ?zzh4 ?zzh16 ?zzhno) ?zzd ?zzu ?_; (case zzB => k_asm); (case zzF => k_asm); (case zzX => k_asm); (case zzN => k_asm); (case zzT => k_asm); (case zzk => first | exact rfl | assumption); (case zzhb1 => k_mem); (case zzhb2 => k_mem); (case zzhb3 => assumption); (case zzh4 => assumption); (case zzh16 => assumption); (case zzhno => first | exact zero3 | exact zero4); (case zzd => ktr_room); (case zzu => ktr_units); intro p9 t9 h9 tk9 F9 N9 l9; (try k_lt l9); (try dsimp only); (try k_sweep); (try k_fold)))
  k_with "compareOp Eq ref ref" => (k_here; (with_reducible show wpAny _ _ (compareOp CmpOp.Eq (Value.ref _) (Value.ref _)) _ _ _); k_dflt (refine' eq_dataH ?zza ?zzb ?zzc ?zzd ?zzu ?_; (case zza => ke_read); (case zzb => ke_read); (case zzc => ke_shaped); (case zzd => ke_shaped); (case zzu => ktr_units)); ke_norm)
  intro dp un gd cn cs a ccd cl outer A₀ base h₀ L m s Q E B F X N T hk hd hu hret
  w_top off
  refine wpAny_call ?_
  k_dflt ktr_enter
  k_steps
  all_goals first
    | exact (div_e1 (by assumption) (by assumption) (by assumption)).elim
    | exact hret _ [] _ _ (rbool (beq_iff_eq.mpr (by assumption))) (by k_asm) (by first | k_asm | exact drop1 (by k_asm) | exact drop2 (by k_asm) | exact drop3 (by k_asm) | exact drop4 (by k_asm)) no_tl
    | exact hret _ [] _ _ (rbool (div_e3 (by assumption) (by assumption))) (by k_asm) (by first | k_asm | exact drop1 (by k_asm) | exact drop2 (by k_asm) | exact drop3 (by k_asm) | exact drop4 (by k_asm)) no_tl
    | (exfalso; omega)
    | trace_state
set_option maxHeartbeats 8000000 in
theorem div_m1 {x q : Int} {wd : Int} {bx dx : Addr} {es : List DictEntry} {n : Nat} {t t' tw : Tok} (hb1 : (bx, instObj 53 dx) ∈ news) (hb2 : (dx, dictOf es n) ∈ news) (hb3 : getL (Str.ofString "width") es = some (some (.int wd tw))) (h4 : 4 ≤ wd) (h16 : wd ≤ 16) (hx1 : -65536 ≤ x) (hx2 : x ≤ 65536) (hy1 : -65536 ≤ (-1 : Int)) (hy2 : (-1 : Int) ≤ 65536) (hq1 : -65536 ≤ q) (hq2 : q ≤ 65536) (hq : arithZ 3 x (-1) wd = q) (hr : arithZ 4 x (-1) wd = 0)
    (hb : arithZ 2 q (-1) wd = x) : Con w mean mg mb 231 20 [.int x t, .int (-1) t', .ref bx] news news (RBool true) := by
  k_with_none
  k_with "eval Call Name cons nil" => (k_here; (with_reducible show wpAny _ _ (eval (PySem.Expr.Call (PySem.Expr.Name _ _) [_] [] _) _) _ _ _); k_dflt (refine' call1 ?zcF ?zcX ?zcT ?zchf ?zchk ?zca1 ?zcs ?zcx (by decide) ?_; (case zcF => k_asm); (case zcX => k_asm); (case zcT => k_asm); (case zchf => k_is); (case zchk => k_is); (case zca1 => (first | exact ArgV.int | exact ArgV.name rfl rfl (by decide) rfl)); (case zcs => rfl); (case zcx => rfl); intro t1 tk9; (try dsimp only)))
  k_with "eval Call Name cons nil" => (k_here; (with_reducible show wpAny _ _ (eval (PySem.Expr.Call (PySem.Expr.Name _ _) [_, _] [] _) _) _ _ _); k_dflt (refine' call2 ?zcF ?zcX ?zcT ?zchf ?zchk ?zca1 ?zca2 ?zcs ?zcx (by decide) ?_; (case zcF => k_asm); (case zcX => k_asm); (case zcT => k_asm); (case zchf => k_is); (case zchk => k_is); (case zca1 => (first | exact ArgV.int | exact ArgV.name rfl rfl (by decide) rfl)); (case zca2 => (first | exact ArgV.int | exact ArgV.name rfl rfl (by decide) rfl)); (case zcs => rfl); (case zcx => rfl); intro t1 t2 tk9; (try dsimp only)))
  k_with "eval Call Name cons nil" => (k_here; (with_reducible show wpAny _ _ (eval (PySem.Expr.Call (PySem.Expr.Name _ _) [_, _, _] [] _) _) _ _ _); k_dflt (refine' call3 ?zcF ?zcX ?zcT ?zchf ?zchk ?zca1 ?zca2 ?zca3 ?zcs ?zcx (by decide) ?_; (case zcF => k_asm); (case zcX => k_asm); (case zcT => k_asm); (case zchf => k_is); (case zchk => k_is); (case zca1 => (first | exact ArgV.int | exact ArgV.name rfl rfl (by decide) rfl)); (case zca2 => (first | exact ArgV.int | exact ArgV.name rfl rfl (by decide) rfl)); (case zca3 => (first | exact ArgV.int | exact ArgV.name rfl rfl (by decide) rfl)); (case zcs => rfl); (case zcx => rfl); intro t1 t2 t3 tk9; (try dsimp only)))
  k_with "eval Call Name cons nil" => (k_here; (with_reducible show wpAny _ _ (eval (PySem.Expr.Call (PySem.Expr.Name _ _) [_, _, _, _] [] _) _) _ _ _); k_dflt (refine' call4 ?zcF ?zcX ?zcT ?zchf ?zchk ?zca1 ?zca2 ?zca3 ?zca4 ?zcs ?zcx (by decide) ?_; (case zcF => k_asm); (case zcX => k_asm); (case zcT => k_asm); (case zchf => k_is); (case zchk => k_is); (case zca1 => (first | exact ArgV.int | exact ArgV.name rfl rfl (by decide) rfl)); (case zca2 => (first | exact ArgV.int | exact ArgV.name rfl rfl (by decide) rfl)); (case zca3 => (first | exact ArgV.int | exact ArgV.name rfl rfl (by decide) rfl)); (case zca4 => (first | exact ArgV.int | exact ArgV.name rfl rfl (by decide) rfl)); (case zcs => rfl); (case zcx => rfl); intro t1 t2 t3 t4 tk9; (try dsimp only)))
  k_with "call ref" => (k_here; (with_reducible show wpAny _ _ (call (Value.ref 210) _) _ _ _); k_dflt (refine' Con.useI ?zzB ?zzF ?zzX ?zzN ?zzT ?zzk (of_at ?zzhb1 ?zzhb2 ?zzhb3 ?zzh4 ?zzh16 ?zzhx1 ?zzhx2 ?zzhy1 ?zzhy2 ?zzhp0 ?zzhp1 ?zzhno ?zze) ?zzd ?zzu ?_; (case zzB => k_asm); (case zzF => k_asm); (case zzX => k_asm); (case zzN => k_asm); (case zzT => k_asm); (case zzk => first | exact rfl | assumption); (case zzhb1 => k_mem); (case zzhb2 => k_mem); (case zzhb3 => assumption); (case zzh4 => assumption); (case zzh16 => assumption); (case zzhx1 => with_reducible assumption); (case zzhx2 => with_reducible assumption); (case zzhy1 => with_reducible assumption); (case zzhy2 => with_reducible assumption); (case zzhp0 => decide); (case zzhp1 => decide); (case zzhno => first | exact nores_nz (by decide) (by with_reducible assumption) | exact nores_nz (by decide) (by decide) | exact nores_easy (by decide) (by decide) (by decide)); (case zze => with_reducible assumption); (case zzd => ktr_room); (case zzu => ktr_units); intro t9 h9 tk9 F9 N9; (try dsimp only); (try k_sweep); (try k_fold)))
  k_with "call ref" => (k_here; (with_reducible show wpAny _ _ (call (Value.ref 196) _) _ _ _); k_dflt (refine' Con.useX ?zzB ?zzF ?zzX ?zzN ?zzT ?zzk (reck_int0 ?zzhb1 ?zzhb2 ?zzhb3 ?zzh4 ?zzh16 ?zzhno) ?zzd ?zzu ?_; (case zzB => k_asm); (case zzF => k_asm); (case zzX => k_asm); (case zzN => k_asm); (case zzT => k_asm); (case zzk => first | exact rfl | assumption); (case zzhb1 => k_mem); (case zzhb2 => k_mem); (case zzhb3 => assumption); (case zzh4 => assumption); (case zzh16 => assumption); (case zzhno => first | exact zero3 | exact zero4); (case zzd => ktr_room); (case zzu => ktr_units); intro p9 t9 h9 tk9 F9 N9 l9; (try k_lt l9); (try dsimp only); (try k_sweep); (try k_fold)))
  k_with "compareOp Eq ref ref" => (k_here; (with_reducible show wpAny _ _ (compareOp CmpOp.Eq (Value.ref _) (Value.ref _)) _ _ _); k_dflt (refine' eq_dataH ?zza ?zzb ?zzc ?zzd ?zzu ?_; (case zza => ke_read); (case zzb => ke_read); (case zzc => ke_shaped); (case zzd => ke_shaped); (case zzu => ktr_units)); ke_norm)
  intro dp un gd cn cs a ccd cl outer A₀ base h₀ L m s Q E B F X N T hk hd hu hret
  w_top off
  refine wpAny_call ?_
  k_dflt ktr_enter
  k_steps
  all_goals first
    | exact hret _ [] _ _ (rbool (beq_self_eq_true _)) (by k_asm) (by first | k_asm | exact drop1 (by k_asm) | exact drop2 (by k_asm) | exact drop3 (by k_asm) | exact drop4 (by k_asm)) no_tl
    | exact absurd (fmod_m1 _) (by assumption)
    | (exfalso; omega)
    | trace_state
theorem pow_top {wd : Int} (h4 : 4 ≤ wd) (h16 : wd ≤ 16) : 8 ≤ (2 : Int) ^ (wd - 1).toNat ∧ (2 : Int) ^ (wd - 1).toNat ≤ 32768 := by
  have h1 : (2 : Nat) ^ 3 ≤ 2 ^ (wd - 1).toNat := Nat.pow_le_pow_right (by decide) (by omega)
  have h2 : (2 : Nat) ^ (wd - 1).toNat ≤ 2 ^ 15 := Nat.pow_le_pow_right (by decide) (by omega)
  have e : ((2 ^ (wd - 1).toNat : Nat) : Int) = (2 : Int) ^ (wd - 1).toNat := kbt_cast _
  omega
theorem div_con {x y : Int} {wd : Int} {bx dx : Addr} {es : List DictEntry} {n : Nat} {t t' tw : Tok} (hb1 : (bx, instObj 53 dx) ∈ news) (hb2 : (dx, dictOf es n) ∈ news) (hb3 : getL (Str.ofString "width") es = some (some (.int wd tw))) (h4 : 4 ≤ wd) (h16 : wd ≤ 16) (hr1 : -(2 ^ (wd - 1).toNat) ≤ x) (hr2 : x < 2 ^ (wd - 1).toNat) (hs1 : -(2 ^ (wd - 1).toNat) ≤ y) (hs2 : y < 2 ^ (wd - 1).toNat) :
    Con w mean mg mb 231 20 [.int x t, .int y t', .ref bx] news news (RBool true) := by
  have hp := pow_top h4 h16
  by_cases h0 : y = 0
  · subst h0; exact div_zero hb1 hb2 hb3 h4 h16
  have hf := fmod_bounds (x := x) h0
  have er : arithZ 4 x y wd = x.fmod y := by rw [az4]; exact wz_id (by omega) (by omega) (by omega)
  by_cases h1 : y = -1
  · subst h1
    have er0 : arithZ 4 x (-1) wd = 0 := by rw [er]; omega
    have hb : arithZ 2 (arithZ 3 x (-1) wd) (-1) wd = x := by
      rw [az2, az3, wz_mul_l, Int.tdiv_neg, Int.tdiv_one]
      have e : -x * -1 = x := by omega
      rw [e]; exact wz_id (by omega) hr1 hr2
    exact div_m1 hb1 hb2 hb3 h4 h16 (by omega) (by omega) (by omega) (by omega) (arithZ_lo h4 h16) (arithZ_hi h4 h16) rfl er0 hb
  · have ht := tdiv_range h0 h1 (by omega) hr1 hr2
    have eq : arithZ 3 x y wd = x.tdiv y := by rw [az3]; exact wz_id (by omega) ht.1 ht.2
    have hm := tmod_bounds (x := x) h0
    rw [← tdiv_rest] at hm
    exact div_any hb1 hb2 hb3 h4 h16 (by omega) (by omega) (by omega) (by omega) (by omega) (by omega) h0 h1 eq er hf (fmod_back x y) hm.1 hm.2
end Mine

namespace Mine
set_option maxRecDepth 100000
variable {w : World} {mean : ExcName → Option Value} {mg mb : Str → Option Value} {news : List (Addr × Obj)}
local macro_rules | `(tactic| k_mem) => `(tactic| first | exact List.mem_cons_of_mem _ (by assumption) | exact List.mem_cons_of_mem _ (List.mem_cons_of_mem _ (by assumption)) | exact List.mem_cons_of_mem _ (List.mem_cons_of_mem _ (List.mem_cons_of_mem _ (by assumption))) | exact List.mem_cons_of_mem _ (List.mem_cons_of_mem _ (List.mem_cons_of_mem _ (List.mem_cons_of_mem _ (by assumption)))))
theorem pw1 {a m n wd : Int} (hm : 0 ≤ m) (hn : 0 ≤ n) : arithZ 5 a (m + n) wd = arithZ 2 (arithZ 5 a m wd) (arithZ 5 a n wd) wd := by
  simp only [az5, az2, powZ]
  rw [if_neg (by omega), if_neg (by omega), if_neg (by omega), wz_mul_l, wz_mul_r, ← Int.pow_add, Int.toNat_add hm hn]
theorem pw2 {a wd : Int} (h4 : 4 ≤ wd) (h8 : 8 ≤ (2 : Int) ^ (wd - 1).toNat) : arithZ 5 a 0 wd = 1 := by
  simp only [az5, powZ]
  rw [if_neg (by omega)]
  show wrapZ (a ^ 0) wd = 1
  rw [Int.pow_zero]
  exact wz_id (by omega) (by omega) (by omega)
theorem pw3 {a wd : Int} (h4 : 4 ≤ wd) (h1 : -(2 ^ (wd - 1).toNat) ≤ a) (h2 : a < 2 ^ (wd - 1).toNat) : arithZ 5 a 1 wd = a := by
  simp only [az5, powZ]
  rw [if_neg (by omega)]
  show wrapZ (a ^ 1) wd = a
  rw [Int.pow_succ, Int.pow_zero, Int.one_mul]
  exact wz_id (by omega) h1 h2
set_option maxHeartbeats 8000000 in
theorem pow_con {x y z : Int} {wd : Int} {bx dx : Addr} {es : List DictEntry} {n : Nat} {t t' t'' tw : Tok} (hb1 : (bx, instObj 53 dx) ∈ news) (hb2 : (dx, dictOf es n) ∈ news) (hb3 : getL (Str.ofString "width") es = some (some (.int wd tw))) (h4 : 4 ≤ wd) (h16 : wd ≤ 16) (hx1 : -65536 ≤ x) (hx2 : x ≤ 65536) (hy0 : 0 ≤ y) (hy3 : y ≤ 3) (hz0 : 0 ≤ z) (hz3 : z ≤ 3) (h8 : 8 ≤ (2 : Int) ^ (wd - 1).toNat) (hr1 : -(2 ^ (wd - 1).toNat) ≤ x) (hr2 : x < 2 ^ (wd - 1).toNat) :
    Con w mean mg mb 238 8 [.int x t, .int y t', .int z t'', .ref bx] news news (RBool true) := by
  k_with_none
  k_with "eval Call Name cons nil" => (k_here; (with_reducible show wpAny _ _ (eval (PySem.Expr.Call (PySem.Expr.Name _ _) [_] [] _) _) _ _ _); k_dflt (refine' call1 ?zcF ?zcX ?zcT ?zchf ?zchk ?zca1 ?zcs ?zcx (by decide) ?_; (case zcF => k_asm); (case zcX => k_asm); (case zcT => k_asm); (case zchf => k_is); (case zchk => k_is); (case zca1 => (first | exact ArgV.int | exact ArgV.name rfl rfl (by decide) rfl)); (case zcs => rfl); (case zcx => rfl); intro t1 tk9; (try dsimp only)))
  k_with "eval Call Name cons nil" => (k_here; (with_reducible show wpAny _ _ (eval (PySem.Expr.Call (PySem.Expr.Name _ _) [_, _] [] _) _) _ _ _); k_dflt (refine' call2 ?zcF ?zcX ?zcT ?zchf ?zchk ?zca1 ?zca2 ?zcs ?zcx (by decide) ?_; (case zcF => k_asm); (case zcX => k_asm); (case zcT => k_asm); (case zchf => k_is); (case zchk => k_is); (case zca1 => (first | exact ArgV.int | exact ArgV.name rfl rfl (by decide) rfl)); (case zca2 => (first | exact ArgV.int | exact ArgV.name rfl rfl (by decide) rfl)); (case zcs => rfl); (case zcx => rfl); intro t1 t2 tk9; (try dsimp only)))
  k_with "eval Call Name cons nil" => (k_here; (with_reducible show wpAny _ _ (eval (PySem.Expr.Call (PySem.Expr.Name _ _) [_, _, _] [] _) _) _ _ _); k_dflt (refine' call3 ?zcF ?zcX ?zcT ?zchf ?zchk ?zca1 ?zca2 ?zca3 ?zcs ?zcx (by decide) ?_; (case zcF => k_asm); (case zcX => k_asm); (case zcT => k_asm); (case zchf => k_is); (case zchk => k_is); (case zca1 => (first | exact ArgV.int | exact ArgV.name rfl rfl (by decide) rfl)); (case zca2 => (first | exact ArgV.int | exact ArgV.name rfl rfl (by decide) rfl)); (case zca3 => (first | exact ArgV.int | exact ArgV.name rfl rfl (by decide) rfl)); (case zcs => rfl); (case zcx => rfl); intro t1 t2 t3 tk9; (try dsimp only)))
  k_with "eval Call Name cons nil" => (k_here; (with_reducible show wpAny _ _ (eval (PySem.Expr.Call (PySem.Expr.Name _ _) [_, _, _, _] [] _) _) _ _ _); k_dflt (refine' call4 ?zcF ?zcX ?zcT ?zchf ?zchk ?zca1 ?zca2 ?zca3 ?zca4 ?zcs ?zcx (by decide) ?_; (case zcF => k_asm); (case zcX => k_asm); (case zcT => k_asm); (case zchf => k_is); (case zchk => k_is); (case zca1 => (first | exact ArgV.int | exact ArgV.name rfl rfl (by decide) rfl)); (case zca2 => (first | exact ArgV.int | exact ArgV.name rfl rfl (by decide) rfl)); (case zca3 => (first | exact ArgV.int | exact ArgV.name rfl rfl (by decide) rfl)); (case zca4 => (first | exact ArgV.int | exact ArgV.name rfl rfl (by decide) rfl)); (case zcs => rfl); (case zcx => rfl); intro t1 t2 t3 t4 tk9; (try dsimp only)))
  k_with "call ref" => (k_here; (with_reducible show wpAny _ _ (call (Value.ref 210) _) _ _ _); k_dflt (refine' Con.useI ?zzB ?zzF ?zzX ?zzN ?zzT ?zzk (of_con ?zzhb1 ?zzhb2 ?zzhb3 ?zzh4 ?zzh16 ?zzhx1 ?zzhx2 ?zzhy1 ?zzhy2 ?zzhp0 ?zzhp1 ?zzhno) ?zzd ?zzu ?_; (case zzB => k_asm); (case zzF => k_asm); (case zzX => k_asm); (case zzN => k_asm); (case zzT => k_asm); (case zzk => first | exact rfl | assumption); (case zzhb1 => k_mem); (case zzhb2 => k_mem); (case zzhb3 => assumption); (case zzh4 => assumption); (case zzh16 => assumption); (case zzhx1 => first | with_reducible assumption | exact arithZ_lo (by assumption) (by assumption) | omega); (case zzhx2 => first | with_reducible assumption | exact arithZ_hi (by assumption) (by assumption) | omega); (case zzhy1 => first | with_reducible assumption | exact arithZ_lo (by assumption) (by assumption) | omega); (case zzhy2 => first | with_reducible assumption | exact arithZ_hi (by assumption) (by assumption) | omega); (case zzhp0 => decide); (case zzhp1 => decide); (case zzhno => first | exact nores_easy (by decide) (by decide) (by decide) | exact nores_nn (by decide) (by omega)); (case zzd => ktr_room); (case zzu => ktr_units); intro t9 h9 tk9 F9 N9; (try dsimp only); (try k_sweep); (try k_fold)))
  k_with "compareOp Eq int int" => (k_here; refine' eq_known ?zze ?_; (case zze => with_reducible first | exact pw1 (by assumption) (by assumption) | exact pw2 (by assumption) (by assumption) | exact pw3 (by assumption) (by assumption) (by assumption)))
  intro dp un gd cn cs a ccd cl outer A₀ base h₀ L m s Q E B F X N T hk hd hu hret
  w_top off
  refine wpAny_call ?_
  k_dflt ktr_enter
  k_steps
  all_goals first
    | exact hret _ [] _ _ (rbool rfl) (by k_asm) (by first | k_asm | exact drop1 (by k_asm) | exact drop2 (by k_asm) | exact drop3 (by k_asm) | exact drop4 (by k_asm)) no_tl
    | trace_state
end Mine

namespace Mine
set_option maxRecDepth 100000
variable {w : World} {mean : ExcName → Option Value} {mg mb : Str → Option Value} {news : List (Addr × Obj)}
abbrev strK (w : World) := PySem.strKind PySem.Challenge.rw_rr0062_01.row.prog w
/-- the law's dict of draws -/
def SackOk (w : World) (o : Obj) (l : Addr) (g : Int) : Prop := ∃ t, o.IsDictOf (strK w) [(Str.ofString "all", .ref l), (Str.ofString "grains", .int g t)]
/-- one draw -/
def ConG (w : World) (mean : ExcName → Option Value) (mg mb : Str → Option Value) (sx l : Addr) (o : Obj) (g many : Int) (t0 : Tok) (rest : List (Addr × Obj)) : Prop :=
  ∀ (dp un : Nat) (gd : Option (List Code)) (cn : Str) (cs : Scope) (a : Addr) (ccd : Value) (cl : List (Str × Addr)) (outer : List Env) (A₀ : Around) (base h₀ : Heap) (L : Addr) (m : Str → Option Value) (s : Shared) (Q E : Value → Shared → Prop),
    Below A₀ base outer h₀ → Fr h₀ L s.heap m → (hd.heap_39 w.params).In h₀ → News h₀ L s.heap ((sx, o) :: rest) → Top hd.view_39 (looseW hd.view_39 [Str.ofString "RECKONINGS"]) mean mg mb h₀ → cs.kind = .function →
    dp + 1 < recursionLimit → un + 8 < cLine →
    (∀ (x : Int) (t : Tok) (o' : Obj) (h' : Heap) (tk' : Nat), 0 ≤ x → x < many → SackOk w o' l (g + 1) → Fr h₀ L h' m → News h₀ L h' ((sx, o') :: rest) → Q (.int x t) { s with heap := h', toks := tk' }) →
    wpAny (model PySem.Challenge.rw_rr0062_01.row.prog w) (ktrTop dp un gd cn cs L a ccd cl outer) (call (.ref 203) [.ref sx, .int many t0]) Q E s
theorem ConG.use {mean : ExcName → Option Value} {mg mb : Str → Option Value} {sx l : Addr} {o : Obj} {g many : Int} {t0 : Tok} {rest : List (Addr × Obj)}
    {dp un : Nat} {gd : Option (List Code)} {cn : Str} {cs : Scope} {a : Addr} {ccd : Value} {cl : List (Str × Addr)} {outer : List Env} {A₀ : Around} {base h₀ : Heap} {L : Addr} {m : Str → Option Value} {s : Shared} {Q E : Value → Shared → Prop}
    (B : Below A₀ base outer h₀) (F : Fr h₀ L s.heap m) (X : (hd.heap_39 w.params).In h₀) (N : News h₀ L s.heap ((sx, o) :: rest)) (T : Top hd.view_39 (looseW hd.view_39 [Str.ofString "RECKONINGS"]) mean mg mb h₀) (hk : cs.kind = .function)
    (C : ConG w mean mg mb sx l o g many t0 rest) (h1 : dp + 1 < recursionLimit) (h2 : un + 8 < cLine)
    (ret : ∀ (x : Int) (t : Tok) (o' : Obj) (h' : Heap) (tk' : Nat), 0 ≤ x → x < many → SackOk w o' l (g + 1) → Fr h₀ L h' m → News h₀ L h' ((sx, o') :: rest) → Q (.int x t) { s with heap := h', toks := tk' }) :
    wpAny (model PySem.Challenge.rw_rr0062_01.row.prog w) (ktrTop dp un gd cn cs L a ccd cl outer) (call (.ref 203) [.ref sx, .int many t0]) Q E s :=
  C _ _ _ _ _ _ _ _ _ _ _ _ _ _ _ _ _ B F X N T hk h1 h2 ret
theorem ints_item {vs : List Value} {ns : List Int} (h : IntsAre vs ns) {k : Int} (h0 : 0 ≤ k) (h1 : k < (ns.length : Int)) : ∃ i t, vs[k.toNat]? = some (.int i t) := by
  obtain ⟨t, e⟩ := h.get k.toNat (ns[k.toNat]'(by omega)) (by rw [List.getElem?_eq_getElem])
  exact ⟨_, t, e⟩
theorem len_any {prog : Program} {A : Around} {E : Value → Shared → Prop} {s : Shared} {h₀ : Heap} {L l : Addr} {ys : List Value} {e : Nat} {ks : List Int} {Q : Value → Shared → Prop} (N : News h₀ L s.heap news) (hm : (l, ({ cls := .type "list", data := .seq ys.toArray e } : Obj)) ∈ news) (hi : IntsAre ys ks) (hz : ks.length ≤ 100)
    (h : Q (.int ks.length (s.toks + 1)) { s with toks := s.toks + 1 + 1 }) : wpAny (model prog w) A (call (.builtin "len") [.ref l]) Q E s := by
  have e1 : ys.toArray.size = ks.length := by rw [List.size_toArray, hi.length]
  refine Calls.call_len_list (items := ys.toArray) ⟨_, (N _ hm).1, rfl, e, rfl⟩ (by rw [e1]; omega) ?_
  rw [e1]; exact h
theorem item_any {prog : Program} {A : Around} {E : Value → Shared → Prop} {s : Shared} {h₀ : Heap} {L l : Addr} {ys : List Value} {e : Nat} {ks : List Int} {k : Int} {u : Tok} {value slice : PySem.Expr} {Q : Value → Shared → Prop} (N : News h₀ L s.heap news) (hm : (l, ({ cls := .type "list", data := .seq ys.toArray e } : Obj)) ∈ news) (hi : IntsAre ys ks) (hz : ks.length ≤ 100)
    (h0 : 0 ≤ k) (h1 : k < (ks.length : Int)) (h : ∀ i t, Q (.int i t) s)
    (hs : subscripted slice false (.ref l) (.int k u) = operate [.ref l, .int k u] (getItem (.ref l) (.int k u)) := by with_unfolding_all rfl) (hg : ∀ r, letTemporaryGo value (.ref l) r = pure () := by intro _; with_unfolding_all rfl) :
    wpAny (model prog w) A (subscriptTail value slice (.ref l) (.int k u)) Q E s := by
  obtain ⟨i, t, e⟩ := ints_item hi h0 h1
  exact kim_list N hm rfl rfl h0 (by omega) e (h i t) hs hg
theorem fmod_lo' {x y : Int} (h : 0 < y) : 0 ≤ x.fmod y := Int.fmod_nonneg_of_pos x h
theorem fmod_hi' {x y : Int} (h : 0 < y) : x.fmod y < y := Int.fmod_lt_of_pos x h
local macro_rules | `(tactic| k_mem) => `(tactic| first | exact List.mem_cons_of_mem _ (by assumption) | exact List.mem_cons_of_mem _ (List.mem_cons_of_mem _ (by assumption)) | exact List.mem_cons_of_mem _ (List.mem_cons_of_mem _ (List.mem_cons_of_mem _ (by assumption))) | exact List.mem_cons_of_mem _ (List.mem_cons_of_mem _ (List.mem_cons_of_mem _ (List.mem_cons_of_mem _ (by assumption)))))
local macro_rules | `(tactic| k_all) => `(tactic| assumption)
set_option maxHeartbeats 8000000 in
theorem grain_con {sx l : Addr} {o : Obj} {g many : Int} {t0 : Tok} {rest : List (Addr × Obj)} {ys : List Value} {e : Nat} {ks : List Int} (hne : ∀ p ∈ rest, p.1 ≠ sx) (hl : (l, ({ cls := .type "list", data := .seq ys.toArray e } : Obj)) ∈ rest) (hi : IntsAre ys ks) (hz : ks.length ≤ 100) (hs : SackOk w o l g) (hg : 0 ≤ g) (hm : 0 < many) (hm2 : many ≤ 65536) :
    ConG w mean mg mb sx l o g many t0 rest := by
  k_with_none
  k_with "eval Call Name cons nil" => (k_here; (with_reducible show wpAny _ _ (eval (PySem.Expr.Call (PySem.Expr.Name _ _) [_] [] _) _) _ _ _); k_dflt (refine' call1 ?zcF ?zcX ?zcT ?zchf ?zchk ?zca1 ?zcs ?zcx (by decide) ?_; (case zcF => k_asm); (case zcX => k_asm); (case zcT => k_asm); (case zchf => k_is); (case zchk => k_is); (case zca1 => (first | exact ArgV.int | exact ArgV.name rfl rfl (by decide) rfl)); (case zcs => rfl); (case zcx => rfl); intro t1 tk9; (try dsimp only)))
  k_with "eval Call Name cons nil" => (k_here; (with_reducible show wpAny _ _ (eval (PySem.Expr.Call (PySem.Expr.Name _ _) [_, _] [] _) _) _ _ _); k_dflt (refine' call2 ?zcF ?zcX ?zcT ?zchf ?zchk ?zca1 ?zca2 ?zcs ?zcx (by decide) ?_; (case zcF => k_asm); (case zcX => k_asm); (case zcT => k_asm); (case zchf => k_is); (case zchk => k_is); (case zca1 => (first | exact ArgV.int | exact ArgV.name rfl rfl (by decide) rfl)); (case zca2 => (first | exact ArgV.int | exact ArgV.name rfl rfl (by decide) rfl)); (case zcs => rfl); (case zcx => rfl); intro t1 t2 tk9; (try dsimp only)))
  k_with "eval Call Name cons nil" => (k_here; (with_reducible show wpAny _ _ (eval (PySem.Expr.Call (PySem.Expr.Name _ _) [_, _, _] [] _) _) _ _ _); k_dflt (refine' call3 ?zcF ?zcX ?zcT ?zchf ?zchk ?zca1 ?zca2 ?zca3 ?zcs ?zcx (by decide) ?_; (case zcF => k_asm); (case zcX => k_asm); (case zcT => k_asm); (case zchf => k_is); (case zchk => k_is); (case zca1 => (first | exact ArgV.int | exact ArgV.name rfl rfl (by decide) rfl)); (case zca2 => (first | exact ArgV.int | exact ArgV.name rfl rfl (by decide) rfl)); (case zca3 => (first | exact ArgV.int | exact ArgV.name rfl rfl (by decide) rfl)); (case zcs => rfl); (case zcx => rfl); intro t1 t2 t3 tk9; (try dsimp only)))
  k_with "eval Call Name cons nil" => (k_here; (with_reducible show wpAny _ _ (eval (PySem.Expr.Call (PySem.Expr.Name _ _) [_, _, _, _] [] _) _) _ _ _); k_dflt (refine' call4 ?zcF ?zcX ?zcT ?zchf ?zchk ?zca1 ?zca2 ?zca3 ?zca4 ?zcs ?zcx (by decide) ?_; (case zcF => k_asm); (case zcX => k_asm); (case zcT => k_asm); (case zchf => k_is); (case zchk => k_is); (case zca1 => (first | exact ArgV.int | exact ArgV.name rfl rfl (by decide) rfl)); (case zca2 => (first | exact ArgV.int | exact ArgV.name rfl rfl (by decide) rfl)); (case zca3 => (first | exact ArgV.int | exact ArgV.name rfl rfl (by decide) rfl)); (case zca4 => (first | exact ArgV.int | exact ArgV.name rfl rfl (by decide) rfl)); (case zcs => rfl); (case zcx => rfl); intro t1 t2 t3 t4 tk9; (try dsimp only)))
  k_with "subscriptTail" => (k_here; (with_reducible show wpAny _ _ (subscriptTail _ _ (Value.ref _) (Value.str _ _)) _ _ _); k_dflt (refine' kda_item (knd := PySem.strKind _ _) ?zzN ?zzhp ?zzhd (strKind_is _ _ _ _) ?zzhl ?_; (case zzN => k_asm); (case zzhp => exact List.Mem.head _); (case zzhd => assumption); (case zzhl => rfl)))
  k_with "subscriptTail" => (k_here; (with_reducible show wpAny _ _ (subscriptTail _ _ (Value.ref _) (Value.int _ _)) _ _ _); k_dflt (refine' item_any ?zzN ?zzhp ?zzhi ?zzhz ?zzh0 ?zzh1 ?_; (case zzN => k_asm); (case zzhp => k_mem); (case zzhi => assumption); (case zzhz => assumption); (case zzh0 => omega); (case zzh1 => omega)); intro i9 t9; (try dsimp only))
  k_with "call builtin:len" => (k_here; (with_reducible show wpAny _ _ (call (Value.builtin "len") [Value.ref _]) _ _ _); k_dflt (refine' len_any ?zzN ?zzhp ?zzhi ?zzhz ?_; (case zzN => k_asm); (case zzhp => k_mem); (case zzhi => assumption); (case zzhz => assumption)))
  k_with "setItem ref str" => (k_here; k_dflt (refine' kda_set (knd := PySem.strKind _ _) ?zzF ?zzN ?zzU ?zzd (strKind_is _ _ _ _) ?zzz ?_; (case zzF => k_asm); (case zzN => k_asm); (case zzU => exact UpdF.head (by assumption)); (case zzd => assumption); (case zzz => kob_size)); intro h' o' F' N' hd'; (try kob_lit); (try dsimp only at N'); (try k_sweep))
  obtain ⟨tg, hso⟩ := hs
  have hmz : many ≠ 0 := by omega
  intro dp un gd cn cs a ccd cl outer A₀ base h₀ L m s Q E B F X N T hk hd hu hret
  w_top off
  refine wpAny_call ?_
  k_dflt ktr_enter
  k_steps
  all_goals first
    | exact hret _ _ _ _ _ (fmod_lo' hm) (fmod_hi' hm) ⟨_, by assumption⟩ (by k_asm) (by k_asm)
    | trace_state
end Mine

namespace Mine
set_option maxRecDepth 100000
variable {w : World} {mean : ExcName → Option Value} {mg mb : Str → Option Value} {news : List (Addr × Obj)}
theorem rok_ii {p x y : Int}  {wd : Int} {bx dx : Addr} {es : List DictEntry} {n : Nat} {t t' t'' tw : Tok} (hb1 : (bx, instObj 53 dx) ∈ news) (hb2 : (dx, dictOf es n) ∈ news) (hb3 : getL (Str.ofString "width") es = some (some (.int wd tw))) (h4 : 4 ≤ wd) (h16 : wd ≤ 16)  (hx1 : -65536 ≤ x) (hx2 : x ≤ 65536) (hy1 : -65536 ≤ y) (hy2 : y ≤ 65536) (hp0 : 0 ≤ p) (hp1 : p < 7) (hno : noRes p x y = false) : Con w mean mg mb 196 6 [.int p t, .int x t', .int y t'', .ref bx] news news (ROk (arithZ p x y wd)) :=
  reck_ok hb1 hb2 hb3 h4 h16 hx1 hx2 hy1 hy2 (tn_int hb1 hb2 hb3 h4 h16) (tn_int hb1 hb2 hb3 h4 h16) hp0 hp1 hno
theorem rze_ii {p x y : Int}  {wd : Int} {bx dx : Addr} {es : List DictEntry} {n : Nat} {t t' t'' tw : Tok} (hb1 : (bx, instObj 53 dx) ∈ news) (hb2 : (dx, dictOf es n) ∈ news) (hb3 : getL (Str.ofString "width") es = some (some (.int wd tw))) (h4 : 4 ≤ wd) (h16 : wd ≤ 16)  (hno : noRes p x y = true) : Con w mean mg mb 196 6 [.int p t, .int x t', .int y t'', .ref bx] news news (RBad 2) :=
  reck_zero hb1 hb2 hb3 h4 h16 (tn_int hb1 hb2 hb3 h4 h16) (tn_int hb1 hb2 hb3 h4 h16) hno
theorem rok_ti {p x y : Int} {l : List UInt8} {wd : Int} {bx dx : Addr} {es : List DictEntry} {n : Nat} {t t' t'' tw : Tok} (hb1 : (bx, instObj 53 dx) ∈ news) (hb2 : (dx, dictOf es n) ∈ news) (hb3 : getL (Str.ofString "width") es = some (some (.int wd tw))) (h4 : 4 ≤ wd) (h16 : wd ≤ 16) (hT : Tells l x) (h1 : -(2 ^ (wd - 1).toNat) ≤ x) (h2 : x < 2 ^ (wd - 1).toNat) (hx1 : -65536 ≤ x) (hx2 : x ≤ 65536) (hy1 : -65536 ≤ y) (hy2 : y ≤ 65536) (hp0 : 0 ≤ p) (hp1 : p < 7) (hno : noRes p x y = false) : Con w mean mg mb 196 6 [.int p t, .bytes l.toArray t', .int y t'', .ref bx] news news (ROk (arithZ p x y wd)) :=
  reck_ok hb1 hb2 hb3 h4 h16 hx1 hx2 hy1 hy2 (tn_text hb1 hb2 hb3 h4 h16 hT h1 h2) (tn_int hb1 hb2 hb3 h4 h16) hp0 hp1 hno
theorem rze_ti {p x y : Int} {l : List UInt8} {wd : Int} {bx dx : Addr} {es : List DictEntry} {n : Nat} {t t' t'' tw : Tok} (hb1 : (bx, instObj 53 dx) ∈ news) (hb2 : (dx, dictOf es n) ∈ news) (hb3 : getL (Str.ofString "width") es = some (some (.int wd tw))) (h4 : 4 ≤ wd) (h16 : wd ≤ 16) (hT : Tells l x) (h1 : -(2 ^ (wd - 1).toNat) ≤ x) (h2 : x < 2 ^ (wd - 1).toNat) (hno : noRes p x y = true) : Con w mean mg mb 196 6 [.int p t, .bytes l.toArray t', .int y t'', .ref bx] news news (RBad 2) :=
  reck_zero hb1 hb2 hb3 h4 h16 (tn_text hb1 hb2 hb3 h4 h16 hT h1 h2) (tn_int hb1 hb2 hb3 h4 h16) hno
theorem rok_it {p x y : Int} {k : List UInt8} {wd : Int} {bx dx : Addr} {es : List DictEntry} {n : Nat} {t t' t'' tw : Tok} (hb1 : (bx, instObj 53 dx) ∈ news) (hb2 : (dx, dictOf es n) ∈ news) (hb3 : getL (Str.ofString "width") es = some (some (.int wd tw))) (h4 : 4 ≤ wd) (h16 : wd ≤ 16) (hU : Tells k y) (k1 : -(2 ^ (wd - 1).toNat) ≤ y) (k2 : y < 2 ^ (wd - 1).toNat) (hx1 : -65536 ≤ x) (hx2 : x ≤ 65536) (hy1 : -65536 ≤ y) (hy2 : y ≤ 65536) (hp0 : 0 ≤ p) (hp1 : p < 7) (hno : noRes p x y = false) : Con w mean mg mb 196 6 [.int p t, .int x t', .bytes k.toArray t'', .ref bx] news news (ROk (arithZ p x y wd)) :=
  reck_ok hb1 hb2 hb3 h4 h16 hx1 hx2 hy1 hy2 (tn_int hb1 hb2 hb3 h4 h16) (tn_text hb1 hb2 hb3 h4 h16 hU k1 k2) hp0 hp1 hno
theorem rze_it {p x y : Int} {k : List UInt8} {wd : Int} {bx dx : Addr} {es : List DictEntry} {n : Nat} {t t' t'' tw : Tok} (hb1 : (bx, instObj 53 dx) ∈ news) (hb2 : (dx, dictOf es n) ∈ news) (hb3 : getL (Str.ofString "width") es = some (some (.int wd tw))) (h4 : 4 ≤ wd) (h16 : wd ≤ 16) (hU : Tells k y) (k1 : -(2 ^ (wd - 1).toNat) ≤ y) (k2 : y < 2 ^ (wd - 1).toNat) (hno : noRes p x y = true) : Con w mean mg mb 196 6 [.int p t, .int x t', .bytes k.toArray t'', .ref bx] news news (RBad 2) :=
  reck_zero hb1 hb2 hb3 h4 h16 (tn_int hb1 hb2 hb3 h4 h16) (tn_text hb1 hb2 hb3 h4 h16 hU k1 k2) hno
theorem rok_tt {p x y : Int} {l k : List UInt8} {wd : Int} {bx dx : Addr} {es : List DictEntry} {n : Nat} {t t' t'' tw : Tok} (hb1 : (bx, instObj 53 dx) ∈ news) (hb2 : (dx, dictOf es n) ∈ news) (hb3 : getL (Str.ofString "width") es = some (some (.int wd tw))) (h4 : 4 ≤ wd) (h16 : wd ≤ 16) (hT : Tells l x) (h1 : -(2 ^ (wd - 1).toNat) ≤ x) (h2 : x < 2 ^ (wd - 1).toNat) (hU : Tells k y) (k1 : -(2 ^ (wd - 1).toNat) ≤ y) (k2 : y < 2 ^ (wd - 1).toNat) (hx1 : -65536 ≤ x) (hx2 : x ≤ 65536) (hy1 : -65536 ≤ y) (hy2 : y ≤ 65536) (hp0 : 0 ≤ p) (hp1 : p < 7) (hno : noRes p x y = false) : Con w mean mg mb 196 6 [.int p t, .bytes l.toArray t', .bytes k.toArray t'', .ref bx] news news (ROk (arithZ p x y wd)) :=
  reck_ok hb1 hb2 hb3 h4 h16 hx1 hx2 hy1 hy2 (tn_text hb1 hb2 hb3 h4 h16 hT h1 h2) (tn_text hb1 hb2 hb3 h4 h16 hU k1 k2) hp0 hp1 hno
theorem rze_tt {p x y : Int} {l k : List UInt8} {wd : Int} {bx dx : Addr} {es : List DictEntry} {n : Nat} {t t' t'' tw : Tok} (hb1 : (bx, instObj 53 dx) ∈ news) (hb2 : (dx, dictOf es n) ∈ news) (hb3 : getL (Str.ofString "width") es = some (some (.int wd tw))) (h4 : 4 ≤ wd) (h16 : wd ≤ 16) (hT : Tells l x) (h1 : -(2 ^ (wd - 1).toNat) ≤ x) (h2 : x < 2 ^ (wd - 1).toNat) (hU : Tells k y) (k1 : -(2 ^ (wd - 1).toNat) ≤ y) (k2 : y < 2 ^ (wd - 1).toNat) (hno : noRes p x y = true) : Con w mean mg mb 196 6 [.int p t, .bytes l.toArray t', .bytes k.toArray t'', .ref bx] news news (RBad 2) :=
  reck_zero hb1 hb2 hb3 h4 h16 (tn_text hb1 hb2 hb3 h4 h16 hT h1 h2) (tn_text hb1 hb2 hb3 h4 h16 hU k1 k2) hno
theorem rba_empty {p x : Int} {b : Bool} {wd : Int} {bx dx : Addr} {es : List DictEntry} {n : Nat} {t t' t'' tw : Tok} (hb1 : (bx, instObj 53 dx) ∈ news) (hb2 : (dx, dictOf es n) ∈ news) (hb3 : getL (Str.ofString "width") es = some (some (.int wd tw))) (h4 : 4 ≤ wd) (h16 : wd ≤ 16) : Con w mean mg mb 196 6 [.int p t, .int x t', .bytes #[] t'', .ref bx] news news (RBad 1) :=
  reck_bad (y := 0) hb1 hb2 hb3 h4 h16 (tn_int hb1 hb2 hb3 h4 h16) (tn_empty hb1 hb2 hb3 h4 h16)
theorem rba_zed {p x : Int} {b : Bool} {wd : Int} {bx dx : Addr} {es : List DictEntry} {n : Nat} {t t' t'' tw : Tok} (hb1 : (bx, instObj 53 dx) ∈ news) (hb2 : (dx, dictOf es n) ∈ news) (hb3 : getL (Str.ofString "width") es = some (some (.int wd tw))) (h4 : 4 ≤ wd) (h16 : wd ≤ 16) : Con w mean mg mb 196 6 [.int p t, .int x t', .bytes #[122] t'', .ref bx] news news (RBad 1) :=
  reck_bad (y := 0) hb1 hb2 hb3 h4 h16 (tn_int hb1 hb2 hb3 h4 h16) (tn_zed hb1 hb2 hb3 h4 h16)
theorem rba_none {p x : Int} {b : Bool} {wd : Int} {bx dx : Addr} {es : List DictEntry} {n : Nat} {t t' t'' tw : Tok} (hb1 : (bx, instObj 53 dx) ∈ news) (hb2 : (dx, dictOf es n) ∈ news) (hb3 : getL (Str.ofString "width") es = some (some (.int wd tw))) (h4 : 4 ≤ wd) (h16 : wd ≤ 16) : Con w mean mg mb 196 6 [.int p t, .int x t', .none, .ref bx] news news (RBad 1) :=
  reck_bad (y := 0) hb1 hb2 hb3 h4 h16 (tn_int hb1 hb2 hb3 h4 h16) (tn_none hb1 hb2 hb3 h4 h16)
theorem rba_bool {p x : Int} {b : Bool} {wd : Int} {bx dx : Addr} {es : List DictEntry} {n : Nat} {t t' t'' tw : Tok} (hb1 : (bx, instObj 53 dx) ∈ news) (hb2 : (dx, dictOf es n) ∈ news) (hb3 : getL (Str.ofString "width") es = some (some (.int wd tw))) (h4 : 4 ≤ wd) (h16 : wd ≤ 16) : Con w mean mg mb 196 6 [.int p t, .int x t', .bool b, .ref bx] news news (RBad 1) :=
  reck_bad (y := 0) hb1 hb2 hb3 h4 h16 (tn_int hb1 hb2 hb3 h4 h16) (tn_bool hb1 hb2 hb3 h4 h16)
theorem first_is {wd : Int} (h4 : 4 ≤ wd) (h16 : wd ≤ 16) : arithZ 4 (-7) 3 wd = 2 := by
  have hp := pow_top h4 h16
  have e : Int.fmod (-7) 3 = 2 := by decide
  rw [az4, e]
  exact wz_id (by omega) (by omega) (by omega)
theorem second_is {wd : Int} (h4 : 4 ≤ wd) (h16 : wd ≤ 16) : arithZ 4 7 (-3) wd = -2 := by
  have hp := pow_top h4 h16
  have e : Int.fmod 7 (-3) = -2 := by decide
  rw [az4, e]
  exact wz_id (by omega) (by omega) (by omega)
theorem of_first {wd : Int} {bx dx : Addr} {es : List DictEntry} {n : Nat} {t t' t'' tw : Tok} (hb1 : (bx, instObj 53 dx) ∈ news) (hb2 : (dx, dictOf es n) ∈ news) (hb3 : getL (Str.ofString "width") es = some (some (.int wd tw))) (h4 : 4 ≤ wd) (h16 : wd ≤ 16) : Con w mean mg mb 210 7 [.int 4 t, .int (-7) t', .int 3 t'', .ref bx] news news (RInt 2) :=
  of_at hb1 hb2 hb3 h4 h16 (by decide) (by decide) (by decide) (by decide) (by decide) (by decide) rfl (first_is h4 h16)
theorem of_second {wd : Int} {bx dx : Addr} {es : List DictEntry} {n : Nat} {t t' t'' tw : Tok} (hb1 : (bx, instObj 53 dx) ∈ news) (hb2 : (dx, dictOf es n) ∈ news) (hb3 : getL (Str.ofString "width") es = some (some (.int wd tw))) (h4 : 4 ≤ wd) (h16 : wd ≤ 16) : Con w mean mg mb 210 7 [.int 4 t, .int 7 t', .int (-3) t'', .ref bx] news news (RInt (-2)) :=
  of_at hb1 hb2 hb3 h4 h16 (by decide) (by decide) (by decide) (by decide) (by decide) (by decide) rfl (second_is h4 h16)
/-- what stands between the turns of the law's loops -/
def LawJ (w : World) (sx l : Addr) (rest : List (Addr × Obj)) (stored : List Str) (x : Str) (m₀ : Str → Option Value) (m : Str → Option Value) (nx : List (Addr × Obj)) : Prop :=
  ∃ o g, nx = (sx, o) :: rest ∧ SackOk w o l g ∧ 0 ≤ g ∧ ∀ z, z ≠ x → stored.contains z = false → m z = m₀ z
theorem law_range {A : Around} {E : Value → Shared → Prop} {s : Shared} {env : Env} {h₀ : Heap} {x : Str} {body : List Stmt} {Q : Flow → Shared → Prop} {r : Addr} {a₀ b₀ : Int} {t₀ u₀ v₀ : Tok} {n : Nat} {m₀ : Str → Option Value} {sx l : Addr} {o : Obj} {g : Int} {rest : List (Addr × Obj)} (stored : List Str)
    (hh : A.handled = none) (hr : IsRange s.heap r a₀ b₀ 1 t₀ u₀ v₀) (hsmall : Builtin.Range.small a₀ b₀ 1 = true) (hn : Builtin.Range.rangeSize a₀ b₀ 1 = (n : Int)) (F : Fr h₀ env.locals s.heap m₀) (N : News h₀ env.locals s.heap ((sx, o) :: rest)) (hs : SackOk w o l g) (hg : 0 ≤ g)
    (turn : ∀ (o' : Obj) (g' k : Int) (t : Tok) (u : Str → Option Value) (h : Heap) (tk : Nat) (own : List (Addr × Obj)), a₀ ≤ k → k < a₀ + (n : Int) → SackOk w o' l g' → 0 ≤ g' → OwnOff own (sx :: rest.map (·.1)) →
      Fr h₀ env.locals h (fun y => if y = x then some (.int k t) else if stored.contains y = true then u y else m₀ y) → News h₀ env.locals h ((sx, o') :: (rest ++ own)) →
      wpAny (model PySem.Challenge.rw_rr0062_01.row.prog w) A (execs body env) (InvPostN h₀ env.locals (LawJ w sx l rest stored x m₀) own (sx :: rest.map (·.1)) { s with heap := h, toks := tk } Q) E { s with heap := h, toks := tk })
    (done : ∀ (o' : Obj) (g' : Int) (u : Str → Option Value) (h : Heap) (tk : Nat), SackOk w o' l g' → 0 ≤ g' → Fr h₀ env.locals h (fun y => if y = x then u y else if stored.contains y = true then u y else m₀ y) → News h₀ env.locals h ((sx, o') :: rest) → Q .next { s with heap := h, toks := tk }) :
    wpAny (model PySem.Challenge.rw_rr0062_01.row.prog w) A (pyIter (.ref r)) (fun it s₂ => LoopAtV PySem.Challenge.rw_rr0062_01.row.prog w A h₀ env x body Q E it s₂) E s := by
  have key : ∀ (m₁ : Str → Option Value), (∀ z, z ≠ x → stored.contains z = false → m₁ z = m₀ z) → ∀ (f : Str → Option Value), (fun y => if y = x then f y else if stored.contains y = true then m₁ y else m₀ y) = fun y => if y = x then f y else m₁ y := by
    intro m₁ h f
    funext y
    by_cases h1 : y = x
    · rw [if_pos h1, if_pos h1]
    · rw [if_neg h1, if_neg h1]
      cases h2 : stored.contains y with
      | true => simp
      | false => simp only [Bool.false_eq_true, if_false]; exact (h y h1 h2).symm
  refine iter_rangeS (σ := Unit) (fun _ m nx => LawJ w sx l rest stored x m₀ m nx) (fun a _ => a) () hh hr hsmall hn F N ⟨o, g, rfl, hs, hg, fun _ _ _ => rfl⟩ ?_ ?_
  · rintro k t _ m₁ nx h tk own hk ho ⟨o', g', rfl, hs', hg', hm⟩ F₁ N₁
    have hk' := mem_rangeKs hk
    refine turn o' g' k t m₁ h tk own hk'.1 hk'.2 hs' hg' ho ?_ N₁
    rw [key m₁ hm (fun _ => some (.int k t))]; exact F₁
  · rintro m₁ nx h tk ⟨o', g', rfl, hs', hg', hm⟩ F₁ N₁
    refine done o' g' m₁ h tk hs' hg' ?_ N₁
    rw [key m₁ hm m₁]
    have e : (fun y => if y = x then m₁ y else m₁ y) = m₁ := by funext y; simp
    rw [e]; exact F₁
end Mine

namespace Mine
set_option maxRecDepth 100000
variable {w : World} {mean : ExcName → Option Value} {mg mb : Str → Option Value} {news : List (Addr × Obj)}
noncomputable def lastDef : List Stmt → List Stmt × Scope
  | [] => ([], default)
  | [.FunctionDef _ _ b _ _ _ sc _ _ _] => (b, sc)
  | _ :: r => lastDef r
noncomputable def forBody : List Stmt → List Stmt
  | [] => []
  | .For _ _ b _ _ :: _ => b
  | _ :: r => forBody r
noncomputable def lawSc : {b : Scope // b = (lastDef PySem.Challenge.pw_rr0062_01.main.body).2} := ⟨_, by conv => rhs; whnf⟩
noncomputable def turnB : {b : List Stmt // b = forBody (lastDef PySem.Challenge.pw_rr0062_01.main.body).1} := ⟨_, by conv => rhs; whnf⟩
noncomputable def placeB : {b : List Stmt // b = forBody turnB.1} := ⟨_, by conv => rhs; whnf⟩
theorem fr_at {h₀ h : Heap} {L : Addr} {m : Str → Option Value} {y : Str} {v : Option Value} (F : Fr h₀ L h m) (e : m y = v) : Fr h₀ L h (fun z => if z = y then v else m z) := by
  have q : (fun z => if z = y then v else m z) = m := by
    funext z
    by_cases h : z = y
    · rw [if_pos h, h, e]
    · rw [if_neg h]
  rw [q]; exact F
theorem at_is {m : Str → Option Value} {y z : Str} {v : Option Value} (e : m y = v) : (if z = y then v else m z) = m z := by
  by_cases h : z = y
  · rw [if_pos h, h, e]
  · rw [if_neg h]
theorem at4_is {m : Str → Option Value} {y1 y2 y3 y4 : Str} {v1 v2 v3 v4 : Option Value} (e1 : m y1 = v1) (e2 : m y2 = v2) (e3 : m y3 = v3) (e4 : m y4 = v4) (z : Str) : (if z = y1 then v1 else if z = y2 then v2 else if z = y3 then v3 else if z = y4 then v4 else m z) = m z := by
  rw [at_is e4, at_is e3, at_is e2, at_is e1]
theorem fr_at4 {h₀ h : Heap} {L : Addr} {m : Str → Option Value} {y1 y2 y3 y4 : Str} {v1 v2 v3 v4 : Option Value} (F : Fr h₀ L h m) (e1 : m y1 = v1) (e2 : m y2 = v2) (e3 : m y3 = v3) (e4 : m y4 = v4) : Fr h₀ L h (fun z => if z = y1 then v1 else if z = y2 then v2 else if z = y3 then v3 else if z = y4 then v4 else m z) := by
  have q : (fun z => if z = y1 then v1 else if z = y2 then v2 else if z = y3 then v3 else if z = y4 then v4 else m z) = m := funext (at4_is e1 e2 e3 e4)
  rw [q]; exact F
theorem ne_ii {prog : Program} {A : Around} {E : Value → Shared → Prop} {s : Shared} {h₀ : Heap} {L p q : Addr} {a b : Int} {t u t' u' : Tok} {Q : Value → Shared → Prop} (N : News h₀ L s.heap news) (m1 : (p, ({ cls := .type "tuple", data := .seq #[.int a t, .int b u] } : Obj)) ∈ news) (m2 : (q, ({ cls := .type "tuple", data := .seq #[.int a t', .int b u'] } : Obj)) ∈ news)
    (hu : A.units + 64 < cLine) (h : Q (.bool false) s) : wpAny (model prog w) A (compareOp .NotEq (.ref p) (.ref q)) Q E s :=
  ne_dataH (reads_tuple_at (N.get m1) rfl rfl (.cons (.int _ _) (.cons (.int _ _) .nil))) (reads_tuple_at (N.get m2) rfl rfl (.cons (.int _ _) (.cons (.int _ _) .nil))) rfl rfl hu (by simpa [PyData.eqv, PyData.eqvAll] using h)
theorem ne_in {prog : Program} {A : Around} {E : Value → Shared → Prop} {s : Shared} {h₀ : Heap} {L p q : Addr} {a : Int} {t t' : Tok} {Q : Value → Shared → Prop} (N : News h₀ L s.heap news) (m1 : (p, ({ cls := .type "tuple", data := .seq #[.int a t, .none] } : Obj)) ∈ news) (m2 : (q, ({ cls := .type "tuple", data := .seq #[.int a t', .none] } : Obj)) ∈ news)
    (hu : A.units + 64 < cLine) (h : Q (.bool false) s) : wpAny (model prog w) A (compareOp .NotEq (.ref p) (.ref q)) Q E s :=
  ne_dataH (reads_tuple_at (N.get m1) rfl rfl (.cons (.int _ _) (.cons .none .nil))) (reads_tuple_at (N.get m2) rfl rfl (.cons (.int _ _) (.cons .none .nil))) rfl rfl hu (by simpa [PyData.eqv, PyData.eqvAll] using h)
theorem keep1of6 {h₀ h : Heap} {L : Addr} {x a b c d e f : Addr × Obj} {r : List (Addr × Obj)} (N : News h₀ L h (a :: b :: c :: d :: e :: f :: x :: r)) : News h₀ L h (x :: a :: r) := fun p hp => N p (by simp only [List.mem_cons] at hp ⊢; rcases hp with h | h | h <;> simp [h])
theorem news_two {h₀ h : Heap} {L : Addr} {x : Addr × Obj} {r all : List (Addr × Obj)} (N : News h₀ L h all) (hx : x ∈ all) (hr : ∀ p ∈ r, p ∈ all) : News h₀ L h (x :: r) := fun p hp => N p ((List.mem_cons.mp hp).elim (fun e => e ▸ hx) (hr p))
theorem ne_memb {d : Addr} {rest : List (Addr × Obj)} {a : Addr} {o : Obj} (h : ∀ p ∈ rest, p.1 ≠ d) (hm : (a, o) ∈ rest) : a ≠ d := h _ hm
section
variable {h₀ h : Heap} {L : Addr} {x a b c d e f : Addr × Obj} {r : List (Addr × Obj)}
theorem up1 (N : News h₀ L h (a :: x :: r)) : News h₀ L h (x :: a :: r) := fun p hp => N p (by simp only [List.mem_cons] at hp ⊢; rcases hp with h | h | h <;> simp [h])
theorem up2 (N : News h₀ L h (a :: b :: x :: r)) : News h₀ L h (x :: a :: b :: r) := fun p hp => N p (by simp only [List.mem_cons] at hp ⊢; rcases hp with h | h | h | h <;> simp [h])
theorem up3 (N : News h₀ L h (a :: b :: c :: x :: r)) : News h₀ L h (x :: a :: b :: c :: r) := fun p hp => N p (by simp only [List.mem_cons] at hp ⊢; rcases hp with h | h | h | h | h <;> simp [h])
theorem up4 (N : News h₀ L h (a :: b :: c :: d :: x :: r)) : News h₀ L h (x :: a :: b :: c :: d :: r) := fun p hp => N p (by simp only [List.mem_cons] at hp ⊢; rcases hp with h | h | h | h | h | h <;> simp [h])
end
end Mine

namespace Mine
set_option maxRecDepth 100000
variable {w : World} {mean : ExcName → Option Value} {mg mb : Str → Option Value} {news : List (Addr × Obj)}
local macro_rules | `(tactic| k_mem) => `(tactic| (repeat (first | with_reducible assumption | exact List.mem_cons_self | refine List.mem_cons_of_mem _ ?_ | refine List.mem_append_right _ ?_)); done)
set_option maxHeartbeats 0 in
theorem place_body {x y k wd g : Int} {bx dx sx l c1 c2 : Addr} {es : List DictEntry} {n e : Nat} {ys : List Value} {ks : List Int} {o oc1 : Obj} {R : List (Addr × Obj)} {tw tk ta tb : Tok}
    {dp un : Nat} {gd : Option (List Code)} {a : Addr} {ccd : Value} {outer : List Env} {A₀ : Around} {base h₀ : Heap} {L : Addr} {m : Str → Option Value} {s : Shared} {Q : Flow → Shared → Prop} 
    (B : Below A₀ base outer h₀) (F : Fr h₀ L s.heap m) (X : (hd.heap_39 w.params).In h₀) (N : News h₀ L s.heap ((sx, o) :: R)) (T : Top hd.view_39 (looseW hd.view_39 [Str.ofString "RECKONINGS"]) mean mg mb h₀) (hdp : dp + 30 < recursionLimit) (hun : un + 8 * 30 < cLine)
    (mp : m (Str.ofString "place") = some (.int k tk)) (ma : m (Str.ofString "a") = some (.int x ta)) (mbb : m (Str.ofString "b") = some (.int y tb)) (mbo : m (Str.ofString "bounds") = some (.ref bx))
    (hp0 : 0 ≤ k) (hp1 : k < 7) (h4 : 4 ≤ wd) (h16 : wd ≤ 16) (hx1 : -65536 ≤ x) (hx2 : x ≤ 65536) (hy1 : -65536 ≤ y) (hy2 : y ≤ 65536) (hr1 : -(2 ^ (wd - 1).toNat) ≤ x) (hr2 : x < 2 ^ (wd - 1).toNat) (hs1 : -(2 ^ (wd - 1).toNat) ≤ y) (hs2 : y < 2 ^ (wd - 1).toNat)
    (hb1 : (bx, instObj 53 dx) ∈ R) (hb2 : (dx, dictOf es n) ∈ R) (hb3 : getL (Str.ofString "width") es = some (some (.int wd tw))) (hc1 : (c1, oc1) ∈ R) (hd1 : oc1.data = .cell (some (.ref sx)))
    (hl : (l, ({ cls := .type "list", data := .seq ys.toArray e } : Obj)) ∈ R) (hi : IntsAre ys ks) (hz : ks.length ≤ 100) (hne : ∀ p ∈ R, p.1 ≠ sx) (hs : SackOk w o l g) (hg : 0 ≤ g)
    (fin : ∀ (h' : Heap) (tk' : Nat) (o' : Obj) (g' : Int) (m' : Str → Option Value), Fr h₀ L h' m' → News h₀ L h' ((sx, o') :: R) → SackOk w o' l g' → 0 ≤ g' → (∀ z, z ≠ Str.ofString "plain" → z ≠ Str.ofString "one" → z ≠ Str.ofString "other" → m' z = m z) → Q .next { s with heap := h', toks := tk' }) :
    wpAny (model PySem.Challenge.rw_rr0062_01.row.prog w) (ktrTop dp un gd (Str.ofString "law") lawSc.1 L a ccd [(Str.ofString "bits", c2), (Str.ofString "sack", c1)] outer) (execs placeB.1 (envX (Str.ofString "law") lawSc.1 L a ccd [(Str.ofString "bits", c2), (Str.ofString "sack", c1)])) Q (fun _ _ => False) s := by
  k_with_none
  k_with "eval Call Name cons nil" => (k_here; (with_reducible show wpAny _ _ (eval (PySem.Expr.Call (PySem.Expr.Name _ _) [_] [] _) _) _ _ _); k_dflt (refine' call1 ?zcF ?zcX ?zcT ?zchf ?zchk ?zca1 ?zcs ?zcx (by decide) ?_; (case zcF => k_asm); (case zcX => k_asm); (case zcT => k_asm); (case zchf => k_is); (case zchk => k_is); (case zca1 => (first | exact ArgV.int | exact ArgV.name rfl rfl (by decide) rfl)); (case zcs => rfl); (case zcx => rfl); intro t1 tk9; (try dsimp only)))
  k_with "eval Call Name cons nil" => (k_here; (with_reducible show wpAny _ _ (eval (PySem.Expr.Call (PySem.Expr.Name _ _) [_, _] [] _) _) _ _ _); k_dflt (refine' call2 ?zcF ?zcX ?zcT ?zchf ?zchk ?zca1 ?zca2 ?zcs ?zcx (by decide) ?_; (case zcF => k_asm); (case zcX => k_asm); (case zcT => k_asm); (case zchf => k_is); (case zchk => k_is); (case zca1 => (first | exact ArgV.int | exact ArgV.name rfl rfl (by decide) rfl)); (case zca2 => (first | exact ArgV.int | exact ArgV.name rfl rfl (by decide) rfl)); (case zcs => rfl); (case zcx => rfl); intro t1 t2 tk9; (try dsimp only)))
  k_with "eval Call Name cons nil" => (k_here; (with_reducible show wpAny _ _ (eval (PySem.Expr.Call (PySem.Expr.Name _ _) [_, _, _] [] _) _) _ _ _); k_dflt (refine' call3 ?zcF ?zcX ?zcT ?zchf ?zchk ?zca1 ?zca2 ?zca3 ?zcs ?zcx (by decide) ?_; (case zcF => k_asm); (case zcX => k_asm); (case zcT => k_asm); (case zchf => k_is); (case zchk => k_is); (case zca1 => (first | exact ArgV.int | exact ArgV.name rfl rfl (by decide) rfl)); (case zca2 => (first | exact ArgV.int | exact ArgV.name rfl rfl (by decide) rfl)); (case zca3 => (first | exact ArgV.int | exact ArgV.name rfl rfl (by decide) rfl)); (case zcs => rfl); (case zcx => rfl); intro t1 t2 t3 tk9; (try dsimp only)))
  k_with "eval Call Name cons nil" => (k_here; (with_reducible show wpAny _ _ (eval (PySem.Expr.Call (PySem.Expr.Name _ _) [_, _, _, _] [] _) _) _ _ _); k_dflt (refine' call4 ?zcF ?zcX ?zcT ?zchf ?zchk ?zca1 ?zca2 ?zca3 ?zca4 ?zcs ?zcx (by decide) ?_; (case zcF => k_asm); (case zcX => k_asm); (case zcT => k_asm); (case zchf => k_is); (case zchk => k_is); (case zca1 => (first | exact ArgV.int | exact ArgV.name rfl rfl (by decide) rfl)); (case zca2 => (first | exact ArgV.int | exact ArgV.name rfl rfl (by decide) rfl)); (case zca3 => (first | exact ArgV.int | exact ArgV.name rfl rfl (by decide) rfl)); (case zca4 => (first | exact ArgV.int | exact ArgV.name rfl rfl (by decide) rfl)); (case zcs => rfl); (case zcx => rfl); intro t1 t2 t3 t4 tk9; (try dsimp only)))
  k_with "call ref" => (k_here; (with_reducible show wpAny _ _ (call (Value.ref 217) _) _ _ _); k_dflt (refine' Con.useS ?zzB ?zzF ?zzX ?zzN ?zzT ?zzk (written_con ?zzh1 ?zzh2) ?zzd ?zzu ?_; (case zzB => k_asm); (case zzF => k_asm); (case zzX => k_asm); (case zzN => k_asm); (case zzT => k_asm); (case zzk => first | exact rfl | assumption); (case zzh1 => assumption); (case zzh2 => assumption); (case zzd => ktr_room); (case zzu => ktr_units); intro l9b t9 h9 tk9 hT9 F9 N9; (try dsimp only); (try k_sweep); (try k_fold)))
  k_with "call ref" => (k_here; (with_reducible show wpAny _ _ (call (Value.ref 196) [Value.int _ _, Value.int _ _, Value.int _ _, Value.ref _]) _ _ _); k_dflt (refine' Con.useK ?zzB ?zzF ?zzX ?zzN ?zzT ?zzk (rok_ii ?zzhb1 ?zzhb2 ?zzhb3 ?zzh4 ?zzh16 ?zzhx1 ?zzhx2 ?zzhy1 ?zzhy2 ?zzhp0 ?zzhp1 ?zzhno) ?zzd ?zzu ?_; (case zzB => k_asm); (case zzF => k_asm); (case zzX => k_asm); (case zzN => k_asm); (case zzT => k_asm); (case zzk => first | exact rfl | assumption); (case zzhb1 => k_mem); (case zzhb2 => k_mem); (case zzhb3 => assumption); (case zzh4 => assumption); (case zzh16 => assumption); (case zzhx1 => assumption); (case zzhx2 => assumption); (case zzhy1 => assumption); (case zzhy2 => assumption); (case zzhp0 => assumption); (case zzhp1 => assumption); (case zzhno => assumption); (case zzd => ktr_room); (case zzu => ktr_units); intro p9 t9 u9 h9 tk9 F9 N9 l9; (try k_lt l9); (try dsimp only); (try k_sweep); (try k_fold)))
  k_with "call ref" => (k_here; (with_reducible show wpAny _ _ (call (Value.ref 196) [Value.int _ _, Value.int _ _, Value.int _ _, Value.ref _]) _ _ _); k_dflt (refine' Con.useX ?zzB ?zzF ?zzX ?zzN ?zzT ?zzk (rze_ii ?zzhb1 ?zzhb2 ?zzhb3 ?zzh4 ?zzh16 ?zzhno) ?zzd ?zzu ?_; (case zzB => k_asm); (case zzF => k_asm); (case zzX => k_asm); (case zzN => k_asm); (case zzT => k_asm); (case zzk => first | exact rfl | assumption); (case zzhb1 => k_mem); (case zzhb2 => k_mem); (case zzhb3 => assumption); (case zzh4 => assumption); (case zzh16 => assumption); (case zzhno => assumption); (case zzd => ktr_room); (case zzu => ktr_units); intro p9 t9 h9 tk9 F9 N9 l9; (try k_lt l9); (try dsimp only); (try k_sweep); (try k_fold)))
  k_with "call ref" => (k_here; (with_reducible show wpAny _ _ (call (Value.ref 196) [Value.int _ _, Value.bytes _ _, Value.int _ _, Value.ref _]) _ _ _); k_dflt (refine' Con.useK ?zzB ?zzF ?zzX ?zzN ?zzT ?zzk (rok_ti ?zzhb1 ?zzhb2 ?zzhb3 ?zzh4 ?zzh16 ?zzhT ?zzh1 ?zzh2 ?zzhx1 ?zzhx2 ?zzhy1 ?zzhy2 ?zzhp0 ?zzhp1 ?zzhno) ?zzd ?zzu ?_; (case zzB => k_asm); (case zzF => k_asm); (case zzX => k_asm); (case zzN => k_asm); (case zzT => k_asm); (case zzk => first | exact rfl | assumption); (case zzhb1 => k_mem); (case zzhb2 => k_mem); (case zzhb3 => assumption); (case zzh4 => assumption); (case zzh16 => assumption); (case zzhT => assumption); (case zzh1 => assumption); (case zzh2 => assumption); (case zzhx1 => assumption); (case zzhx2 => assumption); (case zzhy1 => assumption); (case zzhy2 => assumption); (case zzhp0 => assumption); (case zzhp1 => assumption); (case zzhno => assumption); (case zzd => ktr_room); (case zzu => ktr_units); intro p9 t9 u9 h9 tk9 F9 N9 l9; (try k_lt l9); (try dsimp only); (try k_sweep); (try k_fold)))
  k_with "call ref" => (k_here; (with_reducible show wpAny _ _ (call (Value.ref 196) [Value.int _ _, Value.bytes _ _, Value.int _ _, Value.ref _]) _ _ _); k_dflt (refine' Con.useX ?zzB ?zzF ?zzX ?zzN ?zzT ?zzk (rze_ti ?zzhb1 ?zzhb2 ?zzhb3 ?zzh4 ?zzh16 ?zzhT ?zzh1 ?zzh2 ?zzhno) ?zzd ?zzu ?_; (case zzB => k_asm); (case zzF => k_asm); (case zzX => k_asm); (case zzN => k_asm); (case zzT => k_asm); (case zzk => first | exact rfl | assumption); (case zzhb1 => k_mem); (case zzhb2 => k_mem); (case zzhb3 => assumption); (case zzh4 => assumption); (case zzh16 => assumption); (case zzhT => assumption); (case zzh1 => assumption); (case zzh2 => assumption); (case zzhno => assumption); (case zzd => ktr_room); (case zzu => ktr_units); intro p9 t9 h9 tk9 F9 N9 l9; (try k_lt l9); (try dsimp only); (try k_sweep); (try k_fold)))
  k_with "call ref" => (k_here; (with_reducible show wpAny _ _ (call (Value.ref 196) [Value.int _ _, Value.int _ _, Value.bytes _ _, Value.ref _]) _ _ _); k_dflt (refine' Con.useK ?zzB ?zzF ?zzX ?zzN ?zzT ?zzk (rok_it ?zzhb1 ?zzhb2 ?zzhb3 ?zzh4 ?zzh16 ?zzhU ?zzk1 ?zzk2 ?zzhx1 ?zzhx2 ?zzhy1 ?zzhy2 ?zzhp0 ?zzhp1 ?zzhno) ?zzd ?zzu ?_; (case zzB => k_asm); (case zzF => k_asm); (case zzX => k_asm); (case zzN => k_asm); (case zzT => k_asm); (case zzk => first | exact rfl | assumption); (case zzhb1 => k_mem); (case zzhb2 => k_mem); (case zzhb3 => assumption); (case zzh4 => assumption); (case zzh16 => assumption); (case zzhU => assumption); (case zzk1 => assumption); (case zzk2 => assumption); (case zzhx1 => assumption); (case zzhx2 => assumption); (case zzhy1 => assumption); (case zzhy2 => assumption); (case zzhp0 => assumption); (case zzhp1 => assumption); (case zzhno => assumption); (case zzd => ktr_room); (case zzu => ktr_units); intro p9 t9 u9 h9 tk9 F9 N9 l9; (try k_lt l9); (try dsimp only); (try k_sweep); (try k_fold)))
  k_with "call ref" => (k_here; (with_reducible show wpAny _ _ (call (Value.ref 196) [Value.int _ _, Value.int _ _, Value.bytes _ _, Value.ref _]) _ _ _); k_dflt (refine' Con.useX ?zzB ?zzF ?zzX ?zzN ?zzT ?zzk (rze_it ?zzhb1 ?zzhb2 ?zzhb3 ?zzh4 ?zzh16 ?zzhU ?zzk1 ?zzk2 ?zzhno) ?zzd ?zzu ?_; (case zzB => k_asm); (case zzF => k_asm); (case zzX => k_asm); (case zzN => k_asm); (case zzT => k_asm); (case zzk => first | exact rfl | assumption); (case zzhb1 => k_mem); (case zzhb2 => k_mem); (case zzhb3 => assumption); (case zzh4 => assumption); (case zzh16 => assumption); (case zzhU => assumption); (case zzk1 => assumption); (case zzk2 => assumption); (case zzhno => assumption); (case zzd => ktr_room); (case zzu => ktr_units); intro p9 t9 h9 tk9 F9 N9 l9; (try k_lt l9); (try dsimp only); (try k_sweep); (try k_fold)))
  k_with "call ref" => (k_here; (with_reducible show wpAny _ _ (call (Value.ref 196) [Value.int _ _, Value.bytes _ _, Value.bytes _ _, Value.ref _]) _ _ _); k_dflt (refine' Con.useK ?zzB ?zzF ?zzX ?zzN ?zzT ?zzk (rok_tt ?zzhb1 ?zzhb2 ?zzhb3 ?zzh4 ?zzh16 ?zzhT ?zzh1 ?zzh2 ?zzhU ?zzk1 ?zzk2 ?zzhx1 ?zzhx2 ?zzhy1 ?zzhy2 ?zzhp0 ?zzhp1 ?zzhno) ?zzd ?zzu ?_; (case zzB => k_asm); (case zzF => k_asm); (case zzX => k_asm); (case zzN => k_asm); (case zzT => k_asm); (case zzk => first | exact rfl | assumption); (case zzhb1 => k_mem); (case zzhb2 => k_mem); (case zzhb3 => assumption); (case zzh4 => assumption); (case zzh16 => assumption); (case zzhT => assumption); (case zzh1 => assumption); (case zzh2 => assumption); (case zzhU => assumption); (case zzk1 => assumption); (case zzk2 => assumption); (case zzhx1 => assumption); (case zzhx2 => assumption); (case zzhy1 => assumption); (case zzhy2 => assumption); (case zzhp0 => assumption); (case zzhp1 => assumption); (case zzhno => assumption); (case zzd => ktr_room); (case zzu => ktr_units); intro p9 t9 u9 h9 tk9 F9 N9 l9; (try k_lt l9); (try dsimp only); (try k_sweep); (try k_fold)))
  k_with "call ref" => (k_here; (with_reducible show wpAny _ _ (call (Value.ref 196) [Value.int _ _, Value.bytes _ _, Value.bytes _ _, Value.ref _]) _ _ _); k_dflt (refine' Con.useX ?zzB ?zzF ?zzX ?zzN ?zzT ?zzk (rze_tt ?zzhb1 ?zzhb2 ?zzhb3 ?zzh4 ?zzh16 ?zzhT ?zzh1 ?zzh2 ?zzhU ?zzk1 ?zzk2 ?zzhno) ?zzd ?zzu ?_; (case zzB => k_asm); (case zzF => k_asm); (case zzX => k_asm); (case zzN => k_asm); (case zzT => k_asm); (case zzk => first | exact rfl | assumption); (case zzhb1 => k_mem); (case zzhb2 => k_mem); (case zzhb3 => assumption); (case zzh4 => assumption); (case zzh16 => assumption); (case zzhT => assumption); (case zzh1 => assumption); (case zzh2 => assumption); (case zzhU => assumption); (case zzk1 => assumption); (case zzk2 => assumption); (case zzhno => assumption); (case zzd => ktr_room); (case zzu => ktr_units); intro p9 t9 h9 tk9 F9 N9 l9; (try k_lt l9); (try dsimp only); (try k_sweep); (try k_fold)))
  k_with "call ref" => (k_here; (with_reducible show wpAny _ _ (call (Value.ref 196) [Value.int _ _, Value.int _ _, Value.bytes _ _, Value.ref _]) _ _ _); k_dflt (refine' Con.useX ?zzB ?zzF ?zzX ?zzN ?zzT ?zzk (rba_empty (b := true) ?zzhb1 ?zzhb2 ?zzhb3 ?zzh4 ?zzh16) ?zzd ?zzu ?_; (case zzB => k_asm); (case zzF => k_asm); (case zzX => k_asm); (case zzN => k_asm); (case zzT => k_asm); (case zzk => first | exact rfl | assumption); (case zzhb1 => k_mem); (case zzhb2 => k_mem); (case zzhb3 => assumption); (case zzh4 => assumption); (case zzh16 => assumption); (case zzd => ktr_room); (case zzu => ktr_units); intro p9 t9 h9 tk9 F9 N9 l9; (try k_lt l9); (try dsimp only); (try k_sweep); (try k_fold)))
  k_with "call ref" => (k_here; (with_reducible show wpAny _ _ (call (Value.ref 196) [Value.int _ _, Value.int _ _, Value.bytes _ _, Value.ref _]) _ _ _); k_dflt (refine' Con.useX ?zzB ?zzF ?zzX ?zzN ?zzT ?zzk (rba_zed (b := true) ?zzhb1 ?zzhb2 ?zzhb3 ?zzh4 ?zzh16) ?zzd ?zzu ?_; (case zzB => k_asm); (case zzF => k_asm); (case zzX => k_asm); (case zzN => k_asm); (case zzT => k_asm); (case zzk => first | exact rfl | assumption); (case zzhb1 => k_mem); (case zzhb2 => k_mem); (case zzhb3 => assumption); (case zzh4 => assumption); (case zzh16 => assumption); (case zzd => ktr_room); (case zzu => ktr_units); intro p9 t9 h9 tk9 F9 N9 l9; (try k_lt l9); (try dsimp only); (try k_sweep); (try k_fold)))
  k_with "call ref" => (k_here; (with_reducible show wpAny _ _ (call (Value.ref 196) [Value.int _ _, Value.int _ _, Value.none, Value.ref _]) _ _ _); k_dflt (refine' Con.useX ?zzB ?zzF ?zzX ?zzN ?zzT ?zzk (rba_none (b := true) (t'' := 0) ?zzhb1 ?zzhb2 ?zzhb3 ?zzh4 ?zzh16) ?zzd ?zzu ?_; (case zzB => k_asm); (case zzF => k_asm); (case zzX => k_asm); (case zzN => k_asm); (case zzT => k_asm); (case zzk => first | exact rfl | assumption); (case zzhb1 => k_mem); (case zzhb2 => k_mem); (case zzhb3 => assumption); (case zzh4 => assumption); (case zzh16 => assumption); (case zzd => ktr_room); (case zzu => ktr_units); intro p9 t9 h9 tk9 F9 N9 l9; (try k_lt l9); (try dsimp only); (try k_sweep); (try k_fold)))
  k_with "call ref" => (k_here; (with_reducible show wpAny _ _ (call (Value.ref 196) [Value.int _ _, Value.int _ _, Value.bool _, Value.ref _]) _ _ _); k_dflt (refine' Con.useX ?zzB ?zzF ?zzX ?zzN ?zzT ?zzk (rba_bool (t'' := 0) ?zzhb1 ?zzhb2 ?zzhb3 ?zzh4 ?zzh16) ?zzd ?zzu ?_; (case zzB => k_asm); (case zzF => k_asm); (case zzX => k_asm); (case zzN => k_asm); (case zzT => k_asm); (case zzk => first | exact rfl | assumption); (case zzhb1 => k_mem); (case zzhb2 => k_mem); (case zzhb3 => assumption); (case zzh4 => assumption); (case zzh16 => assumption); (case zzd => ktr_room); (case zzu => ktr_units); intro p9 t9 h9 tk9 F9 N9 l9; (try k_lt l9); (try dsimp only); (try k_sweep); (try k_fold)))
  k_with "call ref" => (k_here; (with_reducible show wpAny _ _ (call (Value.ref 203) _) _ _ _); k_dflt (refine' ConG.use ?zzB ?zzF ?zzX ?zzN ?zzT ?zzk (grain_con ?zzhne ?zzhl ?zzhi ?zzhz ?zzhs ?zzhg ?zzhm ?zzhm2) ?zzd ?zzu ?_; (case zzB => k_asm); (case zzF => k_asm); (case zzX => k_asm); (case zzN => exact keep1of6 (by assumption)); (case zzT => k_asm); (case zzk => first | exact rfl | assumption); (case zzhs => assumption); (case zzhl => k_mem); (case zzhi => assumption); (case zzhz => assumption); (case zzhne => exact List.forall_mem_cons.mpr ⟨by k_ne, by assumption⟩); (case zzhg => assumption); (case zzhm => decide); (case zzhm2 => decide); (case zzd => ktr_room); (case zzu => ktr_units); intro x9 t9 o9 h9 tk9 x90 x91 s9 F9 N9; (have q9 : x9 = 0 ∨ x9 = 1 ∨ x9 = 2 ∨ x9 = 3 := by omega); clear x90 x91; rcases q9 with q9 | q9 | q9 | q9 <;> subst q9 <;> (try dsimp only) <;> (try k_fold)))
  k_with "compareOp NotEq ref ref" => (k_here; (with_reducible show wpAny _ _ (compareOp CmpOp.NotEq (Value.ref _) (Value.ref _)) _ _ _); k_dflt (refine' ne_in ?zzN ?zzma ?zzmb ?zzu ?_; (case zzN => k_asm); (case zzma => k_mem); (case zzmb => k_mem); (case zzu => ktr_units)); (try dsimp only))
  k_with "compareOp NotEq ref ref" => (k_here; (with_reducible show wpAny _ _ (compareOp CmpOp.NotEq (Value.ref _) (Value.ref _)) _ _ _); k_dflt (refine' ne_ii ?zzN ?zzma ?zzmb ?zzu ?_; (case zzN => k_asm); (case zzma => k_mem); (case zzmb => k_mem); (case zzu => ktr_units)); (try dsimp only))
  k_with "LoopStep3" => (k_dflt (refine LoopStep3.next (LoopStep2.intro (by with_reducible assumption) (drop1 (by with_reducible assumption)) rfl ?_)))
  k_with "exec For Tuple Tuple cons nil" => (k_here; (rename Fr _ _ _ _ => F'); k_dflt (refine' For_unrF F' ?_ ?zzhs PySem.PassesOwn.never; (case zzhs => (intro _; with_unfolding_all rfl))))
  have F₂ := fr_at4 F mp ma mbb mbo
  clear F
  w_top off
  unfold placeB lawSc
  dsimp only
  cases hno : noRes k x y
  all_goals k_steps
  all_goals exact fin _ _ _ _ _ (by assumption) (news_two (by assumption) (by k_mem) (fun p hp => by k_mem)) (by assumption) (by omega) (by intro z h1 h2 h3; simp only [if_neg h1, if_neg h2, if_neg h3]; exact at4_is mp ma mbb mbo z)
end Mine

namespace Mine
set_option maxRecDepth 100000
variable {w : World} {mean : ExcName → Option Value} {mg mb : Str → Option Value} {news : List (Addr × Obj)}
theorem law_range2 {A : Around} {E : Value → Shared → Prop} {s : Shared} {env : Env} {h₀ : Heap} {x : Str} {body : List Stmt} {Q : Flow → Shared → Prop} {r : Addr} {a₀ b₀ : Int} {t₀ u₀ v₀ : Tok} {n : Nat} {m₀ : Str → Option Value} {sx l bx dx : Addr} {o : Obj} {g : Int} {rest : List (Addr × Obj)} (stored : List Str)
    (hb1 : (bx, instObj 53 dx) ∈ rest) (hne : ∀ p ∈ rest, p.1 ≠ sx) (hh : A.handled = none) (hr : IsRange s.heap r a₀ b₀ 1 t₀ u₀ v₀) (hsmall : Builtin.Range.small a₀ b₀ 1 = true) (hn : Builtin.Range.rangeSize a₀ b₀ 1 = (n : Int)) (F : Fr h₀ env.locals s.heap m₀) (N : News h₀ env.locals s.heap ((sx, o) :: rest)) (hs : SackOk w o l g) (hg : 0 ≤ g)
    (turn : ∀ (o' : Obj) (g' k : Int) (t : Tok) (m₁ : Str → Option Value) (h : Heap) (tk : Nat) (own : List (Addr × Obj)) (Q' : Flow → Shared → Prop), a₀ ≤ k → k < a₀ + (n : Int) → SackOk w o' l g' → 0 ≤ g' → (∀ p ∈ own, p.1 ≠ sx) →
      m₁ x = some (.int k t) → (∀ z, z ≠ x → stored.contains z = false → m₁ z = m₀ z) → Fr h₀ env.locals h m₁ → News h₀ env.locals h ((sx, o') :: (rest ++ own)) →
      (∀ (h' : Heap) (tk' : Nat) (o'' : Obj) (g'' : Int) (m₂ : Str → Option Value), Fr h₀ env.locals h' m₂ → News h₀ env.locals h' ((sx, o'') :: (rest ++ own)) → SackOk w o'' l g'' → 0 ≤ g'' → (∀ z, z ≠ x → stored.contains z = false → m₂ z = m₀ z) → Q' .next { s with heap := h', toks := tk' }) →
      wpAny (model PySem.Challenge.rw_rr0062_01.row.prog w) A (execs body env) Q' (fun _ _ => False) { s with heap := h, toks := tk })
    (done : ∀ (o' : Obj) (g' : Int) (m₂ : Str → Option Value) (h : Heap) (tk : Nat), SackOk w o' l g' → 0 ≤ g' → (∀ z, z ≠ x → stored.contains z = false → m₂ z = m₀ z) → Fr h₀ env.locals h m₂ → News h₀ env.locals h ((sx, o') :: rest) → Q .next { s with heap := h, toks := tk }) :
    wpAny (model PySem.Challenge.rw_rr0062_01.row.prog w) A (pyIter (.ref r)) (fun it s₂ => LoopAtV PySem.Challenge.rw_rr0062_01.row.prog w A h₀ env x body Q E it s₂) E s := by
  refine law_range stored hh hr hsmall hn F N hs hg ?_ ?_
  · intro o' g' k t u h tk own hk0 hk1 hs' hg' ho F₁ N₁
    have hm₁ : ∀ z, z ≠ x → stored.contains z = false → (fun y => if y = x then some (.int k t) else if stored.contains y = true then u y else m₀ y) z = m₀ z := by
      intro z h1 h2
      simp only [if_neg h1, h2, Bool.false_eq_true, if_false]
    have ho' : ∀ p ∈ own, p.1 ≠ sx := fun p hp => ho p hp sx (.head _)
    refine wpAny_mono (turn o' g' k t _ h tk own (InvPostN h₀ env.locals (LawJ w sx l rest stored x m₀) own (sx :: rest.map (·.1)) { s with heap := h, toks := tk } Q) hk0 hk1 hs' hg' ho' (by simp) hm₁ F₁ N₁ ?_) (fun _ _ q => q) fun _ _ q => q.elim
    intro h' tk' o'' g'' m₂ F₂ N₂ hs₂ hg₂ hm₂
    exact InvEndN.intro (nx := (sx, o'') :: rest) F₂ N₂ ⟨o'', g'', rfl, hs₂, hg₂, hm₂⟩ rfl (fun p hp => (List.mem_cons.mp hp).elim (fun e => e ▸ .head _) fun hp => .tail _ (List.mem_append_left _ hp)) fun p hp => .tail _ (List.mem_append_right _ hp)
  · intro o' g' u h tk hs' hg' F₁ N₁
    refine done o' g' _ h tk hs' hg' ?_ F₁ N₁
    intro z h1 h2
    simp only [if_neg h1, h2, Bool.false_eq_true, if_false]
theorem ne_app {d : Addr} {r own : List (Addr × Obj)} (h1 : ∀ p ∈ r, p.1 ≠ d) (h2 : ∀ p ∈ own, p.1 ≠ d) : ∀ p ∈ r ++ own, p.1 ≠ d := fun p hp => (List.mem_append.mp hp).elim (h1 p) (h2 p)
theorem m5_lo {y p : Int} (h : 8 ≤ p) : -p ≤ y.fmod 5 - 2 := by have := fmod_bounds (x := y) (y := 5) (by decide); omega
theorem m5_hi {y p : Int} (h : 8 ≤ p) : y.fmod 5 - 2 < p := by have := fmod_bounds (x := y) (y := 5) (by decide); omega
theorem m4_lo {y : Int} : 0 ≤ y.fmod 4 := by have := fmod_bounds (x := y) (y := 4) (by decide); omega
theorem m4_hi {y : Int} : y.fmod 4 ≤ 3 := by have := fmod_bounds (x := y) (y := 4) (by decide); omega
theorem pw2_hi {wd p : Int} (e : (2 : Int) ^ wd.toNat = 2 * p) (h : p ≤ 32768) : (2 : Int) ^ wd.toNat ≤ 65536 := by omega
theorem comp_end {h₀ : Heap} {L I C D : Addr} {m : Str → Option Value} {s₁ : Shared} {oI oC oD : Obj} {S : List (Addr × Obj) → Prop} {rest : Value → List (Addr × Obj) → Prop} {y : Value} {h' : Heap} {tk : Nat} {q : Addr × Obj} {r : List (Addr × Obj)}
    (F : Fr h₀ L h' m) (N : News h₀ L h' (q :: (I, oI) :: (C, oC) :: (D, oD) :: r)) (off : LCg.Off3 I C D (q :: r)) (hS : S (q :: r)) (k : rest y (q :: r)) : LCg.CompEnd h₀ L m s₁ I oI C oC D oD S rest y { s₁ with heap := h', toks := tk } :=
  LCg.CompEnd.intro F N (q :: r) (fun p hp => by simp only [List.mem_cons] at hp ⊢; rcases hp with h | h | h | h | h <;> simp [h]) off hS k
local macro_rules | `(tactic| k_mem) => `(tactic| (repeat (first | with_reducible assumption | exact List.mem_cons_self | refine List.mem_cons_of_mem _ ?_ | refine List.mem_append_right _ ?_)); done)
set_option maxHeartbeats 0 in
theorem turn_body {wd g : Int} {bx dx sx l c1 c2 : Addr} {es : List DictEntry} {n e : Nat} {ys : List Value} {ks : List Int} {o oc1 oc2 : Obj} {R : List (Addr × Obj)} {tw tw2 : Tok}
    {dp un : Nat} {gd : Option (List Code)} {a : Addr} {ccd : Value} {outer : List Env} {A₀ : Around} {base h₀ : Heap} {L : Addr} {m : Str → Option Value} {s : Shared} {Q : Flow → Shared → Prop}
    (B : Below A₀ base outer h₀) (F : Fr h₀ L s.heap m) (X : (hd.heap_39 w.params).In h₀) (N : News h₀ L s.heap ((sx, o) :: R)) (T : Top hd.view_39 (looseW hd.view_39 [Str.ofString "RECKONINGS"]) mean mg mb h₀) (hdp : dp + 30 < recursionLimit) (hun : un + 8 * 30 < cLine)
    (mbo : m (Str.ofString "bounds") = some (.ref bx)) (h4 : 4 ≤ wd) (h16 : wd ≤ 16)
    (hb1 : (bx, instObj 53 dx) ∈ R) (hb2 : (dx, dictOf es n) ∈ R) (hb3 : getL (Str.ofString "width") es = some (some (.int wd tw))) (hc1 : (c1, oc1) ∈ R) (hd1 : oc1.data = .cell (some (.ref sx))) (hc2 : (c2, oc2) ∈ R) (hd2 : oc2.data = .cell (some (.int wd tw2)))
    (hl : (l, ({ cls := .type "list", data := .seq ys.toArray e } : Obj)) ∈ R) (hi : IntsAre ys ks) (hz : ks.length ≤ 100) (hne : ∀ p ∈ R, p.1 ≠ sx) (hs : SackOk w o l g) (hg : 0 ≤ g)
    (fin : ∀ (h' : Heap) (tk' : Nat) (o' : Obj) (g' : Int) (m' : Str → Option Value), Fr h₀ L h' m' → News h₀ L h' ((sx, o') :: R) → SackOk w o' l g' → 0 ≤ g' → (∀ z, z ≠ Str.ofString "a" → z ≠ Str.ofString "b" → z ≠ Str.ofString "c" → z ≠ Str.ofString "place" → z ≠ Str.ofString "plain" → z ≠ Str.ofString "one" → z ≠ Str.ofString "other" → m' z = m z) → Q .next { s with heap := h', toks := tk' }) :
    wpAny (model PySem.Challenge.rw_rr0062_01.row.prog w) (ktrTop dp un gd (Str.ofString "law") lawSc.1 L a ccd [(Str.ofString "bits", c2), (Str.ofString "sack", c1)] outer) (execs turnB.1 (envX (Str.ofString "law") lawSc.1 L a ccd [(Str.ofString "bits", c2), (Str.ofString "sack", c1)])) Q (fun _ _ => False) s := by
  k_with_none
  k_with "eval Call Name cons nil" => (k_here; (with_reducible show wpAny _ _ (eval (PySem.Expr.Call (PySem.Expr.Name _ _) [_] [] _) _) _ _ _); k_dflt (refine' call1 ?zcF ?zcX ?zcT ?zchf ?zchk ?zca1 ?zcs ?zcx (by decide) ?_; (case zcF => k_asm); (case zcX => k_asm); (case zcT => k_asm); (case zchf => k_is); (case zchk => k_is); (case zca1 => (first | exact ArgV.int | exact ArgV.name rfl rfl (by decide) rfl)); (case zcs => rfl); (case zcx => rfl); intro t1 tk9; (try dsimp only)))
  k_with "eval Call Name cons nil" => (k_here; (with_reducible show wpAny _ _ (eval (PySem.Expr.Call (PySem.Expr.Name _ _) [_, _] [] _) _) _ _ _); k_dflt (refine' call2 ?zcF ?zcX ?zcT ?zchf ?zchk ?zca1 ?zca2 ?zcs ?zcx (by decide) ?_; (case zcF => k_asm); (case zcX => k_asm); (case zcT => k_asm); (case zchf => k_is); (case zchk => k_is); (case zca1 => (first | exact ArgV.int | exact ArgV.name rfl rfl (by decide) rfl)); (case zca2 => (first | exact ArgV.int | exact ArgV.name rfl rfl (by decide) rfl)); (case zcs => rfl); (case zcx => rfl); intro t1 t2 tk9; (try dsimp only)))
  k_with "eval Call Name cons nil" => (k_here; (with_reducible show wpAny _ _ (eval (PySem.Expr.Call (PySem.Expr.Name _ _) [_, _, _] [] _) _) _ _ _); k_dflt (refine' call3 ?zcF ?zcX ?zcT ?zchf ?zchk ?zca1 ?zca2 ?zca3 ?zcs ?zcx (by decide) ?_; (case zcF => k_asm); (case zcX => k_asm); (case zcT => k_asm); (case zchf => k_is); (case zchk => k_is); (case zca1 => (first | exact ArgV.int | exact ArgV.name rfl rfl (by decide) rfl)); (case zca2 => (first | exact ArgV.int | exact ArgV.name rfl rfl (by decide) rfl)); (case zca3 => (first | exact ArgV.int | exact ArgV.name rfl rfl (by decide) rfl)); (case zcs => rfl); (case zcx => rfl); intro t1 t2 t3 tk9; (try dsimp only)))
  k_with "eval Call Name cons nil" => (k_here; (with_reducible show wpAny _ _ (eval (PySem.Expr.Call (PySem.Expr.Name _ _) [_, _, _, _] [] _) _) _ _ _); k_dflt (refine' call4 ?zcF ?zcX ?zcT ?zchf ?zchk ?zca1 ?zca2 ?zca3 ?zca4 ?zcs ?zcx (by decide) ?_; (case zcF => k_asm); (case zcX => k_asm); (case zcT => k_asm); (case zchf => k_is); (case zchk => k_is); (case zca1 => (first | exact ArgV.int | exact ArgV.name rfl rfl (by decide) rfl)); (case zca2 => (first | exact ArgV.int | exact ArgV.name rfl rfl (by decide) rfl)); (case zca3 => (first | exact ArgV.int | exact ArgV.name rfl rfl (by decide) rfl)); (case zca4 => (first | exact ArgV.int | exact ArgV.name rfl rfl (by decide) rfl)); (case zcs => rfl); (case zcx => rfl); intro t1 t2 t3 t4 tk9; (try dsimp only)))
  k_with "call ref" => (k_here; (with_reducible show wpAny _ _ (call (Value.ref 224) _) _ _ _); k_dflt (refine' Con.useB ?zzB ?zzF ?zzX ?zzN ?zzT ?zzk (ring_con ?zzhb1 ?zzhb2 ?zzhb3 ?zzh4 ?zzh16 ?zzhx1 ?zzhx2 ?zzhy1 ?zzhy2 ?zzhz1 ?zzhz2 ?zzhr1 ?zzhr2) ?zzd ?zzu ?_; (case zzB => k_asm); (case zzF => k_asm); (case zzX => k_asm); (case zzN => k_asm); (case zzT => k_asm); (case zzk => first | exact rfl | assumption); (case zzhb1 => k_mem); (case zzhb2 => k_mem); (case zzhb3 => assumption); (case zzh4 => assumption); (case zzh16 => assumption); (case zzhx1 => omega); (case zzhx2 => omega); (case zzhy1 => omega); (case zzhy2 => omega); (case zzhz1 => omega); (case zzhz2 => omega); (case zzhr1 => omega); (case zzhr2 => omega); (case zzd => ktr_room); (case zzu => ktr_units); intro h9 tk9 F9 N9; (try dsimp only); (try k_sweep); (try k_fold)))
  k_with "call ref" => (k_here; (with_reducible show wpAny _ _ (call (Value.ref 231) _) _ _ _); k_dflt (refine' Con.useB ?zzB ?zzF ?zzX ?zzN ?zzT ?zzk (div_con ?zzhb1 ?zzhb2 ?zzhb3 ?zzh4 ?zzh16 ?zzhr1 ?zzhr2 ?zzhs1 ?zzhs2) ?zzd ?zzu ?_; (case zzB => k_asm); (case zzF => k_asm); (case zzX => k_asm); (case zzN => k_asm); (case zzT => k_asm); (case zzk => first | exact rfl | assumption); (case zzhb1 => k_mem); (case zzhb2 => k_mem); (case zzhb3 => assumption); (case zzh4 => assumption); (case zzh16 => assumption); (case zzhr1 => omega); (case zzhr2 => omega); (case zzhs1 => first | omega | exact m5_lo (by omega)); (case zzhs2 => first | omega | exact m5_hi (by omega)); (case zzd => ktr_room); (case zzu => ktr_units); intro h9 tk9 F9 N9; (try dsimp only); (try k_sweep); (try k_fold)))
  k_with "call ref" => (k_here; (with_reducible show wpAny _ _ (call (Value.ref 238) _) _ _ _); k_dflt (refine' Con.useB ?zzB ?zzF ?zzX ?zzN ?zzT ?zzk (pow_con ?zzhb1 ?zzhb2 ?zzhb3 ?zzh4 ?zzh16 ?zzhx1 ?zzhx2 ?zzhy0 ?zzhy3 ?zzhz0 ?zzhz3 ?zzh8 ?zzhr1 ?zzhr2) ?zzd ?zzu ?_; (case zzB => k_asm); (case zzF => k_asm); (case zzX => k_asm); (case zzN => k_asm); (case zzT => k_asm); (case zzk => first | exact rfl | assumption); (case zzhb1 => k_mem); (case zzhb2 => k_mem); (case zzhb3 => assumption); (case zzh4 => assumption); (case zzh16 => assumption); (case zzhx1 => omega); (case zzhx2 => omega); (case zzhy0 => exact m4_lo); (case zzhy3 => exact m4_hi); (case zzhz0 => exact m4_lo); (case zzhz3 => exact m4_hi); (case zzh8 => omega); (case zzhr1 => omega); (case zzhr2 => omega); (case zzd => ktr_room); (case zzu => ktr_units); intro h9 tk9 F9 N9; (try dsimp only); (try k_sweep); (try k_fold)))
  k_with "call ref" => (k_here; (with_reducible show wpAny _ _ (call (Value.ref 203) _) _ _ _); k_dflt (refine' ConG.use ?zzB ?zzF ?zzX ?zzN ?zzT ?zzk (grain_con ?zzhne ?zzhl ?zzhi ?zzhz ?zzhs ?zzhg ?zzhm ?zzhm2) ?zzd ?zzu ?_; (case zzB => k_asm); (case zzF => k_asm); (case zzX => k_asm); (case zzN => exact up3 (by assumption)); (case zzT => k_asm); (case zzk => first | exact rfl | assumption); (case zzhs => assumption); (case zzhl => k_mem); (case zzhi => assumption); (case zzhz => assumption); (case zzhne => exact List.forall_mem_cons.mpr ⟨by k_ne, List.forall_mem_cons.mpr ⟨by k_ne, List.forall_mem_cons.mpr ⟨by k_ne, by assumption⟩⟩⟩); (case zzhg => omega); (case zzhm => exact kbt_pos _); (case zzhm2 => exact pw2_hi (by assumption) (by assumption)); (case zzd => ktr_room); (case zzu => ktr_units); intro x9 t9 o9 h9 tk9 x90 x91 s9 F9 N9; (try dsimp only)))
  k_with "CompSrc" => (k_here; k_dflt (refine' LCg.CompSrc.range (n := 3) ?zzhh ?zzF ?zzN ?zzhr ?zzhsm ?zzhn ?zzhsz ?_; (case zzhh => exact rfl); (case zzF => k_asm); (case zzN => k_asm); (case zzhr => assumption); (case zzhsm => decide); (case zzhn => exact rfl); (case zzhsz => first | size_fits | exact Nat.le_of_ble_eq_true rfl)); intro g9)
  k_with "CompEnd" => (k_dflt (refine' comp_end ?zzF ?zzN ?zzoff trivial ?_; (case zzF => k_asm); (case zzN => k_asm); (case zzoff => assumption)))
  k_with "exec For Name Call cons nil" => (k_here; (rename Fr _ _ _ _ => lF'); (with_unfolding_all refine' For_invVF lF' ?zzk1 ?zzk2 ?_; (case zzk1 => exact rfl); (case zzk2 => exact rfl); k_whole))
  k_with "pyIter ref" => ((with_reducible show wpAny _ _ (pyIter (Value.ref _)) (fun it s₂ => LoopAtV _ _ _ _ _ _ _ _ _ it s₂) _ _); k_here; k_dflt (refine' law_range2 (x := Str.ofString "place") (n := 7) [Str.ofString "plain", Str.ofString "one", Str.ofString "other"] ?zzhb1 ?zzhne ?zzhh ?zzhr ?zzhsm ?zzhn ?zzF ?zzN ?zzhs ?zzhg ?zzturn ?_; (case zzhb1 => with_reducible assumption); (case zzhne => with_reducible assumption); (case zzhs => assumption); (case zzhh => exact rfl); (case zzhr => assumption); (case zzhsm => decide); (case zzhn => exact rfl); (case zzF => k_asm); (case zzN => exact news_two (by assumption) (by k_mem) (fun p hp => by k_mem)); (case zzhg => omega); (case zzturn => (intro o₁ g₁ k₁ t₁ m₁ h₁ tk₁ own₁ Q₁ q1 q2 q3 q4 q5 q6 q7 F₁ N₁ fin₁; (have ma₁ := (q7 (Str.ofString "a") (by decide) (by decide)).trans rfl); (have mb₁ := (q7 (Str.ofString "b") (by decide) (by decide)).trans rfl); (have mo₁ := (q7 (Str.ofString "bounds") (by decide) (by decide)).trans rfl); exact place_body (by k_asm) F₁ (by k_asm) N₁ (by k_asm) (by ktr_room) (by ktr_units) q6 ma₁ mb₁ mo₁ q1 (by omega) (by assumption) (by assumption) (by omega) (by omega) (by omega) (by omega) (by omega) (by omega) (by omega) (by omega) (List.mem_append_left _ (by assumption)) (List.mem_append_left _ (by assumption)) (by assumption) (List.mem_append_left _ (by assumption)) (by assumption) (List.mem_append_left _ (by assumption)) (by assumption) (by assumption) (ne_app (by assumption) q5) q3 q4 (fun h₂ tk₂ o₂ g₂ m₂ F₂ N₂ s₂ z₂ hm₂ => fin₁ h₂ tk₂ o₂ g₂ m₂ F₂ N₂ s₂ z₂ (fun z n1 n2 => by simp only [List.contains_cons, List.contains_nil, Bool.or_false, Bool.or_eq_false_iff, beq_eq_false_iff_ne] at n2; exact (hm₂ z n2.1 n2.2.1 n2.2.2).trans (q7 z n1 (by simp [n2])))))); intro o₃ g₃ m₃ h₃ tk₃ s₃ z₃ hm₃ F₃ N₃; walk_say "LOOP place"))
  have F₂ := fr_at F mbo
  clear F
  have hp := pow_top h4 h16
  have hp1 := hp.1
  have hp2 := hp.2
  clear hp
  have hp3 := two_pow_split (k := wd) (by omega)
  w_top off
  unfold turnB lawSc
  dsimp only
  k_steps
  (rename (∀ z, z ≠ Str.ofString "place" → List.contains _ z = false → _ = _) => hm9)
  refine fin _ _ _ _ _ (by assumption) (by assumption) (by assumption) (by assumption) ?_
  intro z n1 n2 n3 n4 n5 n6 n7
  refine (hm9 z n4 (by simp [n5, n6, n7])).trans ?_
  simp only [if_neg n1, if_neg n2, if_neg n3]
  exact at_is mbo
end Mine

namespace Mine
set_option maxRecDepth 100000
variable {w : World} {mean : ExcName → Option Value} {mg mb : Str → Option Value} {news : List (Addr × Obj)}
theorem fr_init {h₀ h h₁ h₂ : Heap} {L L₁ x d : Addr} {o : Obj} {k : Int} {t : Tok} {r : List (Addr × Obj)} {l : List (Str × Value)} (F : Fr h₀ L h (fun y => List.lookup y l)) (_N : News h₁ L₁ h₂ ((x, instObj 53 d) :: r)) (_d : o.data = .cell (some (.int k t)))
    (e : l = [(Str.ofString "text", .int 1000000 219), (Str.ofString "steps", .int 1000000000 218), (Str.ofString "flush", .int 50 217), (Str.ofString "stack", .int 2000 216), (Str.ofString "frames", .int 200 215), (Str.ofString "ccalls", .int 40 214), (Str.ofString "local_names", .int 200 213), (Str.ofString "upvalues", .int 60 212), (Str.ofString "registers", .int 250 211), (Str.ofString "width", .int k t), (Str.ofString "self", .ref x)]) : Fr h₀ L h (fun y => List.lookup y [(Str.ofString "text", .int 1000000 219), (Str.ofString "steps", .int 1000000000 218), (Str.ofString "flush", .int 50 217), (Str.ofString "stack", .int 2000 216), (Str.ofString "frames", .int 200 215), (Str.ofString "ccalls", .int 40 214), (Str.ofString "local_names", .int 200 213), (Str.ofString "upvalues", .int 60 212), (Str.ofString "registers", .int 250 211), (Str.ofString "width", .int k t), (Str.ofString "self", .ref x)]) := e ▸ F
theorem w_eq {M : Model} {A A' : Around} {t t' : Sem Flow} {Q : Flow → Shared → Prop} {E : Value → Shared → Prop} {s : Shared} (e1 : A = A') (e2 : t = t') (h : wpAny M A' t' Q E s) : wpAny M A t Q E s := by subst e1; subst e2; exact h
theorem execs_eq {b b' : List Stmt} {e e' : Env} (h1 : b = b') (h2 : e = e') : execs b e = execs b' e' := by subst h1; subst h2; rfl
theorem ne_six {x d sx D₁ D c2 c1 : Addr} {o1 o2 o3 o4 o5 o6 : Obj} (l1 : sx < d ∧ D < d ∧ D₁ < d ∧ c2 < d ∧ c1 < d) (l2 : d < x) (n1 : D₁ ≠ D ∧ sx ≠ D ∧ c2 ≠ D ∧ c1 ≠ D) (l3 : sx < D₁ ∧ c2 < D₁ ∧ c1 < D₁) (l4 : c2 < sx ∧ c1 < sx) :
    ∀ p ∈ [(x, o1), (d, o2), (D, o3), (D₁, o4), (c2, o5), (c1, o6)], p.1 ≠ sx := by
  intro p hp
  simp only [List.mem_cons, List.not_mem_nil, or_false] at hp
  rcases hp with rfl | rfl | rfl | rfl | rfl | rfl
  · exact Nat.ne_of_gt (Nat.lt_trans l1.1 l2)
  · exact Nat.ne_of_gt l1.1
  · exact Ne.symm n1.2.1
  · exact Nat.ne_of_gt l3.1
  · exact Nat.ne_of_lt l4.1
  · exact Nat.ne_of_lt l4.2
set_option maxHeartbeats 0 in
theorem law_final : PySem.Challenge.rw_rr0062_01.Holds := hd (by
  k_with_none
  k_with "eval Call Name cons nil" => (k_here; (with_reducible show wpAny _ _ (eval (PySem.Expr.Call (PySem.Expr.Name _ _) [_] [] _) _) _ _ _); k_dflt (refine' call1 ?zcF ?zcX ?zcT ?zchf ?zchk ?zca1 ?zcs ?zcx (by decide) ?_; (case zcF => k_asm); (case zcX => k_asm); (case zcT => k_asm); (case zchf => k_is); (case zchk => k_is); (case zca1 => (first | exact ArgV.int | exact ArgV.name rfl rfl (by decide) rfl)); (case zcs => rfl); (case zcx => rfl); intro t1 tk9; (try dsimp only)))
  k_with "eval Call Name cons nil" => (k_here; (with_reducible show wpAny _ _ (eval (PySem.Expr.Call (PySem.Expr.Name _ _) [_, _] [] _) _) _ _ _); k_dflt (refine' call2 ?zcF ?zcX ?zcT ?zchf ?zchk ?zca1 ?zca2 ?zcs ?zcx (by decide) ?_; (case zcF => k_asm); (case zcX => k_asm); (case zcT => k_asm); (case zchf => k_is); (case zchk => k_is); (case zca1 => (first | exact ArgV.int | exact ArgV.name rfl rfl (by decide) rfl)); (case zca2 => (first | exact ArgV.int | exact ArgV.name rfl rfl (by decide) rfl)); (case zcs => rfl); (case zcx => rfl); intro t1 t2 tk9; (try dsimp only)))
  k_with "eval Call Name cons nil" => (k_here; (with_reducible show wpAny _ _ (eval (PySem.Expr.Call (PySem.Expr.Name _ _) [_, _, _] [] _) _) _ _ _); k_dflt (refine' call3 ?zcF ?zcX ?zcT ?zchf ?zchk ?zca1 ?zca2 ?zca3 ?zcs ?zcx (by decide) ?_; (case zcF => k_asm); (case zcX => k_asm); (case zcT => k_asm); (case zchf => k_is); (case zchk => k_is); (case zca1 => (first | exact ArgV.int | exact ArgV.name rfl rfl (by decide) rfl)); (case zca2 => (first | exact ArgV.int | exact ArgV.name rfl rfl (by decide) rfl)); (case zca3 => (first | exact ArgV.int | exact ArgV.name rfl rfl (by decide) rfl)); (case zcs => rfl); (case zcx => rfl); intro t1 t2 t3 tk9; (try dsimp only)))
  k_with "eval Call Name cons nil" => (k_here; (with_reducible show wpAny _ _ (eval (PySem.Expr.Call (PySem.Expr.Name _ _) [_, _, _, _] [] _) _) _ _ _); k_dflt (refine' call4 ?zcF ?zcX ?zcT ?zchf ?zchk ?zca1 ?zca2 ?zca3 ?zca4 ?zcs ?zcx (by decide) ?_; (case zcF => k_asm); (case zcX => k_asm); (case zcT => k_asm); (case zchf => k_is); (case zchk => k_is); (case zca1 => (first | exact ArgV.int | exact ArgV.name rfl rfl (by decide) rfl)); (case zca2 => (first | exact ArgV.int | exact ArgV.name rfl rfl (by decide) rfl)); (case zca3 => (first | exact ArgV.int | exact ArgV.name rfl rfl (by decide) rfl)); (case zca4 => (first | exact ArgV.int | exact ArgV.name rfl rfl (by decide) rfl)); (case zcs => rfl); (case zcx => rfl); intro t1 t2 t3 t4 tk9; (try dsimp only)))
  k_with "call ref" => (k_here; (with_reducible show wpAny _ _ (call (Value.ref 210) [Value.int _ _, Value.int (-7) _, Value.int _ _, Value.ref _]) _ _ _); k_dflt (refine' Con.useI ?zzB ?zzF ?zzX ?zzN ?zzT ?zzk (of_first ?zzhb1 ?zzhb2 ?zzhb3 ?zzh4 ?zzh16) ?zzd ?zzu ?_; (case zzB => k_asm); (case zzF => k_asm); (case zzX => k_asm); (case zzN => k_asm); (case zzT => k_asm); (case zzk => first | exact rfl | assumption); (case zzhb1 => k_mem); (case zzhb2 => k_mem); (case zzhb3 => first | assumption | k_get); (case zzh4 => omega); (case zzh16 => omega); (case zzd => ktr_room); (case zzu => ktr_units); intro t9 h9 tk9 F9 N9; (try dsimp only); (try k_sweep); (try k_fold)))
  k_with "call ref" => (k_here; (with_reducible show wpAny _ _ (call (Value.ref 210) [Value.int _ _, Value.int 7 _, Value.int _ _, Value.ref _]) _ _ _); k_dflt (refine' Con.useI ?zzB ?zzF ?zzX ?zzN ?zzT ?zzk (of_second ?zzhb1 ?zzhb2 ?zzhb3 ?zzh4 ?zzh16) ?zzd ?zzu ?_; (case zzB => k_asm); (case zzF => k_asm); (case zzX => k_asm); (case zzN => k_asm); (case zzT => k_asm); (case zzk => first | exact rfl | assumption); (case zzhb1 => k_mem); (case zzhb2 => k_mem); (case zzhb3 => first | assumption | k_get); (case zzh4 => omega); (case zzh16 => omega); (case zzd => ktr_room); (case zzu => ktr_units); intro t9 h9 tk9 F9 N9; (try dsimp only); (try k_sweep); (try k_fold)))
  k_with "call ref" => (k_here; (with_reducible show wpAny _ _ (call (Value.ref 203) _) _ _ _); k_dflt (refine' ConG.use ?zzB ?zzF ?zzX ?zzN ?zzT ?zzk (grain_con ?zzhne ?zzhl ?zzhi ?zzhz ?zzhs ?zzhg ?zzhm ?zzhm2) ?zzd ?zzu ?_; (case zzB => k_asm); (case zzF => k_asm); (case zzX => k_asm); (case zzN => exact up2 (by assumption)); (case zzT => k_asm); (case zzk => first | exact rfl | assumption); (case zzhs => exact ⟨_, by assumption⟩); (case zzhl => k_mem); (case zzhi => assumption); (case zzhz => (simp only [List.length_map, List.length_take]; omega)); (case zzhne => k_all); (case zzhg => decide); (case zzhm => decide); (case zzhm2 => decide); (case zzd => ktr_room); (case zzu => ktr_units)); intro x9 t9 o9 h9 tk9 x90 x91 s9 F9 N9; (try dsimp only); (try k_sweep); (try k_fold))
  k_with "exec For Name Call cons nil" => (k_here; (rename Fr _ _ _ _ => lF'); (with_unfolding_all refine' For_invVF lF' ?zzk1 ?zzk2 ?_; (case zzk1 => exact rfl); (case zzk2 => exact rfl); k_whole))
  k_with "pyIter ref" => ((with_reducible show wpAny _ _ (pyIter (Value.ref _)) (fun it s₂ => LoopAtV _ _ _ _ _ _ _ _ _ it s₂) _ _); k_here; k_dflt (refine' law_range2 (x := Str.ofString "turn") (n := 3) [Str.ofString "a", Str.ofString "b", Str.ofString "c", Str.ofString "place", Str.ofString "plain", Str.ofString "one", Str.ofString "other"] ?zzhb1 ?zzhne ?zzhh ?zzhr ?zzhsm ?zzhn ?zzF ?zzN ?zzhs ?zzhg ?zzturn ?_; (case zzN => exact up2 (by assumption)); (case zzhb1 => exact List.mem_cons_self); (case zzhne => exact ne_six (by assumption) (by assumption) (by assumption) (by assumption) (by assumption)); (case zzhs => assumption); (case zzhh => exact rfl); (case zzhr => assumption); (case zzhsm => decide); (case zzhn => exact rfl); (case zzF => k_asm); (case zzhg => decide); (case zzturn => (intro o₁ g₁ k₁ t₁ m₁ h₁ tk₁ own₁ Q₁ q1 q2 q3 q4 q5 q6 q7 F₁ N₁ fin₁; (have mo₁ := (q7 (Str.ofString "bounds") (by decide) (by decide)).trans rfl); k_dflt (refine' turn_body ?zzB ?zzF ?zzX ?zzN ?zzT ?zzhdp ?zzhun ?zzmo ?zzh4 ?zzh16 ?zzhb1 ?zzhb2 ?zzhb3 ?zzhc1 ?zzhd1 ?zzhc2 ?zzhd2 ?zzhl ?zzhi ?zzhz ?zzhne ?zzhs ?zzhg ?zzfin; (case zzB => k_asm); (case zzF => exact F₁); (case zzN => exact N₁); (case zzmo => exact mo₁); (case zzhs => exact q3); (case zzhg => exact q4); (case zzX => k_asm); (case zzT => k_asm); (case zzhc1 => exact List.mem_append_left _ (by k_mem)); (case zzhc2 => exact List.mem_append_left _ (by k_mem)); (case zzhd1 => assumption); (case zzhd2 => assumption); (case zzhb1 => exact List.mem_append_left _ List.mem_cons_self); (case zzhb2 => exact List.mem_append_left _ (List.mem_cons_of_mem _ List.mem_cons_self)); (case zzhb3 => k_get); (case zzh4 => omega); (case zzh16 => omega); (case zzhl => exact List.mem_append_left _ (by k_mem)); (case zzhi => assumption); (case zzhz => (simp only [List.length_map, List.length_take]; omega)); (case zzhne => exact ne_app (ne_six (by assumption) (by assumption) (by assumption) (by assumption) (by assumption)) q5); (case zzhdp => ktr_room); (case zzhun => ktr_units); (case zzfin => exact (fun h₂ tk₂ o₂ g₂ m₂ F₂ N₂ s₂ z₂ hm₂ => fin₁ h₂ tk₂ o₂ g₂ m₂ F₂ N₂ s₂ z₂ (fun z n1 n2 => by simp only [List.contains_cons, List.contains_nil, Bool.or_false, Bool.or_eq_false_iff, beq_eq_false_iff_ne] at n2; exact (hm₂ z n2.1 n2.2.1 n2.2.2.1 n2.2.2.2.1 n2.2.2.2.2.1 n2.2.2.2.2.2.1 n2.2.2.2.2.2.2).trans (q7 z n1 (by simp [n2])))))))); intro o₃ g₃ m₃ h₃ tk₃ s₃ z₃ hm₃ F₃ N₃; walk_say "LOOP turn"))
  k_go0
  (all_goals try k_fold)
  iterate 46 (first | (k_unfold; (try dsimp only)) | (k_end; kc_close) | walk1 | (dsimp only; walk1) | (leave1; walk_say "STEP leave1"; (try dsimp only)))
  (rename Fr _ _ _ _ => hF9)
  obtain ⟨m9, hG9⟩ : ∃ m', Fr _ _ _ m' := ⟨_, hF9⟩
  clear hF9
  (revert hG9; (rename Fr _ _ _ _ => zz1); clear zz1; intro hG9)
  (rename Heap.CodeRec _ _ _ => zz1; clear zz1)
  (rename Dflts _ _ _ _ _ _ => zz1; clear zz1)
  (rename CellsAre _ _ _ => zz1; clear zz1)
  iterate 2 ((rename Obj.data _ = Data.cell (bindC _ _ _ _) => zz1); clear zz1)
  iterate 9 (first | (k_unfold; (try dsimp only)) | (k_end; kc_close) | walk1 | (dsimp only; walk1) | (leave1; walk_say "STEP leave1"; (try dsimp only)))
  (rename Fr _ _ _ _ => hF9)
  have hG8 := fr_init hF9 (by assumption) (by assumption) (by kernel_rfl)
  clear hF9
  k_steps
)
end Mine

theorem PySem.Challenge.cw_rr0062_01_holds : PySem.Challenge.rw_rr0062_01.Holds :=
  Mine.law_final
