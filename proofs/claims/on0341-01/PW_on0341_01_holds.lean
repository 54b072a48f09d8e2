import PyProof.Rows.All
import Wide.All
import OpenK.AllK
import Wide.FinOn
import PySem.Challenge.RW_on0341_01
open PySem PySem.W PyProof.Rows PySem.Spec PySem.Calls
set_option Elab.async false
set_option linter.all false
set_option compiler.extract_closed false
local macro_rules | `(tactic| walk_at $s:str) => `(tactic| k_extra $s)
local macro_rules | `(tactic| k_mem) => `(tactic| k_extra "k_mem")
local macro_rules | `(tactic| k_ne) => `(tactic| k_extra "k_ne")
local macro_rules | `(tactic| k_room) => `(tactic| k_extra "k_room")
local macro_rules | `(tactic| k_all) => `(tactic| k_extra "k_all")
local macro_rules | `(tactic| k_upd) => `(tactic| k_extra "k_upd")
local macro_rules | `(tactic| ktr_rel) => `(tactic| k_extra "ktr_rel")
local macro_rules | `(tactic| tb_start) => `(tactic| k_extra "tb_start")
local macro_rules | `(tactic| ktr_room) => `(tactic| k_extra "ktr_room")
local macro_rules | `(tactic| ktr_units) => `(tactic| k_extra "ktr_units")
local macro_rules | `(tactic| k_handed) => `(tactic| k_extra "k_handed")
local macro_rules | `(tactic| k_steps) => `(tactic| k_extra "k_steps")

-- part Z0
namespace Mine
/- folds: a goal's parts as letters with a value (let), so that a walk's terms stay small -/
theorem zfold_q {α : Type} {M : Model} {A : Around} {t : Sem α} {Q : α → Shared → Prop} {E : Value → Shared → Prop} {s : Shared} (h : let qk := Q; wpAny M A t qk E s) : wpAny M A t Q E s := h
theorem zfold_e {α : Type} {M : Model} {A : Around} {t : Sem α} {Q : α → Shared → Prop} {E : Value → Shared → Prop} {s : Shared} (h : let ek := E; wpAny M A t Q ek s) : wpAny M A t Q E s := h
theorem zfold_env {α : Type} {M : Model} {A : Around} {f : Env → Sem α} {en : Env} {Q : α → Shared → Prop} {E : Value → Shared → Prop} {s : Shared} (h : let ev := en; wpAny M A (f ev) Q E s) : wpAny M A (f en) Q E s := h
theorem zfold_A {α : Type} {M : Model} {A : Around} {t : Sem α} {Q : α → Shared → Prop} {E : Value → Shared → Prop} {s : Shared} (h : let ak := A; wpAny M ak t Q E s) : wpAny M A t Q E s := h
theorem zfold_F {G : Prop} {h₀ h : Heap} {L : Addr} {m : Str → Option Value} (F : Fr h₀ L h m) (k : let fm := m; Fr h₀ L h fm → G) : G := k F
theorem zgen_t {α : Type} {M : Model} {A : Around} {t : Sem α} {Q : α → Shared → Prop} {E : Value → Shared → Prop} {s : Shared} {h : Heap} {x : Nat} (k : ∀ tk, wpAny M A t Q E { s with heap := h, toks := tk }) : wpAny M A t Q E { s with heap := h, toks := x } := k x
theorem fits {d n c k x l : Nat} (h : d + n < l) (e : x = d + c) (b : Nat.ble (c + k) n = true) : x + k < l := Nat.lt_of_le_of_lt (by have := Nat.le_of_ble_eq_true b; omega) h
theorem fits0 {d n c x l : Nat} (h : d + n < l) (e : x = d + c) (b : Nat.ble c n = true) : x < l := Nat.lt_of_le_of_lt (by have := Nat.le_of_ble_eq_true b; omega) h
end Mine

-- part KK
namespace Mine
set_option maxRecDepth 100000
set_option maxHeartbeats 8000000
noncomputable def KK : Params → Frag :=
  (fun (u0y0 : Str) (a0 : Arguments) (b0 : List Stmt) (u0y3 : List PySem.Expr) (u0y4 : Option PySem.Expr) (u0y5 : List TypeParam) (c0 : Scope) (u0y7 : Option Scope) (u0y8 : Str) (u0y9 : Pos) (v1 : Stmt) (u2y0 : Str) (u2y1 : List PySem.Expr) (u2y2 : List Keyword) (u2x0y0 : Str) (a2x0 : Arguments) (b2x0 : List Stmt) (u2x0y3 : List PySem.Expr) (u2x0y4 : Option PySem.Expr) (u2x0y5 : List TypeParam) (c2x0 : Scope) (u2x0y7 : Option Scope) (u2x0y8 : Str) (u2x0y9 : Pos) (u2y4 : List PySem.Expr) (u2y5 : List TypeParam) (u2y6 : Scope) (u2y7 : Option Scope) (u2y8 : Str) (u2y9 : List Str) (u2y10 : Pos) (u3y0 : Str) (u3y1 : List PySem.Expr) (u3y2 : List Keyword) (v3x0 : Stmt) (u3y4 : List PySem.Expr) (u3y5 : List TypeParam) (u3y6 : Scope) (u3y7 : Option Scope) (u3y8 : Str) (u3y9 : List Str) (u3y10 : Pos) (v4 : Stmt) (v5 : Stmt) (v6 : Stmt) (u7y0 : Str) (a7 : Arguments) (b7 : List Stmt) (u7y3 : List PySem.Expr) (u7y4 : Option PySem.Expr) (u7y5 : List TypeParam) (c7 : Scope) (u7y7 : Option Scope) (u7y8 : Str) (u7y9 : Pos) (u8y0 : Str) (a8 : Arguments) (b8 : List Stmt) (u8y3 : List PySem.Expr) (u8y4 : Option PySem.Expr) (u8y5 : List TypeParam) (c8 : Scope) (u8y7 : Option Scope) (u8y8 : Str) (u8y9 : Pos) (u9y0 : Str) (a9 : Arguments) (b9 : List Stmt) (u9y3 : List PySem.Expr) (u9y4 : Option PySem.Expr) (u9y5 : List TypeParam) (c9 : Scope) (u9y7 : Option Scope) (u9y8 : Str) (u9y9 : Pos) (u10y0 : Str) (a10 : Arguments) (b10 : List Stmt) (u10y3 : List PySem.Expr) (u10y4 : Option PySem.Expr) (u10y5 : List TypeParam) (c10 : Scope) (u10y7 : Option Scope) (u10y8 : Str) (u10y9 : Pos) (u11y0 : Str) (u11y1 : List PySem.Expr) (u11y2 : List Keyword) (u11x0y0 : Str) (a11x0 : Arguments) (b11x0 : List Stmt) (u11x0y3 : List PySem.Expr) (u11x0y4 : Option PySem.Expr) (u11x0y5 : List TypeParam) (c11x0 : Scope) (u11x0y7 : Option Scope) (u11x0y8 : Str) (u11x0y9 : Pos) (u11x1y0 : Str) (a11x1 : Arguments) (b11x1 : List Stmt) (u11x1y3 : List PySem.Expr) (u11x1y4 : Option PySem.Expr) (u11x1y5 : List TypeParam) (c11x1 : Scope) (u11x1y7 : Option Scope) (u11x1y8 : Str) (u11x1y9 : Pos) (u11x2y0 : Str) (a11x2 : Arguments) (b11x2 : List Stmt) (u11x2y3 : List PySem.Expr) (u11x2y4 : Option PySem.Expr) (u11x2y5 : List TypeParam) (c11x2 : Scope) (u11x2y7 : Option Scope) (u11x2y8 : Str) (u11x2y9 : Pos) (u11y4 : List PySem.Expr) (u11y5 : List TypeParam) (u11y6 : Scope) (u11y7 : Option Scope) (u11y8 : Str) (u11y9 : List Str) (u11y10 : Pos) (u12y0 : Str) (u12y1 : List PySem.Expr) (u12y2 : List Keyword) (u12x0y0 : Str) (a12x0 : Arguments) (b12x0 : List Stmt) (u12x0y3 : List PySem.Expr) (u12x0y4 : Option PySem.Expr) (u12x0y5 : List TypeParam) (c12x0 : Scope) (u12x0y7 : Option Scope) (u12x0y8 : Str) (u12x0y9 : Pos) (u12x1y0 : Str) (a12x1 : Arguments) (b12x1 : List Stmt) (u12x1y3 : List PySem.Expr) (u12x1y4 : Option PySem.Expr) (u12x1y5 : List TypeParam) (c12x1 : Scope) (u12x1y7 : Option Scope) (u12x1y8 : Str) (u12x1y9 : Pos) (u12x2y0 : Str) (a12x2 : Arguments) (b12x2 : List Stmt) (u12x2y3 : List PySem.Expr) (u12x2y4 : Option PySem.Expr) (u12x2y5 : List TypeParam) (c12x2 : Scope) (u12x2y7 : Option Scope) (u12x2y8 : Str) (u12x2y9 : Pos) (u12x3y0 : Str) (a12x3 : Arguments) (b12x3 : List Stmt) (u12x3y3 : List PySem.Expr) (u12x3y4 : Option PySem.Expr) (u12x3y5 : List TypeParam) (c12x3 : Scope) (u12x3y7 : Option Scope) (u12x3y8 : Str) (u12x3y9 : Pos) (u12x4y0 : Str) (a12x4 : Arguments) (b12x4 : List Stmt) (u12x4y3 : List PySem.Expr) (u12x4y4 : Option PySem.Expr) (u12x4y5 : List TypeParam) (c12x4 : Scope) (u12x4y7 : Option Scope) (u12x4y8 : Str) (u12x4y9 : Pos) (u12y4 : List PySem.Expr) (u12y5 : List TypeParam) (u12y6 : Scope) (u12y7 : Option Scope) (u12y8 : Str) (u12y9 : List Str) (u12y10 : Pos) (u13y0 : Str) (a13 : Arguments) (b13 : List Stmt) (u13y3 : List PySem.Expr) (u13y4 : Option PySem.Expr) (u13y5 : List TypeParam) (c13 : Scope) (u13y7 : Option Scope) (u13y8 : Str) (u13y9 : Pos) (u14y0 : Str) (u14y1 : List PySem.Expr) (u14y2 : List Keyword) (u14x0y0 : Str) (a14x0 : Arguments) (b14x0 : List Stmt) (u14x0y3 : List PySem.Expr) (u14x0y4 : Option PySem.Expr) (u14x0y5 : List TypeParam) (c14x0 : Scope) (u14x0y7 : Option Scope) (u14x0y8 : Str) (u14x0y9 : Pos) (u14x1y0 : Str) (a14x1 : Arguments) (b14x1 : List Stmt) (u14x1y3 : List PySem.Expr) (u14x1y4 : Option PySem.Expr) (u14x1y5 : List TypeParam) (c14x1 : Scope) (u14x1y7 : Option Scope) (u14x1y8 : Str) (u14x1y9 : Pos) (u14x2y0 : Str) (a14x2 : Arguments) (b14x2 : List Stmt) (u14x2y3 : List PySem.Expr) (u14x2y4 : Option PySem.Expr) (u14x2y5 : List TypeParam) (c14x2 : Scope) (u14x2y7 : Option Scope) (u14x2y8 : Str) (u14x2y9 : Pos) (u14x3y0 : Str) (a14x3 : Arguments) (b14x3 : List Stmt) (u14x3y3 : List PySem.Expr) (u14x3y4 : Option PySem.Expr) (u14x3y5 : List TypeParam) (c14x3 : Scope) (u14x3y7 : Option Scope) (u14x3y8 : Str) (u14x3y9 : Pos) (u14x4y0 : Str) (a14x4 : Arguments) (b14x4 : List Stmt) (u14x4y3 : List PySem.Expr) (u14x4y4 : Option PySem.Expr) (u14x4y5 : List TypeParam) (c14x4 : Scope) (u14x4y7 : Option Scope) (u14x4y8 : Str) (u14x4y9 : Pos) (u14x5y0 : Str) (a14x5 : Arguments) (b14x5 : List Stmt) (u14x5y3 : List PySem.Expr) (u14x5y4 : Option PySem.Expr) (u14x5y5 : List TypeParam) (c14x5 : Scope) (u14x5y7 : Option Scope) (u14x5y8 : Str) (u14x5y9 : Pos) (u14x6y0 : Str) (a14x6 : Arguments) (b14x6 : List Stmt) (u14x6y3 : List PySem.Expr) (u14x6y4 : Option PySem.Expr) (u14x6y5 : List TypeParam) (c14x6 : Scope) (u14x6y7 : Option Scope) (u14x6y8 : Str) (u14x6y9 : Pos) (u14x7y0 : Str) (a14x7 : Arguments) (b14x7 : List Stmt) (u14x7y3 : List PySem.Expr) (u14x7y4 : Option PySem.Expr) (u14x7y5 : List TypeParam) (c14x7 : Scope) (u14x7y7 : Option Scope) (u14x7y8 : Str) (u14x7y9 : Pos) (u14x8y0 : Str) (a14x8 : Arguments) (b14x8 : List Stmt) (u14x8y3 : List PySem.Expr) (u14x8y4 : Option PySem.Expr) (u14x8y5 : List TypeParam) (c14x8 : Scope) (u14x8y7 : Option Scope) (u14x8y8 : Str) (u14x8y9 : Pos) (u14y4 : List PySem.Expr) (u14y5 : List TypeParam) (u14y6 : Scope) (u14y7 : Option Scope) (u14y8 : Str) (u14y9 : List Str) (u14y10 : Pos) (v15 : Stmt) (u16y0 : Str) (a16 : Arguments) (b16 : List Stmt) (u16y3 : List PySem.Expr) (u16y4 : Option PySem.Expr) (u16y5 : List TypeParam) (c16 : Scope) (u16y7 : Option Scope) (u16y8 : Str) (u16y9 : Pos) (u17y0 : Str) (a17 : Arguments) (b17 : List Stmt) (u17y3 : List PySem.Expr) (u17y4 : Option PySem.Expr) (u17y5 : List TypeParam) (c17 : Scope) (u17y7 : Option Scope) (u17y8 : Str) (u17y9 : Pos) (u18y0 : Str) (a18 : Arguments) (b18 : List Stmt) (u18y3 : List PySem.Expr) (u18y4 : Option PySem.Expr) (u18y5 : List TypeParam) (c18 : Scope) (u18y7 : Option Scope) (u18y8 : Str) (u18y9 : Pos) (u19y0 : Str) (a19 : Arguments) (b19 : List Stmt) (u19y3 : List PySem.Expr) (u19y4 : Option PySem.Expr) (u19y5 : List TypeParam) (c19 : Scope) (u19y7 : Option Scope) (u19y8 : Str) (u19y9 : Pos) (u20y0 : Str) (a20 : Arguments) (b20 : List Stmt) (u20y3 : List PySem.Expr) (u20y4 : Option PySem.Expr) (u20y5 : List TypeParam) (c20 : Scope) (u20y7 : Option Scope) (u20y8 : Str) (u20y9 : Pos) (u21y0 : Str) (a21 : Arguments) (b21 : List Stmt) (u21y3 : List PySem.Expr) (u21y4 : Option PySem.Expr) (u21y5 : List TypeParam) (c21 : Scope) (u21y7 : Option Scope) (u21y8 : Str) (u21y9 : Pos) (u22y0 : Str) (a22 : Arguments) (b22 : List Stmt) (u22y3 : List PySem.Expr) (u22y4 : Option PySem.Expr) (u22y5 : List TypeParam) (c22 : Scope) (u22y7 : Option Scope) (u22y8 : Str) (u22y9 : Pos) (u23y0 : Str) (a23 : Arguments) (b23 : List Stmt) (u23y3 : List PySem.Expr) (u23y4 : Option PySem.Expr) (u23y5 : List TypeParam) (c23 : Scope) (u23y7 : Option Scope) (u23y8 : Str) (u23y9 : Pos) (u24y0 : Str) (a24 : Arguments) (b24 : List Stmt) (u24y3 : List PySem.Expr) (u24y4 : Option PySem.Expr) (u24y5 : List TypeParam) (c24 : Scope) (u24y7 : Option Scope) (u24y8 : Str) (u24y9 : Pos) (u25y0 : Str) (a25 : Arguments) (b25 : List Stmt) (u25y3 : List PySem.Expr) (u25y4 : Option PySem.Expr) (u25y5 : List TypeParam) (c25 : Scope) (u25y7 : Option Scope) (u25y8 : Str) (u25y9 : Pos) (u26y0 : Str) (a26 : Arguments) (b26 : List Stmt) (u26y3 : List PySem.Expr) (u26y4 : Option PySem.Expr) (u26y5 : List TypeParam) (c26 : Scope) (u26y7 : Option Scope) (u26y8 : Str) (u26y9 : Pos) (u27y0 : Str) (a27 : Arguments) (b27 : List Stmt) (u27y3 : List PySem.Expr) (u27y4 : Option PySem.Expr) (u27y5 : List TypeParam) (c27 : Scope) (u27y7 : Option Scope) (u27y8 : Str) (u27y9 : Pos) (u28y0 : Str) (a28 : Arguments) (b28 : List Stmt) (u28y3 : List PySem.Expr) (u28y4 : Option PySem.Expr) (u28y5 : List TypeParam) (c28 : Scope) (u28y7 : Option Scope) (u28y8 : Str) (u28y9 : Pos) (u29y0 : Str) (a29 : Arguments) (b29 : List Stmt) (u29y3 : List PySem.Expr) (u29y4 : Option PySem.Expr) (u29y5 : List TypeParam) (c29 : Scope) (u29y7 : Option Scope) (u29y8 : Str) (u29y9 : Pos) (_h : PySem.Challenge.pw_on0341_01.main.body = [(.FunctionDef u0y0 a0 b0 u0y3 u0y4 u0y5 c0 u0y7 u0y8 u0y9), v1, (.ClassDef u2y0 u2y1 u2y2 [(.FunctionDef u2x0y0 a2x0 b2x0 u2x0y3 u2x0y4 u2x0y5 c2x0 u2x0y7 u2x0y8 u2x0y9)] u2y4 u2y5 u2y6 u2y7 u2y8 u2y9 u2y10), (.ClassDef u3y0 u3y1 u3y2 [v3x0] u3y4 u3y5 u3y6 u3y7 u3y8 u3y9 u3y10), v4, v5, v6, (.FunctionDef u7y0 a7 b7 u7y3 u7y4 u7y5 c7 u7y7 u7y8 u7y9), (.FunctionDef u8y0 a8 b8 u8y3 u8y4 u8y5 c8 u8y7 u8y8 u8y9), (.FunctionDef u9y0 a9 b9 u9y3 u9y4 u9y5 c9 u9y7 u9y8 u9y9), (.FunctionDef u10y0 a10 b10 u10y3 u10y4 u10y5 c10 u10y7 u10y8 u10y9), (.ClassDef u11y0 u11y1 u11y2 [(.FunctionDef u11x0y0 a11x0 b11x0 u11x0y3 u11x0y4 u11x0y5 c11x0 u11x0y7 u11x0y8 u11x0y9), (.FunctionDef u11x1y0 a11x1 b11x1 u11x1y3 u11x1y4 u11x1y5 c11x1 u11x1y7 u11x1y8 u11x1y9), (.FunctionDef u11x2y0 a11x2 b11x2 u11x2y3 u11x2y4 u11x2y5 c11x2 u11x2y7 u11x2y8 u11x2y9)] u11y4 u11y5 u11y6 u11y7 u11y8 u11y9 u11y10), (.ClassDef u12y0 u12y1 u12y2 [(.FunctionDef u12x0y0 a12x0 b12x0 u12x0y3 u12x0y4 u12x0y5 c12x0 u12x0y7 u12x0y8 u12x0y9), (.FunctionDef u12x1y0 a12x1 b12x1 u12x1y3 u12x1y4 u12x1y5 c12x1 u12x1y7 u12x1y8 u12x1y9), (.FunctionDef u12x2y0 a12x2 b12x2 u12x2y3 u12x2y4 u12x2y5 c12x2 u12x2y7 u12x2y8 u12x2y9), (.FunctionDef u12x3y0 a12x3 b12x3 u12x3y3 u12x3y4 u12x3y5 c12x3 u12x3y7 u12x3y8 u12x3y9), (.FunctionDef u12x4y0 a12x4 b12x4 u12x4y3 u12x4y4 u12x4y5 c12x4 u12x4y7 u12x4y8 u12x4y9)] u12y4 u12y5 u12y6 u12y7 u12y8 u12y9 u12y10), (.FunctionDef u13y0 a13 b13 u13y3 u13y4 u13y5 c13 u13y7 u13y8 u13y9), (.ClassDef u14y0 u14y1 u14y2 [(.FunctionDef u14x0y0 a14x0 b14x0 u14x0y3 u14x0y4 u14x0y5 c14x0 u14x0y7 u14x0y8 u14x0y9), (.FunctionDef u14x1y0 a14x1 b14x1 u14x1y3 u14x1y4 u14x1y5 c14x1 u14x1y7 u14x1y8 u14x1y9), (.FunctionDef u14x2y0 a14x2 b14x2 u14x2y3 u14x2y4 u14x2y5 c14x2 u14x2y7 u14x2y8 u14x2y9), (.FunctionDef u14x3y0 a14x3 b14x3 u14x3y3 u14x3y4 u14x3y5 c14x3 u14x3y7 u14x3y8 u14x3y9), (.FunctionDef u14x4y0 a14x4 b14x4 u14x4y3 u14x4y4 u14x4y5 c14x4 u14x4y7 u14x4y8 u14x4y9), (.FunctionDef u14x5y0 a14x5 b14x5 u14x5y3 u14x5y4 u14x5y5 c14x5 u14x5y7 u14x5y8 u14x5y9), (.FunctionDef u14x6y0 a14x6 b14x6 u14x6y3 u14x6y4 u14x6y5 c14x6 u14x6y7 u14x6y8 u14x6y9), (.FunctionDef u14x7y0 a14x7 b14x7 u14x7y3 u14x7y4 u14x7y5 c14x7 u14x7y7 u14x7y8 u14x7y9), (.FunctionDef u14x8y0 a14x8 b14x8 u14x8y3 u14x8y4 u14x8y5 c14x8 u14x8y7 u14x8y8 u14x8y9)] u14y4 u14y5 u14y6 u14y7 u14y8 u14y9 u14y10), v15, (.FunctionDef u16y0 a16 b16 u16y3 u16y4 u16y5 c16 u16y7 u16y8 u16y9), (.FunctionDef u17y0 a17 b17 u17y3 u17y4 u17y5 c17 u17y7 u17y8 u17y9), (.FunctionDef u18y0 a18 b18 u18y3 u18y4 u18y5 c18 u18y7 u18y8 u18y9), (.FunctionDef u19y0 a19 b19 u19y3 u19y4 u19y5 c19 u19y7 u19y8 u19y9), (.FunctionDef u20y0 a20 b20 u20y3 u20y4 u20y5 c20 u20y7 u20y8 u20y9), (.FunctionDef u21y0 a21 b21 u21y3 u21y4 u21y5 c21 u21y7 u21y8 u21y9), (.FunctionDef u22y0 a22 b22 u22y3 u22y4 u22y5 c22 u22y7 u22y8 u22y9), (.FunctionDef u23y0 a23 b23 u23y3 u23y4 u23y5 c23 u23y7 u23y8 u23y9), (.FunctionDef u24y0 a24 b24 u24y3 u24y4 u24y5 c24 u24y7 u24y8 u24y9), (.FunctionDef u25y0 a25 b25 u25y3 u25y4 u25y5 c25 u25y7 u25y8 u25y9), (.FunctionDef u26y0 a26 b26 u26y3 u26y4 u26y5 c26 u26y7 u26y8 u26y9), (.FunctionDef u27y0 a27 b27 u27y3 u27y4 u27y5 c27 u27y7 u27y8 u27y9), (.FunctionDef u28y0 a28 b28 u28y3 u28y4 u28y5 c28 u28y7 u28y8 u28y9), (.FunctionDef u29y0 a29 b29 u29y3 u29y4 u29y5 c29 u29y7 u29y8 u29y9)]) (P : Params) => ((nat_lit 2, Obj.mk Value.none (none : Option Nat) (Data.dict #[DictEntry.mk (PyData.keyHash P (Str.ofString "type.__subclasses__.Exception.0")) (Value.str (Str.ofString "type.__subclasses__.Exception.0") (221 : Nat)) (Value.int 38 (0 : Nat)), DictEntry.mk (PyData.keyHash P (Str.ofString "type.__subclasses__.Exception.n")) (Value.str (Str.ofString "type.__subclasses__.Exception.n") (222 : Nat)) (Value.int 1 (0 : Nat))] (2 : Nat)) #[])
  :: (nat_lit 3, Obj.mk (Value.type "dict") (none : Option Nat) (Data.dict #[DictEntry.mk (PyData.keyHash P (Str.ofString "__name__")) (Value.str (Str.ofString "__name__") (165 : Nat)) (Value.str (Str.ofString "law_on0341_01") (511 : Nat)), DictEntry.mk (PyData.keyHash P (Str.ofString "__doc__")) (Value.str (Str.ofString "__doc__") (166 : Nat)) Value.none, DictEntry.mk (PyData.keyHash P (Str.ofString "__package__")) (Value.str (Str.ofString "__package__") (167 : Nat)) Value.none, DictEntry.mk (PyData.keyHash P (Str.ofString "__loader__")) (Value.str (Str.ofString "__loader__") (168 : Nat)) (Value.builtin "__main__.__loader__#opaque"), DictEntry.mk (PyData.keyHash P (Str.ofString "__spec__")) (Value.str (Str.ofString "__spec__") (169 : Nat)) Value.none, DictEntry.mk (PyData.keyHash P (Str.ofString "__annotations__")) (Value.str (Str.ofString "__annotations__") (170 : Nat)) (Value.ref (6 : Nat)), DictEntry.mk (PyData.keyHash P (Str.ofString "__builtins__")) (Value.str (Str.ofString "__builtins__") (171 : Nat)) (Value.ref (4 : Nat)), DictEntry.mk (PyData.keyHash P (Str.ofString "__file__")) (Value.str (Str.ofString "__file__") (173 : Nat)) (Value.str (Str.ofString "/claim/cut.py") (172 : Nat)), DictEntry.mk (PyData.keyHash P (Str.ofString "__cached__")) (Value.str (Str.ofString "__cached__") (174 : Nat)) Value.none, DictEntry.mk (PyData.keyHash P (Str.ofString "_wall")) (Value.str (Str.ofString "_wall") (193 : Nat)) (Value.ref (21 : Nat)), DictEntry.mk (PyData.keyHash P (Str.ofString "StackError")) (Value.str (Str.ofString "StackError") (224 : Nat)) (Value.ref (38 : Nat)), DictEntry.mk (PyData.keyHash P (Str.ofString "RouteError")) (Value.str (Str.ofString "RouteError") (240 : Nat)) (Value.ref (51 : Nat)), DictEntry.mk (PyData.keyHash P (Str.ofString "BITS")) (Value.str (Str.ofString "BITS") (244 : Nat)) (Value.int 32 (243 : Nat)), DictEntry.mk (PyData.keyHash P (Str.ofString "ALL")) (Value.str (Str.ofString "ALL") (250 : Nat)) (Value.int 4294967295 (249 : Nat)), DictEntry.mk (PyData.keyHash P (Str.ofString "mask_of")) (Value.str (Str.ofString "mask_of") (257 : Nat)) (Value.ref (60 : Nat)), DictEntry.mk (PyData.keyHash P (Str.ofString "net_of")) (Value.str (Str.ofString "net_of") (265 : Nat)) (Value.ref (67 : Nat)), DictEntry.mk (PyData.keyHash P (Str.ofString "is_group")) (Value.str (Str.ofString "is_group") (272 : Nat)) (Value.ref (74 : Nat)), DictEntry.mk (PyData.keyHash P (Str.ofString "is_loop")) (Value.str (Str.ofString "is_loop") (279 : Nat)) (Value.ref (81 : Nat)), DictEntry.mk (PyData.keyHash P (Str.ofString "Route")) (Value.str (Str.ofString "Route") (332 : Nat)) (Value.ref (113 : Nat)), DictEntry.mk (PyData.keyHash P (Str.ofString "Branch")) (Value.str (Str.ofString "Branch") (395 : Nat)) (Value.ref (162 : Nat)), DictEntry.mk (PyData.keyHash P (Str.ofString "bit_at")) (Value.str (Str.ofString "bit_at") (403 : Nat)) (Value.ref (173 : Nat)), DictEntry.mk (PyData.keyHash P (Str.ofString "Routes")) (Value.str (Str.ofString "Routes") (510 : Nat)) (Value.ref (244 : Nat)), DictEntry.mk (PyData.keyHash P (Str.ofString "_law_pool")) (Value.str (Str.ofString "_law_pool") (523 : Nat)) (Value.ref (255 : Nat)), DictEntry.mk (PyData.keyHash P (Str.ofString "_law_take")) (Value.str (Str.ofString "_law_take") (532 : Nat)) (Value.ref (262 : Nat)), DictEntry.mk (PyData.keyHash P (Str.ofString "_law_one")) (Value.str (Str.ofString "_law_one") (540 : Nat)) (Value.ref (269 : Nat)), DictEntry.mk (PyData.keyHash P (Str.ofString "_law_bits")) (Value.str (Str.ofString "_law_bits") (546 : Nat)) (Value.ref (274 : Nat)), DictEntry.mk (PyData.keyHash P (Str.ofString "_law_address")) (Value.str (Str.ofString "_law_address") (553 : Nat)) (Value.ref (281 : Nat)), DictEntry.mk (PyData.keyHash P (Str.ofString "_law_net")) (Value.str (Str.ofString "_law_net") (562 : Nat)) (Value.ref (288 : Nat)), DictEntry.mk (PyData.keyHash P (Str.ofString "_law_branches")) (Value.str (Str.ofString "_law_branches") (574 : Nat)) (Value.ref (295 : Nat)), DictEntry.mk (PyData.keyHash P (Str.ofString "_law_due")) (Value.str (Str.ofString "_law_due") (580 : Nat)) (Value.ref (300 : Nat)), DictEntry.mk (PyData.keyHash P (Str.ofString "_law_stands")) (Value.str (Str.ofString "_law_stands") (588 : Nat)) (Value.ref (307 : Nat)), DictEntry.mk (PyData.keyHash P (Str.ofString "_law_added")) (Value.str (Str.ofString "_law_added") (594 : Nat)) (Value.ref (312 : Nat)), DictEntry.mk (PyData.keyHash P (Str.ofString "_law_changed")) (Value.str (Str.ofString "_law_changed") (600 : Nat)) (Value.ref (317 : Nat)), DictEntry.mk (PyData.keyHash P (Str.ofString "_law_branch_right")) (Value.str (Str.ofString "_law_branch_right") (606 : Nat)) (Value.ref (322 : Nat)), DictEntry.mk (PyData.keyHash P (Str.ofString "_law_address_right")) (Value.str (Str.ofString "_law_address_right") (618 : Nat)) (Value.ref (329 : Nat)), DictEntry.mk (PyData.keyHash P (Str.ofString "law")) (Value.str (Str.ofString "law") (624 : Nat)) (Value.ref (334 : Nat))] (36 : Nat)) #[])
  :: (nat_lit 15, Obj.mk (Value.type "tuple") (none : Option Nat) (Data.seq #[]) #[])
  :: (nat_lit 17, Obj.mk (Value.type "tuple") (none : Option Nat) (Data.seq #[Value.str (Str.ofString "k") (190 : Nat)]) #[])
  :: (nat_lit 18, Obj.mk (Value.type "tuple") (none : Option Nat) (Data.seq #[]) #[])
  :: (nat_lit 20, Obj.mk (Value.type "code") (none : Option Nat) (Data.fields #[Value.str (Str.ofString "_wall") (187 : Nat), Value.str (Str.ofString "_wall") (188 : Nat), Value.str (Str.ofString "/claim/cut.py") (189 : Nat), Value.int 1 (0 : Nat), Value.int 1 (0 : Nat), Value.int 0 (0 : Nat), Value.int 0 (0 : Nat), Value.int 3 (0 : Nat), Value.ref (15 : Nat), Value.bool true, Value.int 181 (0 : Nat), Value.ref (16 : Nat), Value.none, Value.ref (17 : Nat), Value.ref (18 : Nat), Value.ref (19 : Nat), Value.int 191 (0 : Nat), Value.int 1 (0 : Nat), Value.str (Str.ofString "/claim/cut.py") (192 : Nat)]) #[])
  :: (nat_lit 21, Obj.mk (Value.type "function") (none : Option Nat) (Data.func (FuncData.mk (Str.ofString "_wall") (Str.ofString "_wall") a0 (FuncBody.stmts b0) c0 (3 : Nat) [] Value.none Value.none Value.none (Value.str (Str.ofString "__main__") (164 : Nat)) (none : Option Nat) (Value.ref (20 : Nat)) Value.none (0 : Nat))) #[])
  :: (nat_lit 22, Obj.mk (Value.type "tuple") (none : Option Nat) (Data.seq #[Value.type "Exception"]) #[])
  :: (nat_lit 29, Obj.mk (Value.type "tuple") (none : Option Nat) (Data.seq #[]) #[])
  :: (nat_lit 31, Obj.mk (Value.type "tuple") (none : Option Nat) (Data.seq #[Value.str (Str.ofString "self") (211 : Nat), Value.str (Str.ofString "message") (212 : Nat)]) #[])
  :: (nat_lit 32, Obj.mk (Value.type "tuple") (none : Option Nat) (Data.seq #[]) #[])
  :: (nat_lit 34, Obj.mk (Value.type "code") (none : Option Nat) (Data.fields #[Value.str (Str.ofString "__init__") (208 : Nat), Value.str (Str.ofString "StackError.__init__") (209 : Nat), Value.str (Str.ofString "/claim/cut.py") (210 : Nat), Value.int 7 (0 : Nat), Value.int 2 (0 : Nat), Value.int 0 (0 : Nat), Value.int 0 (0 : Nat), Value.int 3 (0 : Nat), Value.ref (29 : Nat), Value.bool true, Value.int 181 (0 : Nat), Value.ref (30 : Nat), Value.none, Value.ref (31 : Nat), Value.ref (32 : Nat), Value.ref (33 : Nat), Value.int 213 (0 : Nat), Value.int 7 (0 : Nat), Value.str (Str.ofString "/claim/cut.py") (214 : Nat)]) #[])
  :: (nat_lit 35, Obj.mk (Value.type "function") (none : Option Nat) (Data.func (FuncData.mk (Str.ofString "__init__") (Str.ofString "StackError.__init__") a2x0 (FuncBody.stmts b2x0) c2x0 (3 : Nat) [] Value.none Value.none Value.none (Value.str (Str.ofString "thinstack.errors") (194 : Nat)) (none : Option Nat) (Value.ref (34 : Nat)) Value.none (0 : Nat))) #[])
  :: (nat_lit 36, Obj.mk (Value.type "tuple") (none : Option Nat) (Data.seq #[Value.str (Str.ofString "message") (216 : Nat)]) #[])
  :: (nat_lit 37, Obj.mk (Value.type "dict") (none : Option Nat) (Data.dict #[DictEntry.mk (PyData.keyHash P (Str.ofString "__module__")) (Value.str (Str.ofString "__module__") (203 : Nat)) (Value.str (Str.ofString "thinstack.errors") (194 : Nat)), DictEntry.mk (PyData.keyHash P (Str.ofString "__firstlineno__")) (Value.str (Str.ofString "__firstlineno__") (207 : Nat)) (Value.int 5 (206 : Nat)), DictEntry.mk (PyData.keyHash P (Str.ofString "__init__")) (Value.str (Str.ofString "__init__") (215 : Nat)) (Value.ref (35 : Nat)), DictEntry.mk (PyData.keyHash P (Str.ofString "__static_attributes__")) (Value.str (Str.ofString "__static_attributes__") (217 : Nat)) (Value.ref (36 : Nat)), DictEntry.mk (PyData.keyHash P (Str.ofString "__weakref__")) (Value.str (Str.ofString "__weakref__") (219 : Nat)) (Value.ref (39 : Nat)), DictEntry.mk (PyData.keyHash P (Str.ofString "__doc__")) (Value.str (Str.ofString "__doc__") (220 : Nat)) Value.none] (3 : Nat)) #[])
  :: (nat_lit 38, Obj.mk (Value.type "type") (none : Option Nat) (Data.cls (ClassData.mk (Str.ofString "StackError") [Value.type "Exception"] [Value.ref (38 : Nat), Value.type "Exception", Value.type "BaseException", Value.type "object"] (37 : Nat) (Str.ofString "StackError") true [] [Value.ref (51 : Nat)] false none false)) #[some (Value.ref (22 : Nat)), none, some (Value.str (Str.ofString "StackError") (196 : Nat)), some (Value.str (Str.ofString "StackError") (204 : Nat)), some (Value.builtin "Exception.__new__"), some (Value.bool true)])
  :: (nat_lit 39, Obj.mk (Value.type "getset_descriptor") (none : Option Nat) (Data.fields #[Value.str (Str.ofString "__weakref__") (218 : Nat), Value.ref (38 : Nat), Value.builtin "ExceptionGroup.__weakref__", Value.none]) #[])
  :: (nat_lit 42, Obj.mk (Value.type "tuple") (none : Option Nat) (Data.seq #[Value.ref (38 : Nat)]) #[])
  :: (nat_lit 49, Obj.mk (Value.type "tuple") (none : Option Nat) (Data.seq #[]) #[])
  :: (nat_lit 50, Obj.mk (Value.type "dict") (none : Option Nat) (Data.dict #[DictEntry.mk (PyData.keyHash P (Str.ofString "__module__")) (Value.str (Str.ofString "__module__") (232 : Nat)) (Value.str (Str.ofString "thinstack.errors") (194 : Nat)), DictEntry.mk (PyData.keyHash P (Str.ofString "__firstlineno__")) (Value.str (Str.ofString "__firstlineno__") (236 : Nat)) (Value.int 9 (235 : Nat)), DictEntry.mk (PyData.keyHash P (Str.ofString "__static_attributes__")) (Value.str (Str.ofString "__static_attributes__") (237 : Nat)) (Value.ref (49 : Nat)), DictEntry.mk (PyData.keyHash P (Str.ofString "__doc__")) (Value.str (Str.ofString "__doc__") (238 : Nat)) Value.none] (2 : Nat)) #[])
  :: (nat_lit 51, Obj.mk (Value.type "type") (none : Option Nat) (Data.cls (ClassData.mk (Str.ofString "RouteError") [Value.ref (38 : Nat)] [Value.ref (51 : Nat), Value.ref (38 : Nat), Value.type "Exception", Value.type "BaseException", Value.type "object"] (50 : Nat) (Str.ofString "RouteError") true [] [] false none false)) #[some (Value.ref (42 : Nat)), none, some (Value.str (Str.ofString "RouteError") (225 : Nat)), some (Value.str (Str.ofString "RouteError") (233 : Nat)), some (Value.builtin "Exception.__new__"), some (Value.bool true)])
  :: (nat_lit 54, Obj.mk (Value.type "tuple") (none : Option Nat) (Data.seq #[]) #[])
  :: (nat_lit 56, Obj.mk (Value.type "tuple") (none : Option Nat) (Data.seq #[Value.str (Str.ofString "prefix") (254 : Nat)]) #[])
  :: (nat_lit 57, Obj.mk (Value.type "tuple") (none : Option Nat) (Data.seq #[]) #[])
  :: (nat_lit 59, Obj.mk (Value.type "code") (none : Option Nat) (Data.fields #[Value.str (Str.ofString "mask_of") (251 : Nat), Value.str (Str.ofString "mask_of") (252 : Nat), Value.str (Str.ofString "/claim/cut.py") (253 : Nat), Value.int 14 (0 : Nat), Value.int 1 (0 : Nat), Value.int 0 (0 : Nat), Value.int 0 (0 : Nat), Value.int 3 (0 : Nat), Value.ref (54 : Nat), Value.bool true, Value.int 181 (0 : Nat), Value.ref (55 : Nat), Value.none, Value.ref (56 : Nat), Value.ref (57 : Nat), Value.ref (58 : Nat), Value.int 255 (0 : Nat), Value.int 14 (0 : Nat), Value.str (Str.ofString "/claim/cut.py") (256 : Nat)]) #[])
  :: (nat_lit 60, Obj.mk (Value.type "function") (none : Option Nat) (Data.func (FuncData.mk (Str.ofString "mask_of") (Str.ofString "mask_of") a7 (FuncBody.stmts b7) c7 (3 : Nat) [] Value.none Value.none Value.none (Value.str (Str.ofString "thinstack.routes") (241 : Nat)) (none : Option Nat) (Value.ref (59 : Nat)) Value.none (0 : Nat))) #[])
  :: (nat_lit 61, Obj.mk (Value.type "tuple") (none : Option Nat) (Data.seq #[]) #[])
  :: (nat_lit 63, Obj.mk (Value.type "tuple") (none : Option Nat) (Data.seq #[Value.str (Str.ofString "address") (261 : Nat), Value.str (Str.ofString "prefix") (262 : Nat)]) #[])
  :: (nat_lit 64, Obj.mk (Value.type "tuple") (none : Option Nat) (Data.seq #[]) #[])
  :: (nat_lit 66, Obj.mk (Value.type "code") (none : Option Nat) (Data.fields #[Value.str (Str.ofString "net_of") (258 : Nat), Value.str (Str.ofString "net_of") (259 : Nat), Value.str (Str.ofString "/claim/cut.py") (260 : Nat), Value.int 18 (0 : Nat), Value.int 2 (0 : Nat), Value.int 0 (0 : Nat), Value.int 0 (0 : Nat), Value.int 3 (0 : Nat), Value.ref (61 : Nat), Value.bool true, Value.int 181 (0 : Nat), Value.ref (62 : Nat), Value.none, Value.ref (63 : Nat), Value.ref (64 : Nat), Value.ref (65 : Nat), Value.int 263 (0 : Nat), Value.int 18 (0 : Nat), Value.str (Str.ofString "/claim/cut.py") (264 : Nat)]) #[])
  :: (nat_lit 67, Obj.mk (Value.type "function") (none : Option Nat) (Data.func (FuncData.mk (Str.ofString "net_of") (Str.ofString "net_of") a8 (FuncBody.stmts b8) c8 (3 : Nat) [] Value.none Value.none Value.none (Value.str (Str.ofString "thinstack.routes") (241 : Nat)) (none : Option Nat) (Value.ref (66 : Nat)) Value.none (0 : Nat))) #[])
  :: (nat_lit 68, Obj.mk (Value.type "tuple") (none : Option Nat) (Data.seq #[]) #[])
  :: (nat_lit 70, Obj.mk (Value.type "tuple") (none : Option Nat) (Data.seq #[Value.str (Str.ofString "address") (269 : Nat)]) #[])
  :: (nat_lit 71, Obj.mk (Value.type "tuple") (none : Option Nat) (Data.seq #[]) #[])
  :: (nat_lit 73, Obj.mk (Value.type "code") (none : Option Nat) (Data.fields #[Value.str (Str.ofString "is_group") (266 : Nat), Value.str (Str.ofString "is_group") (267 : Nat), Value.str (Str.ofString "/claim/cut.py") (268 : Nat), Value.int 20 (0 : Nat), Value.int 1 (0 : Nat), Value.int 0 (0 : Nat), Value.int 0 (0 : Nat), Value.int 3 (0 : Nat), Value.ref (68 : Nat), Value.bool true, Value.int 181 (0 : Nat), Value.ref (69 : Nat), Value.none, Value.ref (70 : Nat), Value.ref (71 : Nat), Value.ref (72 : Nat), Value.int 270 (0 : Nat), Value.int 20 (0 : Nat), Value.str (Str.ofString "/claim/cut.py") (271 : Nat)]) #[])
  :: (nat_lit 74, Obj.mk (Value.type "function") (none : Option Nat) (Data.func (FuncData.mk (Str.ofString "is_group") (Str.ofString "is_group") a9 (FuncBody.stmts b9) c9 (3 : Nat) [] Value.none Value.none Value.none (Value.str (Str.ofString "thinstack.routes") (241 : Nat)) (none : Option Nat) (Value.ref (73 : Nat)) Value.none (0 : Nat))) #[])
  :: (nat_lit 75, Obj.mk (Value.type "tuple") (none : Option Nat) (Data.seq #[]) #[])
  :: (nat_lit 77, Obj.mk (Value.type "tuple") (none : Option Nat) (Data.seq #[Value.str (Str.ofString "address") (276 : Nat)]) #[])
  :: (nat_lit 78, Obj.mk (Value.type "tuple") (none : Option Nat) (Data.seq #[]) #[])
  :: (nat_lit 80, Obj.mk (Value.type "code") (none : Option Nat) (Data.fields #[Value.str (Str.ofString "is_loop") (273 : Nat), Value.str (Str.ofString "is_loop") (274 : Nat), Value.str (Str.ofString "/claim/cut.py") (275 : Nat), Value.int 22 (0 : Nat), Value.int 1 (0 : Nat), Value.int 0 (0 : Nat), Value.int 0 (0 : Nat), Value.int 3 (0 : Nat), Value.ref (75 : Nat), Value.bool true, Value.int 181 (0 : Nat), Value.ref (76 : Nat), Value.none, Value.ref (77 : Nat), Value.ref (78 : Nat), Value.ref (79 : Nat), Value.int 277 (0 : Nat), Value.int 22 (0 : Nat), Value.str (Str.ofString "/claim/cut.py") (278 : Nat)]) #[])
  :: (nat_lit 81, Obj.mk (Value.type "function") (none : Option Nat) (Data.func (FuncData.mk (Str.ofString "is_loop") (Str.ofString "is_loop") a10 (FuncBody.stmts b10) c9 (3 : Nat) [] Value.none Value.none Value.none (Value.str (Str.ofString "thinstack.routes") (241 : Nat)) (none : Option Nat) (Value.ref (80 : Nat)) Value.none (0 : Nat))) #[])
  :: (nat_lit 89, Obj.mk (Value.type "tuple") (none : Option Nat) (Data.seq #[Value.int 0 (292 : Nat)]) #[])
  :: (nat_lit 90, Obj.mk (Value.type "tuple") (none : Option Nat) (Data.seq #[]) #[])
  :: (nat_lit 92, Obj.mk (Value.type "tuple") (none : Option Nat) (Data.seq #[Value.str (Str.ofString "self") (296 : Nat), Value.str (Str.ofString "net") (297 : Nat), Value.str (Str.ofString "prefix") (298 : Nat), Value.str (Str.ofString "gateway") (299 : Nat), Value.str (Str.ofString "face") (300 : Nat), Value.str (Str.ofString "metric") (301 : Nat)]) #[])
  :: (nat_lit 93, Obj.mk (Value.type "tuple") (none : Option Nat) (Data.seq #[]) #[])
  :: (nat_lit 95, Obj.mk (Value.type "code") (none : Option Nat) (Data.fields #[Value.str (Str.ofString "__init__") (293 : Nat), Value.str (Str.ofString "Route.__init__") (294 : Nat), Value.str (Str.ofString "/claim/cut.py") (295 : Nat), Value.int 26 (0 : Nat), Value.int 6 (0 : Nat), Value.int 0 (0 : Nat), Value.int 0 (0 : Nat), Value.int 3 (0 : Nat), Value.ref (90 : Nat), Value.bool true, Value.int 181 (0 : Nat), Value.ref (91 : Nat), Value.none, Value.ref (92 : Nat), Value.ref (93 : Nat), Value.ref (94 : Nat), Value.int 302 (0 : Nat), Value.int 26 (0 : Nat), Value.str (Str.ofString "/claim/cut.py") (303 : Nat)]) #[])
  :: (nat_lit 96, Obj.mk (Value.type "function") (none : Option Nat) (Data.func (FuncData.mk (Str.ofString "__init__") (Str.ofString "Route.__init__") a11x0 (FuncBody.stmts b11x0) c11x0 (3 : Nat) [] (Value.ref (89 : Nat)) Value.none Value.none (Value.str (Str.ofString "thinstack.routes") (241 : Nat)) (none : Option Nat) (Value.ref (95 : Nat)) Value.none (0 : Nat))) #[])
  :: (nat_lit 97, Obj.mk (Value.type "tuple") (none : Option Nat) (Data.seq #[]) #[])
  :: (nat_lit 99, Obj.mk (Value.type "tuple") (none : Option Nat) (Data.seq #[Value.str (Str.ofString "self") (308 : Nat), Value.str (Str.ofString "target") (309 : Nat)]) #[])
  :: (nat_lit 100, Obj.mk (Value.type "tuple") (none : Option Nat) (Data.seq #[]) #[])
  :: (nat_lit 102, Obj.mk (Value.type "code") (none : Option Nat) (Data.fields #[Value.str (Str.ofString "next_address") (305 : Nat), Value.str (Str.ofString "Route.next_address") (306 : Nat), Value.str (Str.ofString "/claim/cut.py") (307 : Nat), Value.int 33 (0 : Nat), Value.int 2 (0 : Nat), Value.int 0 (0 : Nat), Value.int 0 (0 : Nat), Value.int 3 (0 : Nat), Value.ref (97 : Nat), Value.bool true, Value.int 181 (0 : Nat), Value.ref (98 : Nat), Value.none, Value.ref (99 : Nat), Value.ref (100 : Nat), Value.ref (101 : Nat), Value.int 310 (0 : Nat), Value.int 33 (0 : Nat), Value.str (Str.ofString "/claim/cut.py") (311 : Nat)]) #[])
  :: (nat_lit 103, Obj.mk (Value.type "function") (none : Option Nat) (Data.func (FuncData.mk (Str.ofString "next_address") (Str.ofString "Route.next_address") a11x1 (FuncBody.stmts b11x1) c11x1 (3 : Nat) [] Value.none Value.none Value.none (Value.str (Str.ofString "thinstack.routes") (241 : Nat)) (none : Option Nat) (Value.ref (102 : Nat)) Value.none (0 : Nat))) #[])
  :: (nat_lit 104, Obj.mk (Value.type "tuple") (none : Option Nat) (Data.seq #[]) #[])
  :: (nat_lit 106, Obj.mk (Value.type "tuple") (none : Option Nat) (Data.seq #[Value.str (Str.ofString "self") (316 : Nat)]) #[])
  :: (nat_lit 107, Obj.mk (Value.type "tuple") (none : Option Nat) (Data.seq #[]) #[])
  :: (nat_lit 109, Obj.mk (Value.type "code") (none : Option Nat) (Data.fields #[Value.str (Str.ofString "row") (313 : Nat), Value.str (Str.ofString "Route.row") (314 : Nat), Value.str (Str.ofString "/claim/cut.py") (315 : Nat), Value.int 38 (0 : Nat), Value.int 1 (0 : Nat), Value.int 0 (0 : Nat), Value.int 0 (0 : Nat), Value.int 3 (0 : Nat), Value.ref (104 : Nat), Value.bool true, Value.int 181 (0 : Nat), Value.ref (105 : Nat), Value.none, Value.ref (106 : Nat), Value.ref (107 : Nat), Value.ref (108 : Nat), Value.int 317 (0 : Nat), Value.int 38 (0 : Nat), Value.str (Str.ofString "/claim/cut.py") (318 : Nat)]) #[])
  :: (nat_lit 110, Obj.mk (Value.type "function") (none : Option Nat) (Data.func (FuncData.mk (Str.ofString "row") (Str.ofString "Route.row") a11x2 (FuncBody.stmts b11x2) c11x2 (3 : Nat) [] Value.none Value.none Value.none (Value.str (Str.ofString "thinstack.routes") (241 : Nat)) (none : Option Nat) (Value.ref (109 : Nat)) Value.none (0 : Nat))) #[])
  :: (nat_lit 111, Obj.mk (Value.type "tuple") (none : Option Nat) (Data.seq #[Value.str (Str.ofString "face") (320 : Nat), Value.str (Str.ofString "gateway") (321 : Nat), Value.str (Str.ofString "metric") (322 : Nat), Value.str (Str.ofString "net") (323 : Nat), Value.str (Str.ofString "prefix") (324 : Nat)]) #[])
  :: (nat_lit 112, Obj.mk (Value.type "dict") (none : Option Nat) (Data.dict #[DictEntry.mk (PyData.keyHash P (Str.ofString "__module__")) (Value.str (Str.ofString "__module__") (287 : Nat)) (Value.str (Str.ofString "thinstack.routes") (241 : Nat)), DictEntry.mk (PyData.keyHash P (Str.ofString "__firstlineno__")) (Value.str (Str.ofString "__firstlineno__") (291 : Nat)) (Value.int 24 (290 : Nat)), DictEntry.mk (PyData.keyHash P (Str.ofString "__init__")) (Value.str (Str.ofString "__init__") (304 : Nat)) (Value.ref (96 : Nat)), DictEntry.mk (PyData.keyHash P (Str.ofString "next_address")) (Value.str (Str.ofString "next_address") (312 : Nat)) (Value.ref (103 : Nat)), DictEntry.mk (PyData.keyHash P (Str.ofString "row")) (Value.str (Str.ofString "row") (319 : Nat)) (Value.ref (110 : Nat)), DictEntry.mk (PyData.keyHash P (Str.ofString "__static_attributes__")) (Value.str (Str.ofString "__static_attributes__") (325 : Nat)) (Value.ref (111 : Nat)), DictEntry.mk (PyData.keyHash P (Str.ofString "__dict__")) (Value.str (Str.ofString "__dict__") (327 : Nat)) (Value.ref (114 : Nat)), DictEntry.mk (PyData.keyHash P (Str.ofString "__weakref__")) (Value.str (Str.ofString "__weakref__") (329 : Nat)) (Value.ref (115 : Nat)), DictEntry.mk (PyData.keyHash P (Str.ofString "__doc__")) (Value.str (Str.ofString "__doc__") (330 : Nat)) Value.none] (4 : Nat)) #[])
  :: (nat_lit 113, Obj.mk (Value.type "type") (none : Option Nat) (Data.cls (ClassData.mk (Str.ofString "Route") [Value.type "object"] [Value.ref (113 : Nat), Value.type "object"] (112 : Nat) (Str.ofString "Route") true [] [] false none false)) #[none, none, some (Value.str (Str.ofString "Route") (280 : Nat)), some (Value.str (Str.ofString "Route") (288 : Nat)), some (Value.builtin "object.__new__"), some (Value.bool true)])
  :: (nat_lit 114, Obj.mk (Value.type "getset_descriptor") (none : Option Nat) (Data.fields #[Value.str (Str.ofString "__dict__") (326 : Nat), Value.ref (113 : Nat), Value.builtin "function.__dict__", Value.builtin "function.__dict__#set"]) #[])
  :: (nat_lit 115, Obj.mk (Value.type "getset_descriptor") (none : Option Nat) (Data.fields #[Value.str (Str.ofString "__weakref__") (328 : Nat), Value.ref (113 : Nat), Value.builtin "ExceptionGroup.__weakref__", Value.none]) #[])
  :: (nat_lit 125, Obj.mk (Value.type "tuple") (none : Option Nat) (Data.seq #[]) #[])
  :: (nat_lit 127, Obj.mk (Value.type "tuple") (none : Option Nat) (Data.seq #[Value.str (Str.ofString "self") (348 : Nat)]) #[])
  :: (nat_lit 128, Obj.mk (Value.type "tuple") (none : Option Nat) (Data.seq #[]) #[])
  :: (nat_lit 130, Obj.mk (Value.type "code") (none : Option Nat) (Data.fields #[Value.str (Str.ofString "__init__") (345 : Nat), Value.str (Str.ofString "Branch.__init__") (346 : Nat), Value.str (Str.ofString "/claim/cut.py") (347 : Nat), Value.int 42 (0 : Nat), Value.int 1 (0 : Nat), Value.int 0 (0 : Nat), Value.int 0 (0 : Nat), Value.int 3 (0 : Nat), Value.ref (125 : Nat), Value.bool true, Value.int 181 (0 : Nat), Value.ref (126 : Nat), Value.none, Value.ref (127 : Nat), Value.ref (128 : Nat), Value.ref (129 : Nat), Value.int 349 (0 : Nat), Value.int 42 (0 : Nat), Value.str (Str.ofString "/claim/cut.py") (350 : Nat)]) #[])
  :: (nat_lit 131, Obj.mk (Value.type "function") (none : Option Nat) (Data.func (FuncData.mk (Str.ofString "__init__") (Str.ofString "Branch.__init__") a12x0 (FuncBody.stmts b12x0) c11x2 (3 : Nat) [] Value.none Value.none Value.none (Value.str (Str.ofString "thinstack.routes") (241 : Nat)) (none : Option Nat) (Value.ref (130 : Nat)) Value.none (0 : Nat))) #[])
  :: (nat_lit 132, Obj.mk (Value.type "tuple") (none : Option Nat) (Data.seq #[]) #[])
  :: (nat_lit 134, Obj.mk (Value.type "tuple") (none : Option Nat) (Data.seq #[Value.str (Str.ofString "self") (355 : Nat), Value.str (Str.ofString "bit") (356 : Nat)]) #[])
  :: (nat_lit 135, Obj.mk (Value.type "tuple") (none : Option Nat) (Data.seq #[]) #[])
  :: (nat_lit 137, Obj.mk (Value.type "code") (none : Option Nat) (Data.fields #[Value.str (Str.ofString "child") (352 : Nat), Value.str (Str.ofString "Branch.child") (353 : Nat), Value.str (Str.ofString "/claim/cut.py") (354 : Nat), Value.int 47 (0 : Nat), Value.int 2 (0 : Nat), Value.int 0 (0 : Nat), Value.int 0 (0 : Nat), Value.int 3 (0 : Nat), Value.ref (132 : Nat), Value.bool true, Value.int 181 (0 : Nat), Value.ref (133 : Nat), Value.none, Value.ref (134 : Nat), Value.ref (135 : Nat), Value.ref (136 : Nat), Value.int 357 (0 : Nat), Value.int 47 (0 : Nat), Value.str (Str.ofString "/claim/cut.py") (358 : Nat)]) #[])
  :: (nat_lit 138, Obj.mk (Value.type "function") (none : Option Nat) (Data.func (FuncData.mk (Str.ofString "child") (Str.ofString "Branch.child") a12x1 (FuncBody.stmts b12x1) c12x1 (3 : Nat) [] Value.none Value.none Value.none (Value.str (Str.ofString "thinstack.routes") (241 : Nat)) (none : Option Nat) (Value.ref (137 : Nat)) Value.none (0 : Nat))) #[])
  :: (nat_lit 139, Obj.mk (Value.type "tuple") (none : Option Nat) (Data.seq #[]) #[])
  :: (nat_lit 141, Obj.mk (Value.type "tuple") (none : Option Nat) (Data.seq #[Value.str (Str.ofString "self") (363 : Nat), Value.str (Str.ofString "bit") (364 : Nat), Value.str (Str.ofString "branch") (365 : Nat)]) #[])
  :: (nat_lit 142, Obj.mk (Value.type "tuple") (none : Option Nat) (Data.seq #[]) #[])
  :: (nat_lit 144, Obj.mk (Value.type "code") (none : Option Nat) (Data.fields #[Value.str (Str.ofString "set_child") (360 : Nat), Value.str (Str.ofString "Branch.set_child") (361 : Nat), Value.str (Str.ofString "/claim/cut.py") (362 : Nat), Value.int 52 (0 : Nat), Value.int 3 (0 : Nat), Value.int 0 (0 : Nat), Value.int 0 (0 : Nat), Value.int 3 (0 : Nat), Value.ref (139 : Nat), Value.bool true, Value.int 181 (0 : Nat), Value.ref (140 : Nat), Value.none, Value.ref (141 : Nat), Value.ref (142 : Nat), Value.ref (143 : Nat), Value.int 366 (0 : Nat), Value.int 52 (0 : Nat), Value.str (Str.ofString "/claim/cut.py") (367 : Nat)]) #[])
  :: (nat_lit 145, Obj.mk (Value.type "function") (none : Option Nat) (Data.func (FuncData.mk (Str.ofString "set_child") (Str.ofString "Branch.set_child") a12x2 (FuncBody.stmts b12x2) c12x2 (3 : Nat) [] Value.none Value.none Value.none (Value.str (Str.ofString "thinstack.routes") (241 : Nat)) (none : Option Nat) (Value.ref (144 : Nat)) Value.none (0 : Nat))) #[])
  :: (nat_lit 146, Obj.mk (Value.type "tuple") (none : Option Nat) (Data.seq #[]) #[])
  :: (nat_lit 148, Obj.mk (Value.type "tuple") (none : Option Nat) (Data.seq #[Value.str (Str.ofString "self") (372 : Nat)]) #[])
  :: (nat_lit 149, Obj.mk (Value.type "tuple") (none : Option Nat) (Data.seq #[]) #[])
  :: (nat_lit 151, Obj.mk (Value.type "code") (none : Option Nat) (Data.fields #[Value.str (Str.ofString "is_bare") (369 : Nat), Value.str (Str.ofString "Branch.is_bare") (370 : Nat), Value.str (Str.ofString "/claim/cut.py") (371 : Nat), Value.int 58 (0 : Nat), Value.int 1 (0 : Nat), Value.int 0 (0 : Nat), Value.int 0 (0 : Nat), Value.int 3 (0 : Nat), Value.ref (146 : Nat), Value.bool true, Value.int 181 (0 : Nat), Value.ref (147 : Nat), Value.none, Value.ref (148 : Nat), Value.ref (149 : Nat), Value.ref (150 : Nat), Value.int 373 (0 : Nat), Value.int 58 (0 : Nat), Value.str (Str.ofString "/claim/cut.py") (374 : Nat)]) #[])
  :: (nat_lit 152, Obj.mk (Value.type "function") (none : Option Nat) (Data.func (FuncData.mk (Str.ofString "is_bare") (Str.ofString "Branch.is_bare") a12x3 (FuncBody.stmts b12x3) c11x2 (3 : Nat) [] Value.none Value.none Value.none (Value.str (Str.ofString "thinstack.routes") (241 : Nat)) (none : Option Nat) (Value.ref (151 : Nat)) Value.none (0 : Nat))) #[])
  :: (nat_lit 153, Obj.mk (Value.type "tuple") (none : Option Nat) (Data.seq #[]) #[])
  :: (nat_lit 155, Obj.mk (Value.type "tuple") (none : Option Nat) (Data.seq #[Value.str (Str.ofString "self") (379 : Nat), Value.str (Str.ofString "found") (380 : Nat), Value.str (Str.ofString "route") (381 : Nat)]) #[])
  :: (nat_lit 156, Obj.mk (Value.type "tuple") (none : Option Nat) (Data.seq #[]) #[])
  :: (nat_lit 158, Obj.mk (Value.type "code") (none : Option Nat) (Data.fields #[Value.str (Str.ofString "best") (376 : Nat), Value.str (Str.ofString "Branch.best") (377 : Nat), Value.str (Str.ofString "/claim/cut.py") (378 : Nat), Value.int 61 (0 : Nat), Value.int 1 (0 : Nat), Value.int 0 (0 : Nat), Value.int 0 (0 : Nat), Value.int 3 (0 : Nat), Value.ref (153 : Nat), Value.bool true, Value.int 181 (0 : Nat), Value.ref (154 : Nat), Value.none, Value.ref (155 : Nat), Value.ref (156 : Nat), Value.ref (157 : Nat), Value.int 382 (0 : Nat), Value.int 61 (0 : Nat), Value.str (Str.ofString "/claim/cut.py") (383 : Nat)]) #[])
  :: (nat_lit 159, Obj.mk (Value.type "function") (none : Option Nat) (Data.func (FuncData.mk (Str.ofString "best") (Str.ofString "Branch.best") a12x4 (FuncBody.stmts b12x4) c12x4 (3 : Nat) [] Value.none Value.none Value.none (Value.str (Str.ofString "thinstack.routes") (241 : Nat)) (none : Option Nat) (Value.ref (158 : Nat)) Value.none (0 : Nat))) #[])
  :: (nat_lit 160, Obj.mk (Value.type "tuple") (none : Option Nat) (Data.seq #[Value.str (Str.ofString "one") (385 : Nat), Value.str (Str.ofString "routes") (386 : Nat), Value.str (Str.ofString "zero") (387 : Nat)]) #[])
  :: (nat_lit 161, Obj.mk (Value.type "dict") (none : Option Nat) (Data.dict #[DictEntry.mk (PyData.keyHash P (Str.ofString "__module__")) (Value.str (Str.ofString "__module__") (340 : Nat)) (Value.str (Str.ofString "thinstack.routes") (241 : Nat)), DictEntry.mk (PyData.keyHash P (Str.ofString "__firstlineno__")) (Value.str (Str.ofString "__firstlineno__") (344 : Nat)) (Value.int 40 (343 : Nat)), DictEntry.mk (PyData.keyHash P (Str.ofString "__init__")) (Value.str (Str.ofString "__init__") (351 : Nat)) (Value.ref (131 : Nat)), DictEntry.mk (PyData.keyHash P (Str.ofString "child")) (Value.str (Str.ofString "child") (359 : Nat)) (Value.ref (138 : Nat)), DictEntry.mk (PyData.keyHash P (Str.ofString "set_child")) (Value.str (Str.ofString "set_child") (368 : Nat)) (Value.ref (145 : Nat)), DictEntry.mk (PyData.keyHash P (Str.ofString "is_bare")) (Value.str (Str.ofString "is_bare") (375 : Nat)) (Value.ref (152 : Nat)), DictEntry.mk (PyData.keyHash P (Str.ofString "best")) (Value.str (Str.ofString "best") (384 : Nat)) (Value.ref (159 : Nat)), DictEntry.mk (PyData.keyHash P (Str.ofString "__static_attributes__")) (Value.str (Str.ofString "__static_attributes__") (388 : Nat)) (Value.ref (160 : Nat)), DictEntry.mk (PyData.keyHash P (Str.ofString "__dict__")) (Value.str (Str.ofString "__dict__") (390 : Nat)) (Value.ref (163 : Nat)), DictEntry.mk (PyData.keyHash P (Str.ofString "__weakref__")) (Value.str (Str.ofString "__weakref__") (392 : Nat)) (Value.ref (164 : Nat)), DictEntry.mk (PyData.keyHash P (Str.ofString "__doc__")) (Value.str (Str.ofString "__doc__") (393 : Nat)) Value.none] (4 : Nat)) #[])
  :: (nat_lit 162, Obj.mk (Value.type "type") (none : Option Nat) (Data.cls (ClassData.mk (Str.ofString "Branch") [Value.type "object"] [Value.ref (162 : Nat), Value.type "object"] (161 : Nat) (Str.ofString "Branch") true [] [] false none false)) #[none, none, some (Value.str (Str.ofString "Branch") (333 : Nat)), some (Value.str (Str.ofString "Branch") (341 : Nat)), some (Value.builtin "object.__new__"), some (Value.bool true)])
  :: (nat_lit 163, Obj.mk (Value.type "getset_descriptor") (none : Option Nat) (Data.fields #[Value.str (Str.ofString "__dict__") (389 : Nat), Value.ref (162 : Nat), Value.builtin "function.__dict__", Value.builtin "function.__dict__#set"]) #[])
  :: (nat_lit 164, Obj.mk (Value.type "getset_descriptor") (none : Option Nat) (Data.fields #[Value.str (Str.ofString "__weakref__") (391 : Nat), Value.ref (162 : Nat), Value.builtin "ExceptionGroup.__weakref__", Value.none]) #[])
  :: (nat_lit 167, Obj.mk (Value.type "tuple") (none : Option Nat) (Data.seq #[]) #[])
  :: (nat_lit 169, Obj.mk (Value.type "tuple") (none : Option Nat) (Data.seq #[Value.str (Str.ofString "address") (399 : Nat), Value.str (Str.ofString "place") (400 : Nat)]) #[])
  :: (nat_lit 170, Obj.mk (Value.type "tuple") (none : Option Nat) (Data.seq #[]) #[])
  :: (nat_lit 172, Obj.mk (Value.type "code") (none : Option Nat) (Data.fields #[Value.str (Str.ofString "bit_at") (396 : Nat), Value.str (Str.ofString "bit_at") (397 : Nat), Value.str (Str.ofString "/claim/cut.py") (398 : Nat), Value.int 67 (0 : Nat), Value.int 2 (0 : Nat), Value.int 0 (0 : Nat), Value.int 0 (0 : Nat), Value.int 3 (0 : Nat), Value.ref (167 : Nat), Value.bool true, Value.int 181 (0 : Nat), Value.ref (168 : Nat), Value.none, Value.ref (169 : Nat), Value.ref (170 : Nat), Value.ref (171 : Nat), Value.int 401 (0 : Nat), Value.int 67 (0 : Nat), Value.str (Str.ofString "/claim/cut.py") (402 : Nat)]) #[])
  :: (nat_lit 173, Obj.mk (Value.type "function") (none : Option Nat) (Data.func (FuncData.mk (Str.ofString "bit_at") (Str.ofString "bit_at") a13 (FuncBody.stmts b13) c13 (3 : Nat) [] Value.none Value.none Value.none (Value.str (Str.ofString "thinstack.routes") (241 : Nat)) (none : Option Nat) (Value.ref (172 : Nat)) Value.none (0 : Nat))) #[])
  :: (nat_lit 181, Obj.mk (Value.type "tuple") (none : Option Nat) (Data.seq #[]) #[])
  :: (nat_lit 183, Obj.mk (Value.type "tuple") (none : Option Nat) (Data.seq #[Value.str (Str.ofString "self") (419 : Nat)]) #[])
  :: (nat_lit 184, Obj.mk (Value.type "tuple") (none : Option Nat) (Data.seq #[]) #[])
  :: (nat_lit 186, Obj.mk (Value.type "code") (none : Option Nat) (Data.fields #[Value.str (Str.ofString "__init__") (416 : Nat), Value.str (Str.ofString "Routes.__init__") (417 : Nat), Value.str (Str.ofString "/claim/cut.py") (418 : Nat), Value.int 71 (0 : Nat), Value.int 1 (0 : Nat), Value.int 0 (0 : Nat), Value.int 0 (0 : Nat), Value.int 3 (0 : Nat), Value.ref (181 : Nat), Value.bool true, Value.int 181 (0 : Nat), Value.ref (182 : Nat), Value.none, Value.ref (183 : Nat), Value.ref (184 : Nat), Value.ref (185 : Nat), Value.int 420 (0 : Nat), Value.int 71 (0 : Nat), Value.str (Str.ofString "/claim/cut.py") (421 : Nat)]) #[])
  :: (nat_lit 187, Obj.mk (Value.type "function") (none : Option Nat) (Data.func (FuncData.mk (Str.ofString "__init__") (Str.ofString "Routes.__init__") a14x0 (FuncBody.stmts b14x0) c14x0 (3 : Nat) [] Value.none Value.none Value.none (Value.str (Str.ofString "thinstack.routes") (241 : Nat)) (none : Option Nat) (Value.ref (186 : Nat)) Value.none (0 : Nat))) #[])
  :: (nat_lit 188, Obj.mk (Value.type "tuple") (none : Option Nat) (Data.seq #[]) #[])
  :: (nat_lit 190, Obj.mk (Value.type "tuple") (none : Option Nat) (Data.seq #[Value.str (Str.ofString "self") (426 : Nat)]) #[])
  :: (nat_lit 191, Obj.mk (Value.type "tuple") (none : Option Nat) (Data.seq #[]) #[])
  :: (nat_lit 193, Obj.mk (Value.type "code") (none : Option Nat) (Data.fields #[Value.str (Str.ofString "size") (423 : Nat), Value.str (Str.ofString "Routes.size") (424 : Nat), Value.str (Str.ofString "/claim/cut.py") (425 : Nat), Value.int 75 (0 : Nat), Value.int 1 (0 : Nat), Value.int 0 (0 : Nat), Value.int 0 (0 : Nat), Value.int 3 (0 : Nat), Value.ref (188 : Nat), Value.bool true, Value.int 181 (0 : Nat), Value.ref (189 : Nat), Value.none, Value.ref (190 : Nat), Value.ref (191 : Nat), Value.ref (192 : Nat), Value.int 427 (0 : Nat), Value.int 75 (0 : Nat), Value.str (Str.ofString "/claim/cut.py") (428 : Nat)]) #[])
  :: (nat_lit 194, Obj.mk (Value.type "function") (none : Option Nat) (Data.func (FuncData.mk (Str.ofString "size") (Str.ofString "Routes.size") a14x1 (FuncBody.stmts b14x1) c11x2 (3 : Nat) [] Value.none Value.none Value.none (Value.str (Str.ofString "thinstack.routes") (241 : Nat)) (none : Option Nat) (Value.ref (193 : Nat)) Value.none (0 : Nat))) #[])
  :: (nat_lit 195, Obj.mk (Value.type "tuple") (none : Option Nat) (Data.seq #[]) #[])
  :: (nat_lit 197, Obj.mk (Value.type "tuple") (none : Option Nat) (Data.seq #[Value.str (Str.ofString "self") (433 : Nat), Value.str (Str.ofString "net") (434 : Nat), Value.str (Str.ofString "prefix") (435 : Nat), Value.str (Str.ofString "makes") (436 : Nat), Value.str (Str.ofString "found") (437 : Nat), Value.str (Str.ofString "place") (438 : Nat), Value.str (Str.ofString "bit") (439 : Nat), Value.str (Str.ofString "later") (440 : Nat)]) #[])
  :: (nat_lit 198, Obj.mk (Value.type "tuple") (none : Option Nat) (Data.seq #[]) #[])
  :: (nat_lit 200, Obj.mk (Value.type "code") (none : Option Nat) (Data.fields #[Value.str (Str.ofString "path") (430 : Nat), Value.str (Str.ofString "Routes.path") (431 : Nat), Value.str (Str.ofString "/claim/cut.py") (432 : Nat), Value.int 78 (0 : Nat), Value.int 4 (0 : Nat), Value.int 0 (0 : Nat), Value.int 0 (0 : Nat), Value.int 3 (0 : Nat), Value.ref (195 : Nat), Value.bool true, Value.int 181 (0 : Nat), Value.ref (196 : Nat), Value.none, Value.ref (197 : Nat), Value.ref (198 : Nat), Value.ref (199 : Nat), Value.int 441 (0 : Nat), Value.int 78 (0 : Nat), Value.str (Str.ofString "/claim/cut.py") (442 : Nat)]) #[])
  :: (nat_lit 201, Obj.mk (Value.type "function") (none : Option Nat) (Data.func (FuncData.mk (Str.ofString "path") (Str.ofString "Routes.path") a14x2 (FuncBody.stmts b14x2) c14x2 (3 : Nat) [] Value.none Value.none Value.none (Value.str (Str.ofString "thinstack.routes") (241 : Nat)) (none : Option Nat) (Value.ref (200 : Nat)) Value.none (0 : Nat))) #[])
  :: (nat_lit 202, Obj.mk (Value.type "tuple") (none : Option Nat) (Data.seq #[]) #[])
  :: (nat_lit 204, Obj.mk (Value.type "tuple") (none : Option Nat) (Data.seq #[Value.str (Str.ofString "self") (447 : Nat), Value.str (Str.ofString "route") (448 : Nat), Value.str (Str.ofString "net") (449 : Nat), Value.str (Str.ofString "branch") (450 : Nat), Value.str (Str.ofString "at") (451 : Nat), Value.str (Str.ofString "other") (452 : Nat)]) #[])
  :: (nat_lit 205, Obj.mk (Value.type "tuple") (none : Option Nat) (Data.seq #[]) #[])
  :: (nat_lit 207, Obj.mk (Value.type "code") (none : Option Nat) (Data.fields #[Value.str (Str.ofString "add") (444 : Nat), Value.str (Str.ofString "Routes.add") (445 : Nat), Value.str (Str.ofString "/claim/cut.py") (446 : Nat), Value.int 91 (0 : Nat), Value.int 2 (0 : Nat), Value.int 0 (0 : Nat), Value.int 0 (0 : Nat), Value.int 3 (0 : Nat), Value.ref (202 : Nat), Value.bool true, Value.int 181 (0 : Nat), Value.ref (203 : Nat), Value.none, Value.ref (204 : Nat), Value.ref (205 : Nat), Value.ref (206 : Nat), Value.int 453 (0 : Nat), Value.int 91 (0 : Nat), Value.str (Str.ofString "/claim/cut.py") (454 : Nat)]) #[])
  :: (nat_lit 208, Obj.mk (Value.type "function") (none : Option Nat) (Data.func (FuncData.mk (Str.ofString "add") (Str.ofString "Routes.add") a14x3 (FuncBody.stmts b14x3) c14x3 (3 : Nat) [] Value.none Value.none Value.none (Value.str (Str.ofString "thinstack.routes") (241 : Nat)) (none : Option Nat) (Value.ref (207 : Nat)) Value.none (0 : Nat))) #[])
  :: (nat_lit 209, Obj.mk (Value.type "tuple") (none : Option Nat) (Data.seq #[]) #[])
  :: (nat_lit 211, Obj.mk (Value.type "tuple") (none : Option Nat) (Data.seq #[Value.str (Str.ofString "self") (459 : Nat), Value.str (Str.ofString "net") (460 : Nat), Value.str (Str.ofString "prefix") (461 : Nat), Value.str (Str.ofString "path") (462 : Nat), Value.str (Str.ofString "many") (463 : Nat)]) #[])
  :: (nat_lit 212, Obj.mk (Value.type "tuple") (none : Option Nat) (Data.seq #[]) #[])
  :: (nat_lit 214, Obj.mk (Value.type "code") (none : Option Nat) (Data.fields #[Value.str (Str.ofString "remove") (456 : Nat), Value.str (Str.ofString "Routes.remove") (457 : Nat), Value.str (Str.ofString "/claim/cut.py") (458 : Nat), Value.int 106 (0 : Nat), Value.int 3 (0 : Nat), Value.int 0 (0 : Nat), Value.int 0 (0 : Nat), Value.int 3 (0 : Nat), Value.ref (209 : Nat), Value.bool true, Value.int 181 (0 : Nat), Value.ref (210 : Nat), Value.none, Value.ref (211 : Nat), Value.ref (212 : Nat), Value.ref (213 : Nat), Value.int 464 (0 : Nat), Value.int 106 (0 : Nat), Value.str (Str.ofString "/claim/cut.py") (465 : Nat)]) #[])
  :: (nat_lit 215, Obj.mk (Value.type "function") (none : Option Nat) (Data.func (FuncData.mk (Str.ofString "remove") (Str.ofString "Routes.remove") a14x4 (FuncBody.stmts b14x4) c14x4 (3 : Nat) [] Value.none Value.none Value.none (Value.str (Str.ofString "thinstack.routes") (241 : Nat)) (none : Option Nat) (Value.ref (214 : Nat)) Value.none (0 : Nat))) #[])
  :: (nat_lit 216, Obj.mk (Value.type "tuple") (none : Option Nat) (Data.seq #[]) #[])
  :: (nat_lit 219, Obj.mk (Value.type "code") (none : Option Nat) (Data.fields #[Value.str (Str.ofString "remove_face") (467 : Nat), Value.str (Str.ofString "Routes.remove_face") (468 : Nat), Value.str (Str.ofString "/claim/cut.py") (469 : Nat), Value.int 117 (0 : Nat), Value.int 2 (0 : Nat), Value.int 0 (0 : Nat), Value.int 0 (0 : Nat), Value.int 3 (0 : Nat), Value.ref (216 : Nat), Value.bool true, Value.int 181 (0 : Nat), Value.ref (217 : Nat), Value.none, Value.none, Value.none, Value.ref (218 : Nat), Value.int 470 (0 : Nat), Value.int 117 (0 : Nat), Value.str (Str.ofString "/claim/cut.py") (471 : Nat)]) #[])
  :: (nat_lit 220, Obj.mk (Value.type "function") (none : Option Nat) (Data.func (FuncData.mk (Str.ofString "remove_face") (Str.ofString "Routes.remove_face") a14x5 (FuncBody.stmts b14x5) c14x5 (3 : Nat) [] Value.none Value.none Value.none (Value.str (Str.ofString "thinstack.routes") (241 : Nat)) (none : Option Nat) (Value.ref (219 : Nat)) Value.none (0 : Nat))) #[])
  :: (nat_lit 221, Obj.mk (Value.type "tuple") (none : Option Nat) (Data.seq #[]) #[])
  :: (nat_lit 223, Obj.mk (Value.type "tuple") (none : Option Nat) (Data.seq #[Value.str (Str.ofString "self") (476 : Nat), Value.str (Str.ofString "net") (477 : Nat), Value.str (Str.ofString "path") (478 : Nat), Value.str (Str.ofString "at") (479 : Nat)]) #[])
  :: (nat_lit 224, Obj.mk (Value.type "tuple") (none : Option Nat) (Data.seq #[]) #[])
  :: (nat_lit 226, Obj.mk (Value.type "code") (none : Option Nat) (Data.fields #[Value.str (Str.ofString "prune") (473 : Nat), Value.str (Str.ofString "Routes.prune") (474 : Nat), Value.str (Str.ofString "/claim/cut.py") (475 : Nat), Value.int 128 (0 : Nat), Value.int 3 (0 : Nat), Value.int 0 (0 : Nat), Value.int 0 (0 : Nat), Value.int 3 (0 : Nat), Value.ref (221 : Nat), Value.bool true, Value.int 181 (0 : Nat), Value.ref (222 : Nat), Value.none, Value.ref (223 : Nat), Value.ref (224 : Nat), Value.ref (225 : Nat), Value.int 480 (0 : Nat), Value.int 128 (0 : Nat), Value.str (Str.ofString "/claim/cut.py") (481 : Nat)]) #[])
  :: (nat_lit 227, Obj.mk (Value.type "function") (none : Option Nat) (Data.func (FuncData.mk (Str.ofString "prune") (Str.ofString "Routes.prune") a14x6 (FuncBody.stmts b14x6) c14x6 (3 : Nat) [] Value.none Value.none Value.none (Value.str (Str.ofString "thinstack.routes") (241 : Nat)) (none : Option Nat) (Value.ref (226 : Nat)) Value.none (0 : Nat))) #[])
  :: (nat_lit 228, Obj.mk (Value.type "tuple") (none : Option Nat) (Data.seq #[]) #[])
  :: (nat_lit 230, Obj.mk (Value.type "tuple") (none : Option Nat) (Data.seq #[Value.str (Str.ofString "self") (486 : Nat), Value.str (Str.ofString "address") (487 : Nat)]) #[])
  :: (nat_lit 231, Obj.mk (Value.type "tuple") (none : Option Nat) (Data.seq #[]) #[])
  :: (nat_lit 233, Obj.mk (Value.type "code") (none : Option Nat) (Data.fields #[Value.str (Str.ofString "find") (483 : Nat), Value.str (Str.ofString "Routes.find") (484 : Nat), Value.str (Str.ofString "/claim/cut.py") (485 : Nat), Value.int 134 (0 : Nat), Value.int 2 (0 : Nat), Value.int 0 (0 : Nat), Value.int 0 (0 : Nat), Value.int 3 (0 : Nat), Value.ref (228 : Nat), Value.bool true, Value.int 181 (0 : Nat), Value.ref (229 : Nat), Value.none, Value.ref (230 : Nat), Value.ref (231 : Nat), Value.ref (232 : Nat), Value.int 488 (0 : Nat), Value.int 134 (0 : Nat), Value.str (Str.ofString "/claim/cut.py") (489 : Nat)]) #[])
  :: (nat_lit 234, Obj.mk (Value.type "function") (none : Option Nat) (Data.func (FuncData.mk (Str.ofString "find") (Str.ofString "Routes.find") a14x7 (FuncBody.stmts b14x7) c14x7 (3 : Nat) [] Value.none Value.none Value.none (Value.str (Str.ofString "thinstack.routes") (241 : Nat)) (none : Option Nat) (Value.ref (233 : Nat)) Value.none (0 : Nat))) #[])
  :: (nat_lit 235, Obj.mk (Value.type "tuple") (none : Option Nat) (Data.seq #[]) #[])
  :: (nat_lit 237, Obj.mk (Value.type "tuple") (none : Option Nat) (Data.seq #[Value.str (Str.ofString "self") (494 : Nat), Value.str (Str.ofString "found") (495 : Nat), Value.str (Str.ofString "left") (496 : Nat), Value.str (Str.ofString "branch") (497 : Nat)]) #[])
  :: (nat_lit 238, Obj.mk (Value.type "tuple") (none : Option Nat) (Data.seq #[]) #[])
  :: (nat_lit 240, Obj.mk (Value.type "code") (none : Option Nat) (Data.fields #[Value.str (Str.ofString "rows") (491 : Nat), Value.str (Str.ofString "Routes.rows") (492 : Nat), Value.str (Str.ofString "/claim/cut.py") (493 : Nat), Value.int 137 (0 : Nat), Value.int 1 (0 : Nat), Value.int 0 (0 : Nat), Value.int 0 (0 : Nat), Value.int 3 (0 : Nat), Value.ref (235 : Nat), Value.bool true, Value.int 181 (0 : Nat), Value.ref (236 : Nat), Value.none, Value.ref (237 : Nat), Value.ref (238 : Nat), Value.ref (239 : Nat), Value.int 498 (0 : Nat), Value.int 137 (0 : Nat), Value.str (Str.ofString "/claim/cut.py") (499 : Nat)]) #[])
  :: (nat_lit 241, Obj.mk (Value.type "function") (none : Option Nat) (Data.func (FuncData.mk (Str.ofString "rows") (Str.ofString "Routes.rows") a14x8 (FuncBody.stmts b14x8) c14x8 (3 : Nat) [] Value.none Value.none Value.none (Value.str (Str.ofString "thinstack.routes") (241 : Nat)) (none : Option Nat) (Value.ref (240 : Nat)) Value.none (0 : Nat))) #[])
  :: (nat_lit 242, Obj.mk (Value.type "tuple") (none : Option Nat) (Data.seq #[Value.str (Str.ofString "many") (501 : Nat), Value.str (Str.ofString "root") (502 : Nat)]) #[])
  :: (nat_lit 243, Obj.mk (Value.type "dict") (none : Option Nat) (Data.dict #[DictEntry.mk (PyData.keyHash P (Str.ofString "__module__")) (Value.str (Str.ofString "__module__") (411 : Nat)) (Value.str (Str.ofString "thinstack.routes") (241 : Nat)), DictEntry.mk (PyData.keyHash P (Str.ofString "__firstlineno__")) (Value.str (Str.ofString "__firstlineno__") (415 : Nat)) (Value.int 69 (414 : Nat)), DictEntry.mk (PyData.keyHash P (Str.ofString "__init__")) (Value.str (Str.ofString "__init__") (422 : Nat)) (Value.ref (187 : Nat)), DictEntry.mk (PyData.keyHash P (Str.ofString "size")) (Value.str (Str.ofString "size") (429 : Nat)) (Value.ref (194 : Nat)), DictEntry.mk (PyData.keyHash P (Str.ofString "path")) (Value.str (Str.ofString "path") (443 : Nat)) (Value.ref (201 : Nat)), DictEntry.mk (PyData.keyHash P (Str.ofString "add")) (Value.str (Str.ofString "add") (455 : Nat)) (Value.ref (208 : Nat)), DictEntry.mk (PyData.keyHash P (Str.ofString "remove")) (Value.str (Str.ofString "remove") (466 : Nat)) (Value.ref (215 : Nat)), DictEntry.mk (PyData.keyHash P (Str.ofString "remove_face")) (Value.str (Str.ofString "remove_face") (472 : Nat)) (Value.ref (220 : Nat)), DictEntry.mk (PyData.keyHash P (Str.ofString "prune")) (Value.str (Str.ofString "prune") (482 : Nat)) (Value.ref (227 : Nat)), DictEntry.mk (PyData.keyHash P (Str.ofString "find")) (Value.str (Str.ofString "find") (490 : Nat)) (Value.ref (234 : Nat)), DictEntry.mk (PyData.keyHash P (Str.ofString "rows")) (Value.str (Str.ofString "rows") (500 : Nat)) (Value.ref (241 : Nat)), DictEntry.mk (PyData.keyHash P (Str.ofString "__static_attributes__")) (Value.str (Str.ofString "__static_attributes__") (503 : Nat)) (Value.ref (242 : Nat)), DictEntry.mk (PyData.keyHash P (Str.ofString "__dict__")) (Value.str (Str.ofString "__dict__") (505 : Nat)) (Value.ref (245 : Nat)), DictEntry.mk (PyData.keyHash P (Str.ofString "__weakref__")) (Value.str (Str.ofString "__weakref__") (507 : Nat)) (Value.ref (246 : Nat)), DictEntry.mk (PyData.keyHash P (Str.ofString "__doc__")) (Value.str (Str.ofString "__doc__") (508 : Nat)) Value.none] (4 : Nat)) #[])
  :: (nat_lit 244, Obj.mk (Value.type "type") (none : Option Nat) (Data.cls (ClassData.mk (Str.ofString "Routes") [Value.type "object"] [Value.ref (244 : Nat), Value.type "object"] (243 : Nat) (Str.ofString "Routes") true [] [] false none false)) #[none, none, some (Value.str (Str.ofString "Routes") (404 : Nat)), some (Value.str (Str.ofString "Routes") (412 : Nat)), some (Value.builtin "object.__new__"), some (Value.bool true)])
  :: (nat_lit 245, Obj.mk (Value.type "getset_descriptor") (none : Option Nat) (Data.fields #[Value.str (Str.ofString "__dict__") (504 : Nat), Value.ref (244 : Nat), Value.builtin "function.__dict__", Value.builtin "function.__dict__#set"]) #[])
  :: (nat_lit 246, Obj.mk (Value.type "getset_descriptor") (none : Option Nat) (Data.fields #[Value.str (Str.ofString "__weakref__") (506 : Nat), Value.ref (244 : Nat), Value.builtin "ExceptionGroup.__weakref__", Value.none]) #[])
  :: (nat_lit 249, Obj.mk (Value.type "tuple") (none : Option Nat) (Data.seq #[]) #[])
  :: (nat_lit 251, Obj.mk (Value.type "tuple") (none : Option Nat) (Data.seq #[Value.str (Str.ofString "script") (516 : Nat), Value.str (Str.ofString "k") (517 : Nat), Value.str (Str.ofString "cell") (518 : Nat), Value.str (Str.ofString "big") (519 : Nat), Value.str (Str.ofString "mixed") (520 : Nat)]) #[])
  :: (nat_lit 252, Obj.mk (Value.type "tuple") (none : Option Nat) (Data.seq #[]) #[])
  :: (nat_lit 254, Obj.mk (Value.type "code") (none : Option Nat) (Data.fields #[Value.str (Str.ofString "_law_pool") (513 : Nat), Value.str (Str.ofString "_law_pool") (514 : Nat), Value.str (Str.ofString "/claim/cut.py") (515 : Nat), Value.int 149 (0 : Nat), Value.int 2 (0 : Nat), Value.int 0 (0 : Nat), Value.int 0 (0 : Nat), Value.int 3 (0 : Nat), Value.ref (249 : Nat), Value.bool true, Value.int 181 (0 : Nat), Value.ref (250 : Nat), Value.none, Value.ref (251 : Nat), Value.ref (252 : Nat), Value.ref (253 : Nat), Value.int 521 (0 : Nat), Value.int 149 (0 : Nat), Value.str (Str.ofString "/claim/cut.py") (522 : Nat)]) #[])
  :: (nat_lit 255, Obj.mk (Value.type "function") (none : Option Nat) (Data.func (FuncData.mk (Str.ofString "_law_pool") (Str.ofString "_law_pool") a16 (FuncBody.stmts b16) c16 (3 : Nat) [] Value.none Value.none Value.none (Value.str (Str.ofString "law_on0341_01") (511 : Nat)) (none : Option Nat) (Value.ref (254 : Nat)) Value.none (0 : Nat))) #[])
  :: (nat_lit 256, Obj.mk (Value.type "tuple") (none : Option Nat) (Data.seq #[]) #[])
  :: (nat_lit 258, Obj.mk (Value.type "tuple") (none : Option Nat) (Data.seq #[Value.str (Str.ofString "source") (527 : Nat), Value.str (Str.ofString "top") (528 : Nat), Value.str (Str.ofString "drawn") (529 : Nat)]) #[])
  :: (nat_lit 259, Obj.mk (Value.type "tuple") (none : Option Nat) (Data.seq #[]) #[])
  :: (nat_lit 261, Obj.mk (Value.type "code") (none : Option Nat) (Data.fields #[Value.str (Str.ofString "_law_take") (524 : Nat), Value.str (Str.ofString "_law_take") (525 : Nat), Value.str (Str.ofString "/claim/cut.py") (526 : Nat), Value.int 156 (0 : Nat), Value.int 2 (0 : Nat), Value.int 0 (0 : Nat), Value.int 0 (0 : Nat), Value.int 3 (0 : Nat), Value.ref (256 : Nat), Value.bool true, Value.int 181 (0 : Nat), Value.ref (257 : Nat), Value.none, Value.ref (258 : Nat), Value.ref (259 : Nat), Value.ref (260 : Nat), Value.int 530 (0 : Nat), Value.int 156 (0 : Nat), Value.str (Str.ofString "/claim/cut.py") (531 : Nat)]) #[])
  :: (nat_lit 262, Obj.mk (Value.type "function") (none : Option Nat) (Data.func (FuncData.mk (Str.ofString "_law_take") (Str.ofString "_law_take") a17 (FuncBody.stmts b17) c17 (3 : Nat) [] Value.none Value.none Value.none (Value.str (Str.ofString "law_on0341_01") (511 : Nat)) (none : Option Nat) (Value.ref (261 : Nat)) Value.none (0 : Nat))) #[])
  :: (nat_lit 263, Obj.mk (Value.type "tuple") (none : Option Nat) (Data.seq #[]) #[])
  :: (nat_lit 265, Obj.mk (Value.type "tuple") (none : Option Nat) (Data.seq #[Value.str (Str.ofString "source") (536 : Nat), Value.str (Str.ofString "things") (537 : Nat)]) #[])
  :: (nat_lit 266, Obj.mk (Value.type "tuple") (none : Option Nat) (Data.seq #[]) #[])
  :: (nat_lit 268, Obj.mk (Value.type "code") (none : Option Nat) (Data.fields #[Value.str (Str.ofString "_law_one") (533 : Nat), Value.str (Str.ofString "_law_one") (534 : Nat), Value.str (Str.ofString "/claim/cut.py") (535 : Nat), Value.int 163 (0 : Nat), Value.int 2 (0 : Nat), Value.int 0 (0 : Nat), Value.int 0 (0 : Nat), Value.int 3 (0 : Nat), Value.ref (263 : Nat), Value.bool true, Value.int 181 (0 : Nat), Value.ref (264 : Nat), Value.none, Value.ref (265 : Nat), Value.ref (266 : Nat), Value.ref (267 : Nat), Value.int 538 (0 : Nat), Value.int 163 (0 : Nat), Value.str (Str.ofString "/claim/cut.py") (539 : Nat)]) #[])
  :: (nat_lit 269, Obj.mk (Value.type "function") (none : Option Nat) (Data.func (FuncData.mk (Str.ofString "_law_one") (Str.ofString "_law_one") a18 (FuncBody.stmts b18) c18 (3 : Nat) [] Value.none Value.none Value.none (Value.str (Str.ofString "law_on0341_01") (511 : Nat)) (none : Option Nat) (Value.ref (268 : Nat)) Value.none (0 : Nat))) #[])
  :: (nat_lit 270, Obj.mk (Value.type "tuple") (none : Option Nat) (Data.seq #[]) #[])
  :: (nat_lit 273, Obj.mk (Value.type "code") (none : Option Nat) (Data.fields #[Value.str (Str.ofString "_law_bits") (541 : Nat), Value.str (Str.ofString "_law_bits") (542 : Nat), Value.str (Str.ofString "/claim/cut.py") (543 : Nat), Value.int 165 (0 : Nat), Value.int 1 (0 : Nat), Value.int 0 (0 : Nat), Value.int 0 (0 : Nat), Value.int 3 (0 : Nat), Value.ref (270 : Nat), Value.bool true, Value.int 181 (0 : Nat), Value.ref (271 : Nat), Value.none, Value.none, Value.none, Value.ref (272 : Nat), Value.int 544 (0 : Nat), Value.int 165 (0 : Nat), Value.str (Str.ofString "/claim/cut.py") (545 : Nat)]) #[])
  :: (nat_lit 274, Obj.mk (Value.type "function") (none : Option Nat) (Data.func (FuncData.mk (Str.ofString "_law_bits") (Str.ofString "_law_bits") a19 (FuncBody.stmts b19) c19 (3 : Nat) [] Value.none Value.none Value.none (Value.str (Str.ofString "law_on0341_01") (511 : Nat)) (none : Option Nat) (Value.ref (273 : Nat)) Value.none (0 : Nat))) #[])
  :: (nat_lit 275, Obj.mk (Value.type "tuple") (none : Option Nat) (Data.seq #[]) #[])
  :: (nat_lit 277, Obj.mk (Value.type "tuple") (none : Option Nat) (Data.seq #[Value.str (Str.ofString "source") (550 : Nat)]) #[])
  :: (nat_lit 278, Obj.mk (Value.type "tuple") (none : Option Nat) (Data.seq #[]) #[])
  :: (nat_lit 280, Obj.mk (Value.type "code") (none : Option Nat) (Data.fields #[Value.str (Str.ofString "_law_address") (547 : Nat), Value.str (Str.ofString "_law_address") (548 : Nat), Value.str (Str.ofString "/claim/cut.py") (549 : Nat), Value.int 167 (0 : Nat), Value.int 1 (0 : Nat), Value.int 0 (0 : Nat), Value.int 0 (0 : Nat), Value.int 3 (0 : Nat), Value.ref (275 : Nat), Value.bool true, Value.int 181 (0 : Nat), Value.ref (276 : Nat), Value.none, Value.ref (277 : Nat), Value.ref (278 : Nat), Value.ref (279 : Nat), Value.int 551 (0 : Nat), Value.int 167 (0 : Nat), Value.str (Str.ofString "/claim/cut.py") (552 : Nat)]) #[])
  :: (nat_lit 281, Obj.mk (Value.type "function") (none : Option Nat) (Data.func (FuncData.mk (Str.ofString "_law_address") (Str.ofString "_law_address") a20 (FuncBody.stmts b20) c20 (3 : Nat) [] Value.none Value.none Value.none (Value.str (Str.ofString "law_on0341_01") (511 : Nat)) (none : Option Nat) (Value.ref (280 : Nat)) Value.none (0 : Nat))) #[])
  :: (nat_lit 282, Obj.mk (Value.type "tuple") (none : Option Nat) (Data.seq #[]) #[])
  :: (nat_lit 284, Obj.mk (Value.type "tuple") (none : Option Nat) (Data.seq #[Value.str (Str.ofString "source") (557 : Nat), Value.str (Str.ofString "prefix") (558 : Nat), Value.str (Str.ofString "address") (559 : Nat)]) #[])
  :: (nat_lit 285, Obj.mk (Value.type "tuple") (none : Option Nat) (Data.seq #[]) #[])
  :: (nat_lit 287, Obj.mk (Value.type "code") (none : Option Nat) (Data.fields #[Value.str (Str.ofString "_law_net") (554 : Nat), Value.str (Str.ofString "_law_net") (555 : Nat), Value.str (Str.ofString "/claim/cut.py") (556 : Nat), Value.int 169 (0 : Nat), Value.int 1 (0 : Nat), Value.int 0 (0 : Nat), Value.int 0 (0 : Nat), Value.int 3 (0 : Nat), Value.ref (282 : Nat), Value.bool true, Value.int 181 (0 : Nat), Value.ref (283 : Nat), Value.none, Value.ref (284 : Nat), Value.ref (285 : Nat), Value.ref (286 : Nat), Value.int 560 (0 : Nat), Value.int 169 (0 : Nat), Value.str (Str.ofString "/claim/cut.py") (561 : Nat)]) #[])
  :: (nat_lit 288, Obj.mk (Value.type "function") (none : Option Nat) (Data.func (FuncData.mk (Str.ofString "_law_net") (Str.ofString "_law_net") a21 (FuncBody.stmts b21) c21 (3 : Nat) [] Value.none Value.none Value.none (Value.str (Str.ofString "law_on0341_01") (511 : Nat)) (none : Option Nat) (Value.ref (287 : Nat)) Value.none (0 : Nat))) #[])
  :: (nat_lit 289, Obj.mk (Value.type "tuple") (none : Option Nat) (Data.seq #[]) #[])
  :: (nat_lit 291, Obj.mk (Value.type "tuple") (none : Option Nat) (Data.seq #[Value.str (Str.ofString "table") (566 : Nat), Value.str (Str.ofString "found") (567 : Nat), Value.str (Str.ofString "left") (568 : Nat), Value.str (Str.ofString "branch") (569 : Nat), Value.str (Str.ofString "text") (570 : Nat), Value.str (Str.ofString "bit") (571 : Nat)]) #[])
  :: (nat_lit 292, Obj.mk (Value.type "tuple") (none : Option Nat) (Data.seq #[]) #[])
  :: (nat_lit 294, Obj.mk (Value.type "code") (none : Option Nat) (Data.fields #[Value.str (Str.ofString "_law_branches") (563 : Nat), Value.str (Str.ofString "_law_branches") (564 : Nat), Value.str (Str.ofString "/claim/cut.py") (565 : Nat), Value.int 173 (0 : Nat), Value.int 1 (0 : Nat), Value.int 0 (0 : Nat), Value.int 0 (0 : Nat), Value.int 3 (0 : Nat), Value.ref (289 : Nat), Value.bool true, Value.int 181 (0 : Nat), Value.ref (290 : Nat), Value.none, Value.ref (291 : Nat), Value.ref (292 : Nat), Value.ref (293 : Nat), Value.int 572 (0 : Nat), Value.int 173 (0 : Nat), Value.str (Str.ofString "/claim/cut.py") (573 : Nat)]) #[])
  :: (nat_lit 295, Obj.mk (Value.type "function") (none : Option Nat) (Data.func (FuncData.mk (Str.ofString "_law_branches") (Str.ofString "_law_branches") a22 (FuncBody.stmts b22) c22 (3 : Nat) [] Value.none Value.none Value.none (Value.str (Str.ofString "law_on0341_01") (511 : Nat)) (none : Option Nat) (Value.ref (294 : Nat)) Value.none (0 : Nat))) #[])
  :: (nat_lit 296, Obj.mk (Value.type "tuple") (none : Option Nat) (Data.seq #[]) #[])
  :: (nat_lit 299, Obj.mk (Value.type "code") (none : Option Nat) (Data.fields #[Value.str (Str.ofString "_law_due") (575 : Nat), Value.str (Str.ofString "_law_due") (576 : Nat), Value.str (Str.ofString "/claim/cut.py") (577 : Nat), Value.int 182 (0 : Nat), Value.int 1 (0 : Nat), Value.int 0 (0 : Nat), Value.int 0 (0 : Nat), Value.int 3 (0 : Nat), Value.ref (296 : Nat), Value.bool true, Value.int 181 (0 : Nat), Value.ref (297 : Nat), Value.none, Value.none, Value.none, Value.ref (298 : Nat), Value.int 578 (0 : Nat), Value.int 182 (0 : Nat), Value.str (Str.ofString "/claim/cut.py") (579 : Nat)]) #[])
  :: (nat_lit 300, Obj.mk (Value.type "function") (none : Option Nat) (Data.func (FuncData.mk (Str.ofString "_law_due") (Str.ofString "_law_due") a23 (FuncBody.stmts b23) c23 (3 : Nat) [] Value.none Value.none Value.none (Value.str (Str.ofString "law_on0341_01") (511 : Nat)) (none : Option Nat) (Value.ref (299 : Nat)) Value.none (0 : Nat))) #[])
  :: (nat_lit 301, Obj.mk (Value.type "tuple") (none : Option Nat) (Data.seq #[]) #[])
  :: (nat_lit 303, Obj.mk (Value.type "tuple") (none : Option Nat) (Data.seq #[Value.str (Str.ofString "table") (584 : Nat), Value.str (Str.ofString "rows") (585 : Nat)]) #[])
  :: (nat_lit 304, Obj.mk (Value.type "tuple") (none : Option Nat) (Data.seq #[]) #[])
  :: (nat_lit 306, Obj.mk (Value.type "code") (none : Option Nat) (Data.fields #[Value.str (Str.ofString "_law_stands") (581 : Nat), Value.str (Str.ofString "_law_stands") (582 : Nat), Value.str (Str.ofString "/claim/cut.py") (583 : Nat), Value.int 185 (0 : Nat), Value.int 2 (0 : Nat), Value.int 0 (0 : Nat), Value.int 0 (0 : Nat), Value.int 3 (0 : Nat), Value.ref (301 : Nat), Value.bool true, Value.int 181 (0 : Nat), Value.ref (302 : Nat), Value.none, Value.ref (303 : Nat), Value.ref (304 : Nat), Value.ref (305 : Nat), Value.int 586 (0 : Nat), Value.int 185 (0 : Nat), Value.str (Str.ofString "/claim/cut.py") (587 : Nat)]) #[])
  :: (nat_lit 307, Obj.mk (Value.type "function") (none : Option Nat) (Data.func (FuncData.mk (Str.ofString "_law_stands") (Str.ofString "_law_stands") a24 (FuncBody.stmts b24) c24 (3 : Nat) [] Value.none Value.none Value.none (Value.str (Str.ofString "law_on0341_01") (511 : Nat)) (none : Option Nat) (Value.ref (306 : Nat)) Value.none (0 : Nat))) #[])
  :: (nat_lit 308, Obj.mk (Value.type "tuple") (none : Option Nat) (Data.seq #[]) #[])
  :: (nat_lit 311, Obj.mk (Value.type "code") (none : Option Nat) (Data.fields #[Value.str (Str.ofString "_law_added") (589 : Nat), Value.str (Str.ofString "_law_added") (590 : Nat), Value.str (Str.ofString "/claim/cut.py") (591 : Nat), Value.int 187 (0 : Nat), Value.int 3 (0 : Nat), Value.int 0 (0 : Nat), Value.int 0 (0 : Nat), Value.int 3 (0 : Nat), Value.ref (308 : Nat), Value.bool true, Value.int 181 (0 : Nat), Value.ref (309 : Nat), Value.none, Value.none, Value.none, Value.ref (310 : Nat), Value.int 592 (0 : Nat), Value.int 187 (0 : Nat), Value.str (Str.ofString "/claim/cut.py") (593 : Nat)]) #[])
  :: (nat_lit 312, Obj.mk (Value.type "function") (none : Option Nat) (Data.func (FuncData.mk (Str.ofString "_law_added") (Str.ofString "_law_added") a25 (FuncBody.stmts b25) c25 (3 : Nat) [] Value.none Value.none Value.none (Value.str (Str.ofString "law_on0341_01") (511 : Nat)) (none : Option Nat) (Value.ref (311 : Nat)) Value.none (0 : Nat))) #[])
  :: (nat_lit 313, Obj.mk (Value.type "tuple") (none : Option Nat) (Data.seq #[]) #[])
  :: (nat_lit 316, Obj.mk (Value.type "code") (none : Option Nat) (Data.fields #[Value.str (Str.ofString "_law_changed") (595 : Nat), Value.str (Str.ofString "_law_changed") (596 : Nat), Value.str (Str.ofString "/claim/cut.py") (597 : Nat), Value.int 197 (0 : Nat), Value.int 3 (0 : Nat), Value.int 0 (0 : Nat), Value.int 0 (0 : Nat), Value.int 3 (0 : Nat), Value.ref (313 : Nat), Value.bool true, Value.int 181 (0 : Nat), Value.ref (314 : Nat), Value.none, Value.none, Value.none, Value.ref (315 : Nat), Value.int 598 (0 : Nat), Value.int 197 (0 : Nat), Value.str (Str.ofString "/claim/cut.py") (599 : Nat)]) #[])
  :: (nat_lit 317, Obj.mk (Value.type "function") (none : Option Nat) (Data.func (FuncData.mk (Str.ofString "_law_changed") (Str.ofString "_law_changed") a26 (FuncBody.stmts b26) c26 (3 : Nat) [] Value.none Value.none Value.none (Value.str (Str.ofString "law_on0341_01") (511 : Nat)) (none : Option Nat) (Value.ref (316 : Nat)) Value.none (0 : Nat))) #[])
  :: (nat_lit 318, Obj.mk (Value.type "tuple") (none : Option Nat) (Data.seq #[]) #[])
  :: (nat_lit 321, Obj.mk (Value.type "code") (none : Option Nat) (Data.fields #[Value.str (Str.ofString "_law_branch_right") (601 : Nat), Value.str (Str.ofString "_law_branch_right") (602 : Nat), Value.str (Str.ofString "/claim/cut.py") (603 : Nat), Value.int 213 (0 : Nat), Value.int 1 (0 : Nat), Value.int 0 (0 : Nat), Value.int 0 (0 : Nat), Value.int 3 (0 : Nat), Value.ref (318 : Nat), Value.bool true, Value.int 181 (0 : Nat), Value.ref (319 : Nat), Value.none, Value.none, Value.none, Value.ref (320 : Nat), Value.int 604 (0 : Nat), Value.int 213 (0 : Nat), Value.str (Str.ofString "/claim/cut.py") (605 : Nat)]) #[])
  :: (nat_lit 322, Obj.mk (Value.type "function") (none : Option Nat) (Data.func (FuncData.mk (Str.ofString "_law_branch_right") (Str.ofString "_law_branch_right") a27 (FuncBody.stmts b27) c27 (3 : Nat) [] Value.none Value.none Value.none (Value.str (Str.ofString "law_on0341_01") (511 : Nat)) (none : Option Nat) (Value.ref (321 : Nat)) Value.none (0 : Nat))) #[])
  :: (nat_lit 323, Obj.mk (Value.type "tuple") (none : Option Nat) (Data.seq #[]) #[])
  :: (nat_lit 325, Obj.mk (Value.type "tuple") (none : Option Nat) (Data.seq #[Value.str (Str.ofString "source") (610 : Nat), Value.str (Str.ofString "address") (611 : Nat), Value.str (Str.ofString "prefix") (612 : Nat), Value.str (Str.ofString "text") (613 : Nat), Value.str (Str.ofString "place") (614 : Nat), Value.str (Str.ofString "gateway") (615 : Nat)]) #[])
  :: (nat_lit 326, Obj.mk (Value.type "tuple") (none : Option Nat) (Data.seq #[]) #[])
  :: (nat_lit 328, Obj.mk (Value.type "code") (none : Option Nat) (Data.fields #[Value.str (Str.ofString "_law_address_right") (607 : Nat), Value.str (Str.ofString "_law_address_right") (608 : Nat), Value.str (Str.ofString "/claim/cut.py") (609 : Nat), Value.int 227 (0 : Nat), Value.int 1 (0 : Nat), Value.int 0 (0 : Nat), Value.int 0 (0 : Nat), Value.int 3 (0 : Nat), Value.ref (323 : Nat), Value.bool true, Value.int 181 (0 : Nat), Value.ref (324 : Nat), Value.none, Value.ref (325 : Nat), Value.ref (326 : Nat), Value.ref (327 : Nat), Value.int 616 (0 : Nat), Value.int 227 (0 : Nat), Value.str (Str.ofString "/claim/cut.py") (617 : Nat)]) #[])
  :: (nat_lit 329, Obj.mk (Value.type "function") (none : Option Nat) (Data.func (FuncData.mk (Str.ofString "_law_address_right") (Str.ofString "_law_address_right") a28 (FuncBody.stmts b28) c28 (3 : Nat) [] Value.none Value.none Value.none (Value.str (Str.ofString "law_on0341_01") (511 : Nat)) (none : Option Nat) (Value.ref (328 : Nat)) Value.none (0 : Nat))) #[])
  :: (nat_lit 330, Obj.mk (Value.type "tuple") (none : Option Nat) (Data.seq #[]) #[])
  :: (nat_lit 333, Obj.mk (Value.type "code") (none : Option Nat) (Data.fields #[Value.str (Str.ofString "law") (619 : Nat), Value.str (Str.ofString "law") (620 : Nat), Value.str (Str.ofString "/claim/cut.py") (621 : Nat), Value.int 238 (0 : Nat), Value.int 1 (0 : Nat), Value.int 0 (0 : Nat), Value.int 0 (0 : Nat), Value.int 3 (0 : Nat), Value.ref (330 : Nat), Value.bool true, Value.int 181 (0 : Nat), Value.ref (331 : Nat), Value.none, Value.none, Value.none, Value.ref (332 : Nat), Value.int 622 (0 : Nat), Value.int 238 (0 : Nat), Value.str (Str.ofString "/claim/cut.py") (623 : Nat)]) #[])
  :: (nat_lit 334, Obj.mk (Value.type "function") (none : Option Nat) (Data.func (FuncData.mk (Str.ofString "law") (Str.ofString "law") a29 (FuncBody.stmts b29) c29 (3 : Nat) [] Value.none Value.none Value.none (Value.str (Str.ofString "law_on0341_01") (511 : Nat)) (none : Option Nat) (Value.ref (333 : Nat)) Value.none (0 : Nat))) #[])
  :: [] : Frag)) _ _ _ _ _ _ _ _ _ _ _ _ _ _ _ _ _ _ _ _ _ _ _ _ _ _ _ _ _ _ _ _ _ _ _ _ _ _ _ _ _ _ _ _ _ _ _ _ _ _ _ _ _ _ _ _ _ _ _ _ _ _ _ _ _ _ _ _ _ _ _ _ _ _ _ _ _ _ _ _ _ _ _ _ _ _ _ _ _ _ _ _ _ _ _ _ _ _ _ _ _ _ _ _ _ _ _ _ _ _ _ _ _ _ _ _ _ _ _ _ _ _ _ _ _ _ _ _ _ _ _ _ _ _ _ _ _ _ _ _ _ _ _ _ _ _ _ _ _ _ _ _ _ _ _ _ _ _ _ _ _ _ _ _ _ _ _ _ _ _ _ _ _ _ _ _ _ _ _ _ _ _ _ _ _ _ _ _ _ _ _ _ _ _ _ _ _ _ _ _ _ _ _ _ _ _ _ _ _ _ _ _ _ _ _ _ _ _ _ _ _ _ _ _ _ _ _ _ _ _ _ _ _ _ _ _ _ _ _ _ _ _ _ _ _ _ _ _ _ _ _ _ _ _ _ _ _ _ _ _ _ _ _ _ _ _ _ _ _ _ _ _ _ _ _ _ _ _ _ _ _ _ _ _ _ _ _ _ _ _ _ _ _ _ _ _ _ _ _ _ _ _ _ _ _ _ _ _ _ _ _ _ _ _ _ _ _ _ _ _ _ _ _ _ _ _ _ _ _ _ _ _ _ _ _ _ _ _ _ _ _ _ _ _ _ _ _ _ _ _ _ _ _ _ _ _ _ _ _ _ _ _ _ _ _ _ _ _ _ _ _ _ _ _ _ _ _ _ _ _ _ _ _ _ _ _ _ _ _ _ _ _ _ _ _ _ _ _ _ _ _ _ _ _ _ _ _ _ _ _ _ _ _ _ _ _ _ _ _ _ _ _ _ _ _ _ _ _ _ _ _ _ _ _ _ _ rfl
end Mine

-- part HD
namespace Mine
set_option maxRecDepth 100000
set_option maxHeartbeats 8000000
set_option pp.deepTerms false
set_option pp.deepTerms.threshold 4
set_option pp.maxSteps 100000

/- the head: own view (the statements but three names' marks), own fragment, the top in two checks by the kernel -/
/- the machine's run over a tree of objects, to its end -/
def topRunT (tb : String → Option Builtin) (p : Program) (w : World) (n₀ : Nat) (ann : Option Value) : Nat → SharedT → Thread → Option SharedT
  | 0, _, _ => none
  | n + 1, s, t => match through t with
    | true => some s
    | false => match stepOk n₀ ann t with
      | false => none
      | true => match stepT (denote tb) p w s t with
        | some (s', t') => topRunT tb p w n₀ ann n s' t'
        | none => none
theorem topRun_ofT {tb : String → Option Builtin} {p : Program} {w : World} {n₀ : Nat} {ann : Option Value} : ∀ {n : Nat} {s s' : SharedT} {t : Thread}, topRunT tb p w n₀ ann n s t = some s' → topRun tb p w n₀ ann n s.abs t = some s'.abs
  | 0, _, _, _, h => by cases h
  | n + 1, s, s', t, h => by
    unfold topRunT at h
    unfold topRun
    cases ht : through t with
    | true => rw [ht] at h; cases h; rfl
    | false =>
      rw [ht] at h
      cases hk : stepOk n₀ ann t with
      | false => rw [hk] at h; cases h
      | true =>
        rw [hk] at h
        cases hs : stepT (denote tb) p w s t with
        | none => rw [hs] at h; cases h
        | some r => obtain ⟨s₂, t₂⟩ := r; rw [hs] at h; rw [stepT_spec hs]; exact topRun_ofT h
noncomputable def bt (P : Params) : BT := ((boot_heap P).objs.toList.foldl (fun (t : BT × Nat) o => (t.1.ins t.2 o, t.2 + 1)) (.nil, 0)).1
theorem bt_abs (P : Params) : absHeap (bt P) 11 (boot_heap P).life = boot_heap P := by kernel_rfl
theorem boot_ann (P : Params) : ((boot_heap P).isNs mainGlobals, (boot_heap P).objs.size, (boot_heap P).nsMap mainGlobals "__annotations__") = (true, 11, some (.ref 6)) := by kernel_rfl
noncomputable abbrev sT (w : World) (os : OsState) : SharedT := ⟨bt w.params, 11, (boot_heap w.params).life, #[], boot_drawn, boot_toks, os⟩
theorem left_T {p q : Program} {loose : List Str} {Xt : Shared → Bool} {α : Type} {Yf : Shared → α} {Ya : World → α} {N : Nat} (e : opening p = plainProg p.main.scope.names) (hN : Nat.ble 600 N = true) (f : ∀ s, fenceModules? p s = some s)
    (K1 : ∀ w os, (topRunT treeTable p w 11 (some (.ref 6)) N (sT w os) (topStub p)).map (fun s => ((staticsOk (importedModules p.main.body) (boot_heap w.params) s.abs.heap && namesBound p s.abs.heap && gensDone s.abs && laidKept (boot_heap w.params) s.abs.heap), openSeen q loose (importedModules p.main.body) Xt true s.abs)) = some (true, openGood q loose))
    (K2 : ∀ w os, (topRunT treeTable p w 11 (some (.ref 6)) N (sT w os) (topStub p)).map (fun s => Yf s.abs) = some (Ya w)) : LeftO p q loose Xt Yf Ya N := fun w => by
  obtain ⟨⟨h, gs, d, k, os⟩, e0, e1⟩ := Option.map_eq_some_iff.mp (boot_open e hN f w)
  obtain ⟨rfl, rfl, rfl, rfl⟩ : h = boot_heap w.params ∧ gs = #[] ∧ d = boot_drawn ∧ k = boot_toks := by simpa using e1
  obtain ⟨s1, r, l⟩ := Option.map_eq_some_iff.mp (K1 w os)
  obtain ⟨s2, r', l'⟩ := Option.map_eq_some_iff.mp (K2 w os)
  obtain rfl : s1 = s2 := Option.some.inj (r.symm.trans r')
  have r2 := topRun_ofT r
  have ea : (sT w os).abs = ⟨boot_heap w.params, #[], boot_drawn, boot_toks, os⟩ := by
    show Shared.mk (absHeap (bt w.params) 11 (boot_heap w.params).life) _ _ _ _ = _
    rw [bt_abs]
  rw [ea] at r2
  have b := boot_ann w.params
  simp only [Prod.mk.injEq] at b l
  obtain ⟨b1, b2, b3⟩ := b
  have t : topFrom treeTable p w N ⟨boot_heap w.params, #[], boot_drawn, boot_toks, os⟩ = some s1.abs := by
    unfold topFrom
    dsimp only
    rw [b1, b2, b3, r2]
    show (match staticsOk (importedModules p.main.body) (boot_heap w.params) s1.abs.heap && namesBound p s1.abs.heap && gensDone s1.abs && laidKept (boot_heap w.params) s1.abs.heap with | true => _ | false => _) = _
    rw [l.1]
  unfold openEnds
  rw [e0]
  show (topFrom treeTable p w N _).map _ = _
  rw [t]
  exact congrArg some (Prod.ext l.2 l')
@[irreducible] noncomputable def vw : Program :=
  (fun (s0 : Stmt) (s1 : Stmt) (s2 : Stmt) (s3 : Stmt) (s4 : Stmt) (s5 : Stmt) (s6 : Stmt) (s7 : Stmt) (s8 : Stmt) (s9 : Stmt) (s10 : Stmt) (s11 : Stmt) (s12 : Stmt) (s13 : Stmt) (s14 : Stmt) (s15 : Stmt) (s16 : Stmt) (s17 : Stmt) (s18 : Stmt) (s19 : Stmt) (s20 : Stmt) (s21 : Stmt) (s22 : Stmt) (s23 : Stmt) (s24 : Stmt) (s25 : Stmt) (s26 : Stmt) (s27 : Stmt) (s28 : Stmt) (s29 : Stmt) (_h : PySem.Challenge.pw_on0341_01.main.body = [s0, s1, s2, s3, s4, s5, s6, s7, s8, s9, s10, s11, s12, s13, s14, s15, s16, s17, s18, s19, s20, s21, s22, s23, s24, s25, s26, s27, s28, s29]) => ({ PySem.Challenge.pw_on0341_01 with main := { PySem.Challenge.pw_on0341_01.main with body := [s0, s2, s3, s5, s6, s7, s8, s9, s10, s11, s12, s13, s14, s16, s17, s18, s19, s20, s21, s22, s23, s24, s25, s26, s27, s28, s29] } } : Program)) _ _ _ _ _ _ _ _ _ _ _ _ _ _ _ _ _ _ _ _ _ _ _ _ _ _ _ _ _ _ rfl
def asK : List Addr := [2, 3, 15, 17, 18, 20, 21, 22, 29, 31, 32, 34, 35, 36, 37, 38, 39, 42, 49, 50, 51, 54, 56, 57, 59, 60, 61, 63, 64, 66, 67, 68, 70, 71, 73, 74, 75, 77, 78, 80, 81, 89, 90, 92, 93, 95, 96, 97, 99, 100, 102, 103, 104, 106, 107, 109, 110, 111, 112, 113, 114, 115, 125, 127, 128, 130, 131, 132, 134, 135, 137, 138, 139, 141, 142, 144, 145, 146, 148, 149, 151, 152, 153, 155, 156, 158, 159, 160, 161, 162, 163, 164, 167, 169, 170, 172, 173, 181, 183, 184, 186, 187, 188, 190, 191, 193, 194, 195, 197, 198, 200, 201, 202, 204, 205, 207, 208, 209, 211, 212, 214, 215, 216, 219, 220, 221, 223, 224, 226, 227, 228, 230, 231, 233, 234, 235, 237, 238, 240, 241, 242, 243, 244, 245, 246, 249, 251, 252, 254, 255, 256, 258, 259, 261, 262, 263, 265, 266, 268, 269, 270, 273, 274, 275, 277, 278, 280, 281, 282, 284, 285, 287, 288, 289, 291, 292, 294, 295, 296, 299, 300, 301, 303, 304, 306, 307, 308, 311, 312, 313, 316, 317, 318, 321, 322, 323, 325, 326, 328, 329, 330, 333, 334]
theorem asK_eq (P : Params) : asK = (KK P).map (·.1) := by kernel_rfl
@[reducible] noncomputable def HH : Hook := kHook KK asK asK_eq
abbrev Lv : List (Str × WData) := [(Str.ofString "ALL", WData.int 4294967295)]
theorem K1 : ∀ w os, (topRunT treeTable PySem.Challenge.rw_on0341_01.row.prog w 11 (some (.ref 6)) 4564 (sT w os) (topStub PySem.Challenge.rw_on0341_01.row.prog)).map (fun s => ((staticsOk (importedModules PySem.Challenge.rw_on0341_01.row.prog.main.body) (boot_heap w.params) s.abs.heap && namesBound PySem.Challenge.rw_on0341_01.row.prog s.abs.heap && gensDone s.abs && laidKept (boot_heap w.params) s.abs.heap), openSeen vw [Str.ofString "ALL"] (importedModules PySem.Challenge.rw_on0341_01.row.prog.main.body) (fun s => xlAt vw Lv s && recOk PySem.Challenge.rw_on0341_01.row.records s) true s.abs)) = some (true, openGood vw [Str.ofString "ALL"]) := by
  intro w os
  kernel_rfl
theorem K2 : ∀ w os, (topRunT treeTable PySem.Challenge.rw_on0341_01.row.prog w 11 (some (.ref 6)) 4564 (sT w os) (topStub PySem.Challenge.rw_on0341_01.row.prog)).map (fun s => Hook.obs HH s.abs) = some (Hook.val HH w) := by
  intro w os
  kernel_rfl
theorem hl_whole : LeftO PySem.Challenge.rw_on0341_01.row.prog vw [Str.ofString "ALL"] (fun s => xlAt vw Lv s && recOk PySem.Challenge.rw_on0341_01.row.records s) (Hook.obs HH) (Hook.val HH) 4564 := left_T rfl rfl (fun _ => rfl) K1 K2
theorem law_said : PySem.Challenge.rw_on0341_01.wellSaid = true := by
  unfold OpenLaw.wellSaid OpenRow.wellSaid OpenRow.partSaid looksOpen
  (repeat' (with_reducible refine look_both ?_ ?_)) <;> decide +kernel
end Mine

-- part D1
namespace Mine
set_option maxRecDepth 100000
set_option maxHeartbeats 8000000
set_option pp.deepTerms false
set_option pp.deepTerms.threshold 4
set_option pp.maxSteps 100000

theorem fill1 (w : World) : (PySem.Challenge.rw_on0341_01.name = Str.ofString "law") ∧ (KK w.params) = (KK w.params) := by
  k_fill
  exact ⟨rfl, rfl⟩


theorem q_int {Q : Value → Shared → Prop} {x y : Int} {t : Tok} {s : Shared} (e : x = y) (h : Q (.int y t) s) : Q (.int x t) s := e ▸ h
theorem q_bool {Q : Value → Shared → Prop} {x y : Bool} {s : Shared} (e : x = y) (h : Q (.bool y) s) : Q (.bool x) s := e ▸ h
theorem fm_nonneg {x t : Int} (h : 0 < t) : 0 ≤ x.fmod t := by rw [Int.fmod_eq_emod_of_nonneg _ (by omega)]; exact Int.emod_nonneg _ (by omega)
theorem fm_lt {x t : Int} (h : 0 < t) : x.fmod t < t := Int.fmod_lt_of_pos _ h
theorem fd_nonneg {x t : Int} (h : 0 ≤ x) (ht : 0 < t) : 0 ≤ x.fdiv t := by rw [Int.fdiv_eq_ediv_of_nonneg _ (by omega)]; exact Int.ediv_nonneg h (by omega)
theorem my_pylong {x y : Int} (h0 : 0 ≤ y) (h : y ≤ 4294967296) : Builtin.divisionGoesByPylong x y = false := by
  refine PyProof.noPylong_of_log2 ?_
  by_cases hz : y.natAbs = 0
  · rw [hz]; decide
  · have : y.natAbs.log2 < 33 := (Nat.log2_lt hz).mpr (by omega)
    omega
theorem pow_pos_int (k : Nat) : (0 : Int) < 2 ^ k := Int.pow_pos (by decide)
theorem bit_eq (ad : Int) (k : Nat) : (ad.fdiv (2 ^ k)).fmod 2 = ad / 2 ^ k % 2 := by
  rw [Int.fdiv_eq_ediv_of_nonneg _ (Int.le_of_lt (pow_pos_int k)), Int.fmod_eq_emod_of_nonneg _ (by decide)]
theorem updF_head {h₀ h : Heap} {L d : Addr} {o : Obj} {news : List (Addr × Obj)} {g : Obj → List (Addr × Obj)} (U : UpdF d o news g) (N : News h₀ L h news) :
    ∃ rest, News h₀ L h ((d, o) :: rest) ∧ (∀ p ∈ rest, p.1 ≠ d) ∧ (∀ q ∈ news, q ∈ (d, o) :: rest) ∧ ∀ h' o', News h₀ L h' ((d, o') :: rest) → News h₀ L h' (g o') := by
  obtain ⟨pre, post, rfl, hg, h1, h2⟩ := U.split
  refine ⟨pre ++ post, fun q hq => N q ?_, fun q hq => ?_, fun q hq => ?_, fun h' o' N' q hq => N' q ?_⟩
  · rcases List.mem_cons.mp hq with rfl | hq
    · exact List.mem_append.mpr (.inr (.head _))
    · rcases List.mem_append.mp hq with hq | hq
      · exact List.mem_append.mpr (.inl hq)
      · exact List.mem_append.mpr (.inr (.tail _ hq))
  · rcases List.mem_append.mp hq with hq | hq
    · exact h1 _ hq
    · exact h2 _ hq
  · rcases List.mem_append.mp hq with hq | hq
    · exact .tail _ (List.mem_append.mpr (.inl hq))
    · rcases List.mem_cons.mp hq with rfl | hq
      · exact .head _
      · exact .tail _ (List.mem_append.mpr (.inr hq))
  · rw [hg] at hq
    rcases List.mem_append.mp hq with hq | hq
    · exact .tail _ (List.mem_append.mpr (.inl hq))
    · rcases List.mem_cons.mp hq with rfl | hq
      · exact .head _
      · exact .tail _ (List.mem_append.mpr (.inr hq))
theorem ints_at {vs : List Value} {ns : List Int} (h : IntsAre vs ns) {i : Nat} (hi : i < ns.length) : ∃ t, vs[i]? = some (.int ns[i] t) := h.get i ns[i] (by simp [hi])

section
variable {prog : Program} {w : World} {p : Program} {loose : List Str} {mean : ExcName → Option Value} {mg mb : Str → Option Value}
    {dp un : Nat} {gd : Option (List Code)} {cn : Str} {cs : Scope} {a : Addr} {ccd : Value} {cl : List (Str × Addr)} {outer : List Env} {A₀ : Around} {base h₀ : Heap} {L : Addr} {m : Str → Option Value} {news : List (Addr × Obj)} {s : Shared} {Q E : Value → Shared → Prop}

theorem zsetD11 : True := by
  k_with_none
  k_with "z_ch" => first | with_reducible assumption | (refine' And.right ?_; rotate_left; first | with_reducible assumption | (refine' And.right ?_; rotate_left; first | with_reducible assumption | (refine' And.right ?_; rotate_left; first | with_reducible assumption | (refine' And.right ?_; rotate_left; first | with_reducible assumption | (refine' And.right ?_; rotate_left; first | with_reducible assumption | (refine' And.right ?_; rotate_left; first | with_reducible assumption | (refine' And.right ?_; rotate_left; with_reducible assumption)))))))
  k_with "z_lt" => first | with_reducible assumption | (refine' And.left ?_; rotate_left; k_extra "z_ch") | (refine' And.right ?_; rotate_left; k_extra "z_ch")
  k_with "k_ne" => (refine neN ?_; (try dsimp only); first | (refine' Nat.ne_of_gt ?_; k_extra "z_lt") | (refine' Nat.ne_of_lt ?_; k_extra "z_lt") | (refine' Nat.ne_of_gt (Nat.lt_trans ?_ (by with_reducible assumption)); k_extra "z_lt") | (refine' Nat.ne_of_lt (Nat.lt_trans ?_ (by with_reducible assumption)); k_extra "z_lt"))
  k_with "zfold" => ((fail_if_success (fail_if_success k_fold)); refine zfold_q ?_; intro qk)
  k_with "k_env" => (refine zfold_env (f := fun en9 => execs _ en9) ?_; intro en9; refine zfold_A ?_; intro ak9; (rename Fr _ _ _ _ => fr9); refine zfold_F fr9 ?_; clear fr9; intro fm9 fr9; try (refine zgen_t ?_; intro tk9))
  k_with "ktr_room" => first | exact fits (c := 1) hdp rfl rfl | exact fits0 (c := 1) hdp rfl rfl | exact fits (c := 2) hdp rfl rfl | exact fits0 (c := 2) hdp rfl rfl | exact fits (c := 0) hdp rfl rfl | exact fits0 (c := 0) hdp rfl rfl | exact fits (c := 3) hdp rfl rfl | exact fits0 (c := 3) hdp rfl rfl | exact Nat.le_of_ble_eq_true rfl
  k_with "ktr_units" => first | exact fits (c := 3) hun rfl rfl | exact fits0 (c := 3) hun rfl rfl | exact fits (c := 6) hun rfl rfl | exact fits0 (c := 6) hun rfl rfl | exact fits (c := 0) hun rfl rfl | exact fits0 (c := 0) hun rfl rfl | exact fits (c := 9) hun rfl rfl | exact fits0 (c := 9) hun rfl rfl | exact Nat.le_of_ble_eq_true rfl
  k_with "k_steps" => repeat' (first | (k_unfold; (try dsimp only); (try clear qk)) | (k_end; wrow_close) | walk1 | (dsimp only; walk1) | (leave1; try dsimp only) | fail "no step")
  k_with "execs cons" => (k_extra "zfold"; walk1)
  k_with "exec If" => (k_extra "zfold"; walk1)
  k_with "exec Assign" => (k_extra "zfold"; walk1)
  k_with "exec Expr" => (k_extra "zfold"; walk1)
  k_with "exec Return" => (k_extra "zfold"; walk1)
  k_with "isTrue" => (k_extra "zfold"; walk1)
  k_with "eval BinOp" => (k_extra "zfold"; walk1)
  k_with "eval BoolOp" => (k_extra "zfold"; walk1)
  k_with "eval UnaryOp" => (k_extra "zfold"; walk1)
  k_with "eval Call" => (k_extra "zfold"; walk1)
  k_with "eval Compare" => (k_extra "zfold"; walk1)
  k_with "eval Subscript" => (k_extra "zfold"; walk1)
  k_with "eval Attribute" => (k_extra "zfold"; walk1)
  k_with "eval Tuple" => (k_extra "zfold"; walk1)
  k_with "eval List nil" => (k_extra "zfold"; walk1)
  k_with "eval List cons" => (k_extra "zfold"; walk1)
  k_with "k_all" => assumption
  k_with "binaryOp FloorDiv int int" => (with_reducible refine floordiv_int ?zqhne ?_ (Or.inl (my_pylong ?zqh0 ?zqh1)); (case zqhne => omega); (case zqh0 => omega); (case zqh1 => omega))
  k_with "binaryOp Mult int int" => (with_reducible refine mul_int ?_ (IntMulOk.of_left (intBits_le_64 ?zqh0 ?zqh1)); (case zqh0 => (first | omega | (simp; omega) | (simp [Int.fmod_eq_emod_of_nonneg]; omega))); (case zqh1 => (first | omega | (simp; omega) | (simp [Int.fmod_eq_emod_of_nonneg]; omega))))
  exact trivial
theorem bit_spec {ad pl : Int} {t u : Tok}
    (B : Below A₀ base outer h₀) (F : Fr h₀ L s.heap m) (X : (KK w.params).In h₀) (N : News h₀ L s.heap (news)) (T : Top p loose mean mg mb h₀) (hk : cs.kind = .function)
    (hp0 : 0 ≤ pl) (hp1 : pl < 32) (hdp : dp + 10 < recursionLimit) (hun : un + 200 < cLine)
    (hret : ∀ (tv : Tok) h' tk', Fr h₀ L h' m → News h₀ L h' news → Q (.int (ad / 2 ^ (31 - pl).toNat % 2) tv) { s with heap := h', toks := tk' }) :
    wpAny (model prog w) (ktrTop dp un gd cn cs L a ccd cl outer) (call (.ref 173) [.int ad t, .int pl u]) Q E s := by
  (refine wpAny_call ?_; k_dflt ktr_enter; try (w_strict (k_extra "k_env")))
  k_steps
  all_goals (refine q_int ?_ (hret _ _ _ (by k_asm) (by k_asm)); first | exact bit_eq _ _ | (rw [bit_eq]; congr 3; omega))

theorem bit_spec2 {ad b : Int} {pl : Nat} {t u : Tok}
    (B : Below A₀ base outer h₀) (F : Fr h₀ L s.heap m) (X : (KK w.params).In h₀) (N : News h₀ L s.heap (news)) (T : Top p loose mean mg mb h₀) (hk : cs.kind = .function)
    (hb : ad / 2 ^ (31 - pl) % 2 = b) (hp0 : (0 : Int) ≤ 0 + (pl : Int)) (hp1 : (0 : Int) + (pl : Int) < 32) (hdp : dp + 10 < recursionLimit) (hun : un + 200 < cLine)
    (hret : ∀ (tv : Tok) h' tk', Fr h₀ L h' m → News h₀ L h' news → Q (.int b tv) { s with heap := h', toks := tk' }) :
    wpAny (model prog w) (ktrTop dp un gd cn cs L a ccd cl outer) (call (.ref 173) [.int ad t, .int (0 + (pl : Int)) u]) Q E s := by
  refine bit_spec B F X N T hk hp0 hp1 hdp hun fun tv h' tk' F' N' => ?_
  have e : (31 - (0 + (pl : Int))).toNat = 31 - pl := by omega
  rw [e, hb]
  exact hret tv h' tk' F' N'

theorem bit_spec3 {ad b pl : Int} {n : Nat} {t u : Tok}
    (B : Below A₀ base outer h₀) (F : Fr h₀ L s.heap m) (X : (KK w.params).In h₀) (N : News h₀ L s.heap (news)) (T : Top p loose mean mg mb h₀) (hk : cs.kind = .function)
    (hb : ad / 2 ^ (31 - n) % 2 = b) (hpl : pl = (n : Int)) (hp1 : n < 32) (hdp : dp + 10 < recursionLimit) (hun : un + 200 < cLine)
    (hret : ∀ (tv : Tok) h' tk', Fr h₀ L h' m → News h₀ L h' news → Q (.int b tv) { s with heap := h', toks := tk' }) :
    wpAny (model prog w) (ktrTop dp un gd cn cs L a ccd cl outer) (call (.ref 173) [.int ad t, .int pl u]) Q E s := by
  subst hpl
  refine bit_spec B F X N T hk (by omega) (by omega) hdp hun fun tv h' tk' F' N' => ?_
  have e : (31 - (n : Int)).toNat = 31 - n := by omega
  rw [e, hb]
  exact hret tv h' tk' F' N'

theorem mask_spec {pl : Int} {u : Tok}
    (B : Below A₀ base outer h₀) (F : Fr h₀ L s.heap m) (X : (KK w.params).In h₀) (N : News h₀ L s.heap (news)) (T : Top p loose mean mg mb h₀) (hk : cs.kind = .function)
    (hp0 : 0 ≤ pl) (hp1 : pl ≤ 32) (hdp : dp + 10 < recursionLimit) (hun : un + 200 < cLine)
    (hret : ∀ (tv : Tok) h' tk', Fr h₀ L h' m → News h₀ L h' news → Q (.int (4294967295 - (2 ^ (32 - pl).toNat - 1)) tv) { s with heap := h', toks := tk' }) :
    wpAny (model prog w) (ktrTop dp un gd cn cs L a ccd cl outer) (call (.ref 60) [.int pl u]) Q E s := by
  (refine wpAny_call ?_; k_dflt ktr_enter; try (w_strict (k_extra "k_env")))
  k_steps
  all_goals (refine q_int ?_ (hret _ _ _ (by k_asm) (by k_asm)); rfl)

theorem group_spec {ad : Int} {u : Tok}
    (B : Below A₀ base outer h₀) (F : Fr h₀ L s.heap m) (X : (KK w.params).In h₀) (N : News h₀ L s.heap (news)) (T : Top p loose mean mg mb h₀) (hk : cs.kind = .function) (hdp : dp + 10 < recursionLimit) (hun : un + 200 < cLine)
    (hret : ∀ h' tk', Fr h₀ L h' m → News h₀ L h' news → Q (.bool (decide (14 ≤ ad / 268435456))) { s with heap := h', toks := tk' }) :
    wpAny (model prog w) (ktrTop dp un gd cn cs L a ccd cl outer) (call (.ref 74) [.int ad u]) Q E s := by
  (refine wpAny_call ?_; k_dflt ktr_enter; try (w_strict (k_extra "k_env")))
  k_steps
  all_goals (refine q_bool ?_ (hret _ _ (by k_asm) (by k_asm)); rw [Int.fdiv_eq_ediv_of_nonneg _ (by decide)]; rfl)

theorem loop_spec {ad : Int} {u : Tok}
    (B : Below A₀ base outer h₀) (F : Fr h₀ L s.heap m) (X : (KK w.params).In h₀) (N : News h₀ L s.heap (news)) (T : Top p loose mean mg mb h₀) (hk : cs.kind = .function) (hdp : dp + 10 < recursionLimit) (hun : un + 200 < cLine)
    (hret : ∀ h' tk', Fr h₀ L h' m → News h₀ L h' news → Q (.bool (decide (ad / 16777216 = 127))) { s with heap := h', toks := tk' }) :
    wpAny (model prog w) (ktrTop dp un gd cn cs L a ccd cl outer) (call (.ref 81) [.int ad u]) Q E s := by
  (refine wpAny_call ?_; k_dflt ktr_enter; try (w_strict (k_extra "k_env")))
  k_steps
  all_goals (refine q_bool ?_ (hret _ _ (by k_asm) (by k_asm)); rw [Int.fdiv_eq_ediv_of_nonneg _ (by decide)]; rfl)

theorem take_spec {src : Addr} {aa bb top : Int} {ta tb tt : Tok} {n : Nat}
    (B : Below A₀ base outer h₀) (F : Fr h₀ L s.heap m) (X : (KK w.params).In h₀) (N : News h₀ L s.heap ((src, listOf #[.int aa ta, .int bb tb] n) :: news)) (T : Top p loose mean mg mb h₀) (hk : cs.kind = .function)
    (hs : ∀ p ∈ news, p.1 ≠ src) (ha : 0 ≤ aa) (hb : 0 ≤ bb) (hb' : bb < 2147483647) (ht : 0 < top) (ht' : top ≤ 4294967296) (hdp : dp + 10 < recursionLimit) (hun : un + 200 < cLine)
    (hret : ∀ (v aa' bb' : Int) (tv ta' tb' : Tok) (n' : Nat) h' tk', 0 ≤ v → v < top → 0 ≤ aa' → 0 ≤ bb' → bb' < 2147483647 → Fr h₀ L h' m → News h₀ L h' ((src, listOf #[.int aa' ta', .int bb' tb'] n') :: news) → Q (.int v tv) { s with heap := h', toks := tk' }) :
    wpAny (model prog w) (ktrTop dp un gd cn cs L a ccd cl outer) (call (.ref 262) [.ref src, .int top tt]) Q E s := by
  (refine wpAny_call ?_; k_dflt ktr_enter; try (w_strict (k_extra "k_env")))
  k_steps
  all_goals (
    refine hret _ _ _ _ _ _ _ _ _ ?_ ?_ ?_ ?_ ?_ (by k_asm) (by k_asm) <;> first
      | exact fm_nonneg ht
      | exact fm_lt ht
      | exact fm_lt (by decide)
      | exact fm_nonneg (by decide)
      | omega
      | (simp; omega)
      | (simp; exact fd_nonneg ha ht))
end

section
variable {prog : Program} {w : World} {p : Program} {loose : List Str} {mean : ExcName → Option Value} {mg mb : Str → Option Value}
    {dp un : Nat} {gd : Option (List Code)} {cn : Str} {cs : Scope} {a : Addr} {ccd : Value} {cl : List (Str × Addr)} {outer : List Env} {A₀ : Around} {base h₀ : Heap} {L : Addr} {m : Str → Option Value} {news : List (Addr × Obj)} {s : Shared} {Q E : Value → Shared → Prop}

theorem my_len {M' : Around} {l : Addr} {vs : List Value} {k : Nat} (N : News h₀ L s.heap news) (hm : (l, listOf vs.toArray k) ∈ news) (hf : vs.length ≤ 16777216)
    (h : Q (.int (vs.length : Int) (s.toks + 1)) { s with toks := s.toks + 1 + 1 }) : wpAny (model prog w) M' (call (.builtin "len") [.ref l]) Q E s :=
  call_len_list (items := vs.toArray) ⟨_, (N _ hm).1, rfl, _, rfl⟩ (by rw [List.size_toArray]; omega) (by rw [List.size_toArray]; exact h)
theorem my_item {M' : Around} {value slice : PySem.Expr} {l : Addr} {vs : List Value} {k : Nat} {i : Int} {u : Tok} (N : News h₀ L s.heap news) (hm : (l, listOf vs.toArray k) ∈ news) (h0 : 0 ≤ i) (hi : i < vs.length) (hf : vs.length ≤ 16777216)
    (h : ∀ v, vs[i.toNat]? = some v → Q v s)
    (hs : subscripted slice false (.ref l) (.int i u) = operate [.ref l, .int i u] (getItem (.ref l) (.int i u)) := by with_unfolding_all rfl) :
    wpAny (model prog w) M' (subscriptTail value slice (.ref l) (.int i u)) Q E s := by
  have hl : s.heap.IsList l vs.toArray := ⟨_, (N _ hm).1, rfl, _, rfl⟩
  have hlt : i.toNat < vs.length := by omega
  exact tail_any hl.typeIs slot_list_getitem.lookup (wpAny_getItem_list (x := vs[i.toNat]) hl h0 (by omega) (by simp [hlt]) (h _ (by simp [hlt]))) hs
theorem my_itemI {M' : Around} {value slice : PySem.Expr} {l : Addr} {vs : List Value} {ns : List Int} {k : Nat} {i : Int} {u : Tok} (N : News h₀ L s.heap news) (hm : (l, listOf vs.toArray k) ∈ news) (hI : IntsAre vs ns) (h0 : 0 ≤ i) (hi : i < vs.length) (hf : vs.length ≤ 16777216)
    (h : ∀ x t, x ∈ ns → Q (.int x t) s)
    (hs : subscripted slice false (.ref l) (.int i u) = operate [.ref l, .int i u] (getItem (.ref l) (.int i u)) := by with_unfolding_all rfl) :
    wpAny (model prog w) M' (subscriptTail value slice (.ref l) (.int i u)) Q E s := by
  refine my_item N hm h0 hi hf (fun v hv => ?_) hs
  have hlt : i.toNat < ns.length := by have := hI.length; omega
  obtain ⟨t, ht⟩ := ints_at hI hlt
  rw [ht] at hv
  cases hv
  exact h _ _ (List.getElem_mem _)
theorem take_specU {src : Addr} {aa bb top : Int} {ta tb tt : Tok} {n : Nat} {g : Obj → List (Addr × Obj)}
    (B : Below A₀ base outer h₀) (F : Fr h₀ L s.heap m) (X : (KK w.params).In h₀) (N : News h₀ L s.heap (news)) (T : Top p loose mean mg mb h₀) (hk : cs.kind = .function) (U : UpdF src (listOf #[.int aa ta, .int bb tb] n) news g)
    (ha : 0 ≤ aa) (hb : 0 ≤ bb) (hb' : bb < 2147483647) (ht : 0 < top) (ht' : top ≤ 4294967296) (hdp : dp + 10 < recursionLimit) (hun : un + 200 < cLine)
    (hret : ∀ (v aa' bb' : Int) (tv ta' tb' : Tok) (n' : Nat) h' tk', 0 ≤ v → v < top → 0 ≤ aa' → 0 ≤ bb' → bb' < 2147483647 → Fr h₀ L h' m → News h₀ L h' (g (listOf #[.int aa' ta', .int bb' tb'] n')) → Q (.int v tv) { s with heap := h', toks := tk' }) :
    wpAny (model prog w) (ktrTop dp un gd cn cs L a ccd cl outer) (call (.ref 262) [.ref src, .int top tt]) Q E s := by
  obtain ⟨rest, N1, hs, _, hg⟩ := updF_head U N
  exact take_spec B F X N1 T hk hs ha hb hb' ht ht' hdp hun fun v aa' bb' tv ta' tb' n' h' tk' e1 e2 e3 e4 e5 F' N' => hret v aa' bb' tv ta' tb' n' h' tk' e1 e2 e3 e4 e5 F' (hg _ _ N')
end

section
variable {prog : Program} {w : World} {p : Program} {loose : List Str} {mean : ExcName → Option Value} {mg mb : Str → Option Value}
    {dp un : Nat} {gd : Option (List Code)} {cn : Str} {cs : Scope} {a : Addr} {ccd : Value} {cl : List (Str × Addr)} {outer : List Env} {A₀ : Around} {base h₀ : Heap} {L : Addr} {m : Str → Option Value} {news : List (Addr × Obj)} {s : Shared} {Q E : Value → Shared → Prop}

theorem zsetD12 : True := by
  k_with_none
  k_with "z_ch" => first | with_reducible assumption | (refine' And.right ?_; rotate_left; first | with_reducible assumption | (refine' And.right ?_; rotate_left; first | with_reducible assumption | (refine' And.right ?_; rotate_left; first | with_reducible assumption | (refine' And.right ?_; rotate_left; first | with_reducible assumption | (refine' And.right ?_; rotate_left; first | with_reducible assumption | (refine' And.right ?_; rotate_left; first | with_reducible assumption | (refine' And.right ?_; rotate_left; with_reducible assumption)))))))
  k_with "z_lt" => first | with_reducible assumption | (refine' And.left ?_; rotate_left; k_extra "z_ch") | (refine' And.right ?_; rotate_left; k_extra "z_ch")
  k_with "k_ne" => (refine neN ?_; (try dsimp only); first | (refine' Nat.ne_of_gt ?_; k_extra "z_lt") | (refine' Nat.ne_of_lt ?_; k_extra "z_lt") | (refine' Nat.ne_of_gt (Nat.lt_trans ?_ (by with_reducible assumption)); k_extra "z_lt") | (refine' Nat.ne_of_lt (Nat.lt_trans ?_ (by with_reducible assumption)); k_extra "z_lt"))
  k_with "zfold" => ((fail_if_success (fail_if_success k_fold)); refine zfold_q ?_; intro qk)
  k_with "k_env" => (refine zfold_env (f := fun en9 => execs _ en9) ?_; intro en9; refine zfold_A ?_; intro ak9; (rename Fr _ _ _ _ => fr9); refine zfold_F fr9 ?_; clear fr9; intro fm9 fr9; try (refine zgen_t ?_; intro tk9))
  k_with "ktr_room" => first | exact fits (c := 1) hdp rfl rfl | exact fits0 (c := 1) hdp rfl rfl | exact fits (c := 2) hdp rfl rfl | exact fits0 (c := 2) hdp rfl rfl | exact fits (c := 0) hdp rfl rfl | exact fits0 (c := 0) hdp rfl rfl | exact fits (c := 3) hdp rfl rfl | exact fits0 (c := 3) hdp rfl rfl | exact Nat.le_of_ble_eq_true rfl
  k_with "ktr_units" => first | exact fits (c := 3) hun rfl rfl | exact fits0 (c := 3) hun rfl rfl | exact fits (c := 6) hun rfl rfl | exact fits0 (c := 6) hun rfl rfl | exact fits (c := 0) hun rfl rfl | exact fits0 (c := 0) hun rfl rfl | exact fits (c := 9) hun rfl rfl | exact fits0 (c := 9) hun rfl rfl | exact Nat.le_of_ble_eq_true rfl
  k_with "k_steps" => repeat' (first | (k_unfold; (try dsimp only); (try clear qk)) | (k_end; wrow_close) | walk1 | (dsimp only; walk1) | (leave1; try dsimp only) | fail "no step")
  k_with "execs cons" => (k_extra "zfold"; walk1)
  k_with "exec If" => (k_extra "zfold"; walk1)
  k_with "exec Assign" => (k_extra "zfold"; walk1)
  k_with "exec Expr" => (k_extra "zfold"; walk1)
  k_with "exec Return" => (k_extra "zfold"; walk1)
  k_with "isTrue" => (k_extra "zfold"; walk1)
  k_with "eval BinOp" => (k_extra "zfold"; walk1)
  k_with "eval BoolOp" => (k_extra "zfold"; walk1)
  k_with "eval UnaryOp" => (k_extra "zfold"; walk1)
  k_with "eval Call" => (k_extra "zfold"; walk1)
  k_with "eval Compare" => (k_extra "zfold"; walk1)
  k_with "eval Subscript" => (k_extra "zfold"; walk1)
  k_with "eval Attribute" => (k_extra "zfold"; walk1)
  k_with "eval Tuple" => (k_extra "zfold"; walk1)
  k_with "eval List nil" => (k_extra "zfold"; walk1)
  k_with "eval List cons" => (k_extra "zfold"; walk1)
  k_with "k_all" => assumption
  k_with "k_mem" => assumption
  k_with "call builtin:len" => (k_here; k_dflt (refine' my_len ?zqN ?zqm ?zqf ?_; (case zqN => k_asm); (case zqm => k_mem); (case zqf => omega); k_whole))
  k_with "subscriptTail" => (k_here; k_dflt (refine' my_itemI ?zqN ?zqm ?zqI ?zqa ?zqb ?zqf ?_ ?zqhs; (case zqN => k_asm); (case zqm => k_mem); (case zqI => assumption); (case zqa => omega); (case zqb => omega); (case zqf => omega); (case zqhs => with_unfolding_all rfl); k_whole; intro _ _ _))
  k_with "subscriptTail Name UnaryOp ref int" => (k_here; k_dflt (refine' my_itemI ?zqN ?zqm ?zqI ?zqa ?zqb ?zqf ?_ ?zqhs; (case zqN => k_asm); (case zqm => k_mem); (case zqI => assumption); (case zqa => omega); (case zqb => omega); (case zqf => omega); (case zqhs => with_unfolding_all rfl); k_whole; intro _ _ _))
  k_with "call ref" => (k_here; k_dflt (refine' take_specU ?zqk1 ?zqk2 ?zqk3 ?zqk4 ?zqk5 ?zqkK ?zqu0 ?zqu1 ?zqu2 ?zqu3 ?zqu4 ?zqu5 ?zqkd ?zqku ?_; (case zqk1 => k_asm); (case zqk2 => k_asm); (case zqk3 => k_asm); (case zqk4 => k_asm); (case zqk5 => k_asm); (case zqkK => first | exact rfl | assumption); (case zqu0 => k_updF); (case zqu1 => assumption); (case zqu2 => assumption); (case zqu3 => assumption); (case zqu4 => (first | omega | (simp; omega))); (case zqu5 => (first | omega | (simp; omega))); (case zqkd => ktr_room); (case zqku => ktr_units); k_whole; intro _ _ _ _ _ _ _ _ _ _ _ _ _ _ _ _; (try dsimp only); (try k_sweep); (try (k_extra "zfold"))))
  exact trivial
theorem one_spec {src tl : Addr} {aa bb : Int} {ta tb : Tok} {n k : Nat} {vs : List Value} {ns : List Int}
    (B : Below A₀ base outer h₀) (F : Fr h₀ L s.heap m) (X : (KK w.params).In h₀) (N : News h₀ L s.heap ((src, listOf #[.int aa ta, .int bb tb] n) :: news)) (T : Top p loose mean mg mb h₀) (hk : cs.kind = .function)
    (hs : ∀ p ∈ news, p.1 ≠ src) (hm : (tl, listOf vs.toArray k) ∈ news) (hi : IntsAre vs ns) (hl : 0 < ns.length) (hl' : ns.length < 100)
    (ha : 0 ≤ aa) (hb : 0 ≤ bb) (hb' : bb < 2147483647) (hdp : dp + 20 < recursionLimit) (hun : un + 400 < cLine)
    (hret : ∀ (v aa' bb' : Int) (tv ta' tb' : Tok) (n' : Nat) h' tk', v ∈ ns → 0 ≤ aa' → 0 ≤ bb' → bb' < 2147483647 → Fr h₀ L h' m → News h₀ L h' ((src, listOf #[.int aa' ta', .int bb' tb'] n') :: news) → Q (.int v tv) { s with heap := h', toks := tk' }) :
    wpAny (model prog w) (ktrTop dp un gd cn cs L a ccd cl outer) (call (.ref 269) [.ref src, .ref tl]) Q E s := by
  have hvl := hi.length
  (refine wpAny_call ?_; k_dflt ktr_enter; try (w_strict (k_extra "k_env")))
  k_steps
  all_goals (refine hret _ _ _ _ _ _ _ _ _ ?_ ?_ ?_ ?_ (by k_asm) (by k_asm) <;> assumption)
end
end Mine

-- part T0
namespace Mine
set_option maxRecDepth 100000
set_option maxHeartbeats 8000000
set_option pp.deepTerms false
set_option pp.deepTerms.threshold 4
set_option pp.maxSteps 100000

abbrev Led := List (Addr × Obj)
def keys (Z : Led) : List Addr := Z.map (·.1)
def repl (d : Addr) (o' : Obj) (Z : Led) : Led := Z.map fun p => if p.1 = d then (d, o') else p
def ND (Z : Led) : Prop := (keys Z).Nodup

theorem mem_keys {Z : Led} {a : Addr} {o : Obj} (h : (a, o) ∈ Z) : a ∈ keys Z := List.mem_map.mpr ⟨_, h, rfl⟩
theorem keys_append {Z F : Led} : keys (Z ++ F) = keys Z ++ keys F := List.map_append
theorem keys_repl {d : Addr} {o' : Obj} : ∀ {Z : Led}, keys (repl d o' Z) = keys Z := by
  intro Z
  unfold keys repl
  rw [List.map_map]
  refine List.map_congr_left fun p _ => ?_
  show (if p.1 = d then (d, o') else p).1 = p.1
  split
  · rename_i h; exact h.symm
  · rfl
theorem mem_repl_ne {d a : Addr} {o o' : Obj} {Z : Led} (h : (a, o) ∈ Z) (hn : a ≠ d) : (a, o) ∈ repl d o' Z := by
  refine List.mem_map.mpr ⟨_, h, ?_⟩
  show (if a = d then (d, o') else (a, o)) = (a, o)
  rw [if_neg hn]
theorem mem_repl_self {d : Addr} {o o' : Obj} {Z : Led} (h : (d, o) ∈ Z) : (d, o') ∈ repl d o' Z := by
  refine List.mem_map.mpr ⟨_, h, ?_⟩
  show (if d = d then (d, o') else (d, o)) = (d, o')
  rw [if_pos rfl]
theorem repl_off {d : Addr} {o' : Obj} {Z : Led} (h : d ∉ keys Z) : repl d o' Z = Z := by
  unfold repl
  refine (List.map_congr_left (g := id) fun p hp => ?_).trans (List.map_id _)
  exact if_neg fun e => h (List.mem_map.mpr ⟨p, hp, e⟩)
theorem nd_uniq : ∀ {Z : Led}, ND Z → ∀ {a : Addr} {o o2 : Obj}, (a, o) ∈ Z → (a, o2) ∈ Z → o = o2
  | [], _, _, _, _, h, _ => nomatch h
  | p :: r, nd, a, o, o2, h1, h2 => by
    have nd' : p.1 ∉ keys r ∧ ND r := List.nodup_cons.mp nd
    rcases List.mem_cons.mp h1 with e1 | h1
    · rcases List.mem_cons.mp h2 with e2 | h2
      · rw [← e1] at e2; exact (Prod.mk.inj e2).2.symm
      · exact absurd (mem_keys h2) (by rw [← e1] at nd'; exact nd'.1)
    · rcases List.mem_cons.mp h2 with e2 | h2
      · exact absurd (mem_keys h1) (by rw [← e2] at nd'; exact nd'.1)
      · exact nd_uniq nd'.2 h1 h2
theorem nd_ne {Z : Led} (nd : ND Z) {a b : Addr} {o o2 : Obj} (h1 : (a, o) ∈ Z) (h2 : (b, o2) ∈ Z) (hn : o ≠ o2) : a ≠ b := fun e => hn (nd_uniq nd h1 (e ▸ h2))
theorem nd_left {Z F : Led} (h : ND (Z ++ F)) : ND Z := by
  unfold ND at *; rw [keys_append] at h; exact (List.nodup_append.mp h).1
theorem nd_right {Z F : Led} (h : ND (Z ++ F)) : ND F := by
  unfold ND at *; rw [keys_append] at h; exact (List.nodup_append.mp h).2.1
theorem nd_off {Z F : Led} (h : ND (Z ++ F)) {a : Addr} (ha : a ∈ keys Z) : ∀ p ∈ F, p.1 ≠ a := fun p hp e => by
  unfold ND at h; rw [keys_append] at h
  exact (List.nodup_append.mp h).2.2 a ha p.1 (List.mem_map.mpr ⟨p, hp, rfl⟩) e.symm
theorem nd_append {Z F : Led} (h1 : ND Z) (h2 : ND F) (h : ∀ p ∈ F, p.1 ∉ keys Z) : ND (Z ++ F) := by
  unfold ND; rw [keys_append]
  refine List.nodup_append.mpr ⟨h1, h2, fun a ha b hb e => ?_⟩
  obtain ⟨p, hp, rfl⟩ := List.mem_map.mp hb
  exact h p hp (e ▸ ha)
theorem nd_cons {Z : Led} {a : Addr} {o : Obj} (h : ∀ p ∈ Z, p.1 ≠ a) (nd : ND Z) : ND ((a, o) :: Z) :=
  List.nodup_cons.mpr ⟨fun hm => by obtain ⟨p, hp, e⟩ := List.mem_map.mp hm; exact h p hp e, nd⟩
theorem nd_head {Z : Led} {a : Addr} {o : Obj} (nd : ND ((a, o) :: Z)) : ∀ p ∈ Z, p.1 ≠ a := fun p hp e => (List.nodup_cons.mp nd).1 (e ▸ List.mem_map.mpr ⟨p, hp, rfl⟩)
theorem nd_tail {Z : Led} {q : Addr × Obj} (nd : ND (q :: Z)) : ND Z := (List.nodup_cons.mp nd).2
theorem nd_keys {Z Z' : Led} (e : keys Z' = keys Z) (h : ND Z) : ND Z' := by unfold ND at *; rw [e]; exact h
theorem nd_perm {Z Z' : Led} (e : (keys Z').Perm (keys Z)) (h : ND Z) : ND Z' := e.nodup_iff.mpr h
theorem upd_cons {d : Addr} {o o' : Obj} : ∀ {Z : Led}, ND Z → (d, o) ∈ Z → Upd d o o' Z (repl d o' Z)
  | [], _, h => nomatch h
  | p :: r, nd, h => by
    have nd' : p.1 ∉ keys r ∧ ND r := List.nodup_cons.mp nd
    rcases List.mem_cons.mp h with e | h
    · subst e
      have e2 : repl d o' ((d, o) :: r) = (d, o') :: r := by
        show (if d = d then (d, o') else (d, o)) :: repl d o' r = _
        rw [if_pos rfl, repl_off nd'.1]
      rw [e2]
      exact .head fun q hq e => nd'.1 (List.mem_map.mpr ⟨q, hq, e⟩)
    · have hne : p.1 ≠ d := fun e => nd'.1 (e ▸ mem_keys h)
      have e2 : repl d o' (p :: r) = p :: repl d o' r := by
        show (if p.1 = d then (d, o') else p) :: repl d o' r = _
        rw [if_neg hne]
      rw [e2]
      exact .tail hne (upd_cons nd'.2 h)
theorem upd_repl {d : Addr} {o o' : Obj} {Z F : Led} (nd : ND (Z ++ F)) (h : (d, o) ∈ Z) : Upd d o o' (Z ++ F) (repl d o' Z ++ F) := by
  have u := upd_cons (o' := o') nd (List.mem_append.mpr (.inl h))
  have e : repl d o' (Z ++ F) = repl d o' Z ++ F := by
    show (Z ++ F).map _ = _
    rw [List.map_append]
    congr 1
    exact repl_off fun hm => by
      obtain ⟨p, hp, e⟩ := List.mem_map.mp hm
      exact nd_off nd (mem_keys h) p hp e
  rw [← e]; exact u
theorem nd_repl {d : Addr} {o' : Obj} {Z F : Led} (nd : ND (Z ++ F)) : ND (repl d o' Z ++ F) := nd_keys (by rw [keys_append, keys_append, keys_repl]) nd
theorem news_rot {h₀ h : Heap} {L : Addr} {A Z R : Led} (N : News h₀ L h (A ++ (Z ++ R))) : News h₀ L h (Z ++ (A ++ R)) := fun p hp => N p (by
  simp only [List.mem_append] at hp ⊢
  rcases hp with h | h | h
  · exact .inr (.inl h)
  · exact .inl h
  · exact .inr (.inr h))
theorem news_unrot {h₀ h : Heap} {L : Addr} {A Z R : Led} (N : News h₀ L h (Z ++ (A ++ R))) : News h₀ L h (A ++ (Z ++ R)) := news_rot N
theorem nd_rot {A Z R : Led} (h : ND (A ++ (Z ++ R))) : ND (Z ++ (A ++ R)) := nd_perm (by
  simp only [keys_append, ← List.append_assoc]
  exact (List.perm_append_comm).append_right _) h

theorem news_sub {h₀ h : Heap} {L : Addr} {big small : Led} (N : News h₀ L h big) (hs : ∀ p ∈ small, p ∈ big) : News h₀ L h small := fun p hp => N p (hs p hp)
theorem mem_appL {x : Addr × Obj} {Z F : Led} (h : x ∈ Z) : List.Mem x (Z ++ F) := List.mem_append.mpr (.inl h)
theorem mem_appR {x : Addr × Obj} {Z F : Led} (h : x ∈ F) : List.Mem x (Z ++ F) := List.mem_append.mpr (.inr h)
theorem nd_repl2 {A Z F : Led} {d : Addr} {o' : Obj} (nd : ND (A ++ (Z ++ F))) : ND (A ++ (repl d o' Z ++ F)) := nd_keys (by simp only [keys_append, keys_repl]) nd
/- the tree -/
abbrev Path := List Bool
structure Rt where
  x : Addr
  net : Int
  pre : Int
  gw : Int
  face : Int
structure Nd where
  x : Addr
  d : Addr
  l : Addr
  rs : List Rt
abbrev Fm := Path → Option Nd
def vOf : Option Nd → Value
  | none => .none
  | some nd => .ref nd.x
abbrev brD (P : Params) (t1 t2 t3 : Tok) (v0 v1 : Value) (l : Addr) : Obj :=
  dictOf [⟨PyData.keyHash P (Str.ofString "zero"), .str (Str.ofString "zero") t1, v0⟩, ⟨PyData.keyHash P (Str.ofString "one"), .str (Str.ofString "one") t2, v1⟩, ⟨PyData.keyHash P (Str.ofString "routes"), .str (Str.ofString "routes") t3, .ref l⟩] 3
abbrev rtD (P : Params) (t1 t2 t3 t4 t5 u1 u2 u3 u4 u5 : Tok) (net pre gw face met : Int) : Obj :=
  dictOf [⟨PyData.keyHash P (Str.ofString "net"), .str (Str.ofString "net") t1, .int net u1⟩, ⟨PyData.keyHash P (Str.ofString "prefix"), .str (Str.ofString "prefix") t2, .int pre u2⟩,
    ⟨PyData.keyHash P (Str.ofString "gateway"), .str (Str.ofString "gateway") t3, .int gw u3⟩, ⟨PyData.keyHash P (Str.ofString "face"), .str (Str.ofString "face") t4, .int face u4⟩, ⟨PyData.keyHash P (Str.ofString "metric"), .str (Str.ofString "metric") t5, .int met u5⟩] 5
abbrev tbD (P : Params) (t1 t2 u : Tok) (root : Addr) (many : Int) : Obj :=
  dictOf [⟨PyData.keyHash P (Str.ofString "root"), .str (Str.ofString "root") t1, .ref root⟩, ⟨PyData.keyHash P (Str.ofString "many"), .str (Str.ofString "many") t2, .int many u⟩] 2
abbrev rtL (rs : List Rt) (n : Nat) : Obj := listOf (rs.map fun r => Value.ref r.x).toArray n

structure RtIn (P : Params) (Z : Led) (r : Rt) : Prop where
  ex : ∃ d t1 t2 t3 t4 t5 u1 u2 u3 u4 u5 met, (r.x, instObj 113 d) ∈ Z ∧ (d, rtD P t1 t2 t3 t4 t5 u1 u2 u3 u4 u5 r.net r.pre r.gw r.face met) ∈ Z
structure NdIn (P : Params) (Z : Led) (f : Fm) (q : Path) (nd : Nd) : Prop where
  ix : (nd.x, instObj 162 nd.d) ∈ Z
  id : ∃ t1 t2 t3, (nd.d, brD P t1 t2 t3 (vOf (f (q ++ [false]))) (vOf (f (q ++ [true]))) nd.l) ∈ Z
  il : ∃ n, (nd.l, rtL nd.rs n) ∈ Z
  ir : ∀ r ∈ nd.rs, RtIn P Z r
structure Tree (P : Params) (Z : Led) (f : Fm) : Prop where
  nod : ∀ q nd, f q = some nd → NdIn P Z f q nd
  inj : ∀ q q' nd nd', f q = some nd → f q' = some nd' → nd.d = nd'.d ∨ nd.x = nd'.x ∨ nd.l = nd'.l → q = q'
  pre : ∀ q b, f (q ++ [b]) ≠ none → f q ≠ none
  fin : ∀ q, f q ≠ none → q.length ≤ 32
  root : f [] ≠ none

theorem RtIn.mono {P : Params} {Z Z' : Led} {r : Rt} (h : RtIn P Z r) (hs : ∀ p ∈ Z, p ∈ Z') : RtIn P Z' r := by
  obtain ⟨d, t1, t2, t3, t4, t5, u1, u2, u3, u4, u5, met, a, b⟩ := h.ex
  exact ⟨d, t1, t2, t3, t4, t5, u1, u2, u3, u4, u5, met, hs _ a, hs _ b⟩
/-- objects of a route are no list and no dict of three entries -/
theorem RtIn.repl {P : Params} {Z : Led} (nd : ND Z) {r : Rt} (h : RtIn P Z r) {d : Addr} {o o' : Obj} (hd : (d, o) ∈ Z)
    (h1 : ∀ C x, o ≠ instObj C x) (h2 : ∀ es, o = dictOf es 5 → False) : RtIn P (repl d o' Z) r := by
  obtain ⟨d', t1, t2, t3, t4, t5, u1, u2, u3, u4, u5, met, a, b⟩ := h.ex
  exact ⟨d', t1, t2, t3, t4, t5, u1, u2, u3, u4, u5, met, mem_repl_ne a (nd_ne nd a hd fun e => h1 _ _ e.symm), mem_repl_ne b (nd_ne nd b hd fun e => h2 _ e.symm)⟩
end Mine

-- part L0
namespace Mine
set_option maxRecDepth 100000
set_option maxHeartbeats 8000000
set_option pp.deepTerms false
set_option pp.deepTerms.threshold 4
set_option pp.maxSteps 100000

def Hold (P : Prop) : Prop := P
theorem Hold.mk {P : Prop} (h : Hold P) : P := h

/-- the names that a loop may turn -/
def Same (xs : List Str) (m₀ m₁ : Str → Option Value) : Prop := ∀ z, xs.contains z = false → m₁ z = m₀ z
theorem Same.eq {xs : List Str} {m₀ m₁ : Str → Option Value} (h : Same xs m₀ m₁) : m₁ = fun z => if xs.contains z then m₁ z else m₀ z := by
  funext z
  cases q : xs.contains z with
  | true => simp
  | false => simp [h z q]
theorem Same.refl {xs : List Str} {m₀ : Str → Option Value} : Same xs m₀ m₀ := fun _ _ => rfl
theorem Same.of {xs : List Str} {m₀ u : Str → Option Value} : Same xs m₀ (fun z => if xs.contains z then u z else m₀ z) := fun z h => by simp only [h]; rfl
theorem Same.of2 {x : Str} {xs : List Str} {m₀ u : Str → Option Value} : Same (x :: xs) m₀ (fun z => if xs.contains z then u z else m₀ z) := fun z h => by
  rw [List.contains_cons, Bool.or_eq_false_iff] at h
  simp only [h.2]; rfl
theorem Same.set {xs : List Str} {x : Str} {v : Option Value} {m₀ m₁ : Str → Option Value} (h : Same xs m₀ m₁) (hx : xs.contains x = true) : Same xs m₀ (fun y => if y = x then v else m₁ y) := fun z hz => by
  have : z ≠ x := fun e => by rw [e, hx] at hz; cases hz
  simp only [this, if_false]
  exact h z hz

theorem rng_size {n : Nat} : Builtin.Range.rangeSize 0 (n : Int) 1 = (n : Int) := by rw [rangeSize_nat]; omega
theorem rng_small {n : Int} (h0 : 0 ≤ n) (h1 : n ≤ 1000000000) : Builtin.Range.small 0 n 1 = true := small_one (by decide) (by decide) (by omega) (by omega)
theorem rng1 {c : Nat} (h : (c : Int) < 1000) : Builtin.Range.small 0 (1 + (c : Int)) 1 = true ∧ Builtin.Range.rangeSize 0 (1 + (c : Int)) 1 = ((c + 1 : Nat) : Int) := by
  have e : (1 + (c : Int)) = ((c + 1 : Nat) : Int) := by omega
  rw [e]
  exact ⟨rng_small (by omega) (by omega), rng_size⟩
def LEnd (h₀ : Heap) (L : Addr) (J : (Str → Option Value) → Led → Prop) (I : Addr) (oI : Obj) (s₁ s₂ : Shared) : Prop :=
  ∃ h' tk m' news' nx, s₂ = { s₁ with heap := h', toks := tk } ∧ Fr h₀ L h' m' ∧ News h₀ L h' news' ∧ (∀ p ∈ nx, p ∈ news') ∧ (I, oI) ∈ news' ∧ (∀ p ∈ nx, p.1 ≠ I) ∧ J m' nx
theorem lend_mk {h₀ h' : Heap} {L : Addr} {J : (Str → Option Value) → Led → Prop} {I : Addr} {oI : Obj} {s₁ : Shared} {tk : Nat} {m' : Str → Option Value} {news' : Led} (nx : Led) (F : Fr h₀ L h' m') (N : News h₀ L h' news') (hs : ∀ p ∈ nx, p ∈ news') (hI : (I, oI) ∈ news') (off : ∀ p ∈ nx, p.1 ≠ I) (hJ : J m' nx) :
    LEnd h₀ L J I oI s₁ { s₁ with heap := h', toks := tk } := ⟨h', tk, m', news', nx, rfl, F, N, hs, hI, off, hJ⟩
def LPost (h₀ : Heap) (L : Addr) (J : (Str → Option Value) → Led → Prop) (I : Addr) (oI : Obj) (s₁ : Shared) (Q : Flow → Shared → Prop) (f : Flow) (s₂ : Shared) : Prop :=
  match f with
  | .ret v => Q (.ret v) s₂
  | .brk => Q .next s₂
  | _ => LEnd h₀ L J I oI s₁ s₂
section
variable {prog : Program} {w : World} {A : Around} {E : Value → Shared → Prop} {s : Shared} {env : Env} {h₀ : Heap} {x : Str} {body : List Stmt} {Q : Flow → Shared → Prop}

theorem my_range_loop {r : Addr} {a₀ b₀ : Int} {t₀ u₀ v₀ : Tok} {n : Nat} {m₀ : Str → Option Value} {news : Led} (J : Nat → (Str → Option Value) → Led → Prop)
    (hh : A.handled = none) (hr : IsRange s.heap r a₀ b₀ 1 t₀ u₀ v₀) (hsmall : Builtin.Range.small a₀ b₀ 1 = true) (hn : Builtin.Range.rangeSize a₀ b₀ 1 = (n : Int)) (F : Fr h₀ env.locals s.heap m₀) (N : News h₀ env.locals s.heap news) (hj : J 0 m₀ news)
    (turn : ∀ (i : Nat) t m₁ nx h tk I oI, i < n → (∀ p ∈ nx, p.1 ≠ I) → J i m₁ nx → Fr h₀ env.locals h (fun y => if y = x then some (.int (a₀ + (i : Int)) t) else m₁ y) → News h₀ env.locals h ((I, oI) :: nx) →
      wpAny (model prog w) A (execs body env) (LPost h₀ env.locals (J (i + 1)) I oI { s with heap := h, toks := tk } Q) E { s with heap := h, toks := tk })
    (done : ∀ m₁ nx h tk, J n m₁ nx → Fr h₀ env.locals h m₁ → News h₀ env.locals h nx → Q .next { s with heap := h, toks := tk }) :
    wpAny (model prog w) A (pyIter (.ref r)) (fun it s₂ => LoopAtV prog w A h₀ env x body Q E it s₂) E s := by
  refine wpAny_pyIter_range hr hsmall ?_
  have W : Walks prog w A s.heap.objs.size [s.heap.objs.size] [s.heap.objs.size] n (fun i v => i < n ∧ ∃ t, v = .int (a₀ + i * 1) t)
      (fun i h => IsRangeIter h s.heap.objs.size (a₀ + (i : Nat) * 1) ((n : Int) - (i : Nat)) 1) := (Walks.range hh _ a₀ 1 n).bound
  refine ⟨s.heap.objs.size, _, _, n, _, _, m₀, news, J, rfl, W, ?_, ?_, ?_, (by show IsRangeIter _ _ _ _ _; rw [hn]; simpa using Heap.get?_push_size _ rfl), F.push _, (fun p hp => ⟨Heap.get?_push_of_some _ (N p hp).1, (N p hp).2⟩), hj, ?_, ?_⟩
  · intro hm
    exact absurd F.ns.lt ((List.mem_singleton.mp hm) ▸ Nat.lt_irrefl _)
  · intro b hb
    rw [List.mem_singleton.mp hb]
    exact next_is_new F
  · intro p hp hI
    exact absurd (Heap.lt_size (N p hp).1) ((List.mem_singleton.mp hI) ▸ Nat.lt_irrefl _)
  · rintro i v m₁ news₁ s₁ own ⟨hh', tk', rfl⟩ hin ⟨_, t, rfl⟩ hJ hoff hown hat hmem hst' F₁ N₁
    have hI : ∃ oI, hh'.get? s.heap.objs.size = some oI := ⟨_, hst'⟩
    obtain ⟨oI, hoI⟩ := hI
    have hmI : (s.heap.objs.size, oI) ∈ own := hmem _ (.head _) (next_is_new F) oI hoI
    have hall : ∀ p ∈ own, p = (s.heap.objs.size, oI) := fun p hp => by
      have h1 : p.1 = s.heap.objs.size := List.mem_singleton.mp (hown p hp)
      have h2 := hat p hp
      rw [h1] at h2
      have h3 : hh'.get? s.heap.objs.size = some p.2 := h2
      rw [hoI] at h3
      exact Prod.ext h1 (Option.some.inj h3).symm
    have e1 : a₀ + (i : Int) * 1 = a₀ + (i : Int) := by omega
    rw [e1] at F₁
    have N₂ : News h₀ env.locals hh' ((s.heap.objs.size, oI) :: news₁) := fun p hp => N₁ p ((List.mem_cons.mp hp).elim (fun e => List.mem_append.mpr (.inl (e ▸ hmI))) fun h => List.mem_append.mpr (.inr h))
    refine wpAny_mono (turn i t m₁ news₁ hh' tk' _ oI hin (fun p hp e => hoff p hp (List.mem_singleton.mpr e)) hJ F₁ N₂) (fun f s₂ p => ?_) fun _ _ e => e
    have fin : LEnd h₀ env.locals (J (i + 1)) s.heap.objs.size oI { s with heap := hh', toks := tk' } s₂ → LoopStepU h₀ env.locals [s.heap.objs.size] own (J (i + 1)) { s with heap := hh', toks := tk' } .next s₂ := by
      rintro ⟨h', tk, m', news', nx, e, F', N', hn, hi, ho, hm⟩
      exact ⟨rfl, h', tk, m', nx, e, F', fun p hp => N' p ((List.mem_append.mp hp).elim (fun h => (hall p h) ▸ hi) (hn p)), fun p hp hq => ho p hp (List.mem_singleton.mp hq), hm⟩
    cases f with
    | ret v => exact .ret p
    | brk => exact .brk p
    | next => exact .next (fin p)
    | cont => exact .cont (fin p)
  · rintro h' tk m' news' F' N' _ hJ
    exact done m' news' h' tk hJ F' N'

theorem my_list_loop {l : Addr} {vs : List Value} {k : Nat} {m₀ : Str → Option Value} {news : Led} (J : Nat → (Str → Option Value) → Led → Prop)
    (hh : A.handled = none) (F : Fr h₀ env.locals s.heap m₀) (N : News h₀ env.locals s.heap news) (hl : (l, listOf vs.toArray k) ∈ news) (hj : J 0 m₀ news)
    (hJl : ∀ i m₁ nx, J i m₁ nx → (l, listOf vs.toArray k) ∈ nx)
    (turn : ∀ (i : Nat) v m₁ nx h tk I oI, vs[i]? = some v → (∀ p ∈ nx, p.1 ≠ I) → J i m₁ nx → Fr h₀ env.locals h (fun y => if y = x then some v else m₁ y) → News h₀ env.locals h ((I, oI) :: nx) →
      wpAny (model prog w) A (execs body env) (LPost h₀ env.locals (J (i + 1)) I oI { s with heap := h, toks := tk } Q) E { s with heap := h, toks := tk })
    (done : ∀ m₁ nx h tk, J vs.length m₁ nx → Fr h₀ env.locals h m₁ → News h₀ env.locals h nx → Q .next { s with heap := h, toks := tk }) :
    wpAny (model prog w) A (pyIter (.ref l)) (fun it s₂ => LoopAtV prog w A h₀ env x body Q E it s₂) E s := by
  have hls : s.heap.IsList l vs.toArray := ⟨_, (N _ hl).1, rfl, _, rfl⟩
  have hlt : l < s.heap.objs.size := Heap.lt_size (N _ hl).1
  have hne : l ≠ s.heap.objs.size := Nat.ne_of_lt hlt
  have hl0 : h₀.get? l = none := (N _ hl).2.2
  refine wpAny_pyIter_list hls ?_
  have W := Walks.list (prog := prog) (w := w) hh s.heap.objs.size l hne vs.toArray
  have hlen : vs.toArray.size = vs.length := List.size_toArray
  rw [hlen] at W
  refine ⟨_, _, _, vs.length, _, _, m₀, news, J, rfl, W, ?_, ?_, ?_, ⟨⟨_, Heap.get?_push_size _ rfl, rfl, rfl⟩, hls.at fun o e => Heap.get?_push_of_some _ e⟩, F.push _, (fun p hp => ⟨Heap.get?_push_of_some _ (N p hp).1, (N p hp).2⟩), hj, ?_, ?_⟩
  · intro hm
    rcases List.mem_cons.mp hm with e | hm
    · exact absurd F.ns.lt (e ▸ Nat.lt_irrefl _)
    · exact (N _ hl).2.1 (List.mem_singleton.mp hm).symm
  · intro b hb
    rw [List.mem_singleton.mp hb]
    exact next_is_new F
  · intro p hp hI
    exact absurd (Heap.lt_size (N p hp).1) ((List.mem_singleton.mp hI) ▸ Nat.lt_irrefl _)
  · rintro i v m₁ news₁ s₁ own ⟨hh', tk', rfl⟩ hin hP hJ hoff hown hat hmem hst F₁ N₁
    obtain ⟨⟨oI, hoI, _⟩, _⟩ := hst
    have hmI : (s.heap.objs.size, oI) ∈ own := hmem _ (.head _) (next_is_new F) oI hoI
    have hall : ∀ p ∈ own, p = (s.heap.objs.size, oI) ∨ p.1 = l := fun p hp => by
      rcases List.mem_cons.mp (hown p hp) with h1 | h1
      · have h2 := hat p hp
        rw [h1] at h2
        have h3 : hh'.get? s.heap.objs.size = some p.2 := h2
        rw [hoI] at h3
        exact .inl (Prod.ext h1 (Option.some.inj h3).symm)
      · exact .inr (List.mem_singleton.mp h1)
    have hlat : hh'.get? l = some (listOf vs.toArray k) := (N₁ _ (List.mem_append.mpr (.inr (hJl _ _ _ hJ)))).1
    have hv : vs[i]? = some v := by simpa using hP
    have N₂ : News h₀ env.locals hh' ((s.heap.objs.size, oI) :: news₁) := fun p hp => N₁ p ((List.mem_cons.mp hp).elim (fun e => List.mem_append.mpr (.inl (e ▸ hmI))) fun h => List.mem_append.mpr (.inr h))
    refine wpAny_mono (turn i v m₁ news₁ hh' tk' _ oI hv (fun p hp e => hoff p hp (List.mem_singleton.mpr e)) hJ F₁ N₂) (fun f s₂ p => ?_) fun _ _ e => e
    have fin : LEnd h₀ env.locals (J (i + 1)) s.heap.objs.size oI { s with heap := hh', toks := tk' } s₂ → LoopStepU h₀ env.locals [s.heap.objs.size] own (J (i + 1)) { s with heap := hh', toks := tk' } .next s₂ := by
      rintro ⟨h', tk, m', news', nx, e, F', N', hn, hi, ho, hm⟩
      refine ⟨rfl, h', tk, m', nx, e, F', fun p hp => N' p ((List.mem_append.mp hp).elim (fun h => ?_) (hn p)), fun p hp hq => ho p hp (List.mem_singleton.mp hq), hm⟩
      rcases hall p h with h1 | h1
      · exact h1 ▸ hi
      · have h2 := hat p h
        have h3 : hh'.get? p.1 = some p.2 := h2
        rw [h1, hlat] at h3
        have : p = (l, listOf vs.toArray k) := Prod.ext h1 (Option.some.inj h3).symm
        rw [this]
        exact hn _ (hJl _ _ _ hm)
    cases f with
    | ret v => exact .ret p
    | brk => exact .brk p
    | next => exact .next (fin p)
    | cont => exact .cont (fin p)
  · rintro h' tk m' news' F' N' _ hJ
    exact done m' news' h' tk hJ F' N'
end

section
variable {prog : Program} {w : World} {E : Value → Shared → Prop} {Q : Value → Shared → Prop} {s : Shared} {h₀ : Heap} {L : Addr} {m : Str → Option Value} {news news' : Led}
theorem my_last {M' : Around} {value slice : PySem.Expr} {l : Addr} {vs : List Value} {v : Value} {k : Nat} {u : Tok} (N : News h₀ L s.heap news) (hm : (l, listOf vs.toArray k) ∈ news) (hv : vs.getLast? = some v) (hf : vs.length ≤ 16777216)
    (h : Q v s)
    (hs : subscripted slice false (.ref l) (.int (-1) u) = operate [.ref l, .int (-1) u] (getItem (.ref l) (.int (-1) u)) := by with_unfolding_all rfl) :
    wpAny (model prog w) M' (subscriptTail value slice (.ref l) (.int (-1) u)) Q E s := by
  have hl : s.heap.IsList l vs.toArray := ⟨_, (N _ hm).1, rfl, _, rfl⟩
  have hne : vs ≠ [] := fun e => by rw [e] at hv; cases hv
  have hpos : 0 < vs.length := List.length_pos_iff.mpr hne
  refine tail_any hl.typeIs slot_list_getitem.lookup (wpAny_getItem_list_neg (x := v) hl (by decide) (by rw [List.size_toArray]; omega) (by decide) ?_ h) hs
  rw [List.size_toArray]
  have e : ((-1 : Int) + (vs.length : Int)).toNat = vs.length - 1 := by omega
  rw [e]
  simpa [List.getLast?_eq_getElem?] using hv
theorem my_append {M' : Around} {D : Addr} {vs : List Value} {n : Nat} {x : Value} (F : Fr h₀ L s.heap m) (N : News h₀ L s.heap news) (U : Upd D (listOf vs.toArray n) (listOf (vs ++ [x]).toArray (n + 1)) news news') (hsz : vs.length ≤ 16777216)
    (h : ∀ h', Fr h₀ L h' m → News h₀ L h' news' → Q .none { s with heap := h' }) : wpAny (model prog w) M' (call (.builtin "list.append") [.ref D, x]) Q E s := by
  refine append_K F N (by rw [List.push_toArray]; exact U) h (by rw [List.size_toArray, sizeLine_eq]; exact hsz)
end
section
variable {prog : Program} {w : World} {A : Around} {E : Value → Shared → Prop} {s : Shared} {env : Env} {h₀ : Heap} {x : Str} {body : List Stmt} {Q : Flow → Shared → Prop}
theorem range_loop0 (xs : List Str) {r : Addr} {a₀ b₀ : Int} {t₀ u₀ v₀ : Tok} {n : Nat} {m₀ : Str → Option Value} {news : Led} (J : Nat → Led → Prop)
    (hh : A.handled = none) (hr : IsRange s.heap r a₀ b₀ 1 t₀ u₀ v₀) (F : Fr h₀ env.locals s.heap m₀) (N : News h₀ env.locals s.heap news) (hsmall : Builtin.Range.small a₀ b₀ 1 = true) (hn : Builtin.Range.rangeSize a₀ b₀ 1 = (n : Int)) (hj : J 0 news)
    (turn : ∀ (i : Nat) t (u : Str → Option Value) nx h tk I oI, i < n → (∀ p ∈ nx, p.1 ≠ I) → J i nx → Fr h₀ env.locals h (fun y => if y = x then some (.int (a₀ + (i : Int)) t) else if xs.contains y then u y else m₀ y) → News h₀ env.locals h ((I, oI) :: nx) →
      wpAny (model prog w) A (execs body env) (LPost h₀ env.locals (fun m' nx' => Same (x :: xs) m₀ m' ∧ J (i + 1) nx') I oI { s with heap := h, toks := tk } Q) E { s with heap := h, toks := tk })
    (done : ∀ (u : Str → Option Value) nx h tk, J n nx → Fr h₀ env.locals h (fun y => if (x :: xs).contains y then u y else m₀ y) → News h₀ env.locals h nx → Q .next { s with heap := h, toks := tk }) :
    wpAny (model prog w) A (pyIter (.ref r)) (fun it s₂ => LoopAtV prog w A h₀ env x body Q E it s₂) E s := by
  refine my_range_loop (fun i m₁ nx => Same (x :: xs) m₀ m₁ ∧ J i nx) hh hr hsmall hn F N ⟨Same.refl, hj⟩ ?_ ?_
  · rintro i t m₁ nx h tk I oI hi hI ⟨hS, hJ⟩ F₁ N₁
    refine turn i t m₁ nx h tk I oI hi hI hJ ?_ N₁
    have e : (fun y => if y = x then some (Value.int (a₀ + (i : Int)) t) else m₁ y) = fun y => if y = x then some (Value.int (a₀ + (i : Int)) t) else if xs.contains y then m₁ y else m₀ y := by
      funext y
      by_cases h1 : y = x
      · simp [h1]
      · simp only [if_neg h1]
        cases h2 : xs.contains y with
        | true => simp
        | false =>
          have h3 : (x :: xs).contains y = false := by
            rw [List.contains_cons, h2, Bool.or_false]; exact beq_eq_false_iff_ne.mpr h1
          simp [hS y h3]
    rw [e] at F₁
    exact F₁
  · rintro m₁ nx h tk ⟨hS, hJ⟩ F₁ N₁
    rw [hS.eq] at F₁
    exact done m₁ nx h tk hJ F₁ N₁
theorem list_loop0 (xs : List Str) {l : Addr} {vs : List Value} {k : Nat} {m₀ : Str → Option Value} {news : Led} (J : Nat → Led → Prop)
    (hh : A.handled = none) (F : Fr h₀ env.locals s.heap m₀) (N : News h₀ env.locals s.heap news) (hl : (l, listOf vs.toArray k) ∈ news) (hj : J 0 news)
    (hJl : ∀ i nx, J i nx → (l, listOf vs.toArray k) ∈ nx)
    (turn : ∀ (i : Nat) v (u : Str → Option Value) nx h tk I oI, vs[i]? = some v → (∀ p ∈ nx, p.1 ≠ I) → J i nx → Fr h₀ env.locals h (fun y => if y = x then some v else if xs.contains y then u y else m₀ y) → News h₀ env.locals h ((I, oI) :: nx) →
      wpAny (model prog w) A (execs body env) (LPost h₀ env.locals (fun m' nx' => Same (x :: xs) m₀ m' ∧ J (i + 1) nx') I oI { s with heap := h, toks := tk } Q) E { s with heap := h, toks := tk })
    (done : ∀ (u : Str → Option Value) nx h tk, J vs.length nx → Fr h₀ env.locals h (fun y => if (x :: xs).contains y then u y else m₀ y) → News h₀ env.locals h nx → Q .next { s with heap := h, toks := tk }) :
    wpAny (model prog w) A (pyIter (.ref l)) (fun it s₂ => LoopAtV prog w A h₀ env x body Q E it s₂) E s := by
  refine my_list_loop (fun i m₁ nx => Same (x :: xs) m₀ m₁ ∧ J i nx) hh F N hl ⟨Same.refl, hj⟩ (fun i _ nx h => hJl i nx h.2) ?_ ?_
  · rintro i v m₁ nx h tk I oI hi hI ⟨hS, hJ⟩ F₁ N₁
    refine turn i v m₁ nx h tk I oI hi hI hJ ?_ N₁
    have e : (fun y => if y = x then some v else m₁ y) = fun y => if y = x then some v else if xs.contains y then m₁ y else m₀ y := by
      funext y
      by_cases h1 : y = x
      · simp [h1]
      · simp only [if_neg h1]
        cases h2 : xs.contains y with
        | true => simp
        | false =>
          have h3 : (x :: xs).contains y = false := by
            rw [List.contains_cons, h2, Bool.or_false]; exact beq_eq_false_iff_ne.mpr h1
          simp [hS y h3]
    rw [e] at F₁
    exact F₁
  · rintro m₁ nx h tk ⟨hS, hJ⟩ F₁ N₁
    rw [hS.eq] at F₁
    exact done m₁ nx h tk hJ F₁ N₁
/-- one name is followed -/
theorem range_loop1 (y : Str) (xs : List Str) {r : Addr} {a₀ b₀ : Int} {t₀ u₀ v₀ : Tok} {n : Nat} {m₀ : Str → Option Value} {news : Led} {yv : Value} (J : Nat → Value → Led → Prop)
    (hh : A.handled = none) (hr : IsRange s.heap r a₀ b₀ 1 t₀ u₀ v₀) (F : Fr h₀ env.locals s.heap m₀) (N : News h₀ env.locals s.heap news) (hy : m₀ y = some yv) (hsmall : Builtin.Range.small a₀ b₀ 1 = true) (hn : Builtin.Range.rangeSize a₀ b₀ 1 = (n : Int)) (hj : J 0 yv news)
    (turn : ∀ (i : Nat) t v (u : Str → Option Value) nx h tk I oI, i < n → (∀ p ∈ nx, p.1 ≠ I) → J i v nx → Fr h₀ env.locals h (fun z => if z = x then some (.int (a₀ + (i : Int)) t) else if z = y then some v else if xs.contains z then u z else m₀ z) → News h₀ env.locals h ((I, oI) :: nx) →
      wpAny (model prog w) A (execs body env) (LPost h₀ env.locals (fun m' nx' => Same (x :: y :: xs) m₀ m' ∧ ∃ v', m' y = some v' ∧ J (i + 1) v' nx') I oI { s with heap := h, toks := tk } Q) E { s with heap := h, toks := tk })
    (done : ∀ v (u : Str → Option Value) nx h tk, J n v nx → Fr h₀ env.locals h (fun z => if z = y then some v else if (x :: xs).contains z then u z else m₀ z) → News h₀ env.locals h nx → Q .next { s with heap := h, toks := tk }) :
    wpAny (model prog w) A (pyIter (.ref r)) (fun it s₂ => LoopAtV prog w A h₀ env x body Q E it s₂) E s := by
  refine my_range_loop (fun i m₁ nx => Same (x :: y :: xs) m₀ m₁ ∧ ∃ v, m₁ y = some v ∧ J i v nx) hh hr hsmall hn F N ⟨Same.refl, yv, hy, hj⟩ ?_ ?_
  · rintro i t m₁ nx h tk I oI hi hI ⟨hS, v, hv, hJ⟩ F₁ N₁
    refine turn i t v m₁ nx h tk I oI hi hI hJ ?_ N₁
    have e : (fun z => if z = x then some (Value.int (a₀ + (i : Int)) t) else m₁ z) = fun z => if z = x then some (Value.int (a₀ + (i : Int)) t) else if z = y then some v else if xs.contains z then m₁ z else m₀ z := by
      funext z
      by_cases h1 : z = x
      · simp [h1]
      · simp only [if_neg h1]
        by_cases h4 : z = y
        · simp [h4, hv]
        · simp only [if_neg h4]
          cases h2 : xs.contains z with
          | true => simp
          | false =>
            have h3 : (x :: y :: xs).contains z = false := by
              rw [List.contains_cons, List.contains_cons, h2, Bool.or_false, beq_eq_false_iff_ne.mpr h1, beq_eq_false_iff_ne.mpr h4]; rfl
            simp [hS z h3]
    rw [e] at F₁
    exact F₁
  · rintro m₁ nx h tk ⟨hS, v, hv, hJ⟩ F₁ N₁
    refine done v m₁ nx h tk hJ ?_ N₁
    have e : m₁ = fun z => if z = y then some v else if (x :: xs).contains z then m₁ z else m₀ z := by
      funext z
      by_cases h4 : z = y
      · simp [h4, hv]
      · simp only [if_neg h4]
        cases h2 : (x :: xs).contains z with
        | true => simp
        | false =>
          have h3 : (x :: y :: xs).contains z = false := by
            rw [List.contains_cons] at h2 ⊢
            rw [List.contains_cons, beq_eq_false_iff_ne.mpr h4, Bool.false_or]; exact h2
          simp [hS z h3]
    rw [e] at F₁
    exact F₁
theorem list_loop1 (y : Str) (xs : List Str) {l : Addr} {vs : List Value} {k : Nat} {m₀ : Str → Option Value} {news : Led} {yv : Value} (J : Nat → Value → Led → Prop)
    (hh : A.handled = none) (F : Fr h₀ env.locals s.heap m₀) (N : News h₀ env.locals s.heap news) (hl : (l, listOf vs.toArray k) ∈ news) (hy : m₀ y = some yv) (hj : J 0 yv news)
    (hJl : ∀ i v nx, J i v nx → (l, listOf vs.toArray k) ∈ nx)
    (turn : ∀ (i : Nat) iv v (u : Str → Option Value) nx h tk I oI, vs[i]? = some iv → (∀ p ∈ nx, p.1 ≠ I) → J i v nx → Fr h₀ env.locals h (fun z => if z = x then some iv else if z = y then some v else if xs.contains z then u z else m₀ z) → News h₀ env.locals h ((I, oI) :: nx) →
      wpAny (model prog w) A (execs body env) (LPost h₀ env.locals (fun m' nx' => Same (x :: y :: xs) m₀ m' ∧ ∃ v', m' y = some v' ∧ J (i + 1) v' nx') I oI { s with heap := h, toks := tk } Q) E { s with heap := h, toks := tk })
    (done : ∀ v (u : Str → Option Value) nx h tk, J vs.length v nx → Fr h₀ env.locals h (fun z => if z = y then some v else if (x :: xs).contains z then u z else m₀ z) → News h₀ env.locals h nx → Q .next { s with heap := h, toks := tk }) :
    wpAny (model prog w) A (pyIter (.ref l)) (fun it s₂ => LoopAtV prog w A h₀ env x body Q E it s₂) E s := by
  refine my_list_loop (fun i m₁ nx => Same (x :: y :: xs) m₀ m₁ ∧ ∃ v, m₁ y = some v ∧ J i v nx) hh F N hl ⟨Same.refl, yv, hy, hj⟩ (fun i _ nx h => let ⟨_, v, _, hJ⟩ := h; hJl i v nx hJ) ?_ ?_
  · rintro i iv m₁ nx h tk I oI hi hI ⟨hS, v, hv, hJ⟩ F₁ N₁
    refine turn i iv v m₁ nx h tk I oI hi hI hJ ?_ N₁
    have e : (fun z => if z = x then some iv else m₁ z) = fun z => if z = x then some iv else if z = y then some v else if xs.contains z then m₁ z else m₀ z := by
      funext z
      by_cases h1 : z = x
      · simp [h1]
      · simp only [if_neg h1]
        by_cases h4 : z = y
        · simp [h4, hv]
        · simp only [if_neg h4]
          cases h2 : xs.contains z with
          | true => simp
          | false =>
            have h3 : (x :: y :: xs).contains z = false := by
              rw [List.contains_cons, List.contains_cons, h2, Bool.or_false, beq_eq_false_iff_ne.mpr h1, beq_eq_false_iff_ne.mpr h4]; rfl
            simp [hS z h3]
    rw [e] at F₁
    exact F₁
  · rintro m₁ nx h tk ⟨hS, v, hv, hJ⟩ F₁ N₁
    refine done v m₁ nx h tk hJ ?_ N₁
    have e : m₁ = fun z => if z = y then some v else if (x :: xs).contains z then m₁ z else m₀ z := by
      funext z
      by_cases h4 : z = y
      · simp [h4, hv]
      · simp only [if_neg h4]
        cases h2 : (x :: xs).contains z with
        | true => simp
        | false =>
          have h3 : (x :: y :: xs).contains z = false := by
            rw [List.contains_cons] at h2 ⊢
            rw [List.contains_cons, beq_eq_false_iff_ne.mpr h4, Bool.false_or]; exact h2
          simp [hS z h3]
    rw [e] at F₁
    exact F₁
end
theorem ne_neA {Z Fz : Led} {a d : Addr} {o : Obj} (h : ∀ p ∈ Z ++ Fz, p.1 ≠ a) (hm : (d, o) ∈ Z) : a ≠ d := fun e => h _ (List.mem_append.mpr (.inl hm)) e.symm
theorem ne_allA {Z Fz : Led} {a d : Addr} {o : Obj} (h : AllLt a (Z ++ Fz)) (hm : (d, o) ∈ Z) : a ≠ d := fun e => by
  have h1 : d < a := tb_ltOf h _ (List.mem_append.mpr (.inl hm))
  subst e
  exact Nat.lt_irrefl _ h1
theorem ne_ltA {Z Fz : Led} {a d : Addr} {o : Obj} (h : ∀ p ∈ Z ++ Fz, p.1 < a) (hm : (d, o) ∈ Z) : a ≠ d := ne_allA (allLt_of h) hm
theorem ne_between {Z Fz : Led} {a b d : Addr} {o : Obj} (hm : (d, o) ∈ Z) (h : AllLt b (Z ++ Fz)) (hle : @LE.le Nat _ b a) : a ≠ d := fun e => by
  have h1 : d < b := tb_ltOf h _ (List.mem_append.mpr (.inl hm))
  subst e
  exact absurd (Nat.lt_of_lt_of_le h1 hle) (Nat.lt_irrefl _)
theorem all_repl {Z Fz : Led} {a d : Addr} {o' : Obj} (h : ∀ p ∈ Z ++ Fz, p.1 ≠ a) : ∀ p ∈ repl d o' Z ++ Fz, p.1 ≠ a := fun p hp e => by
  rcases List.mem_append.mp hp with hp | hp
  · have h1 : p.1 ∈ keys (repl d o' Z) := List.mem_map.mpr ⟨p, hp, rfl⟩
    rw [keys_repl] at h1
    obtain ⟨q, hq, e2⟩ := List.mem_map.mp h1
    exact h q (List.mem_append.mpr (.inl hq)) (e2.trans e)
  · exact h p (List.mem_append.mpr (.inr hp)) e
section
variable {prog : Program} {w : World} {A : Around} {E : Value → Shared → Prop} {s : Shared} {env : Env} {h₀ : Heap} {L : Addr} {Q : Flow → Shared → Prop}
theorem while_loop1 (y : Str) (xs : List Str) {test : PySem.Expr} {body : List Stmt} {pos : Pos} {m₀ : Str → Option Value} {news : Led} {yv : Value} (J : Nat → Value → Led → Prop) {n₀ : Nat}
    (F : Fr h₀ L s.heap m₀) (N : News h₀ L s.heap news) (hy : m₀ y = some yv) (hj : J n₀ yv news)
    (turn : ∀ n v (u : Str → Option Value) nx h tk, J n v nx → Fr h₀ L h (fun z => if z = y then some v else if xs.contains z then u z else m₀ z) → News h₀ L h nx →
      wpAny (model prog w) A (isTrue test env (eval test env)) (fun b s₂ =>
        if b = true then wpAny (model prog w) A (execs body env) (WhileStep h₀ L s (fun n m' nx' => Same (y :: xs) m₀ m' ∧ ∃ v', m' y = some v' ∧ J n v' nx') n) E s₂ else Q .next s₂) E { s with heap := h, toks := tk })
    (hE : PassesOwn (model prog w) A env E := by passes_own) :
    wpAny (model prog w) A (exec (.While test body [] pos) env) Q E s := by
  refine While_inv (fun n m' nx' => Same (y :: xs) m₀ m' ∧ ∃ v', m' y = some v' ∧ J n v' nx') F N ⟨Same.refl, yv, hy, hj⟩ ?_ hE
  rintro n m₁ nx h tk F₁ N₁ ⟨hS, v, hv, hJ⟩
  refine turn n v m₁ nx h tk hJ ?_ N₁
  have e : m₁ = fun z => if z = y then some v else if xs.contains z then m₁ z else m₀ z := by
    funext z
    by_cases h4 : z = y
    · simp [h4, hv]
    · simp only [if_neg h4]
      cases h2 : xs.contains z with
      | true => simp
      | false =>
        have h3 : (y :: xs).contains z = false := by
          rw [List.contains_cons, beq_eq_false_iff_ne.mpr h4, Bool.false_or]; exact h2
        simp [hS z h3]
  rw [e] at F₁
  exact F₁
theorem while_loop0 (xs : List Str) {test : PySem.Expr} {body : List Stmt} {pos : Pos} {m₀ : Str → Option Value} {news : Led} (J : Nat → Led → Prop) {n₀ : Nat}
    (F : Fr h₀ L s.heap m₀) (N : News h₀ L s.heap news) (hj : J n₀ news)
    (turn : ∀ n (u : Str → Option Value) nx h tk, J n nx → Fr h₀ L h (fun z => if xs.contains z then u z else m₀ z) → News h₀ L h nx →
      wpAny (model prog w) A (isTrue test env (eval test env)) (fun b s₂ =>
        if b = true then wpAny (model prog w) A (execs body env) (WhileStep h₀ L s (fun n m' nx' => Same xs m₀ m' ∧ J n nx') n) E s₂ else Q .next s₂) E { s with heap := h, toks := tk })
    (hE : PassesOwn (model prog w) A env E := by passes_own) :
    wpAny (model prog w) A (exec (.While test body [] pos) env) Q E s := by
  refine While_inv (fun n m' nx' => Same xs m₀ m' ∧ J n nx') F N ⟨Same.refl, hj⟩ ?_ hE
  rintro n m₁ nx h tk F₁ N₁ ⟨hS, hJ⟩
  rw [hS.eq] at F₁
  exact turn n m₁ nx h tk hJ F₁ N₁
end
section
variable {prog : Program} {w : World} {E : Value → Shared → Prop} {Q : Value → Shared → Prop} {s : Shared} {h₀ : Heap} {L : Addr} {news : Led}
theorem my_itemE {M' : Around} {value slice : PySem.Expr} {l : Addr} {vs : List Value} {k : Nat} {i : Int} {u : Tok} {v : Value} (N : News h₀ L s.heap news) (hm : (l, listOf vs.toArray k) ∈ news) (hv : vs[i.toNat]? = some v) (h0 : 0 ≤ i) (hf : vs.length ≤ 16777216)
    (h : Q v s)
    (hs : subscripted slice false (.ref l) (.int i u) = operate [.ref l, .int i u] (getItem (.ref l) (.int i u)) := by with_unfolding_all rfl) :
    wpAny (model prog w) M' (subscriptTail value slice (.ref l) (.int i u)) Q E s := by
  have hlt : i.toNat < vs.length := (List.getElem?_eq_some_iff.mp hv).1
  exact my_item N hm h0 (by omega) hf (fun v' hv' => by rw [hv] at hv'; cases hv'; exact h) hs
end
section
variable {prog : Program} {w : World} {A : Around} {E : Value → Shared → Prop} {s : Shared} {h₀ : Heap} {L D : Addr} {m : Str → Option Value} {news news' : List (Addr × Obj)} {vs : List Value} {n : Nat} {k : Int} {v : Value} {t : Tok}
theorem my_set {Q : Unit → Shared → Prop} (F : Fr h₀ L s.heap m) (N : News h₀ L s.heap news) (U : Upd D (listOf vs.toArray n) (listOf (vs.set k.toNat v).toArray n) news news') (h0 : 0 ≤ k) (h1 : k < vs.length) (hf : vs.length ≤ 16777216)
    (h : ∀ h', Fr h₀ L h' m → News h₀ L h' news' → Q () { s with heap := h' }) :
    wpAny (model prog w) A (setItem (.ref D) (.int k t) v) Q E s := by
  obtain ⟨pre, post, rfl, rfl, a, b⟩ := U.split
  have z := N (D, listOf vs.toArray n) (List.mem_append.mpr (.inr (.head _)))
  have hs : vs.toArray.size = vs.length := List.size_toArray
  refine ki_setAt z.1 h0 (by omega) (by omega) (h _ (F.change (Heap.SameBut.update ..) z.2.1 z.2.2) (ki_turn _ N a b ?_ ?_))
  · show vs.toArray.setIfInBounds k.toNat v = (vs.set k.toNat v).toArray
    apply Array.toList_inj.mp
    simp
  · simp
end
end Mine

-- part T1
namespace Mine
set_option maxRecDepth 100000
set_option maxHeartbeats 8000000
set_option pp.deepTerms false
set_option pp.deepTerms.threshold 4
set_option pp.maxSteps 100000

def bitB (net : Int) (i : Nat) : Bool := decide (net / 2 ^ (31 - i) % 2 = 1)
def bitsOf (net : Int) (k : Nat) : Path := (List.range k).map (bitB net)
theorem bitsOf_zero (net : Int) : bitsOf net 0 = [] := rfl
theorem bitsOf_succ (net : Int) (k : Nat) : bitsOf net (k + 1) = bitsOf net k ++ [bitB net k] := by
  unfold bitsOf; rw [List.range_succ, List.map_append]; rfl
theorem bitsOf_length (net : Int) (k : Nat) : (bitsOf net k).length = k := by unfold bitsOf; simp
theorem bitsOf_take (net : Int) {i k : Nat} (h : i ≤ k) : (bitsOf net k).take i = bitsOf net i := by
  unfold bitsOf; rw [← List.map_take, List.take_range, Nat.min_eq_left h]
def pathVals (f : Fm) (net : Int) (i : Nat) : List Value := (List.range (i + 1)).map fun j => vOf (f (bitsOf net j))
theorem pathVals_succ (f : Fm) (net : Int) (i : Nat) : pathVals f net (i + 1) = pathVals f net i ++ [vOf (f (bitsOf net (i + 1)))] := by
  unfold pathVals; rw [List.range_succ, List.map_append]; rfl
theorem pathVals_length (f : Fm) (net : Int) (i : Nat) : (pathVals f net i).length = i + 1 := by unfold pathVals; simp
theorem pathVals_last (f : Fm) (net : Int) (i : Nat) : (pathVals f net i).getLast? = some (vOf (f (bitsOf net i))) := by
  cases i with
  | zero => rfl
  | succ i => rw [pathVals_succ, List.getLast?_append]; rfl
theorem pathVals_get (f : Fm) (net : Int) {i j : Nat} (h : j ≤ i) : (pathVals f net i)[j]? = some (vOf (f (bitsOf net j))) := by
  unfold pathVals
  have : j < i + 1 := by omega
  simp [this]
theorem pathVals_congr {f g : Fm} {net : Int} {i : Nat} (h : ∀ j, j ≤ i → vOf (f (bitsOf net j)) = vOf (g (bitsOf net j))) : pathVals f net i = pathVals g net i := by
  unfold pathVals
  refine List.map_congr_left fun j hj => h j ?_
  have := List.mem_range.mp hj
  omega
theorem bit01 (net : Int) (i : Nat) : (bitB net i = false → net / 2 ^ (31 - i) % 2 = 0) ∧ (bitB net i = true → net / 2 ^ (31 - i) % 2 = 1) := by
  have h : net / 2 ^ (31 - i) % 2 = 0 ∨ net / 2 ^ (31 - i) % 2 = 1 := by omega
  unfold bitB
  constructor
  · intro e; have := of_decide_eq_false e; omega
  · intro e; exact of_decide_eq_true e
theorem snoc_ne (q : Path) (b : Bool) : q ++ [b] ≠ q := fun e => by have := congrArg List.length e; simp at this
theorem snoc_inj {q q' : Path} {b b' : Bool} (e : q ++ [b] = q' ++ [b']) : q = q' ∧ b = b' := by
  have := List.append_inj' e rfl
  exact ⟨this.1, by simpa using this.2⟩

def grow (f : Fm) (p : Path) (nd : Nd) : Fm := fun q => if q = p then some nd else f q
theorem grow_self (f : Fm) (p : Path) (nd : Nd) : grow f p nd p = some nd := if_pos rfl
theorem grow_ne (f : Fm) {p q : Path} (nd : Nd) (h : q ≠ p) : grow f p nd q = f q := if_neg h

theorem brD_ne_inst {P : Params} {t1 t2 t3 : Tok} {v0 v1 : Value} {l C x : Addr} : brD P t1 t2 t3 v0 v1 l ≠ instObj C x := fun e => by cases e
theorem rtL_ne_inst {rs : List Rt} {n : Nat} {C x : Addr} : rtL rs n ≠ instObj C x := fun e => by cases e
theorem brD_ne_rtL {P : Params} {t1 t2 t3 : Tok} {v0 v1 : Value} {l : Addr} {rs : List Rt} {n : Nat} : brD P t1 t2 t3 v0 v1 l ≠ rtL rs n := fun e => by have := congrArg Obj.data e; cases this
theorem rtL_ne_brD {P : Params} {t1 t2 t3 : Tok} {v0 v1 : Value} {l : Addr} {rs : List Rt} {n : Nat} : rtL rs n ≠ brD P t1 t2 t3 v0 v1 l := fun e => brD_ne_rtL e.symm

theorem inst_inj {C x C' x' : Addr} (e : instObj C x = instObj C' x') : x = x' := by cases e; rfl
theorem brD_inj_l {P : Params} {t1 t2 t3 s1 s2 s3 : Tok} {v0 v1 u0 u1 : Value} {l l' : Addr} (e : brD P t1 t2 t3 v0 v1 l = brD P s1 s2 s3 u0 u1 l') : l = l' := by cases e; rfl

theorem Tree.x_ne {P : Params} {Z : Led} {f : Fm} (T : Tree P Z f) {q q' : Path} {nd nd' : Nd} (h : f q = some nd) (h' : f q' = some nd') (hn : q ≠ q') : nd.x ≠ nd'.x ∧ nd.d ≠ nd'.d ∧ nd.l ≠ nd'.l :=
  ⟨fun e => hn (T.inj _ _ _ _ h h' (.inr (.inl e))), fun e => hn (T.inj _ _ _ _ h h' (.inl e)), fun e => hn (T.inj _ _ _ _ h h' (.inr (.inr e)))⟩

/-- one dict of the tree is written anew, new objects may come -/
theorem Tree.change {P : Params} {Z Z' : Led} {f f' : Fm} {q : Path} {nd : Nd} {o' : Obj} (T : Tree P Z f) (ndZ : ND Z) (hq : f q = some nd)
    (hup : ∀ p ∈ repl nd.d o' Z, p ∈ Z') {q' : Path} {nd' : Nd} (h : f q' = some nd') (hne : q' ≠ q)
    (hc : ∀ b, vOf (f' (q' ++ [b])) = vOf (f (q' ++ [b]))) : NdIn P Z' f' q' nd' := by
  obtain ⟨ix, ⟨t1, t2, t3, id⟩, ⟨n, il⟩, ir⟩ := T.nod _ _ h
  obtain ⟨jx, ⟨s1, s2, s3, jd⟩, ⟨k, jl⟩, jr⟩ := T.nod _ _ hq
  have ne := T.x_ne h hq hne
  refine ⟨hup _ (mem_repl_ne ix (nd_ne ndZ ix jd fun e => by cases e)), ⟨t1, t2, t3, ?_⟩, ⟨n, hup _ (mem_repl_ne il (nd_ne ndZ il jd rtL_ne_brD))⟩, fun r hr => ?_⟩
  · rw [hc, hc]
    exact hup _ (mem_repl_ne id ne.2.1)
  · exact ((ir r hr).repl ndZ jd (fun _ _ e => by cases e) fun es e => by injection e with _ _ e3 _; injection e3 with _ e4; cases e4).mono hup

theorem Tree.grow {P : Params} {Z Z' : Led} {f : Fm} {q : Path} {b : Bool} {nd : Nd} {x' d' l' : Addr} {t1 t2 t3 s1 s2 s3 : Tok} (T : Tree P Z f) (ndZ : ND Z) (hq : f q = some nd) (hb : f (q ++ [b]) = none) (hlen : q.length < 32)
    (hx : (x', instObj 162 d') ∈ Z') (hd : (d', brD P t1 t2 t3 .none .none l') ∈ Z') (hl : (l', listOf [].toArray 0) ∈ Z')
    (hup : ∀ p ∈ repl nd.d (brD P s1 s2 s3 (if b = true then vOf (f (q ++ [false])) else .ref x') (if b = true then .ref x' else vOf (f (q ++ [true]))) nd.l) Z, p ∈ Z')
    (hf : x' ∉ keys Z ∧ d' ∉ keys Z ∧ l' ∉ keys Z) : Tree P Z' (Mine.grow f (q ++ [b]) ⟨x', d', l', []⟩) := by
  have hkeys : ∀ q' nd', f q' = some nd' → nd'.x ∈ keys Z ∧ nd'.d ∈ keys Z ∧ nd'.l ∈ keys Z := fun q' nd' h => by
    obtain ⟨ix, ⟨_, _, _, id⟩, ⟨_, il⟩, _⟩ := T.nod _ _ h
    exact ⟨mem_keys ix, mem_keys id, mem_keys il⟩
  have hbelow : ∀ c, f ((q ++ [b]) ++ [c]) = none := fun c => by
    cases e : f ((q ++ [b]) ++ [c]) with
    | none => rfl
    | some _ => exact absurd hb (T.pre _ c (by rw [e]; exact fun x => by cases x))
  refine ⟨fun q' nd' h => ?_, fun q1 q2 n1 n2 h1 h2 e => ?_, fun q' c h => ?_, fun q' h => ?_, ?_⟩
  · by_cases hq' : q' = q ++ [b]
    · subst hq'
      rw [grow_self] at h
      cases h
      refine ⟨hx, ⟨t1, t2, t3, ?_⟩, ⟨0, hl⟩, fun r hr => nomatch hr⟩
      rw [grow_ne _ _ (snoc_ne _ _), grow_ne _ _ (snoc_ne _ _), hbelow, hbelow]
      exact hd
    · rw [grow_ne _ _ hq'] at h
      by_cases hqq : q' = q
      · subst hqq
        rw [hq] at h; cases h
        obtain ⟨ix, ⟨u1, u2, u3, id⟩, ⟨n, il⟩, ir⟩ := T.nod _ _ hq
        refine ⟨hup _ (mem_repl_ne ix (nd_ne ndZ ix id fun e => by cases e)), ⟨s1, s2, s3, ?_⟩, ⟨n, hup _ (mem_repl_ne il (nd_ne ndZ il id rtL_ne_brD))⟩, fun r hr => ?_⟩
        · have := hup _ (mem_repl_self (o := _) id)
          cases b with
          | true =>
            rw [grow_self, grow_ne _ _ (fun e => by have := (snoc_inj e).2; cases this)]
            exact this
          | false =>
            rw [grow_self, grow_ne _ _ (fun e => by have := (snoc_inj e).2; cases this)]
            exact this
        · exact ((ir r hr).repl ndZ id (fun _ _ e => by cases e) fun es e => by injection e with _ _ e3 _; injection e3 with _ e4; cases e4).mono hup
      · exact T.change ndZ hq hup h hqq fun c => by rw [grow_ne _ _ fun e => hqq (snoc_inj e).1]
  · by_cases h1' : q1 = q ++ [b]
    · by_cases h2' : q2 = q ++ [b]
      · rw [h1', h2']
      · rw [h1', grow_self] at h1; rw [grow_ne _ _ h2'] at h2
        cases h1
        have k := hkeys _ _ h2
        rcases e with e | e | e
        · exact absurd k.2.1 (e ▸ hf.2.1)
        · exact absurd k.1 (e ▸ hf.1)
        · exact absurd k.2.2 (e ▸ hf.2.2)
    · rw [grow_ne _ _ h1'] at h1
      by_cases h2' : q2 = q ++ [b]
      · rw [h2', grow_self] at h2
        cases h2
        have k := hkeys _ _ h1
        rcases e with e | e | e
        · exact absurd k.2.1 (e ▸ hf.2.1)
        · exact absurd k.1 (e ▸ hf.1)
        · exact absurd k.2.2 (e ▸ hf.2.2)
      · rw [grow_ne _ _ h2'] at h2
        exact T.inj _ _ _ _ h1 h2 e
  · by_cases hq' : q' = q ++ [b]
    · rw [hq', grow_self]; exact fun x => by cases x
    · rw [grow_ne _ _ hq']
      by_cases hc : q' ++ [c] = q ++ [b]
      · rw [(snoc_inj hc).1, hq]; exact fun x => by cases x
      · rw [grow_ne _ _ hc] at h
        exact T.pre _ _ h
  · by_cases hq' : q' = q ++ [b]
    · rw [hq']; simp; omega
    · rw [grow_ne _ _ hq'] at h; exact T.fin _ h
  · rw [grow_ne _ _ (fun e => by have := congrArg List.length e; simp at this)]; exact T.root

structure Ext (f : Fm) (net : Int) (i : Nat) (f' : Fm) : Prop where
  keep : ∀ q, f q ≠ none → f' q = f q
  new : ∀ q nd, f q = none → f' q = some nd → nd.rs = [] ∧ ∃ j, j ≤ i ∧ q = bitsOf net j
  all : ∀ j, j ≤ i → f' (bitsOf net j) ≠ none
theorem Ext.zero {P : Params} {Z : Led} {f : Fm} (T : Tree P Z f) {net : Int} : Ext f net 0 f :=
  ⟨fun _ _ => rfl, fun q nd h h' => (by rw [h] at h'; cases h'), fun j hj => by rw [Nat.le_zero.mp hj]; exact T.root⟩
theorem Ext.same {f f' : Fm} {net : Int} {i : Nat} (h : Ext f net i f') (hn : f' (bitsOf net (i + 1)) ≠ none) : Ext f net (i + 1) f' :=
  ⟨h.keep, fun q nd a b => let ⟨c, j, hj, e⟩ := h.new q nd a b; ⟨c, j, Nat.le_succ_of_le hj, e⟩, fun j hj => by
    rcases Nat.lt_or_ge j (i + 1) with h1 | h1
    · exact h.all j (Nat.le_of_lt_succ h1)
    · rw [Nat.le_antisymm hj h1]; exact hn⟩
theorem Ext.grow {f f' : Fm} {net : Int} {i : Nat} {nd : Nd} (h : Ext f net i f') (hn : f' (bitsOf net (i + 1)) = none) (hr : nd.rs = []) : Ext f net (i + 1) (Mine.grow f' (bitsOf net (i + 1)) nd) := by
  refine ⟨fun q hq => ?_, fun q nd' a b => ?_, fun j hj => ?_⟩
  · rw [grow_ne]
    · exact h.keep q hq
    · intro e; rw [← e, h.keep q hq] at hn; exact hq hn
  · by_cases e : q = bitsOf net (i + 1)
    · rw [e, grow_self] at b; cases b; exact ⟨hr, i + 1, Nat.le_refl _, e⟩
    · rw [grow_ne _ _ e] at b
      obtain ⟨c, j, hj, e⟩ := h.new q nd' a b
      exact ⟨c, j, Nat.le_succ_of_le hj, e⟩
  · by_cases e : bitsOf net j = bitsOf net (i + 1)
    · rw [e, grow_self]; exact fun x => by cases x
    · rw [grow_ne _ _ e]
      refine h.all j ?_
      rcases Nat.lt_or_ge j (i + 1) with h1 | h1
      · exact Nat.le_of_lt_succ h1
      · exact absurd (by rw [Nat.le_antisymm hj h1]) e
theorem vOf_none : vOf none = .none := rfl
theorem vOf_some (nd : Nd) : vOf (some nd) = .ref nd.x := rfl
abbrev PathJ (P : Params) (xs : List Str) (m₀ : Str → Option Value) (f : Fm) (net : Int) (mk : Bool) (Z Fz : Led) (l1 : Addr) (i : Nat) (m' : Str → Option Value) (nx : Led) : Prop :=
  Same xs m₀ m' ∧ ∃ Z' f' n', nx = (l1, listOf (pathVals f' net i).toArray n') :: (Z' ++ Fz) ∧ ND nx ∧ Tree P Z' f' ∧ Ext f net i f' ∧ (mk = false → f' = f ∧ Z' = Z) ∧ ∀ r, RtIn P Z r → RtIn P Z' r
section
variable {P : Params} {xs : List Str} {m₀ m' : Str → Option Value} {f f' : Fm} {net : Int} {mk : Bool} {Z Z' Fz : Led} {l1 I : Addr} {oI : Obj} {i n' n2 tk : Nat} {g1 h9 : Heap} {L1 : Addr} {s₁ : Shared}
theorem path_end_old {n2nd : Nd} (F : Fr g1 L1 h9 m') (hS : Same xs m₀ m') (N : News g1 L1 h9 ((I, oI) :: (l1, listOf (pathVals f' net i ++ [Value.ref n2nd.x]).toArray n2) :: (Z' ++ Fz)))
    (nd : ND ((l1, listOf (pathVals f' net i).toArray n') :: (Z' ++ Fz))) (hI : ∀ p ∈ (l1, listOf (pathVals f' net i).toArray n') :: (Z' ++ Fz), p.1 ≠ I) (T : Tree P Z' f') (hc : f' (bitsOf net i ++ [bitB net i]) = some n2nd) (hE : Ext f net i f') (hmk : mk = false → f' = f ∧ Z' = Z) (hkp : ∀ r, RtIn P Z r → RtIn P Z' r) :
    LEnd g1 L1 (PathJ P xs m₀ f net mk Z Fz l1 (i + 1)) I oI s₁ { s₁ with heap := h9, toks := tk } := by
  have e : pathVals f' net (i + 1) = pathVals f' net i ++ [Value.ref n2nd.x] := by rw [pathVals_succ, bitsOf_succ, hc]; rfl
  refine ⟨h9, tk, m', _, (l1, listOf (pathVals f' net (i + 1)).toArray n2) :: (Z' ++ Fz), rfl, F, N, fun p hp => ?_, .head _, fun p hp => ?_, hS, Z', f', n2, rfl, nd_keys rfl nd, T, hE.same (by rw [bitsOf_succ, hc]; exact fun x => by cases x), hmk, hkp⟩
  · rw [e] at hp; exact .tail _ hp
  · rcases List.mem_cons.mp hp with rfl | hp
    · exact (hI (l1, listOf (pathVals f' net i).toArray n') (.head _) : l1 ≠ I)
    · exact hI _ (.tail _ hp)
theorem path_end_new {b : Bool} {ndq : Nd} {x' d' l' : Addr} {t1 t2 t3 s1 s2 s3 : Tok} (F : Fr g1 L1 h9 m') (hS : Same xs m₀ m')
    (N : News g1 L1 h9 ((l', listOf [].toArray 0) :: (x', instObj 162 d') :: (d', brD P t1 t2 t3 .none .none l') :: (I, oI) :: (l1, listOf (pathVals f' net i ++ [Value.ref x']).toArray n2) ::
      (repl ndq.d (brD P s1 s2 s3 (if b = true then vOf (f' (bitsOf net i ++ [false])) else Value.ref x') (if b = true then Value.ref x' else vOf (f' (bitsOf net i ++ [true]))) ndq.l) Z' ++ Fz)))
    (hA : AllLt d' (Z' ++ Fz)) (hdx : @LT.lt Nat _ d' x') (hxl : @LT.lt Nat _ x' l') (hId : @LT.lt Nat _ I d') (hld : @LT.lt Nat _ l1 d')
    (nd : ND ((l1, listOf (pathVals f' net i).toArray n') :: (Z' ++ Fz))) (hI : ∀ p ∈ (l1, listOf (pathVals f' net i).toArray n') :: (Z' ++ Fz), p.1 ≠ I) (T : Tree P Z' f') (hq : f' (bitsOf net i) = some ndq) (hb : bitB net i = b) (hc : f' (bitsOf net i ++ [b]) = none)
    (hi : i < 32) (hE : Ext f net i f') (hmk : mk = true) (hkp : ∀ r, RtIn P Z r → RtIn P Z' r) :
    LEnd g1 L1 (PathJ P xs m₀ f net mk Z Fz l1 (i + 1)) I oI s₁ { s₁ with heap := h9, toks := tk } := by
  have hlt := tb_ltOf hA
  have nd2 := nd_tail nd
  have fr : ∀ a, @LE.le Nat _ d' a → ∀ p ∈ Z' ++ Fz, p.1 ≠ a := fun a ha p hp e => by
    have h1 : @LT.lt Nat _ p.1 d' := hlt p hp
    rw [e] at h1
    exact absurd (Nat.lt_of_lt_of_le h1 ha) (Nat.lt_irrefl _)
  have fk : ∀ a, @LE.le Nat _ d' a → a ∉ keys Z' := fun a ha hm => by
    obtain ⟨p, hp, e⟩ := List.mem_map.mp hm
    exact fr a ha p (List.mem_append.mpr (.inl hp)) e
  have hx1 : @LE.le Nat _ d' x' := Nat.le_of_lt hdx
  have hl1 : @LE.le Nat _ d' l' := Nat.le_of_lt (Nat.lt_trans hdx hxl)
  have eb : bitsOf net (i + 1) = bitsOf net i ++ [b] := by rw [bitsOf_succ, hb]
  have e : pathVals (grow f' (bitsOf net i ++ [b]) ⟨x', d', l', []⟩) net (i + 1) = pathVals f' net i ++ [Value.ref x'] := by
    rw [pathVals_succ, eb, grow_self]
    congr 1
    refine pathVals_congr fun j hj => ?_
    rw [grow_ne]
    intro e
    have := congrArg List.length e
    rw [bitsOf_length, List.length_append, bitsOf_length] at this
    simp at this; omega
  have T' := Tree.grow (Z' := (l', listOf [].toArray 0) :: (x', instObj 162 d') :: (d', brD P t1 t2 t3 .none .none l') :: repl ndq.d (brD P s1 s2 s3 (if b = true then vOf (f' (bitsOf net i ++ [false])) else Value.ref x') (if b = true then Value.ref x' else vOf (f' (bitsOf net i ++ [true]))) ndq.l) Z')
    T (nd_left nd2) hq hc (by rw [bitsOf_length]; exact hi) (.tail _ (.head _)) (.tail _ (.tail _ (.head _))) (.head _) (fun p hp => .tail _ (.tail _ (.tail _ hp))) ⟨fk _ hx1, fk _ (Nat.le_refl _), fk _ hl1⟩
  have all2 : ∀ a, @LE.le Nat _ d' a → ∀ p ∈ repl ndq.d (brD P s1 s2 s3 (if b = true then vOf (f' (bitsOf net i ++ [false])) else Value.ref x') (if b = true then Value.ref x' else vOf (f' (bitsOf net i ++ [true]))) ndq.l) Z' ++ Fz, p.1 ≠ a :=
    fun a ha => all_repl (fr a ha)
  have ne1 : @Ne Nat x' d' := by omega
  have ne2 : @Ne Nat x' l' := by omega
  have ne3 : @Ne Nat d' l' := by omega
  have ne4 : @Ne Nat l' l1 := by omega
  have ne5 : @Ne Nat x' l1 := by omega
  have ne6 : @Ne Nat d' l1 := by omega
  have ne7 : @Ne Nat l' I := by omega
  have ne8 : @Ne Nat x' I := by omega
  have ne9 : @Ne Nat d' I := by omega
  refine ⟨h9, tk, m', _, (l1, listOf (pathVals (grow f' (bitsOf net i ++ [b]) ⟨x', d', l', []⟩) net (i + 1)).toArray n2) :: (((l', listOf [].toArray 0) :: (x', instObj 162 d') :: (d', brD P t1 t2 t3 .none .none l') ::
      repl ndq.d (brD P s1 s2 s3 (if b = true then vOf (f' (bitsOf net i ++ [false])) else Value.ref x') (if b = true then Value.ref x' else vOf (f' (bitsOf net i ++ [true]))) ndq.l) Z') ++ Fz), rfl, F, N, fun p hp => ?_, .tail _ (.tail _ (.tail _ (.head _))), fun p hp => ?_, hS, _, _, n2, rfl, ?_, T', eb ▸ hE.grow (eb ▸ hc) rfl, (fun h => by rw [hmk] at h; cases h), fun r hr => ?_⟩
  · rw [e] at hp
    simp only [List.cons_append, List.mem_cons] at hp ⊢
    rcases hp with h | h | h | h | h
    · exact .inr (.inr (.inr (.inr (.inl h))))
    · exact .inl h
    · exact .inr (.inl h)
    · exact .inr (.inr (.inl h))
    · exact .inr (.inr (.inr (.inr (.inr h))))
  · simp only [List.cons_append, List.mem_cons] at hp
    rcases hp with rfl | rfl | rfl | rfl | h
    · exact (hI (l1, listOf (pathVals f' net i).toArray n') (.head _) : l1 ≠ I)
    · exact ne7
    · exact ne8
    · exact ne9
    · exact all_repl (fun p hp => hI p (.tail _ hp)) p h
  · refine nd_cons (fun p hp => ?_) (nd_cons (fun p hp => ?_) (nd_cons (fun p hp => ?_) (nd_cons (all2 _ (Nat.le_refl _)) (nd_repl nd2))))
    · simp only [List.cons_append, List.mem_cons] at hp
      rcases hp with rfl | rfl | rfl | h
      · exact ne4
      · exact ne5
      · exact ne6
      · exact all_repl (nd_head nd) p h
    · rcases List.mem_cons.mp hp with rfl | hp
      · exact ne2
      · rcases List.mem_cons.mp hp with rfl | hp
        · exact ne3
        · exact all2 _ hl1 p hp
    · rcases List.mem_cons.mp hp with rfl | hp
      · exact ne1.symm
      · exact all2 _ hx1 p hp
  · obtain ⟨_, ⟨_, _, _, jd⟩, _, _⟩ := T.nod _ _ hq
    exact ((hkp r hr).repl (nd_left nd2) jd (fun _ _ e => by cases e) fun es e => by injection e with _ _ e3 _; injection e3 with _ e4; cases e4).mono fun p hp => .tail _ (.tail _ (.tail _ hp))
end
end Mine

-- part C1
namespace Mine
set_option maxRecDepth 100000
set_option maxHeartbeats 8000000
set_option pp.deepTerms false
set_option pp.deepTerms.threshold 4
set_option pp.maxSteps 100000


/- a branch's child read and set, the bit a letter -/
def bI (b : Bool) : Int := cond b 1 0
theorem bI_of {z : Int} (h0 : 0 ≤ z) (h1 : z < 2) : ∃ b, z = bI b := by
  obtain rfl | rfl : z = 0 ∨ z = 1 := by omega
  · exact ⟨false, rfl⟩
  · exact ⟨true, rfl⟩
theorem bitI (net : Int) (i : Nat) : net / 2 ^ (31 - i) % 2 = bI (bitB net i) := by
  cases h : bitB net i
  · exact (bit01 net i).1 h
  · exact (bit01 net i).2 h
theorem vOf_handed (o : Option Nd) : handedIn (vOf o) = true := by cases o <;> rfl
section

variable {prog : Program} {w : World} {p : Program} {loose : List Str} {mean : ExcName → Option Value} {mg mb : Str → Option Value}
    {dp un : Nat} {gd : Option (List Code)} {cn : Str} {cs : Scope} {a : Addr} {ccd : Value} {cl : List (Str × Addr)} {outer : List Env} {A₀ : Around} {base h₀ : Heap} {L : Addr} {m : Str → Option Value} {news : List (Addr × Obj)} {s : Shared} {Q E : Value → Shared → Prop}

theorem zsetC11 : True := by
  k_with_none
  k_with "z_ch" => first | with_reducible assumption | (refine' And.right ?_; rotate_left; first | with_reducible assumption | (refine' And.right ?_; rotate_left; first | with_reducible assumption | (refine' And.right ?_; rotate_left; first | with_reducible assumption | (refine' And.right ?_; rotate_left; first | with_reducible assumption | (refine' And.right ?_; rotate_left; first | with_reducible assumption | (refine' And.right ?_; rotate_left; first | with_reducible assumption | (refine' And.right ?_; rotate_left; with_reducible assumption)))))))
  k_with "z_lt" => first | with_reducible assumption | (refine' And.left ?_; rotate_left; k_extra "z_ch") | (refine' And.right ?_; rotate_left; k_extra "z_ch")
  k_with "k_ne" => (refine neN ?_; (try dsimp only); first | (refine' Nat.ne_of_gt ?_; k_extra "z_lt") | (refine' Nat.ne_of_lt ?_; k_extra "z_lt") | (refine' Nat.ne_of_gt (Nat.lt_trans ?_ (by with_reducible assumption)); k_extra "z_lt") | (refine' Nat.ne_of_lt (Nat.lt_trans ?_ (by with_reducible assumption)); k_extra "z_lt"))
  k_with "zfold" => ((fail_if_success (fail_if_success k_fold)); refine zfold_q ?_; intro qk)
  k_with "k_env" => (refine zfold_env (f := fun en9 => execs _ en9) ?_; intro en9; refine zfold_A ?_; intro ak9; (rename Fr _ _ _ _ => fr9); refine zfold_F fr9 ?_; clear fr9; intro fm9 fr9; try (refine zgen_t ?_; intro tk9))
  k_with "ktr_room" => first | exact fits (c := 1) hdp rfl rfl | exact fits0 (c := 1) hdp rfl rfl | exact fits (c := 2) hdp rfl rfl | exact fits0 (c := 2) hdp rfl rfl | exact fits (c := 0) hdp rfl rfl | exact fits0 (c := 0) hdp rfl rfl | exact fits (c := 3) hdp rfl rfl | exact fits0 (c := 3) hdp rfl rfl | exact Nat.le_of_ble_eq_true rfl
  k_with "ktr_units" => first | exact fits (c := 3) hun rfl rfl | exact fits0 (c := 3) hun rfl rfl | exact fits (c := 6) hun rfl rfl | exact fits0 (c := 6) hun rfl rfl | exact fits (c := 0) hun rfl rfl | exact fits0 (c := 0) hun rfl rfl | exact fits (c := 9) hun rfl rfl | exact fits0 (c := 9) hun rfl rfl | exact Nat.le_of_ble_eq_true rfl
  k_with "k_steps" => repeat' (first | (k_unfold; (try dsimp only); (try clear qk)) | (k_end; wrow_close) | walk1 | (dsimp only; walk1) | (leave1; try dsimp only) | fail "no step")
  k_with "execs cons" => (k_extra "zfold"; walk1)
  k_with "exec If" => (k_extra "zfold"; walk1)
  k_with "exec Assign" => (k_extra "zfold"; walk1)
  k_with "exec Expr" => (k_extra "zfold"; walk1)
  k_with "exec Return" => (k_extra "zfold"; walk1)
  k_with "isTrue" => (k_extra "zfold"; walk1)
  k_with "eval BinOp" => (k_extra "zfold"; walk1)
  k_with "eval BoolOp" => (k_extra "zfold"; walk1)
  k_with "eval UnaryOp" => (k_extra "zfold"; walk1)
  k_with "eval Call" => (k_extra "zfold"; walk1)
  k_with "eval Compare" => (k_extra "zfold"; walk1)
  k_with "eval Subscript" => (k_extra "zfold"; walk1)
  k_with "eval Attribute" => (k_extra "zfold"; walk1)
  k_with "eval Tuple" => (k_extra "zfold"; walk1)
  k_with "eval List nil" => (k_extra "zfold"; walk1)
  k_with "eval List cons" => (k_extra "zfold"; walk1)
  k_with "k_mem" => first | assumption | (with_reducible refine mem_appL ?_; assumption) | (with_reducible refine mem_appR ?_; assumption) | (with_reducible refine List.mem_append.mpr (Or.inl ?_); assumption) | (with_reducible refine List.mem_append.mpr (Or.inr ?_); assumption)
  k_with "k_ne" => (first | (refine' ne_neA ?zqh ?zqm; (case zqm => assumption); (case zqh => assumption)) | (refine' ne_between ?zqm ?zqh ?zqle; (case zqm => assumption); (case zqh => tbn_find); (case zqle => omega)))
  k_with "k_room" => ktr_room
  k_with "k_all" => first | assumption | (refine all_repl ?_; first | assumption | (refine tbn_neAll ?_; tbn_find))
  k_with "k_upd" => exact upd_repl (by assumption) (by assumption)
  k_with "ktr_rel" => (repeat (first | exact Same.refl | exact Same.of2 | exact Same.of | refine Same.set ?_ (by rfl)))
  k_with "tb_start" => (intro _ hp9; (repeat (refine List.Mem.tail _ ?_)); first | exact hp9 | exact List.mem_append.mpr (Or.inl hp9) | exact List.mem_append.mpr (Or.inr hp9))
  k_with "LPost" => (dsimp only [LPost])
  k_with "pyIter ref" => (refine Hold.mk ?_)
  k_with "call builtin:list.append" => (k_here; (with_reducible show wpAny _ _ (call (Value.builtin _) [Value.ref _, _]) _ _ _); k_dflt (refine' my_append ?zqk1 ?zqk2 ?zqk3 ?zqz ?_; (case zqk1 => k_asm); (case zqk2 => k_asm); (case zqk3 => k_upd); (case zqz => assumption); k_whole); intro _ _ _; (try k_sweep))
  k_with "call builtin:len" => (k_here; k_dflt (refine' my_len ?zqN ?zqm ?zqf ?_; (case zqN => k_asm); (case zqm => k_mem); (case zqf => assumption); k_whole))
  k_with "subscriptTail" => (k_here; k_dflt (refine' my_itemE ?zqN ?zqm ?zqv ?zqa ?zqf ?_ ?zqhs; (case zqN => k_asm); (case zqm => k_mem); (case zqv => with_reducible assumption); (case zqa => omega); (case zqf => assumption); (case zqhs => with_unfolding_all rfl); k_whole))
  k_with "subscriptTail Name UnaryOp ref int" => (k_here; k_dflt (refine' my_itemE ?zqN ?zqm ?zqv ?zqa ?zqf ?_ ?zqhs; (case zqN => k_asm); (case zqm => k_mem); (case zqv => with_reducible assumption); (case zqa => omega); (case zqf => assumption); (case zqhs => with_unfolding_all rfl); k_whole))
  k_with "subscriptTail" => (k_here; (with_reducible show wpAny _ _ (subscriptTail _ _ (Value.ref _) (Value.int (-1) _)) _ _ _); k_dflt (refine' my_last ?zqN ?zqm ?zqv ?zqf ?_ ?zqhs; (case zqN => k_asm); (case zqm => k_mem); (case zqv => with_reducible assumption); (case zqf => assumption); (case zqhs => with_unfolding_all rfl); k_whole))
  k_with "subscriptTail Name UnaryOp ref int" => (k_here; (with_reducible show wpAny _ _ (subscriptTail _ _ (Value.ref _) (Value.int (-1) _)) _ _ _); k_dflt (refine' my_last ?zqN ?zqm ?zqv ?zqf ?_ ?zqhs; (case zqN => k_asm); (case zqm => k_mem); (case zqv => with_reducible assumption); (case zqf => assumption); (case zqhs => with_unfolding_all rfl); k_whole))
  k_with "exec For Name Call cons nil" => (k_here; (rename Fr _ _ _ _ => lF'); (with_unfolding_all refine' For_invVF lF' ?zqk1 ?zqk2 ?_; (case zqk1 => exact rfl); (case zqk2 => exact rfl); k_whole))
  k_with "k_handed" => assumption
  k_with "k_upd" => assumption
  k_with "k_all" => assumption
  k_with "k_mem" => assumption
  exact trivial
theorem child_b {bx bd bl : Addr} {v0 v1 : Value} {s1 s2 s3 u : Tok} {b : Bool} {z : Int}
    (B : Below A₀ base outer h₀) (F : Fr h₀ L s.heap m) (X : (KK w.params).In h₀) (N : News h₀ L s.heap (news)) (T : Top p loose mean mg mb h₀) (hk : cs.kind = .function) (h1 : (bx, instObj 162 bd) ∈ news) (h2 : (bd, brD w.params s1 s2 s3 v0 v1 bl) ∈ news) (hz : z = bI b) (hv0 : handedIn v0 = true) (hv1 : handedIn v1 = true) (hdp : dp + 10 < recursionLimit) (hun : un + 200 < cLine)
    (hret : ∀ h' tk', Fr h₀ L h' m → News h₀ L h' news → Q (if b = true then v1 else v0) { s with heap := h', toks := tk' }) :
    wpAny (model prog w) (ktrTop dp un gd cn cs L a ccd cl outer) (call (.ref 138) [.ref bx, .int z u]) Q E s := by
  cases b with
  | false =>
    obtain rfl : z = 0 := hz
    (refine wpAny_call ?_; k_dflt ktr_enter; try (w_strict (k_extra "k_env")))
    k_steps
    all_goals (rename News h₀ _ _ _ => kN; rename Fr h₀ _ _ _ => kF; exact hret _ _ kF kN)
  | true =>
    obtain rfl : z = 1 := hz
    (refine wpAny_call ?_; k_dflt ktr_enter; try (w_strict (k_extra "k_env")))
    k_steps
    all_goals (rename News h₀ _ _ _ => kN; rename Fr h₀ _ _ _ => kF; exact hret _ _ kF kN)
theorem child_f {bx bd bl : Addr} {f : Fm} {q : Path} {s1 s2 s3 u : Tok} {b : Bool} {z : Int}
    (B : Below A₀ base outer h₀) (F : Fr h₀ L s.heap m) (X : (KK w.params).In h₀) (N : News h₀ L s.heap (news)) (T : Top p loose mean mg mb h₀) (hk : cs.kind = .function) (h1 : (bx, instObj 162 bd) ∈ news) (h2 : (bd, brD w.params s1 s2 s3 (vOf (f (q ++ [false]))) (vOf (f (q ++ [true]))) bl) ∈ news) (hz : z = bI b) (hdp : dp + 10 < recursionLimit) (hun : un + 200 < cLine)
    (hret : ∀ h' tk', Fr h₀ L h' m → News h₀ L h' news → Q (vOf (f (q ++ [b]))) { s with heap := h', toks := tk' }) :
    wpAny (model prog w) (ktrTop dp un gd cn cs L a ccd cl outer) (call (.ref 138) [.ref bx, .int z u]) Q E s := by
  refine child_b B F X N T hk h1 h2 hz (vOf_handed _) (vOf_handed _) hdp hun fun h' tk' F' N' => ?_
  cases b
  · exact hret h' tk' F' N'
  · exact hret h' tk' F' N'
theorem set_b {bx bd bl : Addr} {v0 v1 v : Value} {s1 s2 s3 u : Tok} {b : Bool} {z : Int} {news' : Led}
    (B : Below A₀ base outer h₀) (F : Fr h₀ L s.heap m) (X : (KK w.params).In h₀) (N : News h₀ L s.heap (news)) (T : Top p loose mean mg mb h₀) (hk : cs.kind = .function) (h1 : (bx, instObj 162 bd) ∈ news) (U : Upd bd (brD w.params s1 s2 s3 v0 v1 bl) (brD w.params s1 s2 s3 (if b = true then v0 else v) (if b = true then v else v1) bl) news news') (hz : z = bI b) (hdp : dp + 10 < recursionLimit) (hun : un + 200 < cLine)
    (hret : ∀ h' tk', Fr h₀ L h' m → News h₀ L h' news' → Q .none { s with heap := h', toks := tk' }) :
    wpAny (model prog w) (ktrTop dp un gd cn cs L a ccd cl outer) (call (.ref 145) [.ref bx, .int z u, v]) Q E s := by
  obtain ⟨pre, post, e1, _, _, _⟩ := U.split
  have h2 : (bd, brD w.params s1 s2 s3 v0 v1 bl) ∈ news := by rw [e1]; exact List.mem_append.mpr (.inr (.head _))
  clear e1
  cases b with
  | false =>
    obtain rfl : z = 0 := hz
    replace U : Upd bd (brD w.params s1 s2 s3 v0 v1 bl) (brD w.params s1 s2 s3 v v1 bl) news news' := U
    (refine wpAny_call ?_; k_dflt ktr_enter; try (w_strict (k_extra "k_env")))
    k_steps
    all_goals (rename News h₀ _ _ _ => kN; rename Fr h₀ _ _ _ => kF; exact hret _ _ kF kN)
  | true =>
    obtain rfl : z = 1 := hz
    replace U : Upd bd (brD w.params s1 s2 s3 v0 v1 bl) (brD w.params s1 s2 s3 v0 v bl) news news' := U
    (refine wpAny_call ?_; k_dflt ktr_enter; try (w_strict (k_extra "k_env")))
    k_steps
    all_goals (rename News h₀ _ _ _ => kN; rename Fr h₀ _ _ _ => kF; exact hret _ _ kF kN)
end
end Mine

-- part C2
namespace Mine
set_option maxRecDepth 100000
set_option maxHeartbeats 8000000
set_option pp.deepTerms false
set_option pp.deepTerms.threshold 4
set_option pp.maxSteps 100000


/- a made branch, a made route: their tokens as letters -/
section

variable {prog : Program} {w : World} {p : Program} {loose : List Str} {mean : ExcName → Option Value} {mg mb : Str → Option Value}
    {dp un : Nat} {gd : Option (List Code)} {cn : Str} {cs : Scope} {a : Addr} {ccd : Value} {cl : List (Str × Addr)} {outer : List Env} {A₀ : Around} {base h₀ : Heap} {L : Addr} {m : Str → Option Value} {news : List (Addr × Obj)} {s : Shared} {Q E : Value → Shared → Prop}

theorem zsetC21 : True := by
  k_with_none
  k_with "z_ch" => first | with_reducible assumption | (refine' And.right ?_; rotate_left; first | with_reducible assumption | (refine' And.right ?_; rotate_left; first | with_reducible assumption | (refine' And.right ?_; rotate_left; first | with_reducible assumption | (refine' And.right ?_; rotate_left; first | with_reducible assumption | (refine' And.right ?_; rotate_left; first | with_reducible assumption | (refine' And.right ?_; rotate_left; first | with_reducible assumption | (refine' And.right ?_; rotate_left; with_reducible assumption)))))))
  k_with "z_lt" => first | with_reducible assumption | (refine' And.left ?_; rotate_left; k_extra "z_ch") | (refine' And.right ?_; rotate_left; k_extra "z_ch")
  k_with "k_ne" => (refine neN ?_; (try dsimp only); first | (refine' Nat.ne_of_gt ?_; k_extra "z_lt") | (refine' Nat.ne_of_lt ?_; k_extra "z_lt") | (refine' Nat.ne_of_gt (Nat.lt_trans ?_ (by with_reducible assumption)); k_extra "z_lt") | (refine' Nat.ne_of_lt (Nat.lt_trans ?_ (by with_reducible assumption)); k_extra "z_lt"))
  k_with "zfold" => ((fail_if_success (fail_if_success k_fold)); refine zfold_q ?_; intro qk)
  k_with "k_env" => (refine zfold_env (f := fun en9 => execs _ en9) ?_; intro en9; refine zfold_A ?_; intro ak9; (rename Fr _ _ _ _ => fr9); refine zfold_F fr9 ?_; clear fr9; intro fm9 fr9; try (refine zgen_t ?_; intro tk9))
  k_with "ktr_room" => first | exact fits (c := 1) hdp rfl rfl | exact fits0 (c := 1) hdp rfl rfl | exact fits (c := 2) hdp rfl rfl | exact fits0 (c := 2) hdp rfl rfl | exact fits (c := 0) hdp rfl rfl | exact fits0 (c := 0) hdp rfl rfl | exact fits (c := 3) hdp rfl rfl | exact fits0 (c := 3) hdp rfl rfl | exact Nat.le_of_ble_eq_true rfl
  k_with "ktr_units" => first | exact fits (c := 3) hun rfl rfl | exact fits0 (c := 3) hun rfl rfl | exact fits (c := 6) hun rfl rfl | exact fits0 (c := 6) hun rfl rfl | exact fits (c := 0) hun rfl rfl | exact fits0 (c := 0) hun rfl rfl | exact fits (c := 9) hun rfl rfl | exact fits0 (c := 9) hun rfl rfl | exact Nat.le_of_ble_eq_true rfl
  k_with "k_steps" => repeat' (first | (k_unfold; (try dsimp only); (try clear qk)) | (k_end; wrow_close) | walk1 | (dsimp only; walk1) | (leave1; try dsimp only) | fail "no step")
  k_with "execs cons" => (k_extra "zfold"; walk1)
  k_with "exec If" => (k_extra "zfold"; walk1)
  k_with "exec Assign" => (k_extra "zfold"; walk1)
  k_with "exec Expr" => (k_extra "zfold"; walk1)
  k_with "exec Return" => (k_extra "zfold"; walk1)
  k_with "isTrue" => (k_extra "zfold"; walk1)
  k_with "eval BinOp" => (k_extra "zfold"; walk1)
  k_with "eval BoolOp" => (k_extra "zfold"; walk1)
  k_with "eval UnaryOp" => (k_extra "zfold"; walk1)
  k_with "eval Call" => (k_extra "zfold"; walk1)
  k_with "eval Compare" => (k_extra "zfold"; walk1)
  k_with "eval Subscript" => (k_extra "zfold"; walk1)
  k_with "eval Attribute" => (k_extra "zfold"; walk1)
  k_with "eval Tuple" => (k_extra "zfold"; walk1)
  k_with "eval List nil" => (k_extra "zfold"; walk1)
  k_with "eval List cons" => (k_extra "zfold"; walk1)
  k_with "k_mem" => first | assumption | (with_reducible refine mem_appL ?_; assumption) | (with_reducible refine mem_appR ?_; assumption) | (with_reducible refine List.mem_append.mpr (Or.inl ?_); assumption) | (with_reducible refine List.mem_append.mpr (Or.inr ?_); assumption)
  k_with "k_ne" => (first | (refine' ne_neA ?zqh ?zqm; (case zqm => assumption); (case zqh => assumption)) | (refine' ne_between ?zqm ?zqh ?zqle; (case zqm => assumption); (case zqh => tbn_find); (case zqle => omega)))
  k_with "k_room" => ktr_room
  k_with "k_all" => first | assumption | (refine all_repl ?_; first | assumption | (refine tbn_neAll ?_; tbn_find))
  k_with "k_upd" => exact upd_repl (by assumption) (by assumption)
  k_with "ktr_rel" => (repeat (first | exact Same.refl | exact Same.of2 | exact Same.of | refine Same.set ?_ (by rfl)))
  k_with "tb_start" => (intro _ hp9; (repeat (refine List.Mem.tail _ ?_)); first | exact hp9 | exact List.mem_append.mpr (Or.inl hp9) | exact List.mem_append.mpr (Or.inr hp9))
  k_with "LPost" => (dsimp only [LPost])
  k_with "pyIter ref" => (refine Hold.mk ?_)
  k_with "call builtin:list.append" => (k_here; (with_reducible show wpAny _ _ (call (Value.builtin _) [Value.ref _, _]) _ _ _); k_dflt (refine' my_append ?zqk1 ?zqk2 ?zqk3 ?zqz ?_; (case zqk1 => k_asm); (case zqk2 => k_asm); (case zqk3 => k_upd); (case zqz => assumption); k_whole); intro _ _ _; (try k_sweep))
  k_with "call builtin:len" => (k_here; k_dflt (refine' my_len ?zqN ?zqm ?zqf ?_; (case zqN => k_asm); (case zqm => k_mem); (case zqf => assumption); k_whole))
  k_with "subscriptTail" => (k_here; k_dflt (refine' my_itemE ?zqN ?zqm ?zqv ?zqa ?zqf ?_ ?zqhs; (case zqN => k_asm); (case zqm => k_mem); (case zqv => with_reducible assumption); (case zqa => omega); (case zqf => assumption); (case zqhs => with_unfolding_all rfl); k_whole))
  k_with "subscriptTail Name UnaryOp ref int" => (k_here; k_dflt (refine' my_itemE ?zqN ?zqm ?zqv ?zqa ?zqf ?_ ?zqhs; (case zqN => k_asm); (case zqm => k_mem); (case zqv => with_reducible assumption); (case zqa => omega); (case zqf => assumption); (case zqhs => with_unfolding_all rfl); k_whole))
  k_with "subscriptTail" => (k_here; (with_reducible show wpAny _ _ (subscriptTail _ _ (Value.ref _) (Value.int (-1) _)) _ _ _); k_dflt (refine' my_last ?zqN ?zqm ?zqv ?zqf ?_ ?zqhs; (case zqN => k_asm); (case zqm => k_mem); (case zqv => with_reducible assumption); (case zqf => assumption); (case zqhs => with_unfolding_all rfl); k_whole))
  k_with "subscriptTail Name UnaryOp ref int" => (k_here; (with_reducible show wpAny _ _ (subscriptTail _ _ (Value.ref _) (Value.int (-1) _)) _ _ _); k_dflt (refine' my_last ?zqN ?zqm ?zqv ?zqf ?_ ?zqhs; (case zqN => k_asm); (case zqm => k_mem); (case zqv => with_reducible assumption); (case zqf => assumption); (case zqhs => with_unfolding_all rfl); k_whole))
  k_with "exec For Name Call cons nil" => (k_here; (rename Fr _ _ _ _ => lF'); (with_unfolding_all refine' For_invVF lF' ?zqk1 ?zqk2 ?_; (case zqk1 => exact rfl); (case zqk2 => exact rfl); k_whole))
  k_with "k_upd" => first | (refine' Upd.head ?zqa; (case zqa => k_all)) | (refine' Upd.tail ?zqa ?zqb; (case zqa => k_ne); (case zqb => k_upd))
  exact trivial
theorem new_branch
    (B : Below A₀ base outer h₀) (F : Fr h₀ L s.heap m) (X : (KK w.params).In h₀) (N : News h₀ L s.heap (news)) (T : Top p loose mean mg mb h₀) (hk : cs.kind = .function) (hdp : dp + 20 < recursionLimit) (hun : un + 400 < cLine)
    (hret : ∀ x d l t1 t2 t3 h' tk', (∀ p ∈ news, p.1 < d) → @LT.lt Nat _ d x → @LT.lt Nat _ x l → Fr h₀ L h' m → News h₀ L h' ((l, listOf ([] : List Value).toArray 0) :: (x, instObj 162 d) :: (d, brD w.params t1 t2 t3 .none .none l) :: news) → Q (.ref x) { s with heap := h', toks := tk' }) :
    wpAny (model prog w) (ktrTop dp un gd cn cs L a ccd cl outer) (call (.ref 162) []) Q E s := by
  (k_dflt (refine' call_cls F X N ?k4 ?k5 ?k6 ?_; (case k4 => k_is); (case k5 => k_is); (case k6 => k_is); intro x d h1 F1 N1 l1 l2)); clear F N
  k_dflt ktr_enter
  k_steps
  rename Fr h₀ L _ m => kF
  rename News h₀ L _ _ => kN
  rename _ ∧ _ ∧ AllLt _ _ => l3
  exact hret _ _ _ _ _ _ _ _ l1 l2 l3.1 kF kN
theorem new_route5 {net pre gw face met : Int} {u1 u2 u3 u4 u5 : Tok}
    (B : Below A₀ base outer h₀) (F : Fr h₀ L s.heap m) (X : (KK w.params).In h₀) (N : News h₀ L s.heap (news)) (T : Top p loose mean mg mb h₀) (hk : cs.kind = .function) (hdp : dp + 20 < recursionLimit) (hun : un + 400 < cLine)
    (hret : ∀ x d t1 t2 t3 t4 t5 h' tk', (∀ p ∈ news, p.1 < d) → @LT.lt Nat _ d x → Fr h₀ L h' m → News h₀ L h' ((x, instObj 113 d) :: (d, rtD w.params t1 t2 t3 t4 t5 u1 u2 u3 u4 u5 net pre gw face met) :: news) → Q (.ref x) { s with heap := h', toks := tk' }) :
    wpAny (model prog w) (ktrTop dp un gd cn cs L a ccd cl outer) (call (.ref 113) [.int net u1, .int pre u2, .int gw u3, .int face u4, .int met u5]) Q E s := by
  (k_dflt (refine' call_cls F X N ?k4 ?k5 ?k6 ?_; (case k4 => k_is); (case k5 => k_is); (case k6 => k_is); intro x d h1 F1 N1 l1 l2)); clear F N
  k_dflt (refine' code_def ?k1 ?k2 ?k3 ?k4 ?k5 ?kA ?kF ?kK ?k6 ?k7 ?k8 ?k9 ?kB ?_ ?c2 ?c3 ?c4 ?c5; (case kA => exact rfl); (case kF => exact rfl); (case kK => assumption); (case k1 => k_asm); (case k2 => k_asm); (case k3 => k_asm); (case k4 => k_asm); (case k5 => k_asm); (case k6 => k_is); (case k7 => k_is); (case k8 => ktr_room); (case k9 => first | exact BindsTo.of_eq rfl | exact binds_K (by k_in) rfl (by k_is) rfl rfl rfl); (case c5 => decide); (case kB => exact locs rfl); (case c2 => exact rfl); (case c3 => exact rfl); (case c4 => exact rfl); k_whole; intro g' L' h' FG' F' N' B' X' T'; (try dsimp only); (try k_fold))
  k_steps
  rename Fr h₀ L _ m => kF
  rename News h₀ L _ _ => kN
  exact hret _ _ _ _ _ _ _ _ _ l1 l2 kF kN
theorem new_route4 {net pre gw face : Int} {u1 u2 u3 u4 : Tok}
    (B : Below A₀ base outer h₀) (F : Fr h₀ L s.heap m) (X : (KK w.params).In h₀) (N : News h₀ L s.heap (news)) (T : Top p loose mean mg mb h₀) (hk : cs.kind = .function) (hdp : dp + 20 < recursionLimit) (hun : un + 400 < cLine)
    (hret : ∀ x d t1 t2 t3 t4 t5 u5 h' tk', (∀ p ∈ news, p.1 < d) → @LT.lt Nat _ d x → Fr h₀ L h' m → News h₀ L h' ((x, instObj 113 d) :: (d, rtD w.params t1 t2 t3 t4 t5 u1 u2 u3 u4 u5 net pre gw face 0) :: news) → Q (.ref x) { s with heap := h', toks := tk' }) :
    wpAny (model prog w) (ktrTop dp un gd cn cs L a ccd cl outer) (call (.ref 113) [.int net u1, .int pre u2, .int gw u3, .int face u4]) Q E s := by
  (k_dflt (refine' call_cls F X N ?k4 ?k5 ?k6 ?_; (case k4 => k_is); (case k5 => k_is); (case k6 => k_is); intro x d h1 F1 N1 l1 l2)); clear F N
  k_dflt (refine' code_def ?k1 ?k2 ?k3 ?k4 ?k5 ?kA ?kF ?kK ?k6 ?k7 ?k8 ?k9 ?kB ?_ ?c2 ?c3 ?c4 ?c5; (case kA => exact rfl); (case kF => exact rfl); (case kK => assumption); (case k1 => k_asm); (case k2 => k_asm); (case k3 => k_asm); (case k4 => k_asm); (case k5 => k_asm); (case k6 => k_is); (case k7 => k_is); (case k8 => ktr_room); (case k9 => first | exact BindsTo.of_eq rfl | exact binds_K (by k_in) rfl (by k_is) rfl rfl rfl); (case c5 => decide); (case kB => exact locs rfl); (case c2 => exact rfl); (case c3 => exact rfl); (case c4 => exact rfl); k_whole; intro g' L' h' FG' F' N' B' X' T'; (try dsimp only); (try k_fold))
  k_steps
  rename Fr h₀ L _ m => kF
  rename News h₀ L _ _ => kN
  exact hret _ _ _ _ _ _ _ _ _ _ l1 l2 kF kN
end
section

variable {prog : Program} {w : World} {p : Program} {loose : List Str} {mean : ExcName → Option Value} {mg mb : Str → Option Value}
    {dp un : Nat} {gd : Option (List Code)} {cn : Str} {cs : Scope} {a : Addr} {ccd : Value} {cl : List (Str × Addr)} {outer : List Env} {A₀ : Around} {base h₀ : Heap} {L : Addr} {m : Str → Option Value} {news : List (Addr × Obj)} {s : Shared} {Q E : Value → Shared → Prop}

theorem zsetC22 : True := by
  k_with "ktr_units" => first | exact fits (c := 4) hun rfl rfl | exact fits (c := 3) hun rfl rfl
  k_with "call ref" => (k_here; (with_reducible show wpAny _ _ (call (Value.ref 162) _) _ _ _); refine Hold.mk ?_)
  exact trivial
theorem new_routes
    (B : Below A₀ base outer h₀) (F : Fr h₀ L s.heap m) (X : (KK w.params).In h₀) (N : News h₀ L s.heap (news)) (T : Top p loose mean mg mb h₀) (hk : cs.kind = .function) (hdp : dp + 30 < recursionLimit) (hun : un + 600 < cLine)
    (hret : ∀ tb td bl bx bd t1 t2 u s1 s2 s3 h' tk', (∀ p ∈ news, p.1 < td) → @LT.lt Nat _ td tb → @LT.lt Nat _ tb bd → @LT.lt Nat _ bd bx → @LT.lt Nat _ bx bl → Fr h₀ L h' m → News h₀ L h' ((bl, listOf ([] : List Value).toArray 0) :: (bx, instObj 162 bd) :: (bd, brD w.params s1 s2 s3 .none .none bl) :: (tb, instObj 244 td) :: (td, tbD w.params t1 t2 u bx 0) :: news) → Q (.ref tb) { s with heap := h', toks := tk' }) :
    wpAny (model prog w) (ktrTop dp un gd cn cs L a ccd cl outer) (call (.ref 244) []) Q E s := by
  (k_dflt (refine' call_cls F X N ?k4 ?k5 ?k6 ?_; (case k4 => k_is); (case k5 => k_is); (case k6 => k_is); intro tb td h1 F1 N1 l1 l2)); clear F N
  k_dflt ktr_enter
  k_steps
  (unfold Hold; w_strict (k_dflt (refine' new_branch ?k1 ?k2 ?k3 ?k4 ?k5 ?kK  ?kd ?ku ?_; (case k1 => k_asm); (case k2 => k_asm); (case k3 => k_asm); (case k4 => k_asm); (case k5 => k_asm); (case kK => first | exact rfl | assumption);  (case kd => ktr_room); (case ku => ktr_units))); intro bx bd bl s1 s2 s3 h2 tk2 q1 q2 q3 F2 N2; (try dsimp only); (try k_sweep))
  k_lt q1
  k_lt2 q2
  k_lt2 q3
  k_steps
  rename Fr h₀ L _ m => kF
  rename News h₀ L _ _ => kN
  exact hret _ _ _ _ _ _ _ _ _ _ _ _ _ l1 l2 q1.1 q2 q3 kF kN
end
end Mine

-- part D2
namespace Mine
set_option maxRecDepth 100000
set_option maxHeartbeats 8000000
set_option pp.deepTerms false
set_option pp.deepTerms.threshold 4
set_option pp.maxSteps 100000


def bareB (f : Fm) (q : Path) (nd : Nd) : Bool := nd.rs.isEmpty && (f (q ++ [false])).isNone && (f (q ++ [true])).isNone
section
variable {prog : Program} {w : World} {M' : Around} {E : Value → Shared → Prop} {Q : Value → Shared → Prop} {s : Shared} {h₀ : Heap} {L : Addr} {m : Str → Option Value} {news : Led}
theorem my_eq_nil {la lb : Addr} {vs : List Value} {k j : Nat} (N : News h₀ L s.heap news) (ha : (la, listOf vs.toArray k) ∈ news) (hb : (lb, listOf [].toArray j) ∈ news) (hu : M'.units < cLine)
    (h : Q (.bool vs.isEmpty) s) : wpAny (model prog w) M' (compareOp .Eq (.ref la) (.ref lb)) Q E s := by
  have la' : s.heap.IsList la vs.toArray := ⟨_, (N _ ha).1, rfl, _, rfl⟩
  have lb' : s.heap.IsList lb [].toArray := ⟨_, (N _ hb).1, rfl, _, rfl⟩
  cases vs with
  | nil => exact SeqAt.eq_listAt (e := fun _ => true) la' lb' rfl hu (fun j h1 _ => absurd h1 (Nat.not_lt_zero _)) h
  | cons v r => exact SeqAt.eq_list_lengthsAt la' lb' (by simp) hu h
theorem my_ne_nil {la lb : Addr} {vs : List Value} {k j : Nat} (N : News h₀ L s.heap news) (ha : (la, listOf vs.toArray k) ∈ news) (hb : (lb, listOf [].toArray j) ∈ news) (hu : M'.units < cLine)
    (h : Q (.bool (!vs.isEmpty)) s) : wpAny (model prog w) M' (compareOp .NotEq (.ref la) (.ref lb)) Q E s := by
  have la' : s.heap.IsList la vs.toArray := ⟨_, (N _ ha).1, rfl, _, rfl⟩
  have lb' : s.heap.IsList lb [].toArray := ⟨_, (N _ hb).1, rfl, _, rfl⟩
  cases vs with
  | nil => exact SeqAt.RcNeAt.lists (e := fun _ => true) la' lb' rfl hu (fun j h1 _ => absurd h1 (Nat.not_lt_zero _)) prog w E Q h
  | cons v r => exact SeqAt.RcNeAt.lists_lengths la' lb' (by simp) hu prog w E Q h
end
section
variable {prog : Program} {w : World} {p : Program} {loose : List Str} {mean : ExcName → Option Value} {mg mb : Str → Option Value}
    {dp un : Nat} {gd : Option (List Code)} {cn : Str} {cs : Scope} {a : Addr} {ccd : Value} {cl : List (Str × Addr)} {outer : List Env} {A₀ : Around} {base h₀ : Heap} {L : Addr} {m : Str → Option Value} {news : List (Addr × Obj)} {s : Shared} {Q E : Value → Shared → Prop}

theorem zsetD21 : True := by
  k_with_none
  k_with "z_ch" => first | with_reducible assumption | (refine' And.right ?_; rotate_left; first | with_reducible assumption | (refine' And.right ?_; rotate_left; first | with_reducible assumption | (refine' And.right ?_; rotate_left; first | with_reducible assumption | (refine' And.right ?_; rotate_left; first | with_reducible assumption | (refine' And.right ?_; rotate_left; first | with_reducible assumption | (refine' And.right ?_; rotate_left; first | with_reducible assumption | (refine' And.right ?_; rotate_left; with_reducible assumption)))))))
  k_with "z_lt" => first | with_reducible assumption | (refine' And.left ?_; rotate_left; k_extra "z_ch") | (refine' And.right ?_; rotate_left; k_extra "z_ch")
  k_with "k_ne" => (refine neN ?_; (try dsimp only); first | (refine' Nat.ne_of_gt ?_; k_extra "z_lt") | (refine' Nat.ne_of_lt ?_; k_extra "z_lt") | (refine' Nat.ne_of_gt (Nat.lt_trans ?_ (by with_reducible assumption)); k_extra "z_lt") | (refine' Nat.ne_of_lt (Nat.lt_trans ?_ (by with_reducible assumption)); k_extra "z_lt"))
  k_with "zfold" => ((fail_if_success (fail_if_success k_fold)); refine zfold_q ?_; intro qk)
  k_with "k_env" => (refine zfold_env (f := fun en9 => execs _ en9) ?_; intro en9; refine zfold_A ?_; intro ak9; (rename Fr _ _ _ _ => fr9); refine zfold_F fr9 ?_; clear fr9; intro fm9 fr9; try (refine zgen_t ?_; intro tk9))
  k_with "ktr_room" => first | exact fits (c := 1) hdp rfl rfl | exact fits0 (c := 1) hdp rfl rfl | exact fits (c := 2) hdp rfl rfl | exact fits0 (c := 2) hdp rfl rfl | exact fits (c := 0) hdp rfl rfl | exact fits0 (c := 0) hdp rfl rfl | exact fits (c := 3) hdp rfl rfl | exact fits0 (c := 3) hdp rfl rfl | exact Nat.le_of_ble_eq_true rfl
  k_with "ktr_units" => first | exact fits (c := 3) hun rfl rfl | exact fits0 (c := 3) hun rfl rfl | exact fits (c := 6) hun rfl rfl | exact fits0 (c := 6) hun rfl rfl | exact fits (c := 0) hun rfl rfl | exact fits0 (c := 0) hun rfl rfl | exact fits (c := 9) hun rfl rfl | exact fits0 (c := 9) hun rfl rfl | exact Nat.le_of_ble_eq_true rfl
  k_with "k_steps" => repeat' (first | (k_unfold; (try dsimp only); (try clear qk)) | (k_end; wrow_close) | walk1 | (dsimp only; walk1) | (leave1; try dsimp only) | fail "no step")
  k_with "execs cons" => (k_extra "zfold"; walk1)
  k_with "exec If" => (k_extra "zfold"; walk1)
  k_with "exec Assign" => (k_extra "zfold"; walk1)
  k_with "exec Expr" => (k_extra "zfold"; walk1)
  k_with "exec Return" => (k_extra "zfold"; walk1)
  k_with "isTrue" => (k_extra "zfold"; walk1)
  k_with "eval BinOp" => (k_extra "zfold"; walk1)
  k_with "eval BoolOp" => (k_extra "zfold"; walk1)
  k_with "eval UnaryOp" => (k_extra "zfold"; walk1)
  k_with "eval Call" => (k_extra "zfold"; walk1)
  k_with "eval Compare" => (k_extra "zfold"; walk1)
  k_with "eval Subscript" => (k_extra "zfold"; walk1)
  k_with "eval Attribute" => (k_extra "zfold"; walk1)
  k_with "eval Tuple" => (k_extra "zfold"; walk1)
  k_with "eval List nil" => (k_extra "zfold"; walk1)
  k_with "eval List cons" => (k_extra "zfold"; walk1)
  k_with "k_mem" => first | assumption | exact List.mem_append.mpr (Or.inl (by assumption)) | exact List.mem_append.mpr (Or.inr (by assumption))
  k_with "tb_start" => (intro _ hp9; (repeat (refine List.Mem.tail _ ?_)); exact hp9)
  k_with "k_room" => ktr_room
  k_with "compareOp Eq ref ref" => (k_here; k_dflt (refine' my_eq_nil ?zqN ?zqa ?zqb ?zqu ?_; (case zqN => k_asm); (case zqa => k_mem); (case zqb => k_mem); (case zqu => ktr_units); k_whole); (try simp only [List.map_nil, List.map_cons, List.isEmpty_nil, List.isEmpty_cons]))
  exact trivial
theorem bare_spec0 {Z : Led} {f : Fm} {q : Path} {nd : Nd}
    (B : Below A₀ base outer h₀) (F : Fr h₀ L s.heap m) (X : (KK w.params).In h₀) (N : News h₀ L s.heap (news)) (T : Top p loose mean mg mb h₀) (hk : cs.kind = .function) (hs : ∀ p ∈ Z, p ∈ news) (Tr : Tree w.params Z f) (hq : f q = some nd)
    (hdp : dp + 10 < recursionLimit) (hun : un + 200 < cLine)
    (hret : ∀ h' tk', Fr h₀ L h' m → News h₀ L h' news → Q (.bool (bareB f q nd)) { s with heap := h', toks := tk' }) :
    wpAny (model prog w) (ktrTop dp un gd cn cs L a ccd cl outer) (call (.ref 152) [.ref nd.x]) Q E s := by
  obtain ⟨hix, ⟨s1, s2, s3, hid⟩, ⟨nl, hil⟩, hir⟩ := Tr.nod _ _ hq
  replace hix := hs _ hix
  replace hid := hs _ hid
  replace hil := hs _ hil
  unfold bareB at hret
  cases hrs : nd.rs with
  | nil =>
    rw [hrs] at hil hret
    cases h0 : f (q ++ [false]) with
    | none =>
      cases h1 : f (q ++ [true]) with
      | none =>
        rw [h0, h1, vOf_none] at hid
        rw [h0, h1] at hret
        (refine wpAny_call ?_; k_dflt ktr_enter; try (w_strict (k_extra "k_env")))
        k_steps
        all_goals exact hret _ _ (by k_asm) (news_sub (by assumption) (by tb_start))
      | some n1 =>
        rw [h0, h1, vOf_none, vOf_some] at hid
        rw [h0, h1] at hret
        (refine wpAny_call ?_; k_dflt ktr_enter; try (w_strict (k_extra "k_env")))
        k_steps
        all_goals exact hret _ _ (by k_asm) (news_sub (by assumption) (by tb_start))
    | some n0 =>
      rw [h0, vOf_some] at hid
      rw [h0] at hret
      (refine wpAny_call ?_; k_dflt ktr_enter; try (w_strict (k_extra "k_env")))
      k_steps
      all_goals exact hret _ _ (by k_asm) (news_sub (by assumption) (by tb_start))
  | cons r rs =>
    rw [hrs] at hil hret
    (refine wpAny_call ?_; k_dflt ktr_enter; try (w_strict (k_extra "k_env")))
    k_steps
    all_goals exact hret _ _ (by k_asm) (news_sub (by assumption) (by tb_start))
theorem bare_spec {Z : Led} {f : Fm} {q : Path} {nd : Nd} {bb : Bool}
    (B : Below A₀ base outer h₀) (F : Fr h₀ L s.heap m) (X : (KK w.params).In h₀) (N : News h₀ L s.heap (news)) (T : Top p loose mean mg mb h₀) (hk : cs.kind = .function) (Tr : Tree w.params Z f) (hq : f q = some nd) (hb : bareB f q nd = bb) (hs : ∀ p ∈ Z, p ∈ news)
    (hdp : dp + 10 < recursionLimit) (hun : un + 200 < cLine)
    (hret : ∀ h' tk', Fr h₀ L h' m → News h₀ L h' news → Q (.bool bb) { s with heap := h', toks := tk' }) :
    wpAny (model prog w) (ktrTop dp un gd cn cs L a ccd cl outer) (call (.ref 152) [.ref nd.x]) Q E s := by
  subst hb
  exact bare_spec0 B F X N T hk hs Tr hq hdp hun hret
end
end Mine

-- part C0
namespace Mine
set_option maxRecDepth 100000
set_option maxHeartbeats 8000000
set_option pp.deepTerms false
set_option pp.deepTerms.threshold 4
set_option pp.maxSteps 100000

open PyProof.Rows.LCg PyProof.Rows.LCt
def CEnd (h₀ : Heap) (L : Addr) (m : Str → Option Value) (s₁ : Shared) (I : Addr) (oI : Obj) (C : Addr) (oC : Obj) (D : Addr) (oD : Obj) (J : Value → Led → Prop) (y : Value) (s₂ : Shared) : Prop :=
  ∃ h' tk nx, s₂ = { s₁ with heap := h', toks := tk } ∧ Fr h₀ L h' m ∧ News h₀ L h' ((I, oI) :: (C, oC) :: (D, oD) :: nx) ∧ (∀ p ∈ nx, p.1 ≠ I) ∧ (∀ p ∈ nx, p.1 ≠ C) ∧ (∀ p ∈ nx, p.1 ≠ D) ∧ J y nx
theorem cend_mk {h₀ h' : Heap} {L : Addr} {m : Str → Option Value} {s₁ : Shared} {I C D : Addr} {oI oC oD : Obj} {J : Value → Led → Prop} {y : Value} {tk : Nat} {nx : Led} (F : Fr h₀ L h' m) (N : News h₀ L h' ((I, oI) :: (C, oC) :: (D, oD) :: nx)) (o1 : ∀ p ∈ nx, p.1 ≠ I) (o2 : ∀ p ∈ nx, p.1 ≠ C) (o3 : ∀ p ∈ nx, p.1 ≠ D) (hJ : J y nx) :
    CEnd h₀ L m s₁ I oI C oC D oD J y { s₁ with heap := h', toks := tk } := ⟨h', tk, nx, rfl, F, N, o1, o2, o3, hJ⟩
theorem off3_of {I C D : Addr} {nx : Led} (h1 : ∀ p ∈ nx, p.1 ≠ I) (h2 : ∀ p ∈ nx, p.1 ≠ C) (h3 : ∀ p ∈ nx, p.1 ≠ D) : Off3 I C D nx := Off3.of fun p hp => ⟨h1 p hp, h2 p hp, h3 p hp⟩
section
variable {prog : Program} {w : World} {A : Around} {h₀ : Heap} {L : Addr} {m : Str → Option Value} {env : Env} {ct elt : PySem.Expr} {x : Str} {scope : Scope} {cl : List (Str × Addr)} {s₁ : Shared} {Fin : Shared → List Value → Led → Prop} {news : Led}
theorem comp_rest {S : Led → Prop} {P : Nat → Value → Prop} {n : Nat} (J : Nat → List Value → Led → Prop) {g : Heap} (hS : ∀ i ys nx, J i ys nx → S nx)
    (turn : ∀ i v ys nx I oI C oC D m₂ h tk (E' : Value → Shared → Prop), i < n → P i v → J i ys nx → NsObj oC m₂ → m₂ x = some v → Fr h₀ L h m → News h₀ L h ((I, oI) :: (C, oC) :: (D, lst ys) :: nx) →
      (∀ p ∈ nx, p.1 ≠ I) → (∀ p ∈ nx, p.1 ≠ C) → (∀ p ∈ nx, p.1 ≠ D) → @Ne Nat I C → @Ne Nat I D → @Ne Nat C D →
      wpAny (model prog w) A (eval elt (compEnvC scope cl C env)) (CEnd h₀ L m { s₁ with heap := h, toks := tk } I oI C oC D (lst ys) (fun y nx' => J (i + 1) (ys ++ [y]) nx')) E' { s₁ with heap := h, toks := tk })
    (fin : ∀ ys nx, J n ys nx → Fin { s₁ with heap := g } ys nx) : ∀ k i ys nx, i + k = n → J i ys nx → CompRest prog w A h₀ L m env elt x scope cl { s₁ with heap := g } S P (Fin { s₁ with heap := g }) k i ys nx := by
  intro k
  induction k with
  | zero =>
    intro i ys nx hi hJ
    obtain rfl : i = n := by omega
    exact CompRest.zero (fin ys nx hJ)
  | succ k ih =>
    intro i ys nx hi hJ
    refine CompRest.succ ?_
    intro v I oI C oC D m₂ h tk E' hP hC hx F N off ne
    have o3 := off.mem
    refine wpAny_mono (turn i v ys nx I oI C oC D m₂ h tk E' (by omega) hP hJ hC hx F N (fun p hp => (o3 p hp).1) (fun p hp => (o3 p hp).2.1) (fun p hp => (o3 p hp).2.2) ne.1 ne.2.1 ne.2.2) (fun y s₂ hq => ?_) fun _ _ e => e
    obtain ⟨h', tk', nx', e, F', N', o1, o2, o3, hJ'⟩ := hq
    exact ⟨h', tk', nx', e, F', N', off3_of o1 o2 o3, hS _ _ _ hJ', ih _ _ _ (by omega) hJ'⟩
theorem compT_rest {S : Led → Prop} {P : Nat → Value → Prop} {n : Nat} (J : Nat → List Value → Led → Prop) {g : Heap} (hS : ∀ i ys nx, J i ys nx → S nx)
    (turn : ∀ i v ys nx I oI C oC D m₂ h tk (E' : Value → Shared → Prop), i < n → P i v → J i ys nx → NsObj oC m₂ → m₂ x = some v → Fr h₀ L h m → News h₀ L h ((I, oI) :: (C, oC) :: (D, lst ys) :: nx) →
      (∀ p ∈ nx, p.1 ≠ I) → (∀ p ∈ nx, p.1 ≠ C) → (∀ p ∈ nx, p.1 ≠ D) → @Ne Nat I C → @Ne Nat I D → @Ne Nat C D →
      wpAny (model prog w) A (isTrue ct (compEnvC scope cl C env) (eval ct (compEnvC scope cl C env))) (fun ok s' => if ok = true then
        wpAny (model prog w) A (eval elt (compEnvC scope cl C env)) (CEnd h₀ L m { s₁ with heap := h, toks := tk } I oI C oC D (lst ys) (fun y nx' => J (i + 1) (ys ++ [y]) nx')) E' s'
        else CEnd h₀ L m { s₁ with heap := h, toks := tk } I oI C oC D (lst ys) (fun _ nx' => J (i + 1) ys nx') Value.none s') E' { s₁ with heap := h, toks := tk })
    (fin : ∀ ys nx, J n ys nx → Fin { s₁ with heap := g } ys nx) : ∀ k i ys nx, i + k = n → J i ys nx → CompRestT prog w A h₀ L m env ct elt x scope cl { s₁ with heap := g } S P (Fin { s₁ with heap := g }) k i ys nx := by
  intro k
  induction k with
  | zero =>
    intro i ys nx hi hJ
    obtain rfl : i = n := by omega
    exact CompRestT.zero (fin ys nx hJ)
  | succ k ih =>
    intro i ys nx hi hJ
    refine CompRestT.succ ?_
    intro v I oI C oC D m₂ h tk E' hP hC hx F N off ne
    have o3 := off.mem
    refine wpAny_mono (turn i v ys nx I oI C oC D m₂ h tk E' (by omega) hP hJ hC hx F N (fun p hp => (o3 p hp).1) (fun p hp => (o3 p hp).2.1) (fun p hp => (o3 p hp).2.2) ne.1 ne.2.1 ne.2.2) (fun b s₂ hq => ?_) fun _ _ e => e
    cases b with
    | true =>
      simp only [if_true] at hq ⊢
      refine wpAny_mono hq (fun y s₃ hq => ?_) fun _ _ e => e
      obtain ⟨h', tk', nx', e, F', N', o1, o2, o3, hJ'⟩ := hq
      exact ⟨h', tk', nx', e, F', N', off3_of o1 o2 o3, hS _ _ _ hJ', ih _ _ _ (by omega) hJ'⟩
    | false =>
      simp only [Bool.false_eq_true, if_false] at hq ⊢
      obtain ⟨h', tk', nx', e, F', N', o1, o2, o3, hJ'⟩ := hq
      exact ⟨h', tk', nx', e, F', N', off3_of o1 o2 o3, hS _ _ _ hJ', ih _ _ _ (by omega) hJ'⟩

theorem comp_range {r : Addr} {a b : Int} {t u v : Tok} {n : Nat} (J : Nat → List Value → Led → Prop)
    (hh : A.handled = none) (F : Fr h₀ L s₁.heap m) (N : News h₀ L s₁.heap news) (hr : IsRange s₁.heap r a b 1 t u v) (hsm : Builtin.Range.small a b 1 = true) (hn : Builtin.Range.rangeSize a b 1 = ((n : Nat) : Int)) (hsz : n ≤ 16777216) (h0 : J 0 [] news)
    (turn : ∀ i t ys nx I oI C oC D m₂ h tk (E' : Value → Shared → Prop), i < n → J i ys nx → NsObj oC m₂ → m₂ x = some (.int (a + (i : Int)) t) → Fr h₀ L h m → News h₀ L h ((I, oI) :: (C, oC) :: (D, lst ys) :: nx) →
      (∀ p ∈ nx, p.1 ≠ I) → (∀ p ∈ nx, p.1 ≠ C) → (∀ p ∈ nx, p.1 ≠ D) → @Ne Nat I C → @Ne Nat I D → @Ne Nat C D →
      wpAny (model prog w) A (eval elt (compEnvC scope cl C env)) (CEnd h₀ L m { s₁ with heap := h, toks := tk } I oI C oC D (lst ys) (fun y nx' => J (i + 1) (ys ++ [y]) nx')) E' { s₁ with heap := h, toks := tk })
    (fin : ∀ g ys nx, J n ys nx → Fin { s₁ with heap := g } ys nx) : CompSrc prog w A h₀ L m env elt x scope cl Fin (.ref r) s₁ :=
  CompSrc.range hh F N hr hsm hn (by rw [sizeLine_eq]; exact hsz) fun g => comp_rest J (fun _ _ _ _ => trivial) (fun i v ys nx I oI C oC D m₂ h tk E' hi hP hJ hC hx F N o1 o2 o3 n1 n2 n3 => by
    obtain ⟨t, rfl⟩ := hP
    exact turn i t ys nx I oI C oC D m₂ h tk E' hi hJ hC hx F N o1 o2 o3 n1 n2 n3) (fin g) n 0 [] news (by omega) h0
theorem comp_list {ax : Addr} {vs : List Value} {k : Nat} (J : Nat → List Value → Led → Prop)
    (hh : A.handled = none) (F : Fr h₀ L s₁.heap m) (N : News h₀ L s₁.heap news) (hm : (ax, listOf vs.toArray k) ∈ news) (hsz : vs.length ≤ 16777216) (h0 : J 0 [] news) (hJl : ∀ i ys nx, J i ys nx → (ax, listOf vs.toArray k) ∈ nx)
    (turn : ∀ i v ys nx I oI C oC D m₂ h tk (E' : Value → Shared → Prop), i < vs.length → vs[i]? = some v → J i ys nx → NsObj oC m₂ → m₂ x = some v → Fr h₀ L h m → News h₀ L h ((I, oI) :: (C, oC) :: (D, lst ys) :: nx) →
      (∀ p ∈ nx, p.1 ≠ I) → (∀ p ∈ nx, p.1 ≠ C) → (∀ p ∈ nx, p.1 ≠ D) → @Ne Nat I C → @Ne Nat I D → @Ne Nat C D →
      wpAny (model prog w) A (eval elt (compEnvC scope cl C env)) (CEnd h₀ L m { s₁ with heap := h, toks := tk } I oI C oC D (lst ys) (fun y nx' => J (i + 1) (ys ++ [y]) nx')) E' { s₁ with heap := h, toks := tk })
    (fin : ∀ g ys nx, J vs.length ys nx → Fin { s₁ with heap := g } ys nx) : CompSrc prog w A h₀ L m env elt x scope cl Fin (.ref ax) s₁ := by
  refine CompSrc.ledger hh F N hm (by rw [List.size_toArray, sizeLine_eq]; exact hsz) fun g => ?_
  rw [List.size_toArray]
  exact comp_rest J (fun i ys nx hJ => .inr ⟨_, hJl _ _ _ hJ, rfl, _, rfl⟩) (fun i v ys nx I oI C oC D m₂ h tk E' hi hP hJ hC hx F N o1 o2 o3 n1 n2 n3 =>
    turn i v ys nx I oI C oC D m₂ h tk E' hi (by simpa using hP) hJ hC hx F N o1 o2 o3 n1 n2 n3) (fin g) vs.length 0 [] news (by omega) h0
theorem compT_list {ax : Addr} {vs : List Value} {k : Nat} (J : Nat → List Value → Led → Prop)
    (hh : A.handled = none) (F : Fr h₀ L s₁.heap m) (N : News h₀ L s₁.heap news) (hm : (ax, listOf vs.toArray k) ∈ news) (hsz : vs.length ≤ 16777216) (h0 : J 0 [] news) (hJl : ∀ i ys nx, J i ys nx → (ax, listOf vs.toArray k) ∈ nx)
    (turn : ∀ i v ys nx I oI C oC D m₂ h tk (E' : Value → Shared → Prop), i < vs.length → vs[i]? = some v → J i ys nx → NsObj oC m₂ → m₂ x = some v → Fr h₀ L h m → News h₀ L h ((I, oI) :: (C, oC) :: (D, lst ys) :: nx) →
      (∀ p ∈ nx, p.1 ≠ I) → (∀ p ∈ nx, p.1 ≠ C) → (∀ p ∈ nx, p.1 ≠ D) → @Ne Nat I C → @Ne Nat I D → @Ne Nat C D →
      wpAny (model prog w) A (isTrue ct (compEnvC scope cl C env) (eval ct (compEnvC scope cl C env))) (fun ok s' => if ok = true then
        wpAny (model prog w) A (eval elt (compEnvC scope cl C env)) (CEnd h₀ L m { s₁ with heap := h, toks := tk } I oI C oC D (lst ys) (fun y nx' => J (i + 1) (ys ++ [y]) nx')) E' s'
        else CEnd h₀ L m { s₁ with heap := h, toks := tk } I oI C oC D (lst ys) (fun _ nx' => J (i + 1) ys nx') Value.none s') E' { s₁ with heap := h, toks := tk })
    (fin : ∀ g ys nx, J vs.length ys nx → Fin { s₁ with heap := g } ys nx) : CompSrcT prog w A h₀ L m env ct elt x scope cl Fin (.ref ax) s₁ := by
  refine CompSrcT.ledger hh F N hm (by rw [List.size_toArray, sizeLine_eq]; exact hsz) fun g => ?_
  rw [List.size_toArray]
  exact compT_rest J (fun i ys nx hJ => .inr ⟨_, hJl _ _ _ hJ, rfl, _, rfl⟩) (fun i v ys nx I oI C oC D m₂ h tk E' hi hP hJ hC hx F N o1 o2 o3 n1 n2 n3 =>
    turn i v ys nx I oI C oC D m₂ h tk E' hi (by simpa using hP) hJ hC hx F N o1 o2 o3 n1 n2 n3) (fin g) vs.length 0 [] news (by omega) h0
theorem compT_range {r : Addr} {a b : Int} {t u v : Tok} {n : Nat} (J : Nat → List Value → Led → Prop)
    (hh : A.handled = none) (F : Fr h₀ L s₁.heap m) (N : News h₀ L s₁.heap news) (hr : IsRange s₁.heap r a b 1 t u v) (hsm : Builtin.Range.small a b 1 = true) (hn : Builtin.Range.rangeSize a b 1 = ((n : Nat) : Int)) (hsz : n ≤ 16777216) (h0 : J 0 [] news)
    (turn : ∀ i t ys nx I oI C oC D m₂ h tk (E' : Value → Shared → Prop), i < n → J i ys nx → NsObj oC m₂ → m₂ x = some (.int (a + (i : Int)) t) → Fr h₀ L h m → News h₀ L h ((I, oI) :: (C, oC) :: (D, lst ys) :: nx) →
      (∀ p ∈ nx, p.1 ≠ I) → (∀ p ∈ nx, p.1 ≠ C) → (∀ p ∈ nx, p.1 ≠ D) → @Ne Nat I C → @Ne Nat I D → @Ne Nat C D →
      wpAny (model prog w) A (isTrue ct (compEnvC scope cl C env) (eval ct (compEnvC scope cl C env))) (fun ok s' => if ok = true then
        wpAny (model prog w) A (eval elt (compEnvC scope cl C env)) (CEnd h₀ L m { s₁ with heap := h, toks := tk } I oI C oC D (lst ys) (fun y nx' => J (i + 1) (ys ++ [y]) nx')) E' s'
        else CEnd h₀ L m { s₁ with heap := h, toks := tk } I oI C oC D (lst ys) (fun _ nx' => J (i + 1) ys nx') Value.none s') E' { s₁ with heap := h, toks := tk })
    (fin : ∀ g ys nx, J n ys nx → Fin { s₁ with heap := g } ys nx) : CompSrcT prog w A h₀ L m env ct elt x scope cl Fin (.ref r) s₁ :=
  CompSrcT.range hh F N hr hsm hn (by rw [sizeLine_eq]; exact hsz) fun g => compT_rest J (fun _ _ _ _ => trivial) (fun i v ys nx I oI C oC D m₂ h tk E' hi hP hJ hC hx F N o1 o2 o3 n1 n2 n3 => by
    obtain ⟨t, rfl⟩ := hP
    exact turn i t ys nx I oI C oC D m₂ h tk E' hi hJ hC hx F N o1 o2 o3 n1 n2 n3) (fin g) n 0 [] news (by omega) h0
end
end Mine

-- part U0
namespace Mine
set_option maxRecDepth 100000
set_option maxHeartbeats 8000000
set_option pp.deepTerms false
set_option pp.deepTerms.threshold 4
set_option pp.maxSteps 100000

/- texts -/
def sgn (b : Bool) : Nat := if b then 49 else 48
def txt (q : Path) : Str := ⟨(q.map sgn).toArray⟩
theorem txt_length (q : Path) : (txt q).length = q.length := by simp [txt, Str.length]
theorem sgn_inj {a b : Bool} (h : sgn a = sgn b) : a = b := by cases a <;> cases b <;> first | rfl | exact absurd h (by decide)
theorem map_sgn_inj : ∀ {p q : Path}, p.map sgn = q.map sgn → p = q
  | [], [], _ => rfl
  | [], _ :: _, h => nomatch h
  | _ :: _, [], h => nomatch h
  | a :: p, b :: q, h => by
    rw [List.map_cons, List.map_cons] at h
    obtain ⟨e1, e2⟩ := List.cons.inj h
    rw [sgn_inj e1, map_sgn_inj e2]
theorem txt_inj {p q : Path} (h : txt p = txt q) : p = q := by
  unfold txt at h
  have h2 : p.map sgn = q.map sgn := by simpa using congrArg (fun s => s.cps.toList) h
  exact map_sgn_inj h2
theorem txt_nil : txt [] = Str.ofString "" := by decide +kernel
theorem txt_append (p q : Path) : txt (p ++ q) = txt p ++ txt q := by
  show (⟨_⟩ : Str) = ⟨_ ++ _⟩
  unfold txt
  simp
theorem txt_bit0 : Str.ofString (toString (0 : Int)) = txt [false] := by decide +kernel
theorem txt_bit1 : Str.ofString (toString (1 : Int)) = txt [true] := by decide +kernel
theorem txt_int (ad : Int) (i : Nat) : Str.ofString (toString (ad / 2 ^ (31 - i) % 2)) = txt [bitB ad i] := by
  rcases Int.emod_two_eq (ad / 2 ^ (31 - i)) with h | h
  · rw [h, txt_bit0]; simp [bitB, h]
  · rw [h, txt_bit1]; simp [bitB, h]
theorem strsAre_snoc {vs : List Value} {ss : List Str} {x : Str} {t : Tok} (h : StrsAre vs ss) : StrsAre (vs ++ [.str x t]) (ss ++ [x]) := by
  induction h with
  | nil => exact .cons _ _ .nil
  | cons y u _ ih => exact .cons _ _ ih
theorem fold_txt (l : List Path) : ∀ acc : Array Nat, (l.map txt).foldl (fun a (p : Str) => a ++ (⟨#[]⟩ : Str).cps ++ p.cps) acc = acc ++ (l.flatten.map sgn).toArray := by
  induction l with
  | nil => intro acc; simp
  | cons q l ih =>
    intro acc
    rw [List.map_cons, List.foldl_cons, ih]
    simp [txt]
theorem join_txt (l : List Path) : Txt.join (Str.ofString "") (l.map txt) = txt l.flatten := by
  have e : Str.ofString "" = ⟨#[]⟩ := by decide +kernel
  rw [e]
  unfold Txt.join Builtin.Str.glued
  cases l with
  | nil => rfl
  | cons q l =>
    simp only [List.map_cons, List.drop_succ_cons, List.drop_zero, List.headD_cons]
    rw [fold_txt]
    simp [txt]
def bit1s (ad : Int) (n : Nat) : List Path := (List.range n).map fun i => [bitB ad i]
theorem bit1s_flat (ad : Int) (n : Nat) : (bit1s ad n).flatten = bitsOf ad n := by
  unfold bit1s bitsOf
  induction n with
  | zero => rfl
  | succ n ih => simp only [List.range_succ, List.map_append, List.flatten_append, ih]; rfl
theorem bit1s_snoc (ad : Int) (n : Nat) : (bit1s ad (n + 1)).map txt = (bit1s ad n).map txt ++ [txt [bitB ad n]] := by
  unfold bit1s; rw [List.range_succ, List.map_append, List.map_append]; rfl
theorem bit1s_len (ad : Int) (n : Nat) : (((bit1s ad n).map txt).map (·.length)).sum = n := by
  induction n with
  | zero => rfl
  | succ n ih => rw [bit1s_snoc, List.map_append, List.sum_append, ih]; simp [txt_length]
section
variable {prog : Program} {w : World} {E : Value → Shared → Prop} {Q : Value → Shared → Prop} {s : Shared} {h₀ : Heap} {L : Addr} {m : Str → Option Value} {news : Led}
theorem my_join {M' : Around} {l : Addr} {vs : List Value} {ys : List Str} {x : Str} {k : Nat} {t : Tok} (N : News h₀ L s.heap news) (hm : (l, listOf vs.toArray k) ∈ news) (hS : StrsAre vs ys) (hx : x.length ≤ 64) (hok : (ys.map (·.length)).sum + ys.length * 64 ≤ 16777216)
    (h : ∀ t' k, Q (.str (Txt.join x ys) t') { s with toks := k }) : wpAny (model prog w) M' (call (.builtin "str.join") [.str x t, .ref l]) Q E s :=
  join_listC (items := vs.toArray) ⟨_, (N _ hm).1, rfl, _, rfl⟩ (by simpa using hS) hx hok h
theorem my_add_bit {A : Around} {q : Path} {t u : Tok} {z : Int} (b : Bool) (hz : Str.ofString (toString z) = txt [b]) (hq : q.length ≤ 32) (h : ∀ t' tk, Q (.str (txt (q ++ [b])) t') { s with toks := tk }) :
    wpAny (model prog w) A (binaryOp .Add (.str (txt q) t) (.str (Str.ofString (toString z)) u)) Q E s := by
  rw [hz]
  refine PyProof.Rows.add_str (fun t' tk => ?_) ?_
  · rw [← txt_append]; exact h t' tk
  · rw [txt_length, txt_length, sizeLine_eq]; simp only [List.length_cons, List.length_nil]; omega
theorem my_sorted {A : Around} {l : Addr} {vs : List Value} {ss : List Str} {k : Nat} (F : Fr h₀ L s.heap m) (N : News h₀ L s.heap news) (hm : (l, listOf vs.toArray k) ∈ news) (hS : StrsAre vs ss) (h64 : vs.length < 64)
    (h : ∀ D (h' : Heap) (vs' : List Value) (ss' : List Str) (e : Nat), Fr h₀ L h' m → News h₀ L h' ((D, listOf vs'.toArray e) :: news) → (∀ p ∈ news, p.1 < D) →
      StrsAre vs' ss' → ss'.Perm ss → sortedS ss' = true → Q (.ref D) { s with heap := h' }) :
    wpAny (model prog w) A (call (.builtin "sorted") [.ref l]) Q E s :=
  sorted_N_str F N ⟨_, (N _ hm).1, rfl, _, rfl⟩ hS h64 fun h' vs' ss' e F' N' hS' hp' hs' => h _ h' vs' ss' e F' N' (fun p hp => Nat.lt_succ_of_lt (Heap.lt_size (N p hp).1)) hS' hp' hs'
end
abbrev tupO (vs : List Value) : Obj := { cls := .type "tuple", data := .seq vs.toArray }
end Mine

-- part S1
namespace Mine
set_option maxRecDepth 100000
set_option maxHeartbeats 8000000
set_option pp.deepTerms false
set_option pp.deepTerms.threshold 4
set_option pp.maxSteps 100000

open PySem.SetTable
/- sets of texts: what an add keeps -/
def byT (w : World) : Bool := w.params.followText "set-order"
structure StrTab (prog : Program) (w : World) (es : Array (Int × Value)) (t : SetTable) (ks : List Str) : Prop where
  el : ElemsOf (strKind prog w) es.toList
  ks : (es.toList.map fun e => strOf e.2).Perm ks
  sz : es.size < scanBound
  fit : t.fits es.size = true
  led : t.led = !byT w
  plain : 0 < es.size → t.plain = false
def StrSet (prog : Program) (w : World) (o : Obj) (ks : List Str) : Prop := o.ExactSet ∧ ∃ es ep t, o.data = .set es ep t ∧ StrTab prog w es t ks

theorem layNew_led (t : SetTable) (es : Array (Int × Value)) (h : Int) (x : Value) : (layNew t es h x).2.1.led = t.led := by
  unfold layNew
  split
  · rename_i slot wasDummy _
    show ((t.put slot).1.orStandIn _).led = t.led
    unfold SetTable.orStandIn
    split <;> rfl
  · rfl
theorem relayAll_led (t : SetTable) (es : Array (Int × Value)) (n : Nat) : (relayAll t es n).2.1.led = t.led := by
  unfold relayAll
  split
  · rename_i t' order he
    have : t'.led = t.led := by
      unfold SetTable.relaid SetTable.laid at he
      cases hl : SetTable.layClean (SetTable.sizeAbove n - 1) (es.map (·.1)) with
      | none => rw [hl] at he; cases he
      | some ow => rw [hl] at he; cases he; rfl
    dsimp only
    split
    · exact this
    · rfl
  · rfl
theorem relayAll_plain (t : SetTable) (es : Array (Int × Value)) (n : Nat) (hp : t.plain = false) : (relayAll t es n).2.1.plain = false := by
  unfold relayAll
  split
  · rename_i t' order he
    have : t'.plain = t.plain := by
      unfold SetTable.relaid SetTable.laid at he
      cases hl : SetTable.layClean (SetTable.sizeAbove n - 1) (es.map (·.1)) with
      | none => rw [hl] at he; cases he
      | some ow => rw [hl] at he; cases he; rfl
    dsimp only
    split
    · rw [this]; exact hp
    · rfl
  · rfl
section
variable {prog : Program} {w : World} {A : Around} {E : Value → Shared → Prop} {s : Shared}
theorem is_strOf {k : Str} {v : Value} (h : (strKind prog w).is k v = true) : strOf v = k := by
  obtain ⟨t, rfl⟩ := Value.isStrOf_shape (show Value.isStrOf k v = true from h)
  rfl
theorem strIs (k : Str) (t : Tok) : (strKind prog w).is k (.str k t) = true := by
  show Value.isStrOf k (.str k t) = true
  simp [Value.isStrOf]
theorem StrTab.found {es : Array (Int × Value)} {t : SetTable} {ks : List Str} (T : StrTab prog w es t ks) {k : Str} : k ∈ ks ↔ ∃ e ∈ es.toList, (strKind prog w).is k e.2 = true := by
  rw [← T.ks.mem_iff, List.mem_map]
  constructor
  · rintro ⟨e, he, rfl⟩
    obtain ⟨⟨k', h, _⟩, _⟩ := T.el e he
    exact ⟨e, he, by rw [is_strOf h]; exact h⟩
  · rintro ⟨e, he, h⟩
    exact ⟨e, he, is_strOf h⟩
theorem StrSet.new (led : Bool) (hl : led = !byT w) : StrSet prog w { cls := .type "set", dict := none, data := .set #[] 0 (.fresh 0 0 led) } [] :=
  ⟨⟨rfl, rfl, rfl⟩, #[], 0, _, rfl, fun e he => by simp at he, by simp, by decide, rfl, hl, fun h => absurd h (Nat.lt_irrefl 0)⟩
theorem storeGet {h : Heap} {a : Addr} {o : Obj} {es : Array (Int × Value)} {ep : Nat} {t : SetTable} (ho : h.get? a = some o) (hd : o.data = .set es ep t) (es' : Array (Int × Value)) (t' : SetTable) :
    (h.update a (Obj.putSet es' t')).get? a = some { o with data := .set es' (ep + 1) t' } := by
  have := Heap.get?_update_self (Obj.putSet es' t') ho (by rw [putSet_of es' t' hd]; rfl)
  rw [putSet_of es' t' hd] at this; exact this
theorem addTailS {g : Bool → Sem Unit} (hg : ∀ (b : Bool) (s₁ : Shared) (Q' : Unit → Shared → Prop), Q' () s₁ → wpAny (model prog w) A (g b) Q' E s₁)
    {a : Addr} {o : Obj} {es : Array (Int × Value)} {ep : Nat} {t : SetTable} (ho : s.heap.get? a = some o) (hex : o.ExactSet) (hd : o.data = .set es ep t)
    {es1 : Array (Int × Value)} {t2 : SetTable} {ks : List Str} (T : StrTab prog w es1 t2 ks) (hp2 : t2.plain = false) {wasDummy : Bool} {R : Option Bool → Shared → Prop}
    (h : ∀ h' o', Heap.SameBut a s.heap h' → h'.get? a = some o' → StrSet prog w o' ks → R (some true) { s with heap := h' }) :
    wpAny (model prog w) A (do
        storeSet a es1 t2
        if (!wasDummy && t2.tooFull) = true then do
            g (relayAll t2 es1 (SetTable.grown es1.size)).2.2
            storeSet a (relayAll t2 es1 (SetTable.grown es1.size)).1 (relayAll t2 es1 (SetTable.grown es1.size)).2.1
            pure (some true)
          else pure (some true)) R E s := by
  refine wpAny_bind (wpAny_storeSet_of ho hd ?_ (fits_of_scanBound T.sz))
  have ho1 := storeGet ho hd es1 t2
  have hsb1 := Heap.SameBut.update s.heap a (Obj.putSet es1 t2)
  split
  · have hp := relayAll_perm t2 es1 (SetTable.grown es1.size)
    have hfr := relayAll_fits t2 es1 (SetTable.grown es1.size)
    have hl := relayAll_led t2 es1 (SetTable.grown es1.size)
    have hpl := relayAll_plain t2 es1 (SetTable.grown es1.size) hp2
    generalize relayAll t2 es1 (SetTable.grown es1.size) = Rl at hp hfr hl hpl ⊢
    obtain ⟨es2, t3, gave2⟩ := Rl
    dsimp only at hp hfr hl hpl ⊢
    have hsz : es2.size = es1.size := by rw [← Array.length_toList, hp.length_eq, Array.length_toList]
    have T2 : StrTab prog w es2 t3 ks := ⟨T.el.perm hp, (hp.map _).trans T.ks, by rw [hsz]; exact T.sz, hfr, hl.trans T.led, fun _ => hpl⟩
    refine wpAny_bind (hg _ _ _ ?_)
    refine wpAny_bind (wpAny_storeSet_of ho1 rfl ?_ (fits_of_scanBound T2.sz))
    exact wpAny_pure (h _ _ (hsb1.trans (Heap.SameBut.update _ a _)) (storeGet ho1 rfl es2 t3) ⟨hex, _, _, _, rfl, T2⟩)
  · exact wpAny_pure (h _ _ hsb1 ho1 ⟨hex, _, _, _, rfl, T⟩)
theorem addStr {a : Addr} {o : Obj} {ks : List Str} {x : Str} {tx : Tok} {Q : Bool → Shared → Prop} (ho : s.heap.get? a = some o) (hS : StrSet prog w o ks) (hroom : ks.length + 1 < scanBound)
    (h : ∀ b h' o', Heap.SameBut a s.heap h' → h'.get? a = some o' → StrSet prog w o' (if x ∈ ks then ks else ks ++ [x]) → Q b { s with heap := h' }) :
    wpAny (model prog w) A (setAddHashed a (.str x tx) ((strKind prog w).hash x)) Q E s := by
  obtain ⟨hex, es, ep, t, hd, T⟩ := hS
  have hkey : (strKind prog w).is x (.str x tx) = true := strIs x tx
  have hsc : Value.scannable (.str x tx) = true := rfl
  have hn : es.size = ks.length := by rw [← T.ks.length_eq, List.length_map, Array.length_toList]
  unfold setAddHashed setAddHashedIn
  refine wpAny_holding (wpAny_bind (wpAny_setState_of ho hd T.fit ?_))
  dsimp only
  rw [byScan_of hsc T.sz T.el]
  simp only [↓reduceIte]
  unfold setAddByScan
  refine wpAny_bind ?_
  refine wpAny_bind (wpAny_rule ?_)
  refine wpAny_bind (wpAny_setScan_of hkey ho hd T.fit T.el ?_)
  cases hr : List.findIdx? (fun e => (strKind prog w).is x e.2) es.toList with
  | some j =>
    dsimp only
    obtain ⟨hj, hpj, _⟩ := List.findIdx?_eq_some_iff_getElem.mp hr
    have hx : x ∈ ks := T.found.mpr ⟨es.toList[j], List.getElem_mem hj, hpj⟩
    refine wpAny_pure (wpAny_pure ?_)
    have := h false s.heap o (Heap.SameBut.refl a s.heap) ho (by rw [if_pos hx]; exact ⟨hex, es, ep, t, hd, T⟩)
    cases s; exact this
  | none =>
    dsimp only
    have hx : x ∉ ks := fun hx => by
      obtain ⟨e, he, hp⟩ := T.found.mp hx
      have := List.findIdx?_eq_none_iff.mp hr e he
      rw [hp] at this; exact Bool.noConfusion this
    have hgw : ∀ (b : Bool) {s₁ : Shared} {Q' : Unit → Shared → Prop}, Q' () s₁ → wpAny (model prog w) A (match b with | true => rule "set.scan.the-table-gave-way" | false => pure ()) Q' E s₁ :=
      fun b s₁ Q' hq => by cases b <;> first | exact wpAny_pure hq | exact wpAny_rule hq
    have hperm := layNew_perm t es ((strKind prog w).hash x) (.str x tx)
    have hfits := layNew_fits t es ((strKind prog w).hash x) (.str x tx)
    have hled := layNew_led t es ((strKind prog w).hash x) (.str x tx)
    generalize layNew t es ((strKind prog w).hash x) (.str x tx) = Ln at hperm hfits hled ⊢
    obtain ⟨es1, t1, wasDummy, gave⟩ := Ln
    dsimp only at hperm hfits hled ⊢
    rw [Array.toList_push] at hperm
    have hsz1 : es1.size = ks.length + 1 := by rw [← Array.length_toList, hperm.length_eq, List.length_append, Array.length_toList, hn]; rfl
    have T1 : ∀ t2 : SetTable, t2.fits es1.size = true → t2.led = t.led → t2.plain = false → StrTab prog w es1 t2 (ks ++ [x]) := fun t2 hf2 hl2 hp2 =>
      ⟨(T.el.push hkey hsc).perm hperm, by
        refine (hperm.map _).trans ?_
        rw [List.map_append]
        exact T.ks.append_right _, by omega, hf2, hl2.trans T.led, fun _ => hp2⟩
    refine wpAny_bind (hgw _ ?_)
    split
    · refine wpAny_bind ?_
      rw [hashByValue_scannable 8 hsc]
      refine wpAny_pure ?_
      refine addTailS ?_ ho hex hd (T1 _ ?_ ?_ ?_) ?_ ?_
      · intro b s₁ Q' hq; cases b <;> first | exact wpAny_pure hq | exact wpAny_rule hq
      · exact SetTable.fits_plain_off hfits
      · exact hled
      · rfl
      · rfl
      · intro h' o' hsb hg' hS'; dsimp only
        exact wpAny_pure (h _ _ o' hsb hg' (by rw [if_neg hx]; exact hS'))
    · rename_i hpl
      refine wpAny_bind (wpAny_pure ?_)
      simp only [↓reduceIte]
      refine addTailS ?_ ho hex hd (T1 _ hfits hled (by simpa using hpl)) (by simpa using hpl) ?_
      · intro b s₁ Q' hq; cases b <;> first | exact wpAny_pure hq | exact wpAny_rule hq
      · intro h' o' hsb hg' hS'; dsimp only
        exact wpAny_pure (h _ _ o' hsb hg' (by rw [if_neg hx]; exact hS'))
end
end Mine

-- part S2
namespace Mine
set_option maxRecDepth 100000
set_option maxHeartbeats 8000000
set_option pp.deepTerms false
set_option pp.deepTerms.threshold 4
set_option pp.maxSteps 100000

open PySem.Builtin
def addK (ks : List Str) (x : Str) : List Str := if x ∈ ks then ks else ks ++ [x]
def metK (xs : List Str) : List Str := xs.foldl addK []
theorem metK_snoc (xs : List Str) (x : Str) : metK (xs ++ [x]) = addK (metK xs) x := by unfold metK; rw [List.foldl_append]; rfl
theorem addK_len (ks : List Str) (x : Str) : (addK ks x).length ≤ ks.length + 1 := by
  unfold addK; split
  · omega
  · simp
theorem addK_mem {ks : List Str} {x y : Str} : y ∈ addK ks x ↔ y ∈ ks ∨ y = x := by
  unfold addK; split
  · rename_i h
    constructor
    · exact .inl
    · rintro (h' | rfl)
      · exact h'
      · exact h
  · simp
theorem addK_nodup {ks : List Str} {x : Str} (h : ks.Nodup) : (addK ks x).Nodup := by
  unfold addK; split
  · exact h
  · rename_i hx
    refine List.nodup_append.mpr ⟨h, by simp, fun a ha b hb e => ?_⟩
    rw [List.mem_singleton.mp hb] at e
    exact hx (e ▸ ha)
theorem foldl_addK : ∀ (xs ks : List Str), (∀ y, y ∈ xs.foldl addK ks ↔ y ∈ ks ∨ y ∈ xs) ∧ (ks.Nodup → (xs.foldl addK ks).Nodup) ∧ (xs.foldl addK ks).length ≤ ks.length + xs.length
  | [], ks => ⟨fun y => by simp, id, by simp⟩
  | x :: xs, ks => by
    obtain ⟨h1, h2, h3⟩ := foldl_addK xs (addK ks x)
    refine ⟨fun y => ?_, fun h => h2 (addK_nodup h), ?_⟩
    · show y ∈ xs.foldl addK (addK ks x) ↔ _
      rw [h1, addK_mem, List.mem_cons, or_assoc]
    · show (xs.foldl addK (addK ks x)).length ≤ _
      have := addK_len ks x
      simp only [List.length_cons]; omega
theorem metK_mem {xs : List Str} {y : Str} : y ∈ metK xs ↔ y ∈ xs := by rw [metK, (foldl_addK xs []).1]; simp
theorem metK_nodup (xs : List Str) : (metK xs).Nodup := (foldl_addK xs []).2.1 List.nodup_nil
theorem metK_len (xs : List Str) : (metK xs).length ≤ xs.length := by have := (foldl_addK xs []).2.2; simpa [metK] using this
section
variable {prog : Program} {w : World} {A : Around} {R : Result → Shared → Prop} {E : Value → Shared → Prop} {I : Addr} {fp wr : List Addr} {G : Array GenState → Array GenState → Prop} {n : Nat} {P : Nat → Value → Prop} {St : Nat → Shared → Prop}
theorem update_loopS (W : WalksS prog w A.in1 I fp wr G n P St) (S : Addr) (hSf : S ∉ fp) (xs : List Str) (hn : n = xs.length)
    (hval : ∀ i v, P i v → ∃ x t, xs[i]? = some x ∧ v = .str x t) (hb : n + 1 < scanBound) :
    ∀ (k i : Nat) (s : Shared), n - i = k → i ≤ n → St i s →
      (∃ o, s.heap.get? S = some o ∧ StrSet prog w o (metK (xs.take i))) →
      (∀ s' o, Moved (S :: wr) G s s' → s'.heap.get? S = some o → StrSet prog w o (metK xs) → R (.ok (.ret .none)) s') →
      codeAny (model prog w) A (.builtin "set.update.loop" ⟨[.ref S, .ref I], []⟩) R s := by
  have hSw : S ∉ wr := fun h => hSf (W.sub _ h)
  have hsub : ∀ b ∈ wr, b ∈ S :: wr := fun b hb => List.mem_cons_of_mem _ hb
  intro k
  induction k with
  | zero =>
    rintro i s hk hi hst ⟨o, ho, hS⟩ hR
    have hin : i = n := by omega
    subst hin
    refine codeAny_builtin PyProof.Rows.F.entry_set_update_loop ?_
    rw [Around.under_plainId PyProof.Rows.F.plain_set_update_loop _]
    show wpAny _ A.in1 (pyNext (.ref I) >>= _) _ _ s
    refine wpAny_bind (W.done s _ _ hst fun s' hm => ?_)
    show wpAny _ A.in1 (ret Value.none) _ _ s'
    rw [hn, List.take_length] at hS
    exact wpAny_pure (hR s' o (hm.mono hsub) (hm.heap S _ hSw ho) hS)
  | succ k ih =>
    rintro i s hk hi hst ⟨o, ho, hS⟩ hR
    have hlt : i < n := by omega
    refine codeAny_builtin PyProof.Rows.F.entry_set_update_loop ?_
    rw [Around.under_plainId PyProof.Rows.F.plain_set_update_loop _]
    show wpAny _ A.in1 (pyNext (.ref I) >>= _) _ _ s
    refine wpAny_bind (W.item i s _ _ hlt hst fun v s' hP hst' hm => ?_)
    obtain ⟨x, t, hx, rfl⟩ := hval i v hP
    have ho' := hm.heap S _ hSw ho
    show wpAny _ A.in1 (holding [Value.str x t] (setAdd S (.str x t)) >>= _) _ _ s'
    refine wpAny_bind (wpAny_holding ?_)
    unfold setAdd
    refine wpAny_holding ?_
    refine wpAny_bind ((strKind prog w).pyHash (k := x) (strIs x t) ?_)
    have hroom : (metK (xs.take i)).length + 1 < scanBound := by
      have h1 := metK_len (xs.take i)
      have h2 := List.length_take_le i xs
      omega
    refine addStr (s := { s' with toks := s'.toks + 1 }) ho' hS hroom fun b h' o2 hsb hg2 hS2 => ?_
    have hSi : StrSet prog w o2 (metK (xs.take (i + 1))) := by
      have e : xs.take (i + 1) = xs.take i ++ [x] := by rw [List.take_add_one, hx]; rfl
      rw [e, metK_snoc]; exact hS2
    refine wpAny_pure ⟨plainId_quiet PyProof.Rows.F.plain_set_update_loop _, ih (i + 1) _ (by omega) hlt (W.frame _ s' _ _ hst' (Nat.le_succ _) fun b hb o e => ?_) ⟨o2, hg2, hSi⟩ fun s'' o3 hm'' hg3 hS3 => ?_⟩
    · rw [hsb.2 b (fun h : b = S => hSf (by rw [← h]; exact hb))]; exact e
    · refine hR s'' o3 (Moved.trans W.gtrans ((hm.mono hsub).then_heap (Nat.le_succ _) fun b o hb e => ?_) hm'') hg3 hS3
      rw [hsb.2 b (fun h : b = S => hb (by rw [h]; exact List.mem_cons_self))]; exact e
end
section
variable {prog : Program} {w : World} {A : Around} {E : Value → Shared → Prop} {s : Shared}
abbrev freshSet (w : World) : Obj := { cls := .type "set", dict := none, data := .set #[] 0 (.fresh 0 0 (!byT w)) }
theorem set_new_1 (a : Value) {Q₁ : Value → Shared → Prop}
    (h : Q₁ (.ref s.heap.objs.size) { s with heap := s.heap.push (freshSet w) }) :
    codeAny (model prog w) A (.call (.builtin "set.__new__") ⟨[.type "set", a], []⟩) (wants Q₁ E) s := by
  refine codeAny_of_tree ?_
  show wpAny _ A.in1 (do checkBuiltinCall "set.__new__" ⟨[.type "set", a], []⟩; again (.builtin "set.__new__" ⟨[.type "set", a], []⟩)) _ _ s
  refine wpAny_bind (wpAny_of_eq (PySem.F.newCall_set_1 a) (wpAny_pure ⟨plainId_quiet PySem.F.plain_set_new _, codeAny_builtin PySem.F.entry_set_new ?_⟩))
  rw [Around.under_plainId PySem.F.plain_set_new _]
  unfold Builtin.«set.__new__» Builtin.Frozenset.newClass
  have hsub := sub_set_self
  obtain ⟨hp, g, d, tk, os⟩ := s
  dsimp only
  wp_walk
  refine wpAny_askSetting (wpAny_pure ?_)
  dsimp only
  simp only [newObj]
  refine wpAny_bind (wpAny_alloc (wpAny_pure ?_))
  exact wpAny_pure h
set_option maxRecDepth 100000 in
set_option maxHeartbeats 3200000 in
theorem call_set_strs {l : Addr} {items : Array Value} {xs : List Str} {Q : Value → Shared → Prop}
    (hh : A.handled = none) (hl : s.heap.IsList l items) (hi : StrsAre items.toList xs) (hb : items.size + 1 < scanBound)
    (h : ∀ (h' : Heap) (tk : Nat) (o : Obj), h'.get? s.heap.objs.size = some o → StrSet prog w o (metK xs) →
      (∀ b o, b < s.heap.objs.size → s.heap.get? b = some o → h'.get? b = some o) → Q (.ref s.heap.objs.size) { s with heap := h', toks := tk }) :
    wpAny (model prog w) A (call (.type "set") [.ref l]) Q E s := by
  obtain ⟨c, tl, hmro⟩ := PySem.F.called_set.mro
  have hmade := PySem.F.called_set.made
  have hsub := PySem.F.called_set.sub
  refine wpAny_call (codeAny_of_tree ?_)
  show wpAny _ _ (callAny (.type "set") _) _ _ _
  refine wpAny_pure ⟨Code.quiet_builtin _ (by decide +kernel), codeAny_builtin PySem.F.entry_type_call ?_⟩
  rw [Around.under_plain (weight_type_call_type "set" [.ref l] []) rfl]
  have h1 := PySem.F.called_set.notType
  have h2 := PySem.F.called_set.canCreate
  have hct := PySem.F.typeCall_set_1 (.ref l)
  repeat (any_goals (first | assumption | wp_step))
  refine codeAny_mono (set_new_1 (.ref l) (E := E) (Q₁ := fun obj s₁ => obj = .ref s.heap.objs.size ∧ s₁ = { s with heap := s.heap.push (freshSet w) }) ⟨rfl, rfl⟩) fun r s₁ hr => ?_
  cases r with
  | error e => exact hr
  | ok fl =>
    cases fl with
    | ret obj =>
      obtain ⟨rfl, rfl⟩ := hr
      have hS : (s.heap.push (freshSet w)).get? s.heap.objs.size = some (freshSet w) := Heap.get?_push_size _ rfl
      have hT : Shared.TypeIs { s with heap := s.heap.push (freshSet w) } (.ref s.heap.objs.size) "set" := ⟨_, hS, rfl⟩
      have hli := PySem.F.called_set.init.lookup
      have hbi := PySem.F.called_set.init.bind (.ref s.heap.objs.size)
      repeat (any_goals (first | assumption | wp_step))
      refine codeAny_mono (codeAny_call_builtin (R := wants (fun r s₂ => r = .none ∧ ∃ h' tk o, s₂ = { s with heap := h', toks := tk } ∧
          h'.get? s.heap.objs.size = some o ∧ StrSet prog w o (metK xs) ∧
          (∀ b o, b < s.heap.objs.size → s.heap.get? b = some o → h'.get? b = some o)) E) PySem.F.called_set.init.plain PySem.F.entry_set_init (check_set_init_1 hT ?_)) fun r₂ s₂ hr₂ => ?_
      · obtain ⟨ol, hol, hcl, nl, hdl⟩ := hl
        obtain ⟨ocls, odict, odata, oslots⟩ := ol
        simp only at hcl hdl
        subst hcl; subst hdl
        have hol' : (s.heap.push (freshSet w)).get? l = some { cls := .type "list", dict := odict, data := .seq items nl, slots := oslots } := Heap.get?_push_of_some _ hol
        have hsls := PySem.F.sub_list_set
        have hslf := PySem.F.sub_list_frozenset
        have hne : (Value.type "list" == Value.type "dict") = false := by decide
        have hl1 : (s.heap.push (freshSet w)).IsList l items := ⟨_, hol', rfl, nl, rfl⟩
        unfold Builtin.«set.__init__» noKeywords Builtin.Frozenset.updateFrom
        generalize hPI : pyIter = PI
        wp_walk
        subst hPI
        refine wpAny_pyIter_list hl1 ?_
        refine wpAny_bind (wpAny_runValue ?_)
        have hlS : l < s.heap.objs.size := Heap.lt_size hol
        have hh3 : A.in1.in1.in1.handled = none := by simp [hh]
        have hneI : l ≠ (s.heap.push (freshSet w)).objs.size := by
          rw [Heap.size_push]; exact Nat.ne_of_lt (Nat.lt_succ_of_lt hlS)
        have hSf : s.heap.objs.size ∉ [(s.heap.push (freshSet w)).objs.size, l] := by
          rw [Heap.size_push]; simp only [List.mem_cons, List.mem_singleton, List.not_mem_nil, or_false, not_or]
          exact ⟨Nat.ne_of_lt (Nat.lt_succ_self _), Nat.ne_of_gt hlS⟩
        have hlen : items.size = xs.length := by rw [← Array.length_toList]; exact hi.len_eq
        have hval : ∀ (i : Nat) (v : Value), items[i]? = some v → ∃ x t, xs[i]? = some x ∧ v = .str x t := fun i v hv => by
          obtain ⟨x, t, e1, e2⟩ := hi.item i v (by rw [Array.getElem?_toList]; exact hv)
          exact ⟨x, t, e2, e1⟩
        refine update_loopS ((Walks.list hh3 _ l hneI items).toS) s.heap.objs.size
          hSf xs hlen hval hb (items.size - 0) 0 _ (by omega) (Nat.zero_le _)
          ⟨⟨_, Heap.get?_push_size _ rfl, rfl, rfl⟩, (hl1.push _)⟩ ?hS0 ?hR
        case hS0 => exact ⟨_, Heap.get?_push_of_some _ hS, StrSet.new _ rfl⟩
        case hR =>
          intro s' o hm hg' hS'
          obtain ⟨h', g', d', tk', os'⟩ := s'
          have eg : g' = s.gens := hm.gens
          have ed : d' = s.drawn := hm.drawn
          have eo : os' = s.os := hm.os
          subst eg; subst ed; subst eo
          show wpAny _ _ _ _ _ _
          refine wpAny_pure ?_
          show wpAny _ _ (ret Value.none) _ _ _
          refine wpAny_pure ⟨rfl, h', tk', o, rfl, hg', hS', fun b o hb e => ?_⟩
          have hb1 : b ≠ s.heap.objs.size := Nat.ne_of_lt hb
          have hb2 : b ≠ (s.heap.push (freshSet w)).objs.size := by
            rw [Heap.size_push]; exact Nat.ne_of_lt (Nat.lt_succ_of_lt hb)
          exact hm.heap b o (by simp only [List.mem_cons, List.mem_singleton, List.not_mem_nil, or_false, not_or]; exact ⟨hb1, hb2⟩) (Heap.get?_push_of_some _ (Heap.get?_push_of_some _ e))
      · cases r₂ with
        | error e => exact hr₂
        | ok fl₂ =>
          cases fl₂ with
          | ret r =>
            obtain ⟨rfl, h', tk, o, rfl, hg', hS', hk'⟩ := hr₂
            repeat (any_goals (first | assumption | wp_step))
            exact h _ _ _ hg' hS' hk'
          | _ => exact hr₂.elim
    | _ => exact hr.elim
end
end Mine

-- part G1
namespace Mine
set_option maxRecDepth 100000
set_option maxHeartbeats 8000000
set_option pp.deepTerms false
set_option pp.deepTerms.threshold 4
set_option pp.maxSteps 100000

open PyProof.Rows.LCg PyProof.Rows.LCt
/- a comprehension of two clauses -/
abbrev comp2 (elt : PySem.Expr) (x : Str) (px : Pos) (it1 : PySem.Expr) (y : Str) (py : Pos) (it2 : PySem.Expr) (scope : Scope) (pos : Pos) : PySem.Expr := .ListComp elt [⟨.Name x px, it1, [], 0⟩, ⟨.Name y py, it2, [], 0⟩] scope pos
section
variable {elt it1 it2 : PySem.Expr} {x y : Str} {px py pos : Pos} {scope : Scope} {it acc : Value} {env : Env}
theorem compTurn_0 : compTurn (comp2 elt x px it1 y py it2 scope pos) 0 it acc env = (do
      standAt it1.pos
      match ← pyNext it with
      | none => pure (.done .next)
      | some v =>
        letOwnedTupleGo (.Name x px) it v
        assign (.Name x px) env v
        let mut ok := true
        for c in ([] : List PySem.Expr) do
          if ok then ok ← isTrue c env (eval c env)
        if ok then
            let z ← eval it2 env
            standAt it2.pos
            let z ← foldedSetIterable it2 env z
            let _ ← runOwn (.compStart (comp2 elt x px it1 y py it2 scope pos) 1 (← holding [z] (pyIter z)) acc env) env
        again (.compLoop (comp2 elt x px it1 y py it2 scope pos) 0 it acc env)) := by rfl
theorem compTurn_1 : compTurn (comp2 elt x px it1 y py it2 scope pos) 1 it acc env = (do
      standAt it2.pos
      match ← pyNext it with
      | none => pure (.done .next)
      | some v =>
        letOwnedTupleGo (.Name y py) it v
        assign (.Name y py) env v
        let mut ok := true
        for c in ([] : List PySem.Expr) do
          if ok then ok ← isTrue c env (eval c env)
        if ok then
          (do let _ ← call (.builtin "list.append") [acc, ← eval elt env])
        again (.compLoop (comp2 elt x px it1 y py it2 scope pos) 1 it acc env)) := by rfl
end
section
variable {prog : Program} {w : World} {A : Around} {R : Result → Shared → Prop} {s : Shared} {elt it1 it2 : PySem.Expr} {x y : Str} {px py pos : Pos} {scope : Scope} {it acc : Value} {env : Env}
theorem loop_0 (hs : ∀ z, foldedSetIterable it2 env z = pure z) (I : Nat → Shared → Prop)
    (turn : ∀ n s, I n s → wpAny (model prog w) A (pyNext it) (fun r s₁ => match r with
      | none => R (.ok .next) s₁
      | some v => wpAny (model prog w) A (assign (.Name x px) env v) (fun _ s₂ =>
          wpAny (model prog w) A (eval it2 env) (fun z s₃ => wpAny (model prog w) A (pyIter z) (fun iv s₄ =>
            codeAny (model prog w) A (.compStart (comp2 elt x px it1 y py it2 scope pos) 1 iv acc env) (fun r s' => match r with | .ok _ => ∃ m, m < n ∧ I m s' | .error e => cameBackBy (model prog w) A env (notedBy (model prog w) A env fun e s' => R (.error e) s') e s') s₄)
            (notedBy (model prog w) A env fun e s' => R (.error e) s') s₃) (notedBy (model prog w) A env fun e s' => R (.error e) s') s₂) (notedBy (model prog w) A env fun e s' => R (.error e) s') s₁) (notedBy (model prog w) A env fun e s' => R (.error e) s') s)
    (n : Nat) (h : I n s) :
    codeAny (model prog w) A (.compLoop (comp2 elt x px it1 y py it2 scope pos) 0 it acc env) R s := by
  refine codeAny_loop rfl I (fun n s hI => ?_) n h
  show wpAny _ A ((compTurn (comp2 elt x px it1 y py it2 scope pos) 0 it acc env).onRaise (fun x => do noteFrame x env; theTreesLotGoes x)) _ _ s
  refine wpAny_noted ?_
  rw [compTurn_0]
  refine wpAny_bind (wpAny_standAt (wpAny_bind (wpAny_mono (turn n s hI) (fun r s₁ h₁ => ?_) fun _ _ h' => h')))
  cases r with
  | none => exact wpAny_pure h₁
  | some v =>
    refine wpAny_bind (wpAny_pure ?_)
    refine wpAny_bind (wpAny_mono h₁ (fun _ s₂ h₂ => wpAny_bind (wpAny_tests_nil ?_)) fun _ _ h' => h')
    refine wpAny_bind (wpAny_mono h₂ (fun z s₃ h₃ => wpAny_bind (wpAny_standAt (wpAny_bind (wpAny_of_eq (hs z) (wpAny_bind (wpAny_holding (wpAny_mono h₃ (fun iv s₄ h₄ => ?_) fun _ _ h' => h')))))) ) fun _ _ h' => h')
    refine wpAny_bind (wpAny_runOwn (codeAny_mono h₄ fun r s' hr => ?_))
    cases r with
    | error e => exact hr
    | ok f => exact wpAny_pure ⟨rfl, hr⟩
theorem loop_1 (I : Nat → Shared → Prop)
    (turn : ∀ n s, I n s → wpAny (model prog w) A (pyNext it) (fun r s₁ => match r with
      | none => R (.ok .next) s₁
      | some v => wpAny (model prog w) A (assign (.Name y py) env v) (fun _ s₂ =>
          wpAny (model prog w) A (eval elt env) (fun z s₃ =>
              wpAny (model prog w) A (call (.builtin "list.append") [acc, z]) (fun _ s₅ => ∃ m, m < n ∧ I m s₅) (notedBy (model prog w) A env fun e s' => R (.error e) s') s₃)
            (notedBy (model prog w) A env fun e s' => R (.error e) s') s₂) (notedBy (model prog w) A env fun e s' => R (.error e) s') s₁) (notedBy (model prog w) A env fun e s' => R (.error e) s') s)
    (n : Nat) (h : I n s) :
    codeAny (model prog w) A (.compLoop (comp2 elt x px it1 y py it2 scope pos) 1 it acc env) R s := by
  refine codeAny_loop rfl I (fun n s hI => ?_) n h
  show wpAny _ A ((compTurn (comp2 elt x px it1 y py it2 scope pos) 1 it acc env).onRaise (fun x => do noteFrame x env; theTreesLotGoes x)) _ _ s
  refine wpAny_noted ?_
  rw [compTurn_1]
  refine wpAny_bind (wpAny_standAt (wpAny_bind (wpAny_mono (turn n s hI) (fun r s₁ h₁ => ?_) fun _ _ h' => h')))
  cases r with
  | none => exact wpAny_pure h₁
  | some v =>
    refine wpAny_bind (wpAny_pure ?_)
    refine wpAny_bind (wpAny_mono h₁ (fun _ s₂ h₂ => wpAny_bind (wpAny_tests_nil ?_)) fun _ _ h' => h')
    exact wpAny_bind (wpAny_bind (wpAny_mono h₂ (fun z s₃ h₃ => wpAny_bind (wpAny_mono h₃ (fun _ s₅ h₅ => wpAny_pure (wpAny_pure ⟨rfl, h₅⟩)) fun _ _ h' => h')) fun _ _ h' => h'))
theorem start_1
    (h0 : codeAny (model prog w) A (.compLoop (comp2 elt x px it1 y py it2 scope pos) 1 it acc env) R s)
    (h : wpAny (model prog w) A (pyIter it) (fun it' s' => codeAny (model prog w) A (.compLoop (comp2 elt x px it1 y py it2 scope pos) 1 it' acc env) R s')
      (notedBy (model prog w) A env fun x s' => R (.error x) s') s) :
    codeAny (model prog w) A (.compStart (comp2 elt x px it1 y py it2 scope pos) 1 it acc env) R s := by
  refine codeAny_of_tree ?_
  show wpAny _ _ ((compStart (comp2 elt x px it1 y py it2 scope pos) 1 it acc env).onRaise (fun x => do noteFrame x env; standAt theWindowsPlace)) _ _ s
  refine wpAny_notedAt ?_
  unfold compStart
  show wpAny _ _ (ask >>= _) _ _ s
  refine wpAny_bind (wpAny_askSetting (wpAny_ite ?_))
  split
  · first
      | exact wpAny_bind (wpAny_pure (wpAny_pure (And.intro rfl h0)))
      | exact wpAny_pure (And.intro rfl h0)
  · exact wpAny_bind (wpAny_rule (wpAny_bind (wpAny_standAt (wpAny_bind (wpAny_mono h (fun it' s' h' => wpAny_pure (And.intro rfl h')) fun _ _ x => x)))))
end
end Mine

-- part G2
namespace Mine
set_option maxRecDepth 100000
set_option maxHeartbeats 8000000
set_option pp.deepTerms false
set_option pp.deepTerms.threshold 4
set_option pp.maxSteps 100000

open PyProof.Rows.LCg PyProof.Rows.LCt
section
variable {prog : Program} {w : World} {A : Around} {E : Value → Shared → Prop} {h₀ : Heap} {L : Addr} {m : Str → Option Value} {env : Env} {elt it1 it2 : PySem.Expr} {x y : Str} {px py pos : Pos} {scope : Scope} {cl : List (Str × Addr)}
theorem strs_snoc {vs : List Value} {ss : List Str} {z : Str} {t : Tok} (h : StrsAre vs ss) : StrsAre (vs ++ [.str z t]) (ss ++ [z]) := by
  induction h with
  | nil => exact .cons _ _ .nil
  | cons y u _ ih => exact .cons _ _ ih
theorem take_snoc {g : List Str} {j : Nat} {z : Str} (h : g[j]? = some z) : g.take (j + 1) = g.take j ++ [z] := by rw [List.take_add_one, h]; rfl
def TxtEnd (h₀ : Heap) (L : Addr) (m : Str → Option Value) (s : Shared) (led : Led) (z : Str) (r : Value) (s' : Shared) : Prop := ∃ h' tk' t, s' = { s with heap := h', toks := tk' } ∧ r = .str z t ∧ Fr h₀ L h' m ∧ News h₀ L h' led
abbrev upTo (G : Nat → List Str) (i : Nat) : List Str := (List.range i).flatMap G
inductive RngEnd (h₀ : Heap) (L : Addr) (m : Str → Option Value) (s : Shared) (n : Nat) (led : Led) : Value → Shared → Prop
  | mk (h' : Heap) (tk' : Nat) (r : Addr) (t u q : Tok) (hr : IsRange h' r 0 (n : Int) 1 t u q) (hs : Builtin.Range.small 0 (n : Int) 1 = true) (hn : Builtin.Range.rangeSize 0 (n : Int) 1 = (n : Int)) (F : Fr h₀ L h' m) (N : News h₀ L h' led) : RngEnd h₀ L m s n led (.ref r) { s with heap := h', toks := tk' }
theorem RngEnd.upto {h₀ g : Heap} {L : Addr} {m : Str → Option Value} {s : Shared} {n : Nat} {led : Led} {z : Value} {s' : Shared} (h : RngEnd h₀ L m s n led z s') : RngEnd h₀ L m { s with heap := g } n led z s' := by
  cases h with
  | mk h' tk' r t u q hr hs hn F N => exact .mk h' tk' r t u q hr hs hn F N
inductive In2 (h₀ : Heap) (L : Addr) (m : Str → Option Value) (s : Shared) (I2 I C D : Addr) (oI : Obj) (news : Led) (v : Value) (x : Str) (Wd g : List Str) : Nat → Shared → Prop
  | mk (h' : Heap) (tk j : Nat) (ys : List Value) (m' : Str → Option Value) (hj : j ≤ g.length) (hS : StrsAre ys (Wd ++ g.take j)) (st : IsRangeIter h' I2 (0 + (j : Nat) * 1) ((g.length : Int) - (j : Nat)) 1) (F : Fr h₀ L h' m) (hC : h'.Ns C m') (hx : m' x = some v) (N : News h₀ L h' ((I, oI) :: (D, lst ys) :: news)) :
    In2 h₀ L m s I2 I C D oI news v x Wd g (g.length + 1 - j) { s with heap := h', toks := tk }
inductive Out2 (h₀ : Heap) (L : Addr) (m : Str → Option Value) (s₂ : Shared) (I C D ax : Addr) (n : Nat) (news : Led) (G : Nat → List Str) : Nat → Shared → Prop
  | mk (h' : Heap) (tk i : Nat) (ys : List Value) (m' : Str → Option Value) (hi : i ≤ n) (hS : StrsAre ys (upTo G i)) (st : h'.IsListIter I ax i) (F : Fr h₀ L h' m) (hn : h'.Ns C m') (N : News h₀ L h' ((D, lst ys) :: news)) :
    Out2 h₀ L m s₂ I C D ax n news G (n + 1 - i) { s₂ with heap := h', toks := tk }
theorem inner_2 {R : Result → Shared → Prop} {s : Shared} {I2 I C D : Addr} {oI : Obj} {news : Led} {v : Value} {Wd g : List Str} {ys0 : List Value} {m0 : Str → Option Value}
    (hh : A.handled = none) (hkind : scope.kind = .function) (hy : scope.names.lookup y = some .local) (hxy : x ≠ y) (hb : Wd.length + g.length ≤ 16777216)
    (st : IsRangeIter s.heap I2 (0 + ((0 : Nat) : Int) * 1) ((g.length : Int) - ((0 : Nat) : Int)) 1) (F : Fr h₀ L s.heap m) (N : News h₀ L s.heap ((I, oI) :: (D, lst ys0) :: news)) (hC : s.heap.Ns C m0) (hx : m0 x = some v) (hS : StrsAre ys0 Wd)
    (hC0 : h₀.get? C = none) (hCL : C ≠ L) (hI20 : h₀.get? I2 = none) (hI2L : L ≠ I2) (hI2C : I2 ≠ C) (offI2 : I ≠ I2) (offD2 : D ≠ I2) (offn2 : ∀ p ∈ news, p.1 ≠ I2) (offIC : I ≠ C) (offDC : D ≠ C) (offnC : ∀ p ∈ news, p.1 ≠ C) (hID : I ≠ D) (offD : ∀ p ∈ news, p.1 ≠ D)
    (turn2 : ∀ (j : Nat) (z : Str) tj o2 oC ys m₂ h tk (E' : Value → Shared → Prop), g[j]? = some z → NsObj oC m₂ → m₂ x = some v → m₂ y = some (.int (0 + (j : Int)) tj) → Fr h₀ L h m → News h₀ L h ((I2, o2) :: (I, oI) :: (C, oC) :: (D, lst ys) :: news) →
      wpAny (model prog w) A (eval elt (compEnvC scope cl C env)) (TxtEnd h₀ L m s ((I2, o2) :: (I, oI) :: (C, oC) :: (D, lst ys) :: news) z) E' { s with heap := h, toks := tk })
    (fin : ∀ h tk ys m', Fr h₀ L h m → News h₀ L h ((I, oI) :: (D, lst ys) :: news) → h.Ns C m' → StrsAre ys (Wd ++ g) → R (.ok .next) { s with heap := h, toks := tk }) :
    codeAny (model prog w) A (.compLoop (comp2 elt x px it1 y py it2 scope pos) 1 (.ref I2) (.ref D) (compEnvC scope cl C env)) R s := by
  have W := range_walks (prog := prog) (w := w) hh (I := I2) 0 g.length
  refine loop_1 (In2 h₀ L m s I2 I C D oI news v x Wd g) ?_ (g.length + 1)
    (.mk s.heap s.toks 0 ys0 m0 (Nat.zero_le _) (by simpa using hS) st F hC hx N)
  rintro n s' ⟨h', tk, j, ys, m', hj, hS', st', F', hC', hx', N'⟩
  by_cases hlt : j < g.length
  · refine W.item j _ _ _ hlt st' fun vj h₁ tk₁ hP st₁ hk₁ => ?_
    obtain ⟨tj, rfl⟩ := hP
    refine wpAny_assign_Name (wpAny_storeName_local (lookup_relabel_local hy) (hC'.at' fun o e => hk₁ _ o (by simpa using Ne.symm hI2C) e) (fun h₂ hn₂ hs₂ => ?_) (by simp [compEnvC, relabel, hkind]))
    obtain ⟨oC, heC, hoC⟩ := ns_obj hn₂
    have F₂ : Fr h₀ L h₂ m := (fr_but F' hk₁ hI2L hI20).change hs₂ hCL hC0
    have e2 := hs₂.extBut I2 _ hI2C st₁
    have N₁ : News h₀ L h₁ ((I, oI) :: (D, lst ys) :: news) := news_but N' hk₁ fun p hp => by
      rcases List.mem_cons.mp hp with rfl | hp
      · exact offI2
      · rcases List.mem_cons.mp hp with rfl | hp
        · exact offD2
        · exact offn2 p hp
    have to2 : ∀ p ∈ (I, oI) :: (D, lst ys) :: news, h₂.get? p.1 = some p.2 := fun p hp => hs₂.extBut _ _ (by
      rcases List.mem_cons.mp hp with rfl | hp
      · exact offIC
      · rcases List.mem_cons.mp hp with rfl | hp
        · exact offDC
        · exact offnC p hp) (N₁ p hp).1
    have N₂ : News h₀ L h₂ ((I2, _) :: (I, oI) :: (C, oC) :: (D, lst ys) :: news) := fun p hp => by
      rcases List.mem_cons.mp hp with rfl | hp
      · exact ⟨e2, Ne.symm hI2L, hI20⟩
      · rcases List.mem_cons.mp hp with rfl | hp
        · exact ⟨to2 _ (.head _), (N₁ _ (.head _)).2⟩
        · rcases List.mem_cons.mp hp with rfl | hp
          · exact ⟨heC, hCL, hC0⟩
          · exact ⟨to2 _ (.tail _ hp), (N₁ _ (.tail _ hp)).2⟩
    refine wpAny_mono (turn2 j g[j] tj _ oC ys _ h₂ _ _ (List.getElem?_eq_getElem hlt) hoC (by simp only [if_neg hxy]; exact hx') (by simp) F₂ N₂) (fun r s₃ hr => ?_) fun _ _ e => e
    obtain ⟨h₃, tk₃, t, rfl, rfl, F₃, N₃⟩ := hr
    have zI2 := N₃ _ (.head _)
    have zC := N₃ _ (.tail _ (.tail _ (.head _)))
    have zD := N₃ _ (.tail _ (.tail _ (.tail _ (.head _))))
    have hyl : ys.length ≤ 16777216 := by
      rw [hS'.len_eq, List.length_append, List.length_take]; omega
    refine append_at (hsz := by show ys.toArray.size ≤ sizeLine; rw [List.size_toArray, sizeLine_eq]; exact hyl) zD.1 fun h₅ hs₅ hD₅ => ?_
    refine ⟨g.length + 1 - (j + 1), by omega, .mk h₅ tk₃ (j + 1) (ys ++ [.str g[j] t]) _ hlt ?_ (hs₅.extBut I2 _ (Ne.symm offD2) zI2.1) (F₃.change hs₅ zD.2.1 zD.2.2) ((hoC.ns zC.1).sameBut hs₅ (Ne.symm offDC)) (by simp only [if_neg hxy]; exact hx') (fun p hp => ?_)⟩
    · rw [take_snoc (List.getElem?_eq_getElem hlt), ← List.append_assoc]
      exact strs_snoc hS'
    · rcases List.mem_cons.mp hp with rfl | hp
      · have z := N₃ (I, oI) (.tail _ (.head _))
        exact ⟨hs₅.extBut _ _ hID z.1, z.2⟩
      · rcases List.mem_cons.mp hp with rfl | hp
        · exact ⟨hD₅.trans (congrArg some (lst_snoc ys _)), zD.2⟩
        · have z := N₃ p (.tail _ (.tail _ (.tail _ (.tail _ hp))))
          exact ⟨hs₅.extBut _ _ (offD p hp) z.1, z.2⟩
  · obtain rfl : j = g.length := Nat.le_antisymm hj (Nat.not_lt.mp hlt)
    refine W.done _ _ _ st' fun h₁ tk₁ hk₁ => ?_
    rw [List.take_length] at hS'
    refine fin h₁ tk₁ ys m' (fr_but F' hk₁ hI2L hI20) (news_but N' hk₁ fun p hp => ?_) (hC'.at' fun o e => hk₁ _ o (by simpa using Ne.symm hI2C) e) hS'
    rcases List.mem_cons.mp hp with rfl | hp
    · exact offI2
    · rcases List.mem_cons.mp hp with rfl | hp
      · exact offD2
      · exact offn2 p hp
theorem upTo_succ (G : Nat → List Str) (i : Nat) : upTo G (i + 1) = upTo G i ++ G i := by
  unfold upTo; rw [List.range_succ, List.flatMap_append]; simp
theorem upTo_le (G : Nat → List Str) {i n : Nat} (h : i ≤ n) : (upTo G i).length ≤ (upTo G n).length := by
  induction n with
  | zero => rw [Nat.le_zero.mp h]; exact Nat.le_refl _
  | succ n ih =>
    by_cases e : i = n + 1
    · rw [e]; exact Nat.le_refl _
    · rw [upTo_succ, List.length_append]
      exact Nat.le_trans (ih (by omega)) (Nat.le_add_right _ _)
theorem block_2 {RR : Value → Addr → Result → Shared → Prop} {s₂ : Shared} {I ax : Addr} {vs : List Value} {kk : Nat} {news : Led} {G : Nat → List Str}
    (hh : A.handled = none) (hcell : ∀ z ∈ scope.names, z.2 ≠ .cell) (hkind : scope.kind = .function) (hx : scope.names.lookup x = some .local) (hy : scope.names.lookup y = some .local) (hxy : x ≠ y) (hs2 : ∀ z e, foldedSetIterable it2 e z = pure z)
    (hb : (upTo G vs.length).length ≤ 16777216) (st : s₂.heap.IsListIter I ax 0) (F : Fr h₀ L s₂.heap m) (N : News h₀ L s₂.heap news) (hm : (ax, listOf vs.toArray kk) ∈ news) (hI : I < s₂.heap.objs.size) (hIL : L ≠ I) (hI0 : h₀.get? I = none) (offI : ∀ p ∈ news, p.1 ≠ I)
    (turn1 : ∀ (i : Nat) v oI C oC D ys m₂ h tk (E' : Value → Shared → Prop), vs[i]? = some v → NsObj oC m₂ → m₂ x = some v → Fr h₀ L h m → News h₀ L h ((I, oI) :: (C, oC) :: (D, lst ys) :: news) →
      wpAny (model prog w) A (eval it2 (compEnvC scope cl C env)) (RngEnd h₀ L m s₂ (G i).length ((I, oI) :: (C, oC) :: (D, lst ys) :: news)) E' { s₂ with heap := h, toks := tk })
    (turn2 : ∀ (i : Nat) v I2 oI C D (j : Nat) (z : Str) tj o2 oC ys m₂ h tk (E' : Value → Shared → Prop), vs[i]? = some v → (G i)[j]? = some z → NsObj oC m₂ → m₂ x = some v → m₂ y = some (.int (0 + (j : Int)) tj) → Fr h₀ L h m → News h₀ L h ((I2, o2) :: (I, oI) :: (C, oC) :: (D, lst ys) :: news) →
      wpAny (model prog w) A (eval elt (compEnvC scope cl C env)) (TxtEnd h₀ L m s₂ ((I2, o2) :: (I, oI) :: (C, oC) :: (D, lst ys) :: news) z) E' { s₂ with heap := h, toks := tk })
    (hRR : ∀ D C h tk m' ys, Fr h₀ L h m → News h₀ L h ((D, lst ys) :: news) → (∀ p ∈ news, p.1 ≠ D) → h.Ns C m' → h₀.get? C = none → C ≠ L → C ≠ D → (∀ p ∈ news, p.1 ≠ C) → StrsAre ys (upTo G vs.length) → RR (.ref D) C (.ok .next) { s₂ with heap := h, toks := tk }) :
    wpAny (model prog w) A (newList []) (fun acc s₃ => wpAny (model prog w) A (newFunctionEnv scope env.globals cl [] env.qual none .none (some env)) (fun cenv s₄ =>
      codeAny (model prog w) A (.compStart (comp2 elt x px it1 y py it2 scope pos) 0 (.ref I) acc { cenv with scope := relabel scope env }) (RR acc cenv.locals) s₄) E s₃) E s₂ := by
  refine wpAny_newObj_type (wpAny_newFunctionEnv hcell (by intro y hy; simp at hy) (fun h₁ hns₁ hsb₁ => ?_) hkind)
  dsimp only at hns₁ hsb₁ ⊢
  generalize hH2 : s₂.heap.push { cls := .type "list", dict := none, data := .seq ([] : List Value).toArray } = H2 at hns₁ hsb₁ ⊢
  have hC : H2.objs.size = s₂.heap.objs.size + 1 := by rw [← hH2, Heap.size_push]
  generalize hD : s₂.heap.objs.size = D at hC ⊢
  generalize hCC : H2.objs.size = C at hC hns₁ hsb₁ ⊢
  have below : ∀ b, b < D → b ≠ C ∧ b ≠ D := fun b hb => ⟨by rw [hC]; exact Nat.ne_of_lt (Nat.lt_succ_of_lt hb), Nat.ne_of_lt hb⟩
  have hDC : D ≠ C := by rw [hC]; exact Nat.ne_of_lt (Nat.lt_succ_self _)
  have lt2 : ∀ b o, s₂.heap.get? b = some o → b < D := fun b o e => hD ▸ Heap.lt_size e
  have old : ∀ b o, s₂.heap.get? b = some o → h₁.get? b = some o := fun b o e => hsb₁.extBut b o (below b (lt2 b o e)).1 (Heap.get?_push_of_some _ (hH2 ▸ Heap.get?_push_of_some _ e))
  have hacc : h₁.get? D = some (lst []) := hsb₁.extBut _ _ hDC (Heap.get?_push_of_some _ (hH2 ▸ (hD ▸ Heap.get?_push_size _ rfl)))
  have fresh₀ : ∀ a, D ≤ a → h₀.get? a = none := fun a ha => by
    cases e : h₀.get? a with
    | none => rfl
    | some o' => exact absurd (lt2 _ _ (F.keep a o' e)) (Nat.not_lt.mpr ha)
  have hD₀ := fresh₀ D (Nat.le_refl _)
  have hC₀ := fresh₀ C (by rw [hC]; exact Nat.le_succ _)
  have hLlt : L < D := hD ▸ F.ns.lt
  have hIC := (below I (hD ▸ hI)).1
  have hID := (below I (hD ▸ hI)).2
  have offn : ∀ p ∈ news, p.1 ≠ C ∧ p.1 ≠ D := fun p hp => below _ (lt2 _ _ (N p hp).1)
  have W := Walks.list (prog := prog) (w := w) hh I ax (fun e => offI _ hm e) vs.toArray
  have loop : ∀ s₃ : Shared, s₃ = { s₂ with heap := h₁, toks := s₂.toks + ([] : List (Str × Value)).length } →
      codeAny (model prog w) A (.compLoop (comp2 elt x px it1 y py it2 scope pos) 0 (.ref I) (.ref D) (compEnvC scope cl C env)) (RR (.ref D) C) s₃ := by
    rintro s₃ rfl
    refine loop_0 (fun z => hs2 z _) (Out2 h₀ L m s₂ I C D ax vs.length news G) ?_ (vs.length + 1)
      (.mk h₁ _ 0 [] _ (Nat.zero_le _) .nil (st.at fun o e => old _ o e) (F.keeps old) hns₁ (fun p hp => ?_))
    · rintro k s' ⟨h', tk, i, ys, m', hi, hS, st', F', hn', N'⟩
      have hl' : h'.IsList ax vs.toArray := ⟨_, (N' _ (.tail _ hm)).1, rfl, _, rfl⟩
      by_cases hlt : i < vs.length
      · refine W.item i _ _ _ (by rw [List.size_toArray]; exact hlt) ⟨st', hl'⟩ fun v h₂ tk₂ hPv hst₂ hk₂ => ?_
        have hv : vs[i]? = some v := by simpa using hPv
        refine wpAny_assign_Name (wpAny_storeName_local (lookup_relabel_local hx) (hn'.at' fun o e => hk₂ _ o (by simpa using Ne.symm hIC) e) (fun h₃ hn₃ hs₃ => ?_) (by simp [compEnvC, relabel, hkind]))
        obtain ⟨oC, heC, hoC⟩ := ns_obj hn₃
        obtain ⟨oI, heI', hIo⟩ := hst₂.1
        have heI := hs₃.extBut I oI hIC heI'
        have F₃ : Fr h₀ L h₃ m := (fr_but F' hk₂ hIL hI0).change hs₃ (Ne.symm (below L hLlt).1) hC₀
        have N₂ : News h₀ L h₂ ((D, lst ys) :: news) := news_but N' hk₂ fun p hp => by
          rcases List.mem_cons.mp hp with rfl | hp
          · exact Ne.symm hID
          · exact offI p hp
        have N₃ : News h₀ L h₃ ((I, oI) :: (C, oC) :: (D, lst ys) :: news) := fun p hp => by
          rcases List.mem_cons.mp hp with rfl | hp
          · exact ⟨heI, Ne.symm hIL, hI0⟩
          · rcases List.mem_cons.mp hp with rfl | hp
            · exact ⟨heC, Ne.symm (below L hLlt).1, hC₀⟩
            · refine ⟨hs₃.extBut _ _ ?_ (N₂ p hp).1, (N₂ p hp).2⟩
              rcases List.mem_cons.mp hp with rfl | hp
              · exact hDC
              · exact (offn p hp).1
        refine wpAny_mono (turn1 i v oI C oC D ys _ h₃ _ _ hv hoC (by simp) F₃ N₃) (fun z s₄ hz => ?_) fun _ _ e => e
        obtain ⟨h₄, tk₄, r, t, u, q, hr, hsm, hrs, F₄, N₄⟩ := hz
        refine wpAny_pyIter_range hr hsm ?_
        have W2 := range_walks (prog := prog) (w := w) hh (I := h₄.objs.size) 0 (G i).length
        have up : ∀ b o, h₄.get? b = some o → (h₄.push { cls := .type "range_iterator", data := .fields #[rawInt 0, rawInt (Builtin.Range.rangeSize 0 ((G i).length : Int) 1), rawInt 1] }).get? b = some o := fun b o e => Heap.get?_push_of_some _ e
        have st2 : IsRangeIter (h₄.push { cls := .type "range_iterator", data := .fields #[rawInt 0, rawInt (Builtin.Range.rangeSize 0 ((G i).length : Int) 1), rawInt 1] }) h₄.objs.size (0 + ((0 : Nat) : Int) * 1) (((G i).length : Int) - ((0 : Nat) : Int)) 1 := by
          show (h₄.push _).get? _ = some _
          rw [hrs]; simpa using Heap.get?_push_size _ rfl
        have ne4 : ∀ b o, h₄.get? b = some o → b ≠ h₄.objs.size := fun b o e => Nat.ne_of_lt (Heap.lt_size e)
        have zC := N₄ _ (.tail _ (.head _))
        have lp : codeAny (model prog w) A (.compLoop (comp2 elt x px it1 y py it2 scope pos) 1 (.ref h₄.objs.size) (.ref D) (compEnvC scope cl C env)) (fun r s' => match r with | .ok _ => ∃ mm, mm < vs.length + 1 - i ∧ Out2 h₀ L m s₂ I C D ax vs.length news G mm s' | .error e => cameBackBy (model prog w) A (compEnvC scope cl C env) (notedBy (model prog w) A (compEnvC scope cl C env) fun e s' => RR (.ref D) C (.error e) s') e s') { s₂ with heap := h₄.push { cls := .type "range_iterator", data := .fields #[rawInt 0, rawInt (Builtin.Range.rangeSize 0 ((G i).length : Int) 1), rawInt 1] }, toks := tk₄ } := by
          refine inner_2 (v := v) (Wd := upTo G i) (g := G i) hh hkind hy hxy (by have := upTo_le G (show i + 1 ≤ vs.length from hlt); rw [upTo_succ, List.length_append] at this; omega) st2 (F₄.keeps up) (fun p hp => ⟨up _ _ (N₄ p ?_).1, (N₄ p ?_).2⟩) ((hoC.ns zC.1).at' fun o e => up _ o e) (by simp) hS hC₀ (Ne.symm (below L hLlt).1)
            (by
              cases e : h₀.get? h₄.objs.size with
              | none => rfl
              | some o => exact absurd rfl (ne4 _ _ (F₄.keep _ _ e))) (Nat.ne_of_lt F₄.ns.lt) (Ne.symm (ne4 _ _ zC.1)) (ne4 _ _ (N₄ _ (.head _)).1) (ne4 _ _ (N₄ _ (.tail _ (.tail _ (.head _)))).1) (fun p hp => ne4 _ _ (N₄ p (.tail _ (.tail _ (.tail _ hp)))).1) hIC hDC (fun p hp => (offn p hp).1) hID (fun p hp => (offn p hp).2) (fun j z tj o2 oC ys m₂ h tk E' a b c d e f => turn2 i v _ oI C D j z tj o2 oC ys m₂ h tk E' hv a b c d e f) fun h tk ys' m9 F9 N9 C9 S9 => ?_
          · rcases List.mem_cons.mp hp with e | hp
            · exact e ▸ .head _
            · exact .tail _ (.tail _ hp)
          · rcases List.mem_cons.mp hp with e | hp
            · exact e ▸ .head _
            · exact .tail _ (.tail _ hp)
          · refine ⟨vs.length + 1 - (i + 1), by omega, .mk h tk (i + 1) ys' m9 hlt (by rw [upTo_succ]; exact S9) ⟨oI, (N9 _ (.head _)).1, hIo⟩ F9 C9 (fun p hp => N9 p (.tail _ hp))⟩
        exact start_1 lp (W2.self 0 _ _ _ st2 lp)
      · obtain rfl : i = vs.length := Nat.le_antisymm hi (Nat.not_lt.mp hlt)
        refine W.done _ _ _ (by rw [List.size_toArray]; exact ⟨st', hl'⟩) fun h₂ tk₂ hk₂ => ?_
        refine hRR D C h₂ tk₂ _ ys (fr_but F' hk₂ hIL hI0) (news_but N' hk₂ fun p hp => ?_) (fun p hp => (offn p hp).2) (hn'.at' fun o e => hk₂ _ o (by simpa using Ne.symm hIC) e) hC₀ (Ne.symm (below L hLlt).1) (Ne.symm hDC) (fun p hp => (offn p hp).1) hS
        rcases List.mem_cons.mp hp with rfl | hp
        · exact Ne.symm hID
        · exact offI p hp
    · rcases List.mem_cons.mp hp with rfl | hp
      · exact ⟨hacc, Ne.symm (below L hLlt).2, hD₀⟩
      · exact ⟨old _ _ (N p hp).1, (N p hp).2⟩
  exact codeAny_compStart_list (loop _ rfl) (W.self 0 _ _ _ ⟨st.at fun o e => old _ o e, ⟨_, old _ _ (N _ hm).1, rfl, _, rfl⟩⟩ (loop _ rfl))
inductive Src2 (prog : Program) (w : World) (A : Around) (h₀ : Heap) (L : Addr) (m : Str → Option Value) (env : Env) (elt it2 : PySem.Expr) (x y : Str) (scope : Scope) (cl : List (Str × Addr)) (Q : Value → Shared → Prop) (xv : Value) (s₂ : Shared) : Prop
  | mk (ax : Addr) (vs : List Value) (kk : Nat) (news : Led) (G : Nat → List Str) (hv : xv = .ref ax) (hh : A.handled = none) (F : Fr h₀ L s₂.heap m) (N : News h₀ L s₂.heap news) (hm : (ax, listOf vs.toArray kk) ∈ news) (hb : (upTo G vs.length).length ≤ 16777216)
    (t1 : ∀ (i : Nat) v I oI C oC D ys m₂ h tk (E' : Value → Shared → Prop), vs[i]? = some v → NsObj oC m₂ → m₂ x = some v → Fr h₀ L h m → News h₀ L h ((I, oI) :: (C, oC) :: (D, lst ys) :: news) →
      wpAny (model prog w) A (eval it2 (compEnvC scope cl C env)) (RngEnd h₀ L m s₂ (G i).length ((I, oI) :: (C, oC) :: (D, lst ys) :: news)) E' { s₂ with heap := h, toks := tk })
    (t2 : ∀ (i : Nat) v I2 I oI C D (j : Nat) (z : Str) tj o2 oC ys m₂ h tk (E' : Value → Shared → Prop), vs[i]? = some v → (G i)[j]? = some z → NsObj oC m₂ → m₂ x = some v → m₂ y = some (.int (0 + (j : Int)) tj) → Fr h₀ L h m → News h₀ L h ((I2, o2) :: (I, oI) :: (C, oC) :: (D, lst ys) :: news) →
      wpAny (model prog w) A (eval elt (compEnvC scope cl C env)) (TxtEnd h₀ L m s₂ ((I2, o2) :: (I, oI) :: (C, oC) :: (D, lst ys) :: news) z) E' { s₂ with heap := h, toks := tk })
    (fin : ∀ D h tk ys, StrsAre ys (upTo G vs.length) → Fr h₀ L h m → News h₀ L h ((D, lst ys) :: news) → (∀ p ∈ news, p.1 ≠ D) → Q (.ref D) { s₂ with heap := h, toks := tk }) : Src2 prog w A h₀ L m env elt it2 x y scope cl Q xv s₂
theorem ListComp_2 {s : Shared} {Q : Value → Shared → Prop} (F₀ : Fr h₀ L s.heap m)
    (hclos : closureFor scope env = pure cl) (hcell : ∀ z ∈ scope.names, z.2 ≠ .cell) (hkind : scope.kind = .function)
    (hnames : ∀ z ∈ scope.names, z.2 = .local → scope.names.lookup z.1 = some .local) (hx : scope.names.lookup x = some .local) (hy : scope.names.lookup y = some .local) (hxy : x ≠ y)
    (h : wpAny (model prog w) A (eval it1 env) (Src2 prog w A h₀ L m env elt it2 x y scope cl Q) E s)
    (hs : ∀ z e, foldedSetIterable it1 e z = pure z := by intro _ _; rfl) (hs2 : ∀ z e, foldedSetIterable it2 e z = pure z := by intro _ _; rfl) :
    wpAny (model prog w) A (eval (comp2 elt x px it1 y py it2 scope pos) env) Q E s := by
  rw [eval_ListComp]
  refine wpAny_comprehension_free (use := none) rfl (fun z => hs z _) hclos hkind hnames (wpAny_mono h (fun xv s₁ h₁ => ?_) fun _ _ e => e)
  obtain ⟨ax, vs, kk, news, G, rfl, hh, F, N, hm, hb, t1, t2, fin⟩ := h₁
  have hl : s₁.heap.IsList ax vs.toArray := ⟨_, (N _ hm).1, rfl, _, rfl⟩
  refine wpAny_pyIter_list hl ?_
  have up : ∀ b o, s₁.heap.get? b = some o → (s₁.heap.push { cls := .type "list_iterator", data := .fields #[.ref ax, .int 0 0] }).get? b = some o := fun b o e => Heap.get?_push_of_some _ e
  refine block_2 (G := G) hh hcell hkind hx hy hxy hs2 hb ⟨_, Heap.get?_push_size _ rfl, rfl, rfl⟩ (F.keeps up) (N.grown up) hm (by show s₁.heap.objs.size < (s₁.heap.push _).objs.size; rw [Heap.size_push]; exact Nat.lt_succ_self _) (Nat.ne_of_lt F.ns.lt) (next_is_new F) (fun p hp => Nat.ne_of_lt (Heap.lt_size (N p hp).1))
    (fun i v oI C oC D ys m₂ h tk E' a b c d e => wpAny_mono (t1 i v _ oI C oC D ys m₂ h tk E' a b c d e) (fun _ _ q => q.upto) fun _ _ e => e) (fun i v I2 oI C D j z tj o2 oC ys m₂ h tk E' a b c d e f g => t2 i v I2 _ oI C D j z tj o2 oC ys m₂ h tk E' a b c d e f g) ?_
  intro D C h tk m' ys F' N' oD hn hC₀ hCL hCD offC hS
  refine ⟨m', hn, fun h'' hs'' => fin D h'' tk ys hS (F'.change hs'' hCL hC₀) (fun p hp => ?_) oD⟩
  refine ⟨hs''.extBut _ _ ?_ (N' p hp).1, (N' p hp).2⟩
  rcases List.mem_cons.mp hp with rfl | hp
  · exact Ne.symm hCD
  · exact offC p hp
end
end Mine

-- part T2
namespace Mine
set_option maxRecDepth 100000
set_option maxHeartbeats 8000000
set_option pp.deepTerms false
set_option pp.deepTerms.threshold 4
set_option pp.maxSteps 100000

def del (f : Fm) (p : Path) : Fm := fun q => if q = p then none else f q
theorem del_self (f : Fm) (p : Path) : del f p p = none := if_pos rfl
theorem del_ne (f : Fm) {p q : Path} (h : q ≠ p) : del f p q = f q := if_neg h
theorem bareB_kids {f : Fm} {q : Path} {nd : Nd} (h : bareB f q nd = true) : nd.rs = [] ∧ ∀ b, f (q ++ [b]) = none := by
  unfold bareB at h
  rw [Bool.and_eq_true, Bool.and_eq_true, List.isEmpty_iff, Option.isNone_iff_eq_none, Option.isNone_iff_eq_none] at h
  exact ⟨h.1.1, fun b => by cases b; exact h.1.2; exact h.2⟩
theorem Tree.del {P : Params} {Z : Led} {f : Fm} {q : Path} {b : Bool} {nd n2 : Nd} {s1 s2 s3 : Tok} (T : Tree P Z f) (ndZ : ND Z) (hq : f q = some nd) (hb : f (q ++ [b]) = some n2) (hk : ∀ c, f (q ++ [b] ++ [c]) = none) :
    Tree P (repl nd.d (brD P s1 s2 s3 (if b = true then vOf (f (q ++ [false])) else Value.none) (if b = true then Value.none else vOf (f (q ++ [true]))) nd.l) Z) (Mine.del f (q ++ [b])) := by
  refine ⟨fun q' nd' h => ?_, fun q1 q2 n1 n2 h1 h2 e => ?_, fun q' c h => ?_, fun q' h => ?_, ?_⟩
  · have hq' : q' ≠ q ++ [b] := fun e => by rw [e, del_self] at h; cases h
    rw [del_ne _ hq'] at h
    by_cases hqq : q' = q
    · subst hqq
      rw [hq] at h; cases h
      obtain ⟨ix, ⟨u1, u2, u3, id⟩, ⟨n, il⟩, ir⟩ := T.nod _ _ hq
      refine ⟨mem_repl_ne ix (nd_ne ndZ ix id fun e => by cases e), ⟨s1, s2, s3, ?_⟩, ⟨n, mem_repl_ne il (nd_ne ndZ il id rtL_ne_brD)⟩, fun r hr => ?_⟩
      · have := mem_repl_self (o' := brD P s1 s2 s3 (if b = true then vOf (f (q' ++ [false])) else Value.none) (if b = true then Value.none else vOf (f (q' ++ [true]))) nd.l) id
        cases b with
        | true =>
          rw [del_self, del_ne _ (fun e => by have := (snoc_inj e).2; cases this)]
          exact this
        | false =>
          rw [del_self, del_ne _ (fun e => by have := (snoc_inj e).2; cases this)]
          exact this
      · exact (ir r hr).repl ndZ id (fun _ _ e => by cases e) fun es e => by injection e with _ _ e3 _; injection e3 with _ e4; cases e4
    · refine T.change (f' := Mine.del f (q ++ [b])) ndZ hq (fun p hp => hp) h hqq fun c => ?_
      rw [del_ne _ fun e => hqq (snoc_inj e).1]
  · have h1' : q1 ≠ q ++ [b] := fun e => by rw [e, del_self] at h1; cases h1
    have h2' : q2 ≠ q ++ [b] := fun e => by rw [e, del_self] at h2; cases h2
    rw [del_ne _ h1'] at h1
    rw [del_ne _ h2'] at h2
    exact T.inj _ _ _ _ h1 h2 e
  · have hc : q' ++ [c] ≠ q ++ [b] := fun e => by rw [e, del_self] at h; exact h rfl
    rw [del_ne _ hc] at h
    have hq' : q' ≠ q ++ [b] := fun e => by rw [e, hk] at h; exact h rfl
    rw [del_ne _ hq']
    exact T.pre _ _ h
  · have hq' : q' ≠ q ++ [b] := fun e => by rw [e, del_self] at h; exact h rfl
    rw [del_ne _ hq'] at h
    exact T.fin _ h
  · rw [del_ne _ (fun e => by have := congrArg List.length e; simp at this)]; exact T.root

/-- the path is cut back to its place at -/
structure Prn (f : Fm) (net : Int) (i at' : Nat) (f' : Fm) : Prop where
  le : at' ≤ i
  same : ∀ q, (∀ j, at' < j → j ≤ i → q ≠ bitsOf net j) → f' q = f q
  gone : ∀ j, at' < j → j ≤ i → f' (bitsOf net j) = none
  were : ∀ j, at' < j → j ≤ i → ∃ nd, f (bitsOf net j) = some nd ∧ nd.rs = []
  kids : ∀ j b, at' < j → j ≤ i → f (bitsOf net j ++ [b]) ≠ none → j < i ∧ b = bitB net j
theorem bitsOf_inj {net : Int} {i j : Nat} (e : bitsOf net i = bitsOf net j) : i = j := by
  have := congrArg List.length e; rwa [bitsOf_length, bitsOf_length] at this
theorem Prn.zero {f : Fm} {net : Int} {i : Nat} : Prn f net i i f :=
  ⟨Nat.le_refl _, fun _ _ => rfl, fun j h1 h2 => absurd h2 (Nat.not_le_of_lt h1), fun j h1 h2 => absurd h2 (Nat.not_le_of_lt h1), fun j _ h1 h2 => absurd h2 (Nat.not_le_of_lt h1)⟩
theorem Prn.at {f f' : Fm} {net : Int} {i a : Nat} (h : Prn f net i a f') {j : Nat} (hj : j ≤ a) : f' (bitsOf net j) = f (bitsOf net j) :=
  h.same _ fun k hk _ e => by have := bitsOf_inj e; omega
theorem Prn.step {f f' : Fm} {net : Int} {i a : Nat} {nd : Nd} (h : Prn f net i (a + 1) f') (hq : f' (bitsOf net (a + 1)) = some nd) (hb : bareB f' (bitsOf net (a + 1)) nd = true) :
    Prn f net i a (Mine.del f' (bitsOf net (a + 1))) := by
  obtain ⟨hr, hk⟩ := bareB_kids hb
  refine ⟨by have := h.le; omega, fun q hq' => ?_, fun j h1 h2 => ?_, fun j h1 h2 => ?_, fun j b h1 h2 h3 => ?_⟩
  · rw [del_ne _ (hq' _ (Nat.lt_succ_self _) h.le)]
    exact h.same q fun j h1 h2 => hq' j (by omega) h2
  · by_cases e : j = a + 1
    · rw [e]; exact del_self _ _
    · rw [del_ne _ fun q => e (bitsOf_inj q)]
      exact h.gone j (by omega) h2
  · by_cases e : j = a + 1
    · rw [e]; exact ⟨nd, by rw [← h.at (Nat.le_refl _)]; exact hq, hr⟩
    · exact h.were j (by omega) h2
  · by_cases e : j = a + 1
    · subst e
      have hne := hk b
      by_cases hb' : a + 1 < i ∧ b = bitB net (a + 1)
      · exact hb'
      · exfalso
        have : f' (bitsOf net (a + 1) ++ [b]) = f (bitsOf net (a + 1) ++ [b]) := h.same _ fun k hk1 hk2 e => by
          have hl := congrArg List.length e
          rw [List.length_append, bitsOf_length, bitsOf_length] at hl
          simp at hl
          subst hl
          exact hb' ⟨by omega, (snoc_inj (e.trans (bitsOf_succ net (a + 1)))).2⟩
        rw [this] at hne
        exact h3 hne
    · exact h.kids j b (by omega) h2 h3
theorem Prn.back {f f' : Fm} {net : Int} {i a : Nat} (h : Prn f net i a f') {q : Path} {nd : Nd} (hq : f' q = some nd) : f q = some nd := by
  by_cases e : ∃ j, a < j ∧ j ≤ i ∧ q = bitsOf net j
  · obtain ⟨j, h1, h2, rfl⟩ := e
    rw [h.gone j h1 h2] at hq; cases hq
  · rw [← h.same q fun j h1 h2 e' => e ⟨j, h1, h2, e'⟩]; exact hq
theorem Prn.keep {f f' : Fm} {net : Int} {i a : Nat} (h : Prn f net i a f') {q : Path} {nd : Nd} (hq : f q = some nd) (hr : nd.rs ≠ []) : f' q = some nd := by
  rw [h.same q fun j h1 h2 e' => by
    obtain ⟨nd', h3, h4⟩ := h.were j h1 h2
    rw [e', h3] at hq; cases hq; exact hr h4]
  exact hq
/-- no branch but the root is bare -/
def Lean' (f : Fm) : Prop := ∀ q nd, f q = some nd → q ≠ [] → bareB f q nd = false
theorem bareB_false {f : Fm} {q : Path} {nd : Nd} : bareB f q nd = false ↔ nd.rs ≠ [] ∨ ∃ b, f (q ++ [b]) ≠ none := by
  constructor
  · intro h
    by_cases hr : nd.rs = []
    · right
      by_cases h0 : f (q ++ [false]) = none
      · by_cases h1 : f (q ++ [true]) = none
        · unfold bareB at h; rw [hr, h0, h1] at h; cases h
        · exact ⟨true, h1⟩
      · exact ⟨false, h0⟩
    · exact .inl hr
  · intro h
    cases e : bareB f q nd with
    | false => rfl
    | true =>
      obtain ⟨hr, hk⟩ := bareB_kids e
      rcases h with h | ⟨b, h⟩
      · exact absurd hr h
      · exact absurd (hk b) h
theorem Prn.lean {f f' : Fm} {net : Int} {i a : Nat} (h : Prn f net i a f') (hall : ∀ j, j ≤ i → f (bitsOf net j) ≠ none) (hend : a = 0 ∨ ∀ nd, f' (bitsOf net a) = some nd → bareB f' (bitsOf net a) nd = false)
    (hoff : ∀ q nd, f q = some nd → q ≠ [] → (∀ j, j ≤ i → q ≠ bitsOf net j) → bareB f q nd = false) : Lean' f' := by
  intro q nd hq hne
  by_cases e : ∃ j, j ≤ i ∧ q = bitsOf net j
  · obtain ⟨j, hj, rfl⟩ := e
    have hja : j ≤ a := by
      rcases Nat.lt_or_ge a j with h1 | h1
      · rw [h.gone j h1 hj] at hq; cases hq
      · exact h1
    rcases Nat.lt_or_ge j a with h1 | h1
    · refine bareB_false.mpr (.inr ⟨bitB net j, ?_⟩)
      rw [← bitsOf_succ, h.at (by omega)]
      exact hall _ (by have := h.le; omega)
    · obtain rfl : j = a := Nat.le_antisymm hja h1
      rcases hend with h0 | h0
      · subst h0; exact absurd rfl hne
      · exact h0 nd hq
  · have e' : ∀ j, j ≤ i → q ≠ bitsOf net j := fun j hj hqj => e ⟨j, hj, hqj⟩
    have := hoff q nd (h.back hq) hne e'
    rcases bareB_false.mp this with h1 | ⟨b, h1⟩
    · exact bareB_false.mpr (.inl h1)
    · refine bareB_false.mpr (.inr ⟨b, ?_⟩)
      rw [h.same]
      · exact h1
      · intro k hk1 hk2 hk3
        have hl := congrArg List.length hk3
        rw [List.length_append, bitsOf_length] at hl
        simp at hl
        obtain ⟨k', rfl⟩ : ∃ k', k = k' + 1 := ⟨k - 1, by omega⟩
        rw [bitsOf_succ] at hk3
        exact e' k' (by omega) (snoc_inj hk3).1
section
variable {P : Params} {xs : List Str} {y : Str} {m₀ m' : Str → Option Value} {f f' : Fm} {net : Int} {Z Z' Fz : Led} {i n tk : Nat} {g1 h9 : Heap} {L1 : Addr} {s₁ : Shared}
theorem prune_end {b : Bool} {ndp ndq : Nd} {s1 s2 s3 t : Tok} {x : Int} (F : Fr g1 L1 h9 m') (hS : Same xs m₀ m') (hy : m' y = some (.int x t)) (hx : x = (n : Int))
    (N : News g1 L1 h9 (repl ndp.d (brD P s1 s2 s3 (if b = true then vOf (f' (bitsOf net n ++ [false])) else Value.none) (if b = true then Value.none else vOf (f' (bitsOf net n ++ [true]))) ndp.l) Z' ++ Fz))
    (nd : ND (Z' ++ Fz)) (T : Tree P Z' f') (hp : f' (bitsOf net n) = some ndp) (hq : f' (bitsOf net (n + 1)) = some ndq) (hb : bitB net n = b) (hbare : bareB f' (bitsOf net (n + 1)) ndq = true) (hP : Prn f net i (n + 1) f') (hkp : ∀ r, RtIn P Z r → RtIn P Z' r) :
    WhileStep g1 L1 s₁ (fun n m' nx' => Same xs m₀ m' ∧ ∃ v', m' y = some v' ∧ ∃ f' Z' t, v' = .int (n : Int) t ∧ nx' = Z' ++ Fz ∧ ND (Z' ++ Fz) ∧ Tree P Z' f' ∧ Prn f net i n f' ∧ ∀ r, RtIn P Z r → RtIn P Z' r) (n + 1) .next { s₁ with heap := h9, toks := tk } := by
  subst hx
  have e : bitsOf net (n + 1) = bitsOf net n ++ [b] := by rw [bitsOf_succ, hb]
  refine ⟨rfl, h9, tk, m', _, n, rfl, F, N, Nat.lt_succ_self _, hS, _, hy, _, _, t, rfl, rfl, nd_repl nd, ?_, hP.step hq hbare, fun r hr => ?_⟩
  · rw [e] at hq hbare ⊢
    exact T.del (nd_left nd) hp hq (bareB_kids hbare).2
  · obtain ⟨_, ⟨_, _, _, jd⟩, _, _⟩ := T.nod _ _ hp
    exact (hkp r hr).repl (nd_left nd) jd (fun _ _ e => by cases e) fun es e => by injection e with _ _ e3 _; injection e3 with _ e4; cases e4
end
end Mine

-- part T3
namespace Mine
set_option maxRecDepth 100000
set_option maxHeartbeats 8000000
set_option pp.deepTerms false
set_option pp.deepTerms.threshold 4
set_option pp.maxSteps 100000

abbrev sameR (a r : Rt) : Prop := a.gw = r.gw ∧ a.face = r.face
def putR (r : Rt) : List Rt → List Rt
  | [] => [r]
  | a :: t => if sameR a r then r :: t else a :: putR r t
def hasR (r : Rt) (rs : List Rt) : Bool := rs.any fun a => decide (sameR a r)
theorem putR_none {r : Rt} : ∀ {rs : List Rt}, (∀ a ∈ rs, ¬ sameR a r) → putR r rs = rs ++ [r] ∧ hasR r rs = false
  | [], _ => ⟨rfl, rfl⟩
  | a :: t, h => by
    have h1 := h a (.head _)
    have ih := putR_none (r := r) (rs := t) fun b hb => h b (.tail _ hb)
    refine ⟨?_, ?_⟩
    · show (if sameR a r then r :: t else a :: putR r t) = _
      rw [if_neg h1, ih.1]; rfl
    · show (decide (sameR a r) || hasR r t) = false
      rw [decide_eq_false h1, ih.2]; rfl
theorem putR_at {r a : Rt} : ∀ {rs : List Rt} {i : Nat}, (∀ j b, j < i → rs[j]? = some b → ¬ sameR b r) → rs[i]? = some a → sameR a r → putR r rs = rs.set i r ∧ hasR r rs = true
  | [], _, _, h, _ => by simp at h
  | b :: t, 0, _, h, hs => by
    simp at h; subst h
    refine ⟨?_, ?_⟩
    · show (if sameR b r then r :: t else b :: putR r t) = _
      rw [if_pos hs]; rfl
    · show (decide (sameR b r) || hasR r t) = true
      rw [decide_eq_true hs]; rfl
  | b :: t, i + 1, hb, h, hs => by
    have h1 : ¬ sameR b r := hb 0 b (Nat.zero_lt_succ _) rfl
    have ih := putR_at (r := r) (a := a) (rs := t) (i := i) (fun j c hj hc => hb (j + 1) c (Nat.succ_lt_succ hj) (by simpa using hc)) (by simpa using h) hs
    refine ⟨?_, ?_⟩
    · show (if sameR b r then r :: t else b :: putR r t) = _
      rw [if_neg h1, ih.1]; rfl
    · show (decide (sameR b r) || hasR r t) = true
      rw [ih.2, Bool.or_true]
theorem mem_putR {r a : Rt} : ∀ {rs : List Rt}, a ∈ putR r rs → a = r ∨ a ∈ rs
  | [], h => .inl (List.mem_singleton.mp h)
  | b :: t, h => by
    unfold putR at h
    split at h
    · rcases List.mem_cons.mp h with h | h
      · exact .inl h
      · exact .inr (.tail _ h)
    · rcases List.mem_cons.mp h with h | h
      · exact .inr (h ▸ .head _)
      · exact (mem_putR h).imp id fun h => .tail _ h
theorem rtL_ne5 {rs : List Rt} {n : Nat} {es : List DictEntry} {k : Nat} : rtL rs n ≠ dictOf es k := fun e => by have := congrArg Obj.data e; cases this
/-- the routes of one branch are written anew, its list's object as it was -/
theorem Tree.setRs {P : Params} {Z : Led} {f : Fm} {q : Path} {nd : Nd} {rs : List Rt} {k : Nat} (T : Tree P Z f) (ndZ : ND Z) (hq : f q = some nd) (hr : ∀ r ∈ rs, RtIn P Z r) :
    Tree P (repl nd.l (rtL rs k) Z) (Mine.grow f q ⟨nd.x, nd.d, nd.l, rs⟩) := by
  obtain ⟨jx, ⟨s1, s2, s3, jd⟩, ⟨kk, jl⟩, jr⟩ := T.nod _ _ hq
  have hv : ∀ q', vOf (Mine.grow f q ⟨nd.x, nd.d, nd.l, rs⟩ q') = vOf (f q') := fun q' => by
    by_cases e : q' = q
    · subst e; rw [grow_self, hq]; rfl
    · rw [grow_ne _ _ e]
  have hk : ∀ r, RtIn P Z r → RtIn P (repl nd.l (rtL rs k) Z) r := fun r h => h.repl ndZ jl (fun _ _ => rtL_ne_inst) fun _ e => rtL_ne5 e
  have hn : ∀ q', Mine.grow f q ⟨nd.x, nd.d, nd.l, rs⟩ q' ≠ none ↔ f q' ≠ none := fun q' => by
    by_cases e : q' = q
    · subst e; rw [grow_self, hq]; simp
    · rw [grow_ne _ _ e]
  refine ⟨fun q' nd' h => ?_, fun q1 q2 n1 n2 h1 h2 e => ?_, fun q' c h => (hn _).mpr (T.pre _ _ ((hn _).mp h)), fun q' h => T.fin _ ((hn _).mp h), (hn _).mpr T.root⟩
  · by_cases e : q' = q
    · subst e
      rw [grow_self] at h
      cases h
      refine ⟨mem_repl_ne jx (nd_ne ndZ jx jl rtL_ne_inst.symm), ⟨s1, s2, s3, ?_⟩, ⟨k, mem_repl_self jl⟩, fun r h => hk r (hr r h)⟩
      rw [hv, hv]
      exact mem_repl_ne jd (nd_ne ndZ jd jl brD_ne_rtL)
    · rw [grow_ne _ _ e] at h
      obtain ⟨ix, ⟨u1, u2, u3, id⟩, ⟨n, il⟩, ir⟩ := T.nod _ _ h
      refine ⟨mem_repl_ne ix (nd_ne ndZ ix jl rtL_ne_inst.symm), ⟨u1, u2, u3, ?_⟩, ⟨n, mem_repl_ne il (T.x_ne h hq e).2.2⟩, fun r h => hk r (ir r h)⟩
      rw [hv, hv]
      exact mem_repl_ne id (nd_ne ndZ id jl brD_ne_rtL)
  · have key : ∀ q' n', Mine.grow f q ⟨nd.x, nd.d, nd.l, rs⟩ q' = some n' → ∃ n'', f q' = some n'' ∧ n''.x = n'.x ∧ n''.d = n'.d ∧ n''.l = n'.l := fun q' n' h => by
      by_cases e : q' = q
      · subst e; rw [grow_self] at h; cases h; exact ⟨nd, hq, rfl, rfl, rfl⟩
      · rw [grow_ne _ _ e] at h; exact ⟨n', h, rfl, rfl, rfl⟩
    obtain ⟨m1, a1, b1, c1, d1⟩ := key _ _ h1
    obtain ⟨m2, a2, b2, c2, d2⟩ := key _ _ h2
    refine T.inj _ _ _ _ a1 a2 ?_
    rw [b1, b2, c1, c2, d1, d2]
    exact e
theorem RtIn.replL {P : Params} {Z : Led} {f : Fm} {q : Path} {nd : Nd} {o' : Obj} (T : Tree P Z f) (ndZ : ND Z) (hq : f q = some nd) {r : Rt} (h : RtIn P Z r) : RtIn P (Mine.repl nd.l o' Z) r := by
  obtain ⟨_, _, ⟨kk, jl⟩, _⟩ := T.nod _ _ hq
  exact h.repl ndZ jl (fun _ _ => rtL_ne_inst) fun _ e => rtL_ne5 e
theorem map_set_ref {rs : List Rt} {i : Nat} {r : Rt} : (rs.map fun r => Value.ref r.x).set i (.ref r.x) = (rs.set i r).map fun r => Value.ref r.x := by
  rw [List.map_set]
theorem news_eq {h₀ h : Heap} {L d : Addr} {o o' : Obj} {A Z F : Led} (e : o = o') (N : News h₀ L h (A ++ (repl d o Z ++ F))) : News h₀ L h (A ++ (repl d o' Z ++ F)) := e ▸ N
theorem rt_set {rs : List Rt} {i n : Nat} {rx : Addr} {r : Rt} (hx : r.x = rx) : listOf ((rs.map fun r => Value.ref r.x).set ((0 : Int) + (i : Int)).toNat (Value.ref rx)).toArray n = rtL (rs.set i r) n := by
  have e : ((0 : Int) + (i : Int)).toNat = i := by omega
  rw [e, ← hx, map_set_ref]
theorem rt_snoc {rs : List Rt} {n : Nat} {rx : Addr} {r : Rt} (hx : r.x = rx) : listOf ((rs.map fun r => Value.ref r.x) ++ [Value.ref rx]).toArray n = rtL (rs ++ [r]) n := by
  rw [← hx]; simp
theorem nd_table {a b d : Addr} {o o2 p p2 x : Obj} {Z F : Led} (nd : ND ((a, o) :: (b, o2) :: (Z ++ F))) : ND ((a, p) :: (b, p2) :: (repl d x Z ++ F)) := by
  have h := nd_repl2 (A := [(a, o), (b, o2)]) (d := d) (o' := x) nd
  exact nd_keys (Z := [(a, o), (b, o2)] ++ (repl d x Z ++ F)) rfl h
end Mine

-- part T4
namespace Mine
set_option maxRecDepth 100000
set_option maxHeartbeats 8000000
set_option pp.deepTerms false
set_option pp.deepTerms.threshold 4
set_option pp.maxSteps 100000

/- walking the whole tree -/
structure Trav (f : Fm) (done left : List Path) : Prop where
  nd : done.Nodup
  din : ∀ q ∈ done, f q ≠ none
  lin : ∀ p ∈ left, f p ≠ none
  pw : left.Pairwise fun a b => ¬ a <+: b ∧ ¬ b <+: a
  cov : ∀ q, f q ≠ none → q ∈ done ∨ ∃ p ∈ left, p <+: q
  off : ∀ p ∈ left, ∀ q ∈ done, ¬ p <+: q
theorem pre_closed {f : Fm} (hp : ∀ q b, f (q ++ [b]) ≠ none → f q ≠ none) : ∀ (r q : Path), f (q ++ r) ≠ none → f q ≠ none := by
  intro r
  induction r with
  | nil => intro q h; simpa using h
  | cons b r ih =>
    intro q h
    refine hp q b (ih (q ++ [b]) ?_)
    rw [List.append_assoc]; exact h
theorem Trav.start {f : Fm} (h : f [] ≠ none) : Trav f [] [[]] :=
  ⟨List.nodup_nil, fun _ h => (nomatch h), fun p hp => by rw [List.mem_singleton.mp hp]; exact h, List.pairwise_singleton _ _, fun q _ => .inr ⟨[], .head _, List.nil_prefix⟩, fun _ _ _ h => (nomatch h)⟩
theorem Trav.fin {f : Fm} {done : List Path} (T : Trav f done []) : ∀ q, q ∈ done ↔ f q ≠ none := fun q =>
  ⟨T.din q, fun h => (T.cov q h).elim id fun ⟨_, h, _⟩ => (nomatch h)⟩
def Kids (f : Fm) (p : Path) (cs : List Path) : Prop := cs.Nodup ∧ ∀ c, c ∈ cs ↔ ∃ b, c = p ++ [b] ∧ f (p ++ [b]) ≠ none
theorem Trav.step {f : Fm} {done l cs : List Path} {p : Path} (hpre : ∀ q b, f (q ++ [b]) ≠ none → f q ≠ none) (T : Trav f done (l ++ [p])) (K : Kids f p cs) : Trav f (done ++ [p]) (l ++ cs) := by
  have hpl : p ∈ l ++ [p] := List.mem_append.mpr (.inr (.head _))
  have hll : ∀ a ∈ l, a ∈ l ++ [p] := fun a h => List.mem_append.mpr (.inl h)
  obtain ⟨w1, w2, w3⟩ := List.pairwise_append.mp T.pw
  have lp : ∀ a ∈ l, ¬ a <+: p ∧ ¬ p <+: a := fun a ha => w3 a ha p (.head _)
  refine ⟨?_, ?_, ?_, ?_, ?_, ?_⟩
  · refine List.nodup_append.mpr ⟨T.nd, by simp, fun a ha b hb e => ?_⟩
    rw [List.mem_singleton.mp hb] at e
    exact T.off p hpl a ha (e ▸ List.prefix_refl _)
  · intro q hq
    rcases List.mem_append.mp hq with h | h
    · exact T.din q h
    · rw [List.mem_singleton.mp h]; exact T.lin p hpl
  · intro q hq
    rcases List.mem_append.mp hq with h | h
    · exact T.lin q (hll q h)
    · obtain ⟨b, rfl, h9⟩ := (K.2 q).mp h
      exact h9
  · refine List.pairwise_append.mpr ⟨w1, ?_, fun a ha c hc => ?_⟩
    · refine List.Pairwise.imp_of_mem (fun {a b} ha hb hne => ?_) K.1
      obtain ⟨x, rfl, _⟩ := (K.2 a).mp ha
      obtain ⟨y, rfl, _⟩ := (K.2 b).mp hb
      exact ⟨fun h => hne (h.eq_of_length (by simp)), fun h => hne (h.eq_of_length (by simp)).symm⟩
    · obtain ⟨x, rfl, _⟩ := (K.2 c).mp hc
      refine ⟨fun h => ?_, fun h => (lp a ha).2 ((List.prefix_append _ _).trans h)⟩
      rcases List.prefix_concat_iff.mp h with e | h
      · exact (lp a ha).2 (e ▸ List.prefix_append _ _)
      · exact (lp a ha).1 h
  · intro q hq
    rcases T.cov q hq with h | ⟨a, ha, h⟩
    · exact .inl (List.mem_append.mpr (.inl h))
    · rcases List.mem_append.mp ha with ha | ha
      · exact .inr ⟨a, List.mem_append.mpr (.inl ha), h⟩
      · rw [List.mem_singleton.mp ha] at h
        obtain ⟨r, rfl⟩ := h
        cases r with
        | nil => left; simp
        | cons b r =>
          refine .inr ⟨p ++ [b], List.mem_append.mpr (.inr ((K.2 _).mpr ⟨b, rfl, ?_⟩)), ⟨r, by simp⟩⟩
          exact pre_closed hpre r _ (by rw [List.append_assoc]; exact hq)
  · intro a ha q hq h
    rcases List.mem_append.mp ha with ha | ha
    · rcases List.mem_append.mp hq with hq | hq
      · exact T.off a (hll a ha) q hq h
      · rw [List.mem_singleton.mp hq] at h; exact (lp a ha).1 h
    · obtain ⟨x, rfl, _⟩ := (K.2 a).mp ha
      rcases List.mem_append.mp hq with hq | hq
      · exact T.off p hpl q hq ((List.prefix_append _ _).trans h)
      · rw [List.mem_singleton.mp hq] at h
        have := h.length_le
        rw [List.length_append] at this
        simp only [List.length_cons, List.length_nil] at this
        omega
theorem nodup_le : ∀ {l ds : List Path}, l.Nodup → (∀ q ∈ l, q ∈ ds) → l.length ≤ ds.length
  | [], _, _, _ => Nat.zero_le _
  | q :: l, ds, hn, h => by
    have hn' := List.nodup_cons.mp hn
    have hq := h q (.head _)
    have := nodup_le (l := l) (ds := ds.erase q) hn'.2 fun a ha => (List.mem_erase_of_ne (fun (e : a = q) => hn'.1 (by rw [← e]; exact ha))).mpr (h a (.tail _ ha))
    rw [List.length_erase_of_mem hq] at this
    have := List.length_pos_of_mem hq
    simp only [List.length_cons]
    omega
theorem Trav.lnd {f : Fm} {done left : List Path} (T : Trav f done left) : left.Nodup := T.pw.imp fun {a b} h (e : a = b) => h.1 (by rw [e]; exact List.prefix_refl _)
theorem Trav.llen {f : Fm} {done left ds : List Path} (T : Trav f done left) (hd : ∀ q, f q ≠ none → q ∈ ds) : left.length ≤ ds.length := nodup_le T.lnd fun q h => hd q (T.lin q h)
theorem Trav.dlen {f : Fm} {done left ds : List Path} (T : Trav f done left) (hd : ∀ q, f q ≠ none → q ∈ ds) : done.length ≤ ds.length := nodup_le T.nd fun q h => hd q (T.din q h)
theorem Trav.room {f : Fm} {done l ds : List Path} {p : Path} (T : Trav f done (l ++ [p])) (hd : ∀ q, f q ≠ none → q ∈ ds) : done.length + 1 ≤ ds.length := by
  have hpl : p ∈ l ++ [p] := List.mem_append.mpr (.inr (.head _))
  have : (p :: done).length ≤ ds.length := nodup_le (List.nodup_cons.mpr ⟨fun h => T.off p hpl p h (List.prefix_refl _), T.nd⟩) fun q h => by
    rcases List.mem_cons.mp h with e | h
    · exact hd q (e ▸ T.lin p hpl)
    · exact hd q (T.din q h)
  simpa using this
theorem kids2 {f : Fm} {p : Path} {b c : Bool} (hbc : b ≠ c) (h0 : f (p ++ [b]) ≠ none) (h1 : f (p ++ [c]) ≠ none) : Kids f p [p ++ [b], p ++ [c]] := by
  refine ⟨by simpa using hbc, fun x => ?_⟩
  simp only [List.mem_cons, List.not_mem_nil, or_false]
  constructor
  · rintro (rfl | rfl)
    · exact ⟨b, rfl, h0⟩
    · exact ⟨c, rfl, h1⟩
  · rintro ⟨y, rfl, _⟩
    have : y = b ∨ y = c := by cases y <;> cases b <;> cases c <;> simp_all
    rcases this with rfl | rfl
    · exact .inl rfl
    · exact .inr rfl
theorem kids1 {f : Fm} {p : Path} {b c : Bool} (hbc : b ≠ c) (h0 : f (p ++ [b]) ≠ none) (h1 : f (p ++ [c]) = none) : Kids f p [p ++ [b]] := by
  refine ⟨by simp, fun x => ?_⟩
  simp only [List.mem_singleton]
  constructor
  · rintro rfl; exact ⟨b, rfl, h0⟩
  · rintro ⟨y, rfl, h⟩
    have : y = b ∨ y = c := by cases y <;> cases b <;> cases c <;> simp_all
    rcases this with rfl | rfl
    · rfl
    · exact absurd h1 h
theorem kids0 {f : Fm} {p : Path} {b c : Bool} (hbc : b ≠ c) (h0 : f (p ++ [b]) = none) (h1 : f (p ++ [c]) = none) : Kids f p [] := by
  refine ⟨List.nodup_nil, fun x => ⟨fun h => (nomatch h), ?_⟩⟩
  rintro ⟨y, rfl, h⟩
  have : y = b ∨ y = c := by cases y <;> cases b <;> cases c <;> simp_all
  rcases this with rfl | rfl
  · exact absurd h0 h
  · exact absurd h1 h
theorem Same.ofSub {xs ys : List Str} {m₀ m₁ u : Str → Option Value} (h : Same xs m₀ m₁) (hs : ys.all (fun z => xs.contains z) = true) : Same xs m₀ (fun z => if ys.contains z then u z else m₁ z) := fun z hz => by
  have : ys.contains z = false := by
    cases e : ys.contains z with
    | false => rfl
    | true =>
      have := List.all_eq_true.mp hs z (List.contains_iff_mem.mp e)
      rw [hz] at this; cases this
  simp only [this]
  exact h z hz
theorem empty_snoc {l : List Value} {v : Value} : (l ++ [v]).isEmpty = false := by simp
def kidsTo (f : Fm) (q : Path) (i : Nat) : List Path := (([false, true].take i).filter fun b => (f (q ++ [b])).isSome).map fun b => q ++ [b]
theorem kidsTo_zero (f : Fm) (q : Path) : kidsTo f q 0 = [] := rfl
theorem kidsTo_f0 {f : Fm} {q : Path} (h : f (q ++ [false]) = none) : kidsTo f q 1 = kidsTo f q 0 := by simp [kidsTo, h]
theorem kidsTo_s0 {f : Fm} {q : Path} {n : Nd} (h : f (q ++ [false]) = some n) : kidsTo f q 1 = kidsTo f q 0 ++ [q ++ [false]] := by simp [kidsTo, h]
theorem kidsTo_f1 {f : Fm} {q : Path} (h : f (q ++ [true]) = none) : kidsTo f q 2 = kidsTo f q 1 := by
  cases h0 : f (q ++ [false]) <;> simp [kidsTo, h, h0]
theorem kidsTo_s1 {f : Fm} {q : Path} {n : Nd} (h : f (q ++ [true]) = some n) : kidsTo f q 2 = kidsTo f q 1 ++ [q ++ [true]] := by
  cases h0 : f (q ++ [false]) <;> simp [kidsTo, h, h0]
theorem kidsTo_kids (f : Fm) (q : Path) : Kids f q (kidsTo f q 2) := by
  cases h0 : f (q ++ [false]) with
  | none =>
    cases h1 : f (q ++ [true]) with
    | none => rw [kidsTo_f1 h1, kidsTo_f0 h0]; exact kids0 (by decide) h0 h1
    | some n1 => rw [kidsTo_s1 h1, kidsTo_f0 h0]; exact kids1 (b := true) (c := false) (by decide) (by rw [h1]; exact fun e => nomatch e) h0
  | some n0 =>
    cases h1 : f (q ++ [true]) with
    | none => rw [kidsTo_f1 h1, kidsTo_s0 h0]; exact kids1 (b := false) (c := true) (by decide) (by rw [h0]; exact fun e => nomatch e) h1
    | some n1 => rw [kidsTo_s1 h1, kidsTo_s0 h0]; exact kids2 (b := false) (c := true) (by decide) (by rw [h0]; exact fun e => nomatch e) (by rw [h1]; exact fun e => nomatch e)
def rsOf (f : Fm) (q : Path) : List Rt := match f q with | some nd => nd.rs | none => []
def rsVals (f : Fm) (ps : List Path) : List Value := (ps.flatMap (rsOf f)).map fun r => Value.ref r.x
theorem rsVals_snoc {f : Fm} {ps : List Path} {p : Path} {nd : Nd} (h : f p = some nd) : rsVals f (ps ++ [p]) = rsVals f ps ++ nd.rs.map fun r => Value.ref r.x := by
  simp [rsVals, rsOf, h]
theorem rsVals_len {f : Fm} {B : Nat} (h : ∀ q nd, f q = some nd → nd.rs.length ≤ B) (ps : List Path) : (rsVals f ps).length ≤ ps.length * B := by
  unfold rsVals
  rw [List.length_map]
  induction ps with
  | nil => simp
  | cons q ps ih =>
    rw [List.flatMap_cons, List.length_append, List.length_cons, Nat.succ_mul]
    have : (rsOf f q).length ≤ B := by
      unfold rsOf
      cases e : f q with
      | none => exact Nat.zero_le _
      | some nd => exact h q nd e
    omega
section
variable {prog : Program} {w : World} {E : Value → Shared → Prop} {s : Shared} {h₀ : Heap} {L a b D : Addr} {m : Str → Option Value} {news news' : Led}
theorem my_cat {A : Around} {Q : Value → Shared → Prop} {vs ws : List Value} {i j : Nat} (F : Fr h₀ L s.heap m) (N : News h₀ L s.heap news) (ha : (a, listOf vs.toArray i) ∈ news) (hb : (b, listOf ws.toArray j) ∈ news)
    (hz : vs.length + ws.length ≤ 16777216)
    (h : ∀ D h', Fr h₀ L h' m → News h₀ L h' ((D, listOf (vs ++ ws).toArray 0) :: news) → (∀ p ∈ news, p.1 < D) → Q (.ref D) { s with heap := h' }) : wpAny (model prog w) A (binaryOp .Add (.ref a) (.ref b)) Q E s :=
  kmk_add_lit F N ⟨_, (N _ ha).1, rfl, _, rfl⟩ ⟨_, (N _ hb).1, rfl, _, rfl⟩ (by simp) h (by simpa [sizeLine_eq] using hz)
theorem my_pop {A : Around} {p : List Value} {y : Value} {n : Nat} {Q : Value → Shared → Prop} (F : Fr h₀ L s.heap m) (N : News h₀ L s.heap news) (U : Upd D (listOf (p ++ [y]).toArray n) (listOf p.toArray (n + 1)) news news')
    (hz : (p ++ [y]).length ≤ 16777216) (h : ∀ h', Fr h₀ L h' m → News h₀ L h' news' → Q y { s with heap := h' }) : wpAny (model prog w) A (call (.builtin "list.pop") [.ref D]) Q E s :=
  kl_pop F N (kpa_last y p) U (by rw [sizeLine_eq]; exact hz) h
end
end Mine

-- part U1
namespace Mine
set_option maxRecDepth 100000
set_option maxHeartbeats 8000000
set_option pp.deepTerms false
set_option pp.deepTerms.threshold 4
set_option pp.maxSteps 100000

open PySem.Builtin PySem.Builtin.Str in
theorem sliceIdx_to (j n : Nat) (h : j ≤ n) : strSliceIndices none (some (j : Int)) 1 n = List.range j := by
  unfold strSliceIndices sliceRange
  have e1 : ¬ ((j : Int) < 0) := by omega
  simp only [show (1 : Int) > 0 by decide, if_true, if_neg e1]
  have e2 : max 0 (min (j : Int) (n : Int)) = (j : Int) := by omega
  rw [e2]
  have e3 : (if (0 : Int) < (j : Int) then ((j : Int) - 0 + 1 - 1) / 1 else 0).toNat = j := by
    split <;> (try simp only [Int.ediv_one]) <;> omega
  rw [e3]
  conv => rhs; rw [← List.map_id (List.range j)]
  refine List.map_congr_left fun k _ => ?_
  simp only [_root_.id]; omega
theorem filterMap_range {α : Type} (l : List α) (j : Nat) : (List.range j).filterMap (fun i => l[i]?) = l.take j := by
  induction j with
  | zero => simp
  | succ j ih =>
    rw [List.range_succ, List.filterMap_append, ih, List.take_add_one]
    cases e : l[j]? <;> simp [e]
open PySem.Builtin PySem.Builtin.Str in
theorem slice_txt (q : Path) (j : Nat) (h : j ≤ q.length) : Txt.slice (txt q) none (some (j : Int)) = txt (q.take j) := by
  unfold Txt.slice
  rw [txt_length, sliceIdx_to j _ h, List.length_range]
  by_cases e : j = q.length
  · rw [if_pos (by simp [e]), e, List.take_length]
  · rw [if_neg (by simp [e])]
    unfold txt
    congr 1
    congr 1
    rw [List.map_take, ← filterMap_range]
    simp
end Mine

-- part E1
namespace Mine
set_option maxRecDepth 100000
set_option maxHeartbeats 8000000
set_option pp.deepTerms false
set_option pp.deepTerms.threshold 4
set_option pp.maxSteps 100000


section
open PyProof.Rows.LCg PyProof.Rows.LCt
variable {prog : Program} {w : World} {p : Program} {loose : List Str} {mean : ExcName → Option Value} {mg mb : Str → Option Value}
    {dp un : Nat} {gd : Option (List Code)} {cn : Str} {cs : Scope} {a : Addr} {ccd : Value} {cl : List (Str × Addr)} {outer : List Env} {A₀ : Around} {base h₀ : Heap} {L : Addr} {m : Str → Option Value} {news : List (Addr × Obj)} {s : Shared} {Q E : Value → Shared → Prop}

theorem zsetE11 : True := by
  k_with_none
  k_with "z_ch" => first | with_reducible assumption | (refine' And.right ?_; rotate_left; first | with_reducible assumption | (refine' And.right ?_; rotate_left; first | with_reducible assumption | (refine' And.right ?_; rotate_left; first | with_reducible assumption | (refine' And.right ?_; rotate_left; first | with_reducible assumption | (refine' And.right ?_; rotate_left; first | with_reducible assumption | (refine' And.right ?_; rotate_left; first | with_reducible assumption | (refine' And.right ?_; rotate_left; with_reducible assumption)))))))
  k_with "z_lt" => first | with_reducible assumption | (refine' And.left ?_; rotate_left; k_extra "z_ch") | (refine' And.right ?_; rotate_left; k_extra "z_ch")
  k_with "k_ne" => (refine neN ?_; (try dsimp only); first | (refine' Nat.ne_of_gt ?_; k_extra "z_lt") | (refine' Nat.ne_of_lt ?_; k_extra "z_lt") | (refine' Nat.ne_of_gt (Nat.lt_trans ?_ (by with_reducible assumption)); k_extra "z_lt") | (refine' Nat.ne_of_lt (Nat.lt_trans ?_ (by with_reducible assumption)); k_extra "z_lt"))
  k_with "zfold" => ((fail_if_success (fail_if_success k_fold)); refine zfold_q ?_; intro qk)
  k_with "k_env" => (refine zfold_env (f := fun en9 => execs _ en9) ?_; intro en9; refine zfold_A ?_; intro ak9; (rename Fr _ _ _ _ => fr9); refine zfold_F fr9 ?_; clear fr9; intro fm9 fr9; try (refine zgen_t ?_; intro tk9))
  k_with "ktr_room" => first | exact fits (c := 1) hdp rfl rfl | exact fits0 (c := 1) hdp rfl rfl | exact fits (c := 2) hdp rfl rfl | exact fits0 (c := 2) hdp rfl rfl | exact fits (c := 0) hdp rfl rfl | exact fits0 (c := 0) hdp rfl rfl | exact fits (c := 3) hdp rfl rfl | exact fits0 (c := 3) hdp rfl rfl | exact Nat.le_of_ble_eq_true rfl
  k_with "ktr_units" => first | exact fits (c := 3) hun rfl rfl | exact fits0 (c := 3) hun rfl rfl | exact fits (c := 6) hun rfl rfl | exact fits0 (c := 6) hun rfl rfl | exact fits (c := 0) hun rfl rfl | exact fits0 (c := 0) hun rfl rfl | exact fits (c := 9) hun rfl rfl | exact fits0 (c := 9) hun rfl rfl | exact Nat.le_of_ble_eq_true rfl
  k_with "k_steps" => repeat' (first | (k_unfold; (try dsimp only); (try clear qk)) | (k_end; wrow_close) | walk1 | (dsimp only; walk1) | (leave1; try dsimp only) | fail "no step")
  k_with "execs cons" => (k_extra "zfold"; walk1)
  k_with "exec If" => (k_extra "zfold"; walk1)
  k_with "exec Assign" => (k_extra "zfold"; walk1)
  k_with "exec Expr" => (k_extra "zfold"; walk1)
  k_with "exec Return" => (k_extra "zfold"; walk1)
  k_with "isTrue" => (k_extra "zfold"; walk1)
  k_with "eval BinOp" => (k_extra "zfold"; walk1)
  k_with "eval BoolOp" => (k_extra "zfold"; walk1)
  k_with "eval UnaryOp" => (k_extra "zfold"; walk1)
  k_with "eval Call" => (k_extra "zfold"; walk1)
  k_with "eval Compare" => (k_extra "zfold"; walk1)
  k_with "eval Subscript" => (k_extra "zfold"; walk1)
  k_with "eval Attribute" => (k_extra "zfold"; walk1)
  k_with "eval Tuple" => (k_extra "zfold"; walk1)
  k_with "eval List nil" => (k_extra "zfold"; walk1)
  k_with "eval List cons" => (k_extra "zfold"; walk1)
  k_with "k_room" => ktr_room
  k_with "CompSrc" => (refine Hold.mk ?_)
  k_with "CEnd" => (refine Hold.mk ?_)
  k_with "call builtin:str.join" => (k_here; (with_reducible show wpAny _ _ (call (Value.builtin _) [Value.str _ _, Value.ref _]) _ _ _); k_dflt (refine' my_join ?zqN ?zqm ?zqS ?zqx ?zqf ?_; (case zqN => k_asm); (case zqm => exact List.Mem.head _); (case zqS => assumption); (case zqx => decide +kernel); (case zqf => assumption); k_whole); intro _ _)
  exact trivial
theorem bits_spec {ad : Int} {t : Tok}
    (B : Below A₀ base outer h₀) (F : Fr h₀ L s.heap m) (X : (KK w.params).In h₀) (N : News h₀ L s.heap (news)) (T : Top p loose mean mg mb h₀) (hk : cs.kind = .function) (hdp : dp + 30 < recursionLimit) (hun : un + 600 < cLine)
    (hret : ∀ (tv : Tok) h' tk', Fr h₀ L h' m → News h₀ L h' news → Q (.str (txt (bitsOf ad 32)) tv) { s with heap := h', toks := tk' }) :
    wpAny (model prog w) (ktrTop dp un gd cn cs L a ccd cl outer) (call (.ref 274) [.int ad t]) Q E s := by
  (refine wpAny_call ?_; k_dflt (refine' code_defC ?k1 ?k2 ?k3 ?k4 ?k5 ?kA ?kF ?kK ?k6 ?k7 ?k8 ?k9 ?kB ?kD ?_ ?c2 ?c3 ?c4; (case kA => exact rfl); (case kF => exact rfl); (case kK => assumption); (case k1 => k_asm); (case k2 => k_asm); (case k3 => k_asm); (case k4 => k_asm); (case k5 => k_asm); (case k6 => k_is); (case k7 => k_is); (case k8 => ktr_room); (case k9 => exact BindsTo.of_eq rfl); (case kB => exact rfl); (case kD => decide +kernel); (case c2 => exact rfl); (case c3 => exact rfl); (case c4 => exact rfl); k_whole; intro g' L' h' tk' cells' FG' F' N' Y' B' X' T' l1; (try k_lt l1); k_cells Y'; (try simp only [List.cons_append, List.nil_append] at N'); (try dsimp only); (try k_fold)); try (w_strict (k_extra "k_env")); (refine zfold_e ?_; intro ek))
  k_steps
  rename_i o9 d9 N8 _ _ h9 tk9 t9 u9 v9 hR9 F9 N9 hK9
  unfold Hold
  refine comp_range (n := 32) (fun i ys nx => nx = (L' + 1, o9) :: news ∧ StrsAre ys ((bit1s ad i).map txt)) rfl F9 N9 hR9 ?_ ?_ ?_ ?_ ?_ ?_
  · decide
  · decide
  · decide
  · exact ⟨rfl, .nil⟩
  · rintro i t ys nx I oI C oC D m₂ h tk E' hi hJ9 hC hx F2 N2 o1 o2 o3 n1 n2 n3
    try (k_extra "zfold")
    obtain ⟨rfl, hS⟩ := hJ9
    clear F9 N9 hR9 hK9
    obtain ⟨pl, hpl⟩ : ∃ pl : Int, pl = 0 + (i : Int) := ⟨_, rfl⟩
    rw [← hpl] at hx
    have hp0 : 0 ≤ pl := by omega
    have hp1 : pl < 32 := by omega
    k_steps
    unfold Hold
    have e : (31 - pl).toNat = 31 - i := by omega
    rw [bit_eq, e, txt_int]
    refine cend_mk (by k_asm) (by k_asm) o1 o2 o3 ⟨rfl, ?_⟩
    rw [bit1s_snoc]
    exact strsAre_snoc hS
  · rintro g ys nx ⟨rfl, hS⟩
    have hw : (((bit1s ad 32).map txt).map (·.length)).sum + ((bit1s ad 32).map txt).length * 64 ≤ 16777216 := by
      rw [bit1s_len]; simp [bit1s]
    clear F9 N9 hR9 hK9
    k_steps
    rw [join_txt, bit1s_flat]
    exact hret _ _ _ (by k_asm) (news_sub (by assumption) fun p hp => .tail _ (.tail _ hp))
end
end Mine

-- part S3
namespace Mine
set_option maxRecDepth 100000
set_option maxHeartbeats 8000000
set_option pp.deepTerms false
set_option pp.deepTerms.threshold 4
set_option pp.maxSteps 100000

open PySem.Builtin
/- walking a set of texts -/
namespace FS
set_option maxRecDepth 100000
theorem owner_si : Manifest.owners.lookup (String.ofList ['r', 'o', 't', 'a', 'r', 'e', 't', 'i', '_', 't', 'e', 's'].reverse) = some Manifest.sig_set_iterator := by kernel_rfl
theorem slot_next : Slot "set_iterator" "__next__" "set_iterator.__next__" :=
  .of (owner := "set_iterator") (n := "__next__") (by rw [typeLookup_type, builtinLookup_eq_fast]; kernel_rfl) (by decide +kernel) (by decide +kernel) (by decide +kernel)
    (by first | exact .inl (by decide +kernel) | exact .inr (by decide +kernel)) (by rw [isSubtype_type]; kernel_rfl)
theorem entry_next : entryFor table "set_iterator.__next__" = some Builtin.«set_iterator.__next__» := entryFor_of_tree (by kernel_rfl)
theorem args_next (a : Value) : argsOk "set_iterator.__next__" ⟨[a], []⟩ := by
  unfold argsOk; rw [signature?_of (id := "set_iterator.__next__") (n := ['_', '_', 't', 'x', 'e', 'n', '_', '_']) (o := ['r', 'o', 't', 'a', 'r', 'e', 't', 'i', '_', 't', 'e', 's']) (by kernel_rfl) owner_si]; kernel_rfl
theorem slot_iter : Slot "set_iterator" "__iter__" "set_iterator.__iter__" :=
  .of (owner := "set_iterator") (n := "__iter__") (by rw [typeLookup_type, builtinLookup_eq_fast]; kernel_rfl) (by decide +kernel) (by decide +kernel) (by decide +kernel)
    (by first | exact .inl (by decide +kernel) | exact .inr (by decide +kernel)) (by rw [isSubtype_type]; kernel_rfl)
theorem entry_iter : entryFor table "set_iterator.__iter__" = some Builtin.«dict_keyiterator.__iter__» :=
  entryFor_alias (id' := "dict_keyiterator.__iter__") (by kernel_rfl) rfl (by decide +kernel) (by kernel_rfl)
theorem args_iter (a : Value) : argsOk "set_iterator.__iter__" ⟨[a], []⟩ := by
  unfold argsOk; rw [signature?_of (id := "set_iterator.__iter__") (n := ['_', '_', 'r', 'e', 't', 'i', '_', '_']) (o := ['r', 'o', 't', 'a', 'r', 'e', 't', 'i', '_', 't', 'e', 's']) (by kernel_rfl) owner_si]; kernel_rfl
theorem entry_set_iter : entryFor table "set.__iter__" = some Builtin.«frozenset.__iter__» :=
  entryFor_alias (id' := "frozenset.__iter__") (by kernel_rfl) rfl (by decide +kernel) (by kernel_rfl)
end FS
abbrev itObj (first : Value) (i : Nat) (S : Value) (n ep : Nat) : Obj := { cls := .type "set_iterator", data := .fields #[first, .int i 0, S, .int n 0, .int ep 0] }
section
variable {prog : Program} {w : World} {A : Around} {E : Value → Shared → Prop} {s : Shared}
theorem erase_perm {α : Type} : ∀ (xs : List α) (i : Nat) (hi : i < xs.length), (xs[i] :: xs.eraseIdx i).Perm xs
  | x :: xs, 0, _ => List.Perm.refl _
  | x :: xs, i + 1, hi => by
    show (xs[i]'(Nat.lt_of_succ_lt_succ hi) :: x :: xs.eraseIdx i).Perm (x :: xs)
    exact (List.Perm.swap _ _ _).trans ((erase_perm xs i (Nat.lt_of_succ_lt_succ hi)).cons x)
theorem my_choose {M : Model} {src : Source} {n : Nat} {Q : Nat → Shared → Prop} (hn : n ≠ 0) (h : ∀ i d, i < n → Q i { s with drawn := d }) : wpAny M A (choose src n) Q E s := fun _ _ _ =>
  ⟨hn, h _ _ (Nat.mod_lt _ (Nat.pos_of_ne_zero hn))⟩
theorem my_draw {M : Model} : ∀ (n : Nat) (xs : List Nat) (s : Shared) (Q : List Nat → Shared → Prop), n = xs.length → (∀ ys d, ys.Perm xs → Q ys { s with drawn := d }) → wpAny M A (drawOrder n xs) Q E s
  | 0, xs, s, Q, hn, h => by
    have : xs = [] := List.eq_nil_of_length_eq_zero hn.symm
    subst this
    exact wpAny_pure (h [] s.drawn .nil)
  | n + 1, [], s, Q, hn, h => by cases hn
  | n + 1, x :: xs, s, Q, hn, h => by
    show wpAny M A (choose .order (x :: xs).length >>= _) Q E s
    refine wpAny_bind (my_choose (by simp) fun i d hi => ?_)
    rw [List.getElem?_eq_getElem hi]
    dsimp only
    refine wpAny_bind (my_draw n ((x :: xs).eraseIdx i) _ _ (by rw [List.length_eraseIdx_of_lt hi, ← hn]; rfl) fun ys d' hy => ?_)
    refine wpAny_pure (h _ d' ?_)
    exact (hy.cons _).trans (erase_perm _ _ hi)

theorem pick_go {α : Type} (next : Nat → Nat) : ∀ (fuel k : Nat) (left : List α) (out : Array α), fuel = left.length → (pickOrder.go next fuel k left out).toList.Perm (out.toList ++ left)
  | 0, k, left, out, h => by
    have : left = [] := List.eq_nil_of_length_eq_zero h.symm
    subst this
    rw [pickOrder.go]; simp
  | fuel + 1, k, left, out, h => by
    have hlt : next k % left.length < left.length := Nat.mod_lt _ (by omega)
    rw [pickOrder.go, List.getElem?_eq_getElem hlt]
    dsimp only
    refine (pick_go next fuel (k + 1) _ _ (by rw [List.length_eraseIdx_of_lt hlt]; omega)).trans ?_
    rw [Array.toList_push, List.append_assoc]
    exact List.Perm.append_left _ (erase_perm _ _ hlt)
theorem pick_perm {α : Type} (next : Nat → Nat) (xs : Array α) : (pickOrder next xs).toList.Perm xs.toList := by
  have := pick_go next xs.size 0 xs.toList #[] (by simp)
  simpa [pickOrder] using this
theorem my_byText {Q : Bool → Shared → Prop} (h : Q (byT w) s) : wpAny (model prog w) A setsByText Q E s := by
  unfold setsByText
  exact wpAny_bind (wpAny_askSetting (wpAny_pure h))
section
variable {S : Addr} {o : Obj} {es : Array (Int × Value)} {ep : Nat} {t : SetTable} {ks : List Str}
theorem next_T (hb : byT w = true) (ho : s.heap.get? S = some o) (hd : o.data = .set es ep t) (T : StrTab prog w es t ks) {slot i : Nat} {Q : Option (Value × Nat) → Shared → Prop}
    (h : Q (((pickOrder (w.params.setOrder S ep) es)[i]?).map fun e => (e.2, slot)) s) : wpAny (model prog w) A (setNext S slot i ep) Q E s := by
  unfold setNext
  refine wpAny_bind (wpAny_setState_of ho hd T.fit ?_)
  dsimp only
  refine wpAny_bind (my_byText ?_)
  rw [hb, if_pos rfl, if_neg (by simp)]
  unfold setWalk
  refine wpAny_bind (wpAny_bind (wpAny_setState_of ho hd T.fit ?_))
  dsimp only
  refine wpAny_bind (my_byText ?_)
  rw [hb, if_pos rfl]
  exact wpAny_bind (wpAny_askSetting (wpAny_pure (wpAny_pure h)))
theorem below1 (p j : Nat) : SetTable.below #[p] j = if p < j then 1 else 0 := by
  show SetTable.below.go #[p] j 1 0 1 = _
  rw [SetTable.below.go]
  simp only [Nat.lt_irrefl, Nat.zero_lt_one, if_true]
  show (if p < j then SetTable.below.go #[p] j 0 1 1 else SetTable.below.go #[p] j 0 0 0) = _
  rw [SetTable.below.go, SetTable.below.go]
theorem next_P (hb : byT w = false) (ho : s.heap.get? S = some o) (hd : o.data = .set es ep t) (T : StrTab prog w es t ks) (h1 : es.size ≤ 1) {slot i : Nat} {Q : Option (Value × Nat) → Shared → Prop}
    (h1' : ∀ e p, es[SetTable.below t.place slot]? = some e → t.place[SetTable.below t.place slot]? = some p → Q (some (e.2, p + 1)) s) (h0 : es[SetTable.below t.place slot]? = none → Q none s) : wpAny (model prog w) A (setNext S slot i ep) Q E s := by
  unfold setNext
  refine wpAny_bind (wpAny_setState_of ho hd T.fit ?_)
  dsimp only
  refine wpAny_bind (my_byText ?_)
  rw [hb, if_neg (by simp)]
  have hl : t.led = true := by rw [T.led, hb]; rfl
  have e1 : (!t.plain && decide (es.size > 1)) = false := by
    rw [Bool.and_eq_false_iff]; right; simpa using h1
  show wpAny _ _ (do if (!t.plain && decide (es.size > 1)) = true then unsupported _ else pure (); _) Q E s
  rw [e1]
  simp only [Bool.false_eq_true, if_false]
  have e2 : (!t.led && !es.isEmpty) = false := by rw [hl]; rfl
  show wpAny _ _ ((if (!t.led && !es.isEmpty) = true then unsupported _ else pure ()) >>= _) Q E s
  rw [e2]
  simp only [Bool.false_eq_true, if_false]
  refine wpAny_bind (wpAny_pure ?_)
  refine wpAny_pure ?_
  have hsz : t.place.size = es.size := by
    have := T.fit
    simp only [SetTable.fits, Bool.and_eq_true, beq_iff_eq] at this
    exact this.1
  cases q1 : es[SetTable.below t.place slot]? with
  | none => exact h0 q1
  | some e =>
    cases q2 : t.place[SetTable.below t.place slot]? with
    | none =>
      rw [Array.getElem?_eq_none_iff] at q2
      have := (Array.getElem?_eq_some_iff.mp q1).1
      omega
    | some p => exact h1' e p q1 q2
end
end
end Mine

-- part S4
namespace Mine
set_option maxRecDepth 100000
set_option maxHeartbeats 8000000
set_option pp.deepTerms false
set_option pp.deepTerms.threshold 4
set_option pp.maxSteps 100000

open PySem.Builtin
section
variable {prog : Program} {w : World} {A : Around} {E : Value → Shared → Prop} {s : Shared}
variable {S I : Addr} {o : Obj} {es : Array (Int × Value)} {ep n : Nat} {t : SetTable} {ks : List Str}
theorem it_type {first : Value} {i : Nat} {v : Value} (hi : s.heap.get? I = some (itObj first i v n ep)) : s.TypeIs (.ref I) "set_iterator" := ⟨_, hi, rfl⟩
theorem my_entries (ho : s.heap.get? S = some o) (hd : o.data = .set es ep t) (T : StrTab prog w es t ks) {Q : Array (Int × Value) → Shared → Prop} (h : Q es s) : wpAny (model prog w) A (setEntries S) Q E s := by
  unfold setEntries
  exact wpAny_bind (wpAny_setState_of ho hd T.fit (wpAny_pure h))
theorem nextInt {sl i : Nat} {x : Value} {nx : Nat} {Q : Option Value → Shared → Prop} (hi : s.heap.get? I = some (itObj (.int sl 0) i (.ref S) n ep)) (ho : s.heap.get? S = some o) (hd : o.data = .set es ep t) (T : StrTab prog w es t ks) (hn : es.size = n)
    (hnext : ∀ (A' : Around) (E' : Value → Shared → Prop) (Q' : Option (Value × Nat) → Shared → Prop), Q' (some (x, nx)) s → wpAny (model prog w) A' (setNext S sl i ep) Q' E' s)
    (h : ∀ h', h'.get? I = some (itObj (.int nx 0) (i + 1) (.ref S) n ep) → Heap.SameBut I s.heap h' → Q (some x) { s with heap := h' }) : wpAny (model prog w) A (pyNext (.ref I)) Q E s := by
  unfold pyNext
  refine wpAny_bind (wpAny_attempt (wpAny_callSpecial?_slot (name := Str.ofString "__next__") (it_type hi) FS.slot_next
    (wpAny_call_entry FS.slot_next (it_type hi) FS.entry_next ?_ (FS.args_next _))))
  unfold Builtin.«set_iterator.__next__»
  refine wpAny_bind (wpAny_pure ?_)
  refine wpAny_bind (wpAny_fieldsOf hi rfl ?_)
  dsimp only
  refine wpAny_bind (my_entries ho hd T ?_)
  rw [if_neg (by rw [hn]; simp)]
  refine wpAny_bind ?_
  refine hnext _ _ _ ?_
  dsimp only
  refine wpAny_bind (wpAny_setField_rec hi (by simp) fun h1 g1 b1 => ?_)
  refine wpAny_bind (wpAny_setField_rec g1 (by simp) fun h2 g2 b2 => ?_)
  refine wpAny_pure ⟨x, rfl, wpAny_pure (h h2 ?_ (b1.trans b2))⟩
  rw [g2]
  simp [rawInt]

theorem endInt {sl i : Nat} {Q : Option Value → Shared → Prop} (hh : A.handled = none) (hi : s.heap.get? I = some (itObj (.int sl 0) i (.ref S) n ep)) (ho : s.heap.get? S = some o) (hd : o.data = .set es ep t) (T : StrTab prog w es t ks) (hn : es.size = n)
    (hnext : ∀ (A' : Around) (E' : Value → Shared → Prop) (Q' : Option (Value × Nat) → Shared → Prop), Q' none s → wpAny (model prog w) A' (setNext S sl i ep) Q' E' s)
    (h : ∀ h', Heap.ExtBut I s.heap h' → Q none { s with heap := h' }) : wpAny (model prog w) A (pyNext (.ref I)) Q E s := by
  unfold pyNext
  refine wpAny_bind (wpAny_attempt (wpAny_callSpecial?_slot (name := Str.ofString "__next__") (it_type hi) FS.slot_next
    (wpAny_call_entry FS.slot_next (it_type hi) FS.entry_next ?_ (FS.args_next _))))
  unfold Builtin.«set_iterator.__next__»
  refine wpAny_bind (wpAny_pure ?_)
  refine wpAny_bind (wpAny_fieldsOf hi rfl ?_)
  dsimp only
  refine wpAny_bind (my_entries ho hd T ?_)
  rw [if_neg (by rw [hn]; simp)]
  refine wpAny_bind ?_
  refine hnext _ _ _ ?_
  dsimp only
  refine wpAny_bind (wpAny_setField_rec hi (by simp) fun h1 g1 b1 => ?_)
  refine wpAny_bind ?_
  simp only [newExc, newTuple]
  refine wpAny_bind (wpAny_newObj_type ?_ (by size_fits))
  refine wpAny_bind (m := firstArgMember _ _) (wpAny_of_eq (a := Value.none) (by first | rfl | (simp only [firstArgMember]; rfl)) ?_)
  refine wpAny_newObj_type ?_ (by size_fits)
  simp only [raiseNew]
  refine wpAny_bind (wpAny_handled ?_)
  rw [show A.in1.handled = none from hh]
  refine wpAny_bind (wpAny_pure (wpAny_throw ?_))
  refine wpAny_bind (wpAny_isInstance (T := "StopIteration") (b := true) ⟨_, Heap.get?_push_size _ rfl, rfl⟩ isSubtype_stop ?_)
  exact wpAny_pure (h _ ((b1.extBut.push _).push _))
theorem nextRef {P : Addr} {i pl : Nat} {od : List Nat} {e : Int × Value} {Q : Option Value → Shared → Prop} (hi : s.heap.get? I = some (itObj (.ref P) i (.ref S) n ep)) (ho : s.heap.get? S = some o) (hd : o.data = .set es ep t) (T : StrTab prog w es t ks) (hn : es.size = n)
    (hP : s.heap.get? P = some { cls := .type "tuple", data := .seq (od.map fun (i : Nat) => rawInt i).toArray }) (hpl : od[i]? = some pl) (he : es[pl]? = some e)
    (h : ∀ h', h'.get? I = some (itObj (.ref P) (i + 1) (.ref S) n ep) → Heap.SameBut I s.heap h' → Q (some e.2) { s with heap := h' }) : wpAny (model prog w) A (pyNext (.ref I)) Q E s := by
  unfold pyNext
  refine wpAny_bind (wpAny_attempt (wpAny_callSpecial?_slot (name := Str.ofString "__next__") (it_type hi) FS.slot_next
    (wpAny_call_entry FS.slot_next (it_type hi) FS.entry_next ?_ (FS.args_next _))))
  unfold Builtin.«set_iterator.__next__»
  refine wpAny_bind (wpAny_pure ?_)
  refine wpAny_bind (wpAny_fieldsOf hi rfl ?_)
  dsimp only
  refine wpAny_bind (my_entries ho hd T ?_)
  rw [if_neg (by rw [hn]; simp)]
  refine wpAny_bind (wpAny_seqItems hP rfl ?_)
  dsimp only
  have hq : (od.map fun (i : Nat) => rawInt i).toArray[(i : Int).toNat]? = some (.int pl 0) := by simp [hpl, rawInt]
  rw [hq]
  dsimp only
  unfold setNextDrawn
  refine wpAny_bind (wpAny_bind (wpAny_setState_of ho hd T.fit ?_))
  dsimp only
  rw [if_neg (by simp)]
  refine wpAny_bind (wpAny_pure ?_)
  rw [show es[(pl : Int).toNat]? = some e from he]
  refine wpAny_pure ?_
  refine wpAny_bind (wpAny_setField_rec hi (by simp) fun h2 g2 b2 => ?_)
  refine wpAny_pure ⟨e.2, rfl, wpAny_pure (h h2 ?_ b2)⟩
  rw [g2]
  simp [rawInt]
theorem endRef {P : Addr} {i : Nat} {od : List Nat} {Q : Option Value → Shared → Prop} (hh : A.handled = none) (hi : s.heap.get? I = some (itObj (.ref P) i (.ref S) n ep)) (ho : s.heap.get? S = some o) (hd : o.data = .set es ep t) (T : StrTab prog w es t ks) (hn : es.size = n)
    (hP : s.heap.get? P = some { cls := .type "tuple", data := .seq (od.map fun (i : Nat) => rawInt i).toArray }) (hpl : od[i]? = none)
    (h : ∀ h', Heap.ExtBut I s.heap h' → Q none { s with heap := h' }) : wpAny (model prog w) A (pyNext (.ref I)) Q E s := by
  unfold pyNext
  refine wpAny_bind (wpAny_attempt (wpAny_callSpecial?_slot (name := Str.ofString "__next__") (it_type hi) FS.slot_next
    (wpAny_call_entry FS.slot_next (it_type hi) FS.entry_next ?_ (FS.args_next _))))
  unfold Builtin.«set_iterator.__next__»
  refine wpAny_bind (wpAny_pure ?_)
  refine wpAny_bind (wpAny_fieldsOf hi rfl ?_)
  dsimp only
  refine wpAny_bind (my_entries ho hd T ?_)
  rw [if_neg (by rw [hn]; simp)]
  refine wpAny_bind (wpAny_seqItems hP rfl ?_)
  dsimp only
  have hq : (od.map fun (i : Nat) => rawInt i).toArray[(i : Int).toNat]? = none := by simp [hpl]
  rw [hq]
  dsimp only
  refine wpAny_bind (wpAny_setField_rec hi (by simp) fun h1 g1 b1 => ?_)
  refine wpAny_bind (wpAny_setField_rec g1 (by simp) fun h2 g2 b2 => ?_)
  refine wpAny_bind ?_
  simp only [newExc, newTuple]
  refine wpAny_bind (wpAny_newObj_type ?_ (by size_fits))
  refine wpAny_bind (m := firstArgMember _ _) (wpAny_of_eq (a := Value.none) (by first | rfl | (simp only [firstArgMember]; rfl)) ?_)
  refine wpAny_newObj_type ?_ (by size_fits)
  simp only [raiseNew]
  refine wpAny_bind (wpAny_handled ?_)
  rw [show A.in1.handled = none from hh]
  refine wpAny_bind (wpAny_pure (wpAny_throw ?_))
  refine wpAny_bind (wpAny_isInstance (T := "StopIteration") (b := true) ⟨_, Heap.get?_push_size _ rfl, rfl⟩ isSubtype_stop ?_)
  exact wpAny_pure (h _ (((b1.trans b2).extBut.push _).push _))
end
end Mine

-- part S5
namespace Mine
set_option maxRecDepth 100000
set_option maxHeartbeats 8000000
set_option pp.deepTerms false
set_option pp.deepTerms.threshold 4
set_option pp.maxSteps 100000

open PySem.Builtin
section
variable {prog : Program} {w : World} {A : Around} {E : Value → Shared → Prop} {s : Shared}
variable {S I : Addr} {o : Obj} {es : Array (Int × Value)} {ep : Nat} {t : SetTable} {ks : List Str}
def SetWalk (prog : Program) (w : World) (A : Around) (S I : Addr) (its : List Value) (s₀ h : Heap) : Prop :=
  ∃ P St, Walks prog w A I [I, S, P] [I] its.length (fun i v => its[i]? = some v) St ∧ St 0 h ∧ (∀ i h, St i h → ∃ o, h.get? I = some o ∧ o.cls = .type "set_iterator") ∧ (∀ b ∈ [I, S, P], b = S ∨ s₀.objs.size ≤ b) ∧ (∀ b ∈ [I, S, P], b < h.objs.size) ∧ I ≠ S
theorem my_selfIter {first : Value} {i : Nat} {v : Value} {n : Nat} {Q : Value → Shared → Prop} (hi : s.heap.get? I = some (itObj first i v n ep)) (h : Q (.ref I) s) : wpAny (model prog w) A (pyIter (.ref I)) Q E s := by
  refine wpAny_pyIter_slot (it_type hi) FS.slot_iter (wpAny_call_entry FS.slot_iter (it_type hi) FS.entry_iter ?_ (FS.args_iter _))
  show wpAny _ _ (ret (.ref I)) _ _ s
  exact wpAny_pure ⟨_, rfl, "set_iterator", _, it_type hi, FS.slot_next.lookup, h⟩
theorem walkT (hh : A.handled = none) (hne : I ≠ S) (hb : byT w = true) (hd : o.data = .set es ep t) (T : StrTab prog w es t ks) :
    Walks prog w A I [I, S, S] [I] ((pickOrder (w.params.setOrder S ep) es).toList.map (·.2)).length (fun i v => ((pickOrder (w.params.setOrder S ep) es).toList.map (·.2))[i]? = some v)
      (fun i h => h.get? I = some (itObj (.int ((0 : Nat) : Int) 0) i (.ref S) es.size ep) ∧ h.get? S = some o) where
  sub := fun b hb => by simp at hb; simp [hb]
  frame := fun _ _ _ st hk => ⟨hk I (by simp) _ st.1, hk S (by simp) _ st.2⟩
  item := fun i s Q E hi st hQ => by
    have hi' : i < (pickOrder (w.params.setOrder S ep) es).size := by simpa using hi
    refine nextInt (x := (pickOrder (w.params.setOrder S ep) es)[i].2) (nx := 0) st.1 st.2 hd T rfl (fun A' E' Q' hq => ?_) fun h' hit hsb => ?_
    · refine next_T hb st.2 hd T ?_
      rw [Array.getElem?_eq_getElem hi']; exact hq
    · refine hQ _ h' s.toks ?_ ⟨hit, ?_⟩ fun b o hb e => hsb.extBut b o (fun h => hb (by simp [h])) e
      · simp [hi']
      · exact hsb.extBut S o (Ne.symm hne) st.2
  done := fun s Q E st hQ => by
    have hsz : (pickOrder (w.params.setOrder S ep) es).size = ((pickOrder (w.params.setOrder S ep) es).toList.map (·.2)).length := by simp
    refine endInt hh st.1 st.2 hd T rfl (fun A' E' Q' hq => ?_) fun h' he => hQ h' s.toks fun b o hb e => he b o (fun h => hb (by simp [h])) e
    refine next_T hb st.2 hd T ?_
    rw [Array.getElem?_eq_none (by rw [← hsz]; exact Nat.le_refl _)]; exact hq
  self := fun i s Q E st hQ => my_selfIter st.1 hQ
theorem arr1 {xs : Array Nat} (h : xs.size = 1) : ∃ p, xs = #[p] := ⟨xs[0], by
  apply Array.ext
  · simp; omega
  · intro j h1 h2
    have : j = 0 := by omega
    subst this; rfl⟩
def slotP (t : SetTable) (i : Nat) : Nat := if i = 0 then 0 else t.place.getD (i - 1) 0 + 1
theorem placeSz (T : StrTab prog w es t ks) : t.place.size = es.size := by
  have := T.fit
  simp only [SetTable.fits, Bool.and_eq_true, beq_iff_eq] at this
  exact this.1
theorem walkP (hh : A.handled = none) (hne : I ≠ S) (hb : byT w = false) (hd : o.data = .set es ep t) (T : StrTab prog w es t ks) (h1 : es.size ≤ 1) :
    Walks prog w A I [I, S, S] [I] (es.toList.map (·.2)).length (fun i v => (es.toList.map (·.2))[i]? = some v)
      (fun i h => h.get? I = some (itObj (.int (slotP t i : Nat) 0) i (.ref S) es.size ep) ∧ h.get? S = some o) where
  sub := fun b hb => by simp at hb; simp [hb]
  frame := fun _ _ _ st hk => ⟨hk I (by simp) _ st.1, hk S (by simp) _ st.2⟩
  item := fun i s Q E hi st hQ => by
    have hi' : i < es.size := by simpa using hi
    obtain rfl : i = 0 := by omega
    have hp := placeSz T
    have hp0 : 0 < t.place.size := by omega
    have hb0 : SetTable.below t.place (slotP t 0) = 0 := by
      obtain ⟨p, hp1⟩ := arr1 (xs := t.place) (by omega)
      rw [hp1, below1]; rfl
    refine nextInt (x := es[0].2) (nx := slotP t 1) st.1 st.2 hd T rfl (fun A' E' Q' hq => ?_) fun h' hit hsb => ?_
    · refine next_P hb st.2 hd T h1 (fun e p q1 q2 => ?_) fun q => ?_
      · rw [hb0] at q1 q2
        have e1 : es[0] = e := by rw [Array.getElem?_eq_getElem hi'] at q1; exact Option.some.inj q1
        have e2 : slotP t 1 = p + 1 := by
          unfold slotP
          rw [if_neg (by decide)]
          show t.place.getD 0 0 + 1 = p + 1
          rw [Array.getD_eq_getD_getElem?, q2]; rfl
        rw [← e1, ← e2]; exact hq
      · rw [hb0, Array.getElem?_eq_getElem hi'] at q; cases q
    · refine hQ _ h' s.toks ?_ ⟨hit, ?_⟩ fun b o hb e => hsb.extBut b o (fun h => hb (by simp [h])) e
      · simp [hi']
      · exact hsb.extBut S o (Ne.symm hne) st.2
  done := fun s Q E st hQ => by
    refine endInt hh st.1 st.2 hd T rfl (fun A' E' Q' hq => ?_) fun h' he => hQ h' s.toks fun b o hb e => he b o (fun h => hb (by simp [h])) e
    refine next_P hb st.2 hd T h1 (fun e p q1 q2 => ?_) fun q => hq
    exfalso
    have hp := placeSz T
    have hlt := (Array.getElem?_eq_some_iff.mp q1).1
    have hn1 : es.size = 1 := by omega
    obtain ⟨p0, hp1⟩ := arr1 (xs := t.place) (by omega)
    have e1 : (es.toList.map (·.2)).length = 1 := by simp [hn1]
    rw [e1, hp1] at hlt
    have e2 : slotP t 1 = p0 + 1 := by unfold slotP; rw [if_neg (by decide), hp1]; rfl
    rw [e2, below1, if_pos (Nat.lt_succ_self _), hn1] at hlt
    exact absurd hlt (Nat.lt_irrefl _)
  self := fun i s Q E st hQ => my_selfIter st.1 hQ
theorem walkD {P : Addr} {od : List Nat} (hh : A.handled = none) (hne : I ≠ S) (hnp : I ≠ P) (hd : o.data = .set es ep t) (T : StrTab prog w es t ks) (hod : od.Perm (List.range es.size)) :
    Walks prog w A I [I, S, P] [I] (od.map fun j => (es.getD j (0, Value.none)).2).length (fun i v => (od.map fun j => (es.getD j (0, Value.none)).2)[i]? = some v)
      (fun i h => h.get? I = some (itObj (.ref P) i (.ref S) es.size ep) ∧ h.get? S = some o ∧ h.get? P = some { cls := .type "tuple", data := .seq (od.map fun (i : Nat) => rawInt i).toArray }) where
  sub := fun b hb => by simp at hb; simp [hb]
  frame := fun _ _ _ st hk => ⟨hk I (by simp) _ st.1, hk S (by simp) _ st.2.1, hk P (by simp) _ st.2.2⟩
  item := fun i s Q E hi st hQ => by
    have hi' : i < od.length := by simpa using hi
    have hj : od[i] < es.size := List.mem_range.mp (hod.mem_iff.mp (List.getElem_mem hi'))
    refine nextRef (pl := od[i]) (e := es[od[i]]) st.1 st.2.1 hd T rfl st.2.2 (List.getElem?_eq_getElem hi') (Array.getElem?_eq_getElem hj) fun h' hit hsb => ?_
    refine hQ _ h' s.toks ?_ ⟨hit, hsb.extBut S o (Ne.symm hne) st.2.1, hsb.extBut P _ (Ne.symm hnp) st.2.2⟩ fun b o hb e => hsb.extBut b o (fun h => hb (by simp [h])) e
    simp [hi', hj]
  done := fun s Q E st hQ => by
    refine endRef hh st.1 st.2.1 hd T rfl st.2.2 (by simp) fun h' he => hQ h' s.toks fun b o hb e => he b o (fun h => hb (by simp [h])) e
  self := fun i s Q E st hQ => my_selfIter st.1 hQ

theorem range_get : (List.range es.size).map (fun j => (es.getD j (0, Value.none)).2) = es.toList.map (·.2) := by
  apply List.ext_getElem
  · simp
  · intro i h1 h2
    have : i < es.size := by simpa using h1
    simp [this]
theorem iter_set {Q : Value → Shared → Prop} (hh : A.handled = none) (ho : s.heap.get? S = some o) (hex : o.ExactSet) (hd : o.data = .set es ep t) (T : StrTab prog w es t ks)
    (h : ∀ I its h' d, SetWalk prog w A S I its s.heap h' → its.Perm (es.toList.map (·.2)) → (∀ b o, s.heap.get? b = some o → h'.get? b = some o) → Q (.ref I) { s with heap := h', drawn := d }) :
    wpAny (model prog w) A (pyIter (.ref S)) Q E s := by
  have hT : s.TypeIs (.ref S) "set" := ⟨o, ho, hex.1⟩
  have hlt : S < s.heap.objs.size := Heap.lt_size ho
  refine wpAny_pyIter_slot hT PySem.F.slot_set_iter (wpAny_call_entry PySem.F.slot_set_iter hT FS.entry_set_iter ?_ (PySem.F.args_set_iter_1 _))
  unfold Builtin.«frozenset.__iter__»
  refine wpAny_bind ?_
  refine wpAny_bind (wpAny_pure ?_)
  refine wpAny_pure ?_
  refine wpAny_bind (wpAny_bind (my_entries ho hd T (wpAny_pure ?_)))
  refine wpAny_bind ?_
  refine wpAny_bind (wpAny_setState_of ho hd T.fit ?_)
  dsimp only
  refine wpAny_bind (my_byText (wpAny_pure ?_))
  have e1 : (!byT w && (!t.plain && decide (es.size > 1))) = (!byT w && decide (es.size > 1)) := by
    cases hq : decide (es.size > 1) with
    | false => simp
    | true =>
      have : 0 < es.size := by have := of_decide_eq_true hq; omega
      rw [T.plain this]; simp
  show wpAny _ _ (if (!byT w && (!t.plain && decide (es.size > 1))) = true then _ else _) _ _ s
  rw [e1]
  cases hc : (!byT w && decide (es.size > 1)) with
  | true =>
    rw [if_pos rfl]
    refine wpAny_bind (my_draw es.size _ _ _ (by simp) fun od d hod => ?_)
    refine wpAny_bind ?_
    simp only [newTuple]
    refine wpAny_newObj_type ?_ (by show (List.map (fun (i : Nat) => rawInt i) od).toArray.size ≤ sizeLine; rw [List.size_toArray, List.length_map, hod.length_eq, List.length_range]; exact fits_of_scanBound T.sz)
    have ho1 : (s.heap.push { cls := .type "tuple", data := .seq (od.map fun (i : Nat) => rawInt i).toArray }).get? S = some o := Heap.get?_push_of_some _ ho
    refine wpAny_bind (wpAny_setEpoch_of ho1 hd T.fit ?_)
    refine wpAny_bind (wpAny_newObj_type (wpAny_pure ⟨_, rfl, "set_iterator", _, ⟨_, Heap.get?_push_size _ rfl, rfl⟩, FS.slot_next.lookup, ?_⟩))
    have hs1 : (s.heap.push { cls := .type "tuple", data := .seq (od.map fun (i : Nat) => rawInt i).toArray }).objs.size = s.heap.objs.size + 1 := Heap.size_push _ _
    refine h _ (od.map fun j => (es.getD j (0, Value.none)).2) _ d ⟨s.heap.objs.size, _, walkD (P := s.heap.objs.size) hh ?_ ?_ hd T hod, ⟨Heap.get?_push_size _ rfl, Heap.get?_push_of_some _ ho1, Heap.get?_push_of_some _ (Heap.get?_push_size _ rfl)⟩, fun i h st => ⟨_, st.1, rfl⟩, ?_, ?_, ?_⟩ ?_ fun b o e => Heap.get?_push_of_some _ (Heap.get?_push_of_some _ e)
    · exact fun e => absurd (Heap.lt_size ho1) (by rw [← e]; exact Nat.lt_irrefl _)
    · exact fun e => absurd (Heap.lt_size (Heap.get?_push_size s.heap (o := { cls := .type "tuple", data := .seq (od.map fun (i : Nat) => rawInt i).toArray }) rfl)) (by rw [← e]; exact Nat.lt_irrefl _)
    · intro b hb
      simp only [List.mem_cons, List.not_mem_nil, or_false] at hb
      rcases hb with e | e | e
      · rw [e]; exact .inr (by rw [hs1]; exact Nat.le_succ _)
      · exact .inl e
      · rw [e]; exact .inr (Nat.le_refl _)
    · intro b hb
      rw [Heap.size_push, hs1]
      simp only [List.mem_cons, List.not_mem_nil, or_false] at hb
      rcases hb with e | e | e
      · rw [e, hs1]; exact Nat.lt_succ_self _
      · rw [e]; exact Nat.lt_succ_of_lt (Nat.lt_succ_of_lt hlt)
      · rw [e]; exact Nat.lt_succ_of_lt (Nat.lt_succ_self _)
    · exact fun e => absurd (Heap.lt_size ho1) (by rw [← e]; exact Nat.lt_irrefl _)
    · rw [← range_get]
      exact hod.map _
  | false =>
    rw [if_neg Bool.false_ne_true]
    refine wpAny_bind (wpAny_pure ?_)
    refine wpAny_bind (wpAny_setEpoch_of ho hd T.fit ?_)
    refine wpAny_bind (wpAny_newObj_type (wpAny_pure ⟨_, rfl, "set_iterator", _, ⟨_, Heap.get?_push_size _ rfl, rfl⟩, FS.slot_next.lookup, ?_⟩))
    have hne : s.heap.objs.size ≠ S := Nat.ne_of_gt hlt
    have hin : ∀ b ∈ [s.heap.objs.size, S, S], b = S ∨ s.heap.objs.size ≤ b := by
      intro b hb
      simp only [List.mem_cons, List.not_mem_nil, or_false] at hb
      rcases hb with rfl | rfl | rfl
      · exact .inr (Nat.le_refl _)
      · exact .inl rfl
      · exact .inl rfl
    have hin2 : ∀ o : Obj, ∀ b ∈ [s.heap.objs.size, S, S], b < (s.heap.push o).objs.size := by
      intro o b hb
      rw [Heap.size_push]
      simp only [List.mem_cons, List.not_mem_nil, or_false] at hb
      rcases hb with rfl | rfl | rfl
      · exact Nat.lt_succ_self _
      · exact Nat.lt_succ_of_lt hlt
      · exact Nat.lt_succ_of_lt hlt
    have e2 : s = { s with drawn := s.drawn } := by cases s; rfl
    cases hb : byT w with
    | true =>
      exact h _ _ _ s.drawn ⟨S, _, walkT hh hne hb hd T, ⟨Heap.get?_push_size _ rfl, Heap.get?_push_of_some _ ho⟩, fun i h st => ⟨_, st.1, rfl⟩, hin, hin2 _, hne⟩ ((pick_perm _ _).map _) fun b o e => Heap.get?_push_of_some _ e
    | false =>
      have h1 : es.size ≤ 1 := by
        rw [hb] at hc
        simpa using hc
      exact h _ _ _ s.drawn ⟨S, _, walkP hh hne hb hd T h1, ⟨Heap.get?_push_size _ rfl, Heap.get?_push_of_some _ ho⟩, fun i h st => ⟨_, st.1, rfl⟩, hin, hin2 _, hne⟩ (List.Perm.refl _) fun b o e => Heap.get?_push_of_some _ e
end
end Mine

-- part S6
namespace Mine
set_option maxRecDepth 100000
set_option maxHeartbeats 8000000
set_option pp.deepTerms false
set_option pp.deepTerms.threshold 4
set_option pp.maxSteps 100000

open PySem.Builtin
section
variable {prog : Program} {w : World} {A : Around} {E : Value → Shared → Prop} {s : Shared}
variable {S : Addr} {o : Obj} {ks : List Str}
theorem strVals {es : Array (Int × Value)} {t : SetTable} (T : StrTab prog w es t ks) {vs : List Value} (hp : vs.Perm (es.toList.map (·.2))) : ∃ ss, StrsAre vs ss ∧ ss.Perm ks := by
  refine ⟨vs.map strOf, strsAre_map vs fun v hv => ?_, ?_⟩
  · obtain ⟨e, he, rfl⟩ := List.mem_map.mp (hp.mem_iff.mp hv)
    obtain ⟨⟨k, hk, _⟩, _⟩ := T.el e he
    obtain ⟨t, e⟩ := Value.isStrOf_shape (show Value.isStrOf k _ = true from hk)
    exact ⟨k, t, e⟩
  · refine (hp.map strOf).trans ?_
    rw [List.map_map]
    exact T.ks
theorem items_eq {P : Nat → Value → Prop} {acc : Array Value} {its : List Value} (h : ItemsOf P acc its.length) (hP : ∀ i v, P i v → its[i]? = some v) : acc.toList = its := by
  apply List.ext_getElem?
  intro i
  have hsz := h.1
  by_cases hi : i < its.length
  · have : i < acc.size := by omega
    have := h.2 i acc[i] (by simp [this])
    rw [hP _ _ this]
    simp [*]
  · rw [List.getElem?_eq_none (by simp; omega), List.getElem?_eq_none (by omega)]
theorem collect_set {Q : List Value → Shared → Prop} (hh : A.handled = none) (ho : s.heap.get? S = some o) (hS : StrSet prog w o ks)
    (h : ∀ vs ss h' tk d, StrsAre vs ss → ss.Perm ks → (∀ b o, s.heap.get? b = some o → h'.get? b = some o) → Q vs { s with heap := h', toks := tk, drawn := d }) :
    wpAny (model prog w) A (collect (.ref S)) Q E s := by
  obtain ⟨hex, es, ep, t, hd, T⟩ := hS
  have hlt : S < s.heap.objs.size := Heap.lt_size ho
  have hne : s.heap.objs.size ≠ S := Nat.ne_of_gt hlt
  unfold collect
  refine wpAny_bind (wpAny_runValue (codeAny_builtin PySem.F.entry_proto_collect ?_))
  rw [Around.under_plainId PySem.F.plain_proto_collect _]
  show wpAny _ A.in1 (newList [] >>= fun l => again (.builtin "list.__iadd__" ⟨[l, .ref S], []⟩)) _ _ s
  refine wpAny_bind (wpAny_newObj_type ?_)
  refine wpAny_pure ⟨plainId_quiet PySem.F.plain_list_iadd _, codeAny_builtin PySem.F.entry_list_iadd ?_⟩
  rw [Around.under_plainId PySem.F.plain_list_iadd _]
  have ho1 : (s.heap.push { cls := .type "list", data := .seq ([] : List Value).toArray }).get? S = some o := Heap.get?_push_of_some _ ho
  have hL1 : (s.heap.push { cls := .type "list", data := .seq ([] : List Value).toArray }).get? s.heap.objs.size = some { cls := .type "list", data := .seq ([] : List Value).toArray } := Heap.get?_push_size _ rfl
  show wpAny _ A.in1 (Builtin.List.listExtendWith (.ref s.heap.objs.size) (.ref S) (.ref s.heap.objs.size)) _ _ _
  unfold Builtin.List.listExtendWith
  refine wpAny_bind (wpAny_typeOf (T := "set") ⟨o, ho1, hex.1⟩ ?_)
  have h1 : Builtin.List.listSameRef (.ref s.heap.objs.size) (.ref S) = false := by simp [Builtin.List.listSameRef, hne]
  have h2 : (Value.type "set" == Value.type "list") = false := by decide
  have h3 : (Value.type "set" == Value.type "tuple") = false := by decide
  simp only [h1, h2, h3, Bool.or_false, Bool.false_eq_true, if_false]
  refine wpAny_bind (iter_set (by exact hh) ho1 hex hd T fun I its h2 d hW hperm hk2 => ?_)
  obtain ⟨P, St, W, st0, hcls, hin, hin2, hIS⟩ := hW
  have ho2 := hk2 _ _ ho1
  have hL2 := hk2 _ _ hL1
  refine wpAny_bind (wpAny_holding ?_)
  unfold Builtin.List.listLengthHint
  refine wpAny_bind (wpAny_specialOf (T := "set") ⟨o, ho2, hex.1⟩ PySem.F.slot_set_len.lookup ?_)
  dsimp only
  rw [show splitId "set.__len__" = some ("set", "__len__") from by decide +kernel]
  dsimp only
  refine wpAny_bind (wpAny_isInstance (T := "set") (b := true) ⟨o, ho2, hex.1⟩ sub_set_self ?_)
  rw [if_neg (by decide)]
  rw [if_pos (by decide +kernel)]
  refine wpAny_bind (wpAny_typeOf (T := "set") ⟨o, ho2, hex.1⟩ ?_)
  refine wpAny_pure ?_
  rw [if_pos (by decide +kernel)]
  refine wpAny_bind (wpAny_rule ?_)
  refine wpAny_bind ?_
  show wpAny _ A.in1 (updateSeq s.heap.objs.size (·.push .none) >>= fun _ => updateSeq s.heap.objs.size (·.pop)) _ _ _
  refine wpAny_bind (wpAny_updateSeq hL2 rfl ?_)
  have hL3 := Heap.get?_update_self (Obj.mapSeq (·.push Value.none)) hL2 rfl
  refine wpAny_updateSeq hL3 rfl ?_
  have hL4 := Heap.get?_update_self (Obj.mapSeq (·.pop)) hL3 rfl
  have oth : ∀ b o, b ≠ s.heap.objs.size → h2.get? b = some o → ((h2.update s.heap.objs.size (Obj.mapSeq (·.push Value.none))).update s.heap.objs.size (Obj.mapSeq (·.pop))).get? b = some o :=
    fun b o hb e => (Heap.get?_update_other _ _ (Ne.symm hb)).trans ((Heap.get?_update_other _ _ (Ne.symm hb)).trans e)
  have hSf : s.heap.objs.size ∉ [I, S, P] := fun hm => by
    rcases hin _ hm with e | e
    · exact hne e
    · rw [Heap.size_push] at e
      exact absurd e (Nat.not_succ_le_self _)
  have hlen : its.length < scanBound := by
    rw [hperm.length_eq, List.length_map, Array.length_toList]
    exact T.sz
  refine wpAny_pure ⟨plainId_quiet PySem.F.plain_extend_loop _, codeAny_extend_loopS W.toS (fits_of_scanBound hlen) _ hSf _ its.length 0 _ _ _ rfl (Nat.zero_le _)
    (W.frame 0 _ _ st0 fun b hb o e => oth b o (fun h => hSf (h ▸ hb)) e) hL4 (ItemsOf.nil _) fun s' acc' c' hm hS' hacc => ?_⟩
  show wpAny _ A (load s.heap.objs.size >>= _) _ _ s'
  refine wpAny_bind (wpAny_load hS' ?_)
  have eA : acc'.toList = its := items_eq hacc fun i v h => h
  obtain ⟨ss, hss, hpk⟩ := strVals T hperm
  obtain ⟨h', g', d', tk', os'⟩ := s'
  have eg : g' = s.gens := hm.gens
  have ed : d' = d := hm.drawn
  have eo : os' = s.os := hm.os
  subst eg; subst ed; subst eo
  refine wpAny_pure ?_
  show Q acc'.toList { s with heap := h', toks := tk', drawn := d' }
  rw [eA]
  refine h its ss h' tk' d' hss hpk fun b o2 e => ?_
  have hb : b < s.heap.objs.size := Heap.lt_size e
  have hbn : b ∉ [s.heap.objs.size, I] := by
    simp only [List.mem_cons, List.not_mem_nil, or_false, not_or]
    refine ⟨Nat.ne_of_lt hb, fun e2 => ?_⟩
    rcases hin I (.head _) with e3 | e3
    · exact hIS e3
    · rw [Heap.size_push] at e3
      exact absurd hb (by rw [e2]; exact Nat.not_lt.mpr (Nat.le_of_succ_le e3))
  exact hm.heap b o2 hbn (oth b o2 (Nat.ne_of_lt hb) (hk2 _ _ (Heap.get?_push_of_some _ e)))
theorem sorted_set {Q : Value → Shared → Prop} (hh : A.handled = none) (ho : s.heap.get? S = some o) (hS : StrSet prog w o ks) (h64 : ks.length < 64)
    (h : ∀ D h' tk d vs' ss' e, (∀ b o, s.heap.get? b = some o → h'.get? b = some o) → h'.get? D = some (seqObj "list" vs'.toArray e) → s.heap.get? D = none → StrsAre vs' ss' → ss'.Perm ks → sortedS ss' = true →
      Q (.ref D) { s with heap := h', toks := tk, drawn := d }) : wpAny (model prog w) A (call (.builtin "sorted") [.ref S]) Q E s := by
  refine Calls.call_function_entry kind_sorted plain_sorted entry_sorted (args_sorted1 _) ?_
  unfold Builtin.«sorted»
  refine wpAny_bind (m := checkCount "sorted" 1 1 _) (wpAny_pure ?_)
  refine wpAny_bind (collect_set (by exact hh) ho hS fun vs ss h1 tk1 d1 hss hpk hk1 => ?_)
  have hl64 : vs.length < 64 := by rw [hss.len_eq, hpk.length_eq]; exact h64
  refine wpAny_bind (wpAny_newList ?_ (by rw [sizeLine_eq]; omega))
  have hoL : (h1.push (seqObj "list" vs.toArray 0)).get? h1.objs.size = some (seqObj "list" vs.toArray 0) := Heap.get?_push_size _ rfl
  refine wpAny_bind (wpAny_holding (wpAny_call_entry slot_list_sort ⟨_, hoL, rfl⟩ entry_list_sort (list_sort_treeK strKind_oneLt hoL hss.keysOf (fun v₁ v₂ rest e => keyKind_strs (by rw [← e]; exact hss)) hl64 fun st' a1 a2 => ⟨_, rfl, ?_⟩) (args_list_sort _)))
  refine wpAny_pure ⟨_, rfl, ?_⟩
  obtain ⟨ss', q1, q2, q3⟩ := sorted_out_str hss a1 a2
  have hold : ∀ b o, h1.get? b = some o → (sortedHeap (h1.push (seqObj "list" vs.toArray 0)) h1.objs.size vs ((arrOf st').map (·.2))).get? b = some o := fun b o e => by
    have hlt : b < h1.objs.size := Heap.lt_size e
    rw [sortedHeap_old (Nat.ne_of_lt hlt) (by rw [Heap.size_push]; exact Nat.lt_succ_of_lt hlt)]
    exact Heap.get?_push_of_some _ e
  obtain ⟨e9, he9⟩ := sortedHeap_at (vs := vs) (out := (arrOf st').map (·.2)) hoL
  exact h h1.objs.size _ tk1 d1 ((arrOf st').map (·.2)).toList ss' e9 (fun b o e => hold b o (hk1 b o e)) he9 (by
    cases q9 : s.heap.get? h1.objs.size with
    | none => rfl
    | some o9 => exact absurd (Heap.lt_size (hk1 _ _ q9)) (Nat.lt_irrefl _)) q1 (q2.trans hpk) q3
theorem my_set_strs {h₀ : Heap} {L l : Addr} {m : Str → Option Value} {news : Led} {vs : List Value} {xs : List Str} {k : Nat} {Q : Value → Shared → Prop} (hh : A.handled = none) (F : Fr h₀ L s.heap m) (N : News h₀ L s.heap news)
    (hm : (l, listOf vs.toArray k) ∈ news) (hS : StrsAre vs xs) (hb : vs.length + 1 < scanBound)
    (h : ∀ D o h' tk, StrSet prog w o (metK xs) → Fr h₀ L h' m → News h₀ L h' ((D, o) :: news) → (∀ p ∈ news, p.1 < D) → Q (.ref D) { s with heap := h', toks := tk }) :
    wpAny (model prog w) A (call (.type "set") [.ref l]) Q E s := by
  refine call_set_strs (items := vs.toArray) hh ⟨_, (N _ hm).1, rfl, _, rfl⟩ (by simpa using hS) (by simpa using hb) fun h' tk o ho hS' hk => ?_
  have hk' : ∀ b o, s.heap.get? b = some o → h'.get? b = some o := fun b o e => hk b o (Heap.lt_size e) e
  exact h _ o h' tk hS' (F.kept hk') (N.kept_cons F hk' (Nat.le_refl _) ho) fun p hp => Heap.lt_size (N p hp).1
theorem my_sorted_set {h₀ : Heap} {L S : Addr} {m : Str → Option Value} {news : Led} {o : Obj} {ks : List Str} {Q : Value → Shared → Prop} (hh : A.handled = none) (F : Fr h₀ L s.heap m) (N : News h₀ L s.heap news)
    (hm : (S, o) ∈ news) (hS : StrSet prog w o ks) (h64 : ks.length < 64)
    (h : ∀ D h' tk d vs' ss' e, Fr h₀ L h' m → News h₀ L h' ((D, listOf vs'.toArray e) :: news) → (∀ p ∈ news, p.1 ≠ D) → StrsAre vs' ss' → ss'.Perm ks → sortedS ss' = true → Q (.ref D) { s with heap := h', toks := tk, drawn := d }) :
    wpAny (model prog w) A (call (.builtin "sorted") [.ref S]) Q E s := by
  refine sorted_set hh (N _ hm).1 hS h64 fun D h' tk d vs' ss' e hk hD hn a1 a2 a3 => ?_
  refine h D h' tk d vs' ss' e (F.kept hk) (fun p hp => ?_) (fun p hp e9 => ?_) a1 a2 a3
  · rcases List.mem_cons.mp hp with rfl | hp
    · refine ⟨hD, fun e9 => ?_, ?_⟩
      · obtain ⟨oL, _, _, hL, _⟩ := F.ns
        have e10 : D = L := e9
        rw [e10, hL] at hn; cases hn
      · cases q : h₀.get? D with
        | none => rfl
        | some o9 => rw [F.keep _ _ q] at hn; cases hn
    · exact ⟨hk _ _ (N p hp).1, (N p hp).2⟩
  · have := (N p hp).1
    rw [e9, hn] at this; cases this
end
end Mine

-- part N1
namespace Mine
set_option maxRecDepth 100000
set_option maxHeartbeats 8000000
set_option pp.deepTerms false
set_option pp.deepTerms.threshold 4
set_option pp.maxSteps 100000


theorem pow_lit {prog : Program} {w : World} {A : Around} {E Q : Value → Shared → Prop} {s : Shared} {k z : Int} {t u : Tok} (e : (2 : Int) ^ k.toNat = z) (h0 : 0 ≤ k) (h1 : k ≤ 1000000) (h : Q (.int z s.toks) { s with toks := s.toks + 1 }) :
    wpAny (model prog w) A (binaryOp .Pow (.int 2 t) (.int k u)) Q E s := pow_int_small h0 h1 (by decide) (by rw [e]; exact h)
theorem mul_lit {prog : Program} {w : World} {A : Around} {E Q : Value → Shared → Prop} {s : Shared} {x y z : Int} {t u : Tok} (e : x * y = z) (h0 : 0 ≤ x) (h1 : x ≤ 256) (h : Q (.int z s.toks) { s with toks := s.toks + 1 }) :
    wpAny (model prog w) A (binaryOp .Mult (.int x t) (.int y u)) Q E s := mul_int (by rw [e]; exact h) (IntMulOk.of_left (intBits_le_64 (by omega) (by omega)))
theorem news_skip1 {h₀ h : Heap} {L : Addr} {a b : Addr × Obj} {r : Led} (N : News h₀ L h (a :: b :: r)) : News h₀ L h (a :: r) := news_sub N fun p hp => (List.mem_cons.mp hp).elim (fun e => e ▸ .head _) fun h => .tail _ (.tail _ h)
theorem news_skip2 {h₀ h : Heap} {L : Addr} {a b c : Addr × Obj} {r : Led} (N : News h₀ L h (a :: b :: c :: r)) : News h₀ L h (a :: r) := news_skip1 (news_skip1 N)
theorem news_skip3 {h₀ h : Heap} {L : Addr} {a b c d : Addr × Obj} {r : Led} (N : News h₀ L h (a :: b :: c :: d :: r)) : News h₀ L h (a :: r) := news_skip1 (news_skip2 N)
theorem news_tail {h₀ h : Heap} {L : Addr} {a : Addr × Obj} {r : Led} (N : News h₀ L h (a :: r)) : News h₀ L h r := news_sub N fun p hp => .tail _ hp
def Src (o : Obj) : Prop := ∃ aa bb ta tb n, o = listOf #[.int aa ta, .int bb tb] n ∧ 0 ≤ aa ∧ 0 ≤ bb ∧ bb < 2147483647
theorem Src.mk {aa bb : Int} {ta tb : Tok} {n : Nat} (ha : 0 ≤ aa) (hb : 0 ≤ bb) (hb' : bb < 2147483647) : Src (listOf #[.int aa ta, .int bb tb] n) := ⟨aa, bb, ta, tb, n, rfl, ha, hb, hb'⟩
section
variable {prog : Program} {w : World} {p : Program} {loose : List Str} {mean : ExcName → Option Value} {mg mb : Str → Option Value}
    {dp un : Nat} {gd : Option (List Code)} {cn : Str} {cs : Scope} {a : Addr} {ccd : Value} {cl : List (Str × Addr)} {outer : List Env} {A₀ : Around} {base h₀ : Heap} {L : Addr} {m : Str → Option Value} {news : List (Addr × Obj)} {s : Shared} {Q E : Value → Shared → Prop}

theorem take_S {src : Addr} {os : Obj} {top : Int} {tt : Tok} {g : Obj → List (Addr × Obj)}
    (B : Below A₀ base outer h₀) (F : Fr h₀ L s.heap m) (X : (KK w.params).In h₀) (N : News h₀ L s.heap (news)) (T : Top p loose mean mg mb h₀) (hk : cs.kind = .function) (U : UpdF src os news g) (hS : Src os) (ht : 0 < top) (ht' : top ≤ 4294967296) (hdp : dp + 10 < recursionLimit) (hun : un + 200 < cLine)
    (hret : ∀ (v : Int) (tv : Tok) os' h' tk', 0 ≤ v → v < top → Src os' → Fr h₀ L h' m → News h₀ L h' (g os') → Q (.int v tv) { s with heap := h', toks := tk' }) :
    wpAny (model prog w) (ktrTop dp un gd cn cs L a ccd cl outer) (call (.ref 262) [.ref src, .int top tt]) Q E s := by
  obtain ⟨aa, bb, ta, tb, n, rfl, ha, hb, hb'⟩ := hS
  exact take_specU B F X N T hk U ha hb hb' ht ht' hdp hun fun v aa' bb' tv ta' tb' n' h' tk' e1 e2 e3 e4 e5 F' N' => hret v tv _ h' tk' e1 e2 (Src.mk e3 e4 e5) F' N'
theorem one_S {src tl : Addr} {os : Obj} {k : Nat} {vs : List Value} {ns : List Int} {g : Obj → List (Addr × Obj)}
    (B : Below A₀ base outer h₀) (F : Fr h₀ L s.heap m) (X : (KK w.params).In h₀) (N : News h₀ L s.heap (news)) (T : Top p loose mean mg mb h₀) (hk : cs.kind = .function) (U : UpdF src os news g) (hS : Src os) (hm : (tl, listOf vs.toArray k) ∈ news) (hi : IntsAre vs ns) (hne : @Ne Nat tl src) (hl : 0 < ns.length) (hl' : ns.length < 100)
    (hdp : dp + 20 < recursionLimit) (hun : un + 400 < cLine)
    (hret : ∀ (v : Int) (tv : Tok) os' h' tk', v ∈ ns → Src os' → Fr h₀ L h' m → News h₀ L h' (g os') → Q (.int v tv) { s with heap := h', toks := tk' }) :
    wpAny (model prog w) (ktrTop dp un gd cn cs L a ccd cl outer) (call (.ref 269) [.ref src, .ref tl]) Q E s := by
  obtain ⟨aa, bb, ta, tb, n, rfl, ha, hb, hb'⟩ := hS
  obtain ⟨rest, N1, hs, hsub, hg⟩ := updF_head U N
  have hm' : (tl, listOf vs.toArray k) ∈ rest := (List.mem_cons.mp (hsub _ hm)).elim (fun e => absurd (congrArg Prod.fst e) hne) id
  exact one_spec B F X N1 T hk hs hm' hi hl hl' ha hb hb' hdp hun fun v aa' bb' tv ta' tb' n' h' tk' e1 e3 e4 e5 F' N' => hret v tv _ h' tk' e1 (Src.mk e3 e4 e5) F' (hg _ _ N')
end
def NetOk (k : Nat) (net : Int) : Prop := k ≤ 12 ∧ 0 ≤ net ∧ net ≤ 4294967295 ∧ net - net % 2 ^ (32 - (k : Int)).toNat = net
theorem net_ok {k : Nat} {v : Int} (hk : k ≤ 12) (h0 : 0 ≤ v) (h1 : v ≤ 4294967295) : NetOk k (v - v.fmod (2 ^ (32 - (k : Int)).toNat)) := by
  unfold NetOk
  have hM : (0 : Int) < 2 ^ (32 - (k : Int)).toNat := pow_pos_int _
  rw [Int.fmod_eq_emod_of_nonneg _ (Int.le_of_lt hM)]
  generalize (2 : Int) ^ (32 - (k : Int)).toNat = M at hM ⊢
  have a1 := Int.emod_nonneg v (Int.ne_of_gt hM)
  have a2 : v % M ≤ v := by
    have := Int.mul_ediv_add_emod v M
    have h2 : 0 ≤ M * (v / M) := Int.mul_nonneg (Int.le_of_lt hM) (Int.ediv_nonneg h0 (Int.le_of_lt hM))
    omega
  refine ⟨hk, by omega, by omega, ?_⟩
  have e : v - v % M = M * (v / M) := by have := Int.mul_ediv_add_emod v M; omega
  rw [e, Int.mul_emod_right, Int.sub_zero]
section

variable {prog : Program} {w : World} {p : Program} {loose : List Str} {mean : ExcName → Option Value} {mg mb : Str → Option Value}
    {dp un : Nat} {gd : Option (List Code)} {cn : Str} {cs : Scope} {a : Addr} {ccd : Value} {cl : List (Str × Addr)} {outer : List Env} {A₀ : Around} {base h₀ : Heap} {L : Addr} {m : Str → Option Value} {news : List (Addr × Obj)} {s : Shared} {Q E : Value → Shared → Prop}

theorem zsetN11 : True := by
  k_with_none
  k_with "z_ch" => first | with_reducible assumption | (refine' And.right ?_; rotate_left; first | with_reducible assumption | (refine' And.right ?_; rotate_left; first | with_reducible assumption | (refine' And.right ?_; rotate_left; first | with_reducible assumption | (refine' And.right ?_; rotate_left; first | with_reducible assumption | (refine' And.right ?_; rotate_left; first | with_reducible assumption | (refine' And.right ?_; rotate_left; first | with_reducible assumption | (refine' And.right ?_; rotate_left; with_reducible assumption)))))))
  k_with "z_lt" => first | with_reducible assumption | (refine' And.left ?_; rotate_left; k_extra "z_ch") | (refine' And.right ?_; rotate_left; k_extra "z_ch")
  k_with "k_ne" => (refine neN ?_; (try dsimp only); first | (refine' Nat.ne_of_gt ?_; k_extra "z_lt") | (refine' Nat.ne_of_lt ?_; k_extra "z_lt") | (refine' Nat.ne_of_gt (Nat.lt_trans ?_ (by with_reducible assumption)); k_extra "z_lt") | (refine' Nat.ne_of_lt (Nat.lt_trans ?_ (by with_reducible assumption)); k_extra "z_lt"))
  k_with "zfold" => ((fail_if_success (fail_if_success k_fold)); refine zfold_q ?_; intro qk)
  k_with "k_env" => (refine zfold_env (f := fun en9 => execs _ en9) ?_; intro en9; refine zfold_A ?_; intro ak9; (rename Fr _ _ _ _ => fr9); refine zfold_F fr9 ?_; clear fr9; intro fm9 fr9; try (refine zgen_t ?_; intro tk9))
  k_with "ktr_room" => first | exact fits (c := 1) hdp rfl rfl | exact fits0 (c := 1) hdp rfl rfl | exact fits (c := 2) hdp rfl rfl | exact fits0 (c := 2) hdp rfl rfl | exact fits (c := 0) hdp rfl rfl | exact fits0 (c := 0) hdp rfl rfl | exact fits (c := 3) hdp rfl rfl | exact fits0 (c := 3) hdp rfl rfl | exact Nat.le_of_ble_eq_true rfl
  k_with "ktr_units" => first | exact fits (c := 3) hun rfl rfl | exact fits0 (c := 3) hun rfl rfl | exact fits (c := 6) hun rfl rfl | exact fits0 (c := 6) hun rfl rfl | exact fits (c := 0) hun rfl rfl | exact fits0 (c := 0) hun rfl rfl | exact fits (c := 9) hun rfl rfl | exact fits0 (c := 9) hun rfl rfl | exact Nat.le_of_ble_eq_true rfl
  k_with "k_steps" => repeat' (first | (k_unfold; (try dsimp only); (try clear qk)) | (k_end; wrow_close) | walk1 | (dsimp only; walk1) | (leave1; try dsimp only) | fail "no step")
  k_with "execs cons" => (k_extra "zfold"; walk1)
  k_with "exec If" => (k_extra "zfold"; walk1)
  k_with "exec Assign" => (k_extra "zfold"; walk1)
  k_with "exec Expr" => (k_extra "zfold"; walk1)
  k_with "exec Return" => (k_extra "zfold"; walk1)
  k_with "isTrue" => (k_extra "zfold"; walk1)
  k_with "eval BinOp" => (k_extra "zfold"; walk1)
  k_with "eval BoolOp" => (k_extra "zfold"; walk1)
  k_with "eval UnaryOp" => (k_extra "zfold"; walk1)
  k_with "eval Call" => (k_extra "zfold"; walk1)
  k_with "eval Compare" => (k_extra "zfold"; walk1)
  k_with "eval Subscript" => (k_extra "zfold"; walk1)
  k_with "eval Attribute" => (k_extra "zfold"; walk1)
  k_with "eval Tuple" => (k_extra "zfold"; walk1)
  k_with "eval List nil" => (k_extra "zfold"; walk1)
  k_with "eval List cons" => (k_extra "zfold"; walk1)
  k_with "k_all" => assumption
  k_with "k_mem" => first | assumption | exact List.Mem.head _
  k_with "k_room" => ktr_room
  k_with "binaryOp Pow int int" => (with_reducible refine pow_int_small ?zqkb1 ?zqkb2 ?zqkb3 ?_; (case zqkb1 => omega); (case zqkb2 => omega); (case zqkb3 => decide))
  k_with "binaryOp Pow int int" => (with_reducible refine pow_lit (k := 24) (z := 16777216) (by decide +kernel) (by decide) (by decide) ?_)
  k_with "binaryOp Pow int int" => (with_reducible refine pow_lit (k := 28) (z := 268435456) (by decide +kernel) (by decide) (by decide) ?_)
  k_with "binaryOp Pow int int" => (with_reducible refine pow_lit (k := 31) (z := 2147483648) (by decide +kernel) (by decide) (by decide) ?_)
  k_with "binaryOp Pow int int" => (with_reducible refine pow_lit (k := 32) (z := 4294967296) (by decide +kernel) (by decide) (by decide) ?_)
  k_with "binaryOp Mult int int" => (with_reducible refine mul_lit (x := 127) (y := 16777216) (z := 2130706432) (by decide) (by decide) (by decide) ?_)
  k_with "binaryOp Mult int int" => (with_reducible refine mul_lit (x := 128) (y := 16777216) (z := 2147483648) (by decide) (by decide) (by decide) ?_)
  k_with "binaryOp Mult int int" => (with_reducible refine mul_lit (x := 160) (y := 16777216) (z := 2684354560) (by decide) (by decide) (by decide) ?_)
  k_with "binaryOp Mult int int" => (with_reducible refine mul_lit (x := 163) (y := 16777216) (z := 2734686208) (by decide) (by decide) (by decide) ?_)
  k_with "binaryOp Mult int int" => (with_reducible refine mul_lit (x := 224) (y := 16777216) (z := 3758096384) (by decide) (by decide) (by decide) ?_)
  k_with "call ref" => (k_here; (with_reducible show wpAny _ _ (call (Value.ref 269) _) _ _ _); refine Hold.mk ?_)
  exact trivial
theorem net_draw {src : Addr} {os : Obj}
    (B : Below A₀ base outer h₀) (F : Fr h₀ L s.heap m) (X : (KK w.params).In h₀) (N : News h₀ L s.heap ((src, os) :: news)) (T : Top p loose mean mg mb h₀) (hk : cs.kind = .function) (hS : Src os) (hs : ∀ p ∈ news, p.1 ≠ src) (hdp : dp + 30 < recursionLimit) (hun : un + 600 < cLine)
    (hret : ∀ (k : Nat) (net : Int) (t0 t1 : Tok) D os' h' tk', NetOk k net → Src os' → Fr h₀ L h' m → News h₀ L h' ((D, tupO [.int (k : Int) t0, .int net t1]) :: (src, os') :: news) → @LT.lt Nat _ src D → (∀ p ∈ news, p.1 < D) → Q (.ref D) { s with heap := h', toks := tk' }) :
    wpAny (model prog w) (ktrTop dp un gd cn cs L a ccd cl outer) (call (.ref 288) [.ref src]) Q E s := by
  (refine wpAny_call ?_; k_dflt ktr_enter; try (w_strict (k_extra "k_env")))
  k_steps
  (unfold Hold; w_strict (k_dflt (refine' one_S (ns := [0, 1, 2, 3, 3, 5, 8, 12]) ?k1 ?k2 ?k3 ?k4 ?k5 ?kK ?u0 ?u1 ?u2 ?u3 ?u4 ?u5 ?u6 ?kd ?ku ?_; (case k1 => k_asm); (case k2 => k_asm); (case k3 => k_asm); (case k4 => k_asm); (case k5 => k_asm); (case kK => first | exact rfl | assumption); (case u0 => k_updF); (case u1 => assumption); (case u2 => k_mem); (case u3 => (repeat (first | exact .nil | refine .cons _ _ ?_))); (case u4 => omega); (case u5 => decide); (case u6 => decide); (case kd => ktr_room); (case ku => ktr_units))); intro v tv os1 h1 tk1 hv hS1 F1 N1; (try dsimp only); (try k_sweep); (try (k_extra "zfold")))
  obtain ⟨k, rfl, hk12⟩ : ∃ k : Nat, v = (k : Int) ∧ k ≤ 12 := by
    simp only [List.mem_cons, List.not_mem_nil, or_false] at hv
    exact ⟨v.toNat, by omega, by omega⟩
  clear hv
  k_steps
  (unfold Hold; w_strict (k_dflt (refine' one_S (ns := [0, 2147483648, 2684354560, 2734686208, 4294967295]) ?k1 ?k2 ?k3 ?k4 ?k5 ?kK ?u0 ?u1 ?u2 ?u3 ?u4 ?u5 ?u6 ?kd ?ku ?_; (case k1 => k_asm); (case k2 => k_asm); (case k3 => k_asm); (case k4 => k_asm); (case k5 => k_asm); (case kK => first | exact rfl | assumption); (case u0 => k_updF); (case u1 => assumption); (case u2 => k_mem); (case u3 => (repeat (first | exact .nil | refine .cons _ _ ?_))); (case u4 => omega); (case u5 => decide); (case u6 => decide); (case kd => ktr_room); (case ku => ktr_units))); intro v tv os2 h2 tk2 hv hS2 F2 N2; (try dsimp only); (try k_sweep); (try (k_extra "zfold")))
  have hv0 : 0 ≤ v ∧ v ≤ 4294967295 := by
    simp only [List.mem_cons, List.not_mem_nil, or_false] at hv
    omega
  obtain ⟨hv0, hv1⟩ := hv0
  clear hv
  k_steps
  rename _ ∧ _ ∧ _ ∧ AllLt _ _ => hL
  rename News h₀ _ _ _ => kN
  rename Fr h₀ _ _ _ => kF
  refine hret k _ _ _ _ _ _ _ (net_ok hk12 hv0 hv1) hS2 kF (news_skip2 kN) hL.2.2.1 (tb_ltOf hL.2.2.2)
end
section
variable {prog : Program} {w : World} {p : Program} {loose : List Str} {mean : ExcName → Option Value} {mg mb : Str → Option Value}
    {dp un : Nat} {gd : Option (List Code)} {cn : Str} {cs : Scope} {a : Addr} {ccd : Value} {cl : List (Str × Addr)} {outer : List Env} {A₀ : Around} {base h₀ : Heap} {L : Addr} {m : Str → Option Value} {news : List (Addr × Obj)} {s : Shared} {Q E : Value → Shared → Prop}

theorem net_drawU {src : Addr} {os : Obj} {g : Obj → List (Addr × Obj)}
    (B : Below A₀ base outer h₀) (F : Fr h₀ L s.heap m) (X : (KK w.params).In h₀) (N : News h₀ L s.heap (news)) (T : Top p loose mean mg mb h₀) (hk : cs.kind = .function) (U : UpdF src os news g) (hS : Src os) (hdp : dp + 30 < recursionLimit) (hun : un + 600 < cLine)
    (hret : ∀ (k : Nat) (net : Int) (t0 t1 : Tok) D os' h' tk', NetOk k net → Src os' → Fr h₀ L h' m → News h₀ L h' ((D, tupO [.int (k : Int) t0, .int net t1]) :: g os') → (∀ p ∈ news, p.1 < D) → Q (.ref D) { s with heap := h', toks := tk' }) :
    wpAny (model prog w) (ktrTop dp un gd cn cs L a ccd cl outer) (call (.ref 288) [.ref src]) Q E s := by
  obtain ⟨rest, N1, hs, hsub, hg⟩ := updF_head U N
  refine net_draw B F X N1 T hk hS hs hdp hun fun k net t0 t1 D os' h' tk' h1 h2 F' N' hltS hlt => hret k net t0 t1 D os' h' tk' h1 h2 F' (fun p hp => ?_) fun p hp => ?_
  · rcases List.mem_cons.mp hp with rfl | hp
    · exact N' _ (.head _)
    · exact hg _ os' (news_tail N') p hp
  · rcases List.mem_cons.mp (hsub p hp) with e | h
    · rw [e]; exact hltS
    · exact hlt p h
end
end Mine

-- part E2
namespace Mine
set_option maxRecDepth 100000
set_option maxHeartbeats 8000000
set_option pp.deepTerms false
set_option pp.deepTerms.threshold 4
set_option pp.maxSteps 100000


structure Row where
  net : Int
  k : Nat
  gw : Int
  face : Int
deriving DecidableEq
abbrev rowO (t0 t1 t2 t3 : Tok) (row : Row) : Obj := tupO [.int row.net t0, .int (row.k : Int) t1, .int row.gw t2, .int row.face t3]
def RowAt (W : Led) (v : Value) (row : Row) : Prop := ∃ a t0 t1 t2 t3, v = .ref a ∧ (a, rowO t0 t1 t2 t3 row) ∈ W
def RowsAre (W : Led) (vs : List Value) (rows : List Row) : Prop := vs.length = rows.length ∧ ∀ (i : Nat) (v : Value) (row : Row), vs[i]? = some v → rows[i]? = some row → RowAt W v row
def prefs (row : Row) : List Str := (List.range (row.k + 1)).map fun j => txt (bitsOf row.net j)
theorem prefs_len (row : Row) : (prefs row).length = row.k + 1 := by unfold prefs; simp
theorem prefs_get {row : Row} {j : Nat} {z : Str} (h : (prefs row)[j]? = some z) : j ≤ row.k ∧ z = txt (bitsOf row.net j) := by
  unfold prefs at h
  rw [List.getElem?_map] at h
  by_cases e : j < row.k + 1
  · rw [List.getElem?_range e] at h
    exact ⟨by omega, (Option.some.inj h).symm⟩
  · rw [List.getElem?_eq_none (by simp; omega)] at h; cases h
def prefsAt (rows : List Row) (i : Nat) : List Str := match rows[i]? with | some row => prefs row | none => []
theorem upTo_prefs : ∀ (rows : List Row) (n : Nat), upTo (prefsAt rows) n = (rows.take n).flatMap prefs := by
  intro rows n
  induction n with
  | zero => rfl
  | succ n ih =>
    rw [upTo_succ, ih, List.take_add_one, List.flatMap_append]
    congr 1
    unfold prefsAt
    cases rows[n]? <;> simp
theorem flat_len {rows : List Row} (h : ∀ row ∈ rows, row.k ≤ 12) : (rows.flatMap prefs).length ≤ rows.length * 13 := by
  induction rows with
  | nil => simp
  | cons a r ih =>
    rw [List.flatMap_cons, List.length_append, prefs_len, List.length_cons, Nat.succ_mul]
    have := ih fun x hx => h x (.tail _ hx)
    have := h a (.head _)
    omega
theorem nodup_leS {α : Type} [DecidableEq α] : ∀ {l ds : List α}, l.Nodup → (∀ q ∈ l, q ∈ ds) → l.length ≤ ds.length
  | [], _, _, _ => Nat.zero_le _
  | q :: l, ds, hn, h => by
    have hn' := List.nodup_cons.mp hn
    have hq := h q (.head _)
    have := nodup_leS (l := l) (ds := ds.erase q) hn'.2 fun a ha => (List.mem_erase_of_ne (fun (e : a = q) => hn'.1 (by rw [← e]; exact ha))).mpr (h a (.tail _ ha))
    rw [List.length_erase_of_mem hq] at this
    have := List.length_pos_of_mem hq
    simp only [List.length_cons]
    omega
def ownPrefs (rows : List Row) : List Path := [] :: rows.flatMap fun row => (List.range row.k).map fun j => bitsOf row.net (j + 1)
theorem ownPrefs_len : ∀ {rows : List Row}, (∀ row ∈ rows, row.k ≤ 12) → (ownPrefs rows).length ≤ 1 + rows.length * 12
  | [], _ => by simp [ownPrefs]
  | a :: r, h => by
    have ih := ownPrefs_len (rows := r) fun x hx => h x (.tail _ hx)
    have h1 := h a (.head _)
    unfold ownPrefs at ih ⊢
    simp only [List.length_cons, List.flatMap_cons, List.length_append, List.length_map, List.length_range] at ih ⊢
    omega
theorem mem_prefs {row : Row} {z : Str} : z ∈ prefs row ↔ ∃ j, j ≤ row.k ∧ z = txt (bitsOf row.net j) := by
  unfold prefs
  rw [List.mem_map]
  constructor
  · rintro ⟨j, hj, e⟩
    exact ⟨j, by have := List.mem_range.mp hj; omega, e.symm⟩
  · rintro ⟨j, hj, e⟩
    exact ⟨j, List.mem_range.mpr (by omega), e.symm⟩
theorem metK_small {rows : List Row} (h : ∀ row ∈ rows, row.k ≤ 12) (hl : rows.length ≤ 5) : (metK (txt [] :: rows.flatMap prefs)).length < 64 := by
  have := nodup_leS (l := metK (txt [] :: rows.flatMap prefs)) (ds := (ownPrefs rows).map txt) (metK_nodup _) fun z hz => by
    rw [metK_mem] at hz
    rcases List.mem_cons.mp hz with rfl | hz
    · exact List.mem_map.mpr ⟨[], .head _, rfl⟩
    · obtain ⟨row, hr, hz⟩ := List.mem_flatMap.mp hz
      obtain ⟨j, hj, rfl⟩ := mem_prefs.mp hz
      refine List.mem_map.mpr ⟨bitsOf row.net j, ?_, rfl⟩
      cases j with
      | zero => exact .head _
      | succ j => exact .tail _ (List.mem_flatMap.mpr ⟨row, hr, List.mem_map.mpr ⟨j, List.mem_range.mpr (by omega), rfl⟩⟩)
  rw [List.length_map] at this
  have := ownPrefs_len h
  omega
section
open PyProof.Rows.LCg PyProof.Rows.LCt
variable {prog : Program} {w : World} {p : Program} {loose : List Str} {mean : ExcName → Option Value} {mg mb : Str → Option Value}
    {dp un : Nat} {gd : Option (List Code)} {cn : Str} {cs : Scope} {a : Addr} {ccd : Value} {cl : List (Str × Addr)} {outer : List Env} {A₀ : Around} {base h₀ : Heap} {L : Addr} {m : Str → Option Value} {news : List (Addr × Obj)} {s : Shared} {Q E : Value → Shared → Prop}

theorem zsetE21 : True := by
  k_with_none
  k_with "z_ch" => first | with_reducible assumption | (refine' And.right ?_; rotate_left; first | with_reducible assumption | (refine' And.right ?_; rotate_left; first | with_reducible assumption | (refine' And.right ?_; rotate_left; first | with_reducible assumption | (refine' And.right ?_; rotate_left; first | with_reducible assumption | (refine' And.right ?_; rotate_left; first | with_reducible assumption | (refine' And.right ?_; rotate_left; first | with_reducible assumption | (refine' And.right ?_; rotate_left; with_reducible assumption)))))))
  k_with "z_lt" => first | with_reducible assumption | (refine' And.left ?_; rotate_left; k_extra "z_ch") | (refine' And.right ?_; rotate_left; k_extra "z_ch")
  k_with "k_ne" => (refine neN ?_; (try dsimp only); first | (refine' Nat.ne_of_gt ?_; k_extra "z_lt") | (refine' Nat.ne_of_lt ?_; k_extra "z_lt") | (refine' Nat.ne_of_gt (Nat.lt_trans ?_ (by with_reducible assumption)); k_extra "z_lt") | (refine' Nat.ne_of_lt (Nat.lt_trans ?_ (by with_reducible assumption)); k_extra "z_lt"))
  k_with "zfold" => ((fail_if_success (fail_if_success k_fold)); refine zfold_q ?_; intro qk)
  k_with "k_env" => (refine zfold_env (f := fun en9 => execs _ en9) ?_; intro en9; refine zfold_A ?_; intro ak9; (rename Fr _ _ _ _ => fr9); refine zfold_F fr9 ?_; clear fr9; intro fm9 fr9; try (refine zgen_t ?_; intro tk9))
  k_with "ktr_room" => first | exact fits (c := 1) hdp rfl rfl | exact fits0 (c := 1) hdp rfl rfl | exact fits (c := 2) hdp rfl rfl | exact fits0 (c := 2) hdp rfl rfl | exact fits (c := 0) hdp rfl rfl | exact fits0 (c := 0) hdp rfl rfl | exact fits (c := 3) hdp rfl rfl | exact fits0 (c := 3) hdp rfl rfl | exact Nat.le_of_ble_eq_true rfl
  k_with "ktr_units" => first | exact fits (c := 3) hun rfl rfl | exact fits0 (c := 3) hun rfl rfl | exact fits (c := 6) hun rfl rfl | exact fits0 (c := 6) hun rfl rfl | exact fits (c := 0) hun rfl rfl | exact fits0 (c := 0) hun rfl rfl | exact fits (c := 9) hun rfl rfl | exact fits0 (c := 9) hun rfl rfl | exact Nat.le_of_ble_eq_true rfl
  k_with "k_steps" => repeat' (first | (k_unfold; (try dsimp only); (try clear qk)) | (k_end; wrow_close) | walk1 | (dsimp only; walk1) | (leave1; try dsimp only) | fail "no step")
  k_with "execs cons" => (k_extra "zfold"; walk1)
  k_with "exec If" => (k_extra "zfold"; walk1)
  k_with "exec Assign" => (k_extra "zfold"; walk1)
  k_with "exec Expr" => (k_extra "zfold"; walk1)
  k_with "exec Return" => (k_extra "zfold"; walk1)
  k_with "isTrue" => (k_extra "zfold"; walk1)
  k_with "eval BinOp" => (k_extra "zfold"; walk1)
  k_with "eval BoolOp" => (k_extra "zfold"; walk1)
  k_with "eval UnaryOp" => (k_extra "zfold"; walk1)
  k_with "eval Call" => (k_extra "zfold"; walk1)
  k_with "eval Compare" => (k_extra "zfold"; walk1)
  k_with "eval Subscript" => (k_extra "zfold"; walk1)
  k_with "eval Attribute" => (k_extra "zfold"; walk1)
  k_with "eval Tuple" => (k_extra "zfold"; walk1)
  k_with "eval List nil" => (k_extra "zfold"; walk1)
  k_with "eval List cons" => (k_extra "zfold"; walk1)
  k_with "k_room" => ktr_room
  k_with "CompSrc" => (refine Hold.mk ?_)
  k_with "CEnd" => (refine Hold.mk ?_)
  k_with "k_mem" => first | assumption | (with_reducible refine mem_appL ?_; assumption) | (with_reducible refine mem_appR ?_; assumption)
  k_with "eval ListComp" => (k_here; k_dflt (refine ListComp_2 (F₀ := by k_asm) (by with_unfolding_all rfl) (by decide) (by rfl) (by decide) (by rfl) (by rfl) (by decide) ?_))
  k_with "Src2" => (refine Hold.mk ?_)
  k_with "RngEnd" => (refine Hold.mk ?_)
  k_with "TxtEnd" => (refine Hold.mk ?_)
  k_with "binaryOp Add ref ref" => (k_here; (with_reducible show wpAny _ _ (binaryOp _ (Value.ref _) (Value.ref _)) _ _ _); k_dflt (refine' my_cat ?zqF ?zqN ?zqa ?zqb ?zqz ?_; (case zqF => k_asm); (case zqN => k_asm); (case zqa => exact .tail _ (.head _)); (case zqb => exact .head _); (case zqz => first | assumption | (apply_assumption)); k_whole); intro _ _ _ _ l1; (try k_lt l1); (try k_sweep))
  k_with "call type:set" => (refine Hold.mk ?_)
  k_with "call builtin:sorted" => (refine Hold.mk ?_)
  k_with "call ref" => (k_here; k_dflt (refine' bits_spec ?zqk1 ?zqk2 ?zqk3 ?zqk4 ?zqk5 ?zqkK  ?zqkd ?zqku ?_; (case zqk1 => k_asm); (case zqk2 => k_asm); (case zqk3 => k_asm); (case zqk4 => k_asm); (case zqk5 => k_asm); (case zqkK => first | exact rfl | assumption);  (case zqkd => ktr_room); (case zqku => ktr_units); k_whole; intro _ _ _ _ _; (try dsimp only); (try k_sweep); (try (k_extra "zfold"))))
  exact trivial
theorem due_spec {rl : Addr} {vs : List Value} {n : Nat} {rows : List Row}
    (B : Below A₀ base outer h₀) (F : Fr h₀ L s.heap m) (X : (KK w.params).In h₀) (N : News h₀ L s.heap (news)) (T : Top p loose mean mg mb h₀) (hk : cs.kind = .function) (hl : (rl, listOf vs.toArray n) ∈ news) (hR : RowsAre news vs rows) (hlen : rows.length ≤ 5) (hk12 : ∀ row ∈ rows, row.k ≤ 12)
    (hdp : dp + 40 < recursionLimit) (hun : un + 800 < cLine)
    (hret : ∀ D vs' ss' e h' tk d, Fr h₀ L h' m → News h₀ L h' ((D, listOf vs'.toArray e) :: news) → (∀ p ∈ news, p.1 ≠ D) → StrsAre vs' ss' → ss'.Perm (metK (txt [] :: rows.flatMap prefs)) → sortedS ss' = true → Q (.ref D) { s with heap := h', toks := tk, drawn := d }) :
    wpAny (model prog w) (ktrTop dp un gd cn cs L a ccd cl outer) (call (.ref 300) [.ref rl]) Q E s := by
  (refine wpAny_call ?_; k_dflt ktr_enter; try (w_strict (k_extra "k_env")))
  k_steps
  rename News _ _ _ _ => N1
  rename Fr _ _ _ _ => F1
  unfold Hold
  try dsimp only
  have hvl : vs.length = rows.length := hR.1
  refine comp_list (J := fun i ys nx => nx = news ∧ StrsAre ys ((rows.take i).map fun row => txt (bitsOf row.net row.k))) rfl F1 N1 hl (by omega) ⟨rfl, .nil⟩ ?_ ?_ ?_
  · rintro i ys nx ⟨rfl, _⟩; exact hl
  · rintro i v ys nx I oI C oC D m2 h2 tk2 E2 hi hv hJ9 hC hx F2 N2 o1 o2 o3 q1 q2 q3
    try (k_extra "zfold")
    obtain ⟨rfl, hS⟩ := hJ9
    clear F1 N1
    have hi' : i < rows.length := by omega
    have hkk : rows[i].k ≤ 12 := hk12 _ (List.getElem_mem hi')
    obtain ⟨ra, t0, t1, t2, t3, rfl, hra⟩ := hR.2 i v rows[i] hv (List.getElem?_eq_getElem hi')
    k_steps
    unfold Hold
    refine cend_mk (by k_asm) (by k_asm) o1 o2 o3 ⟨rfl, ?_⟩
    rw [List.take_add_one, List.getElem?_eq_getElem hi', List.map_append]
    rw [slice_txt _ _ (by rw [bitsOf_length]; omega), bitsOf_take _ (by omega)]
    exact strs_snoc hS
  · rintro g9 ys nx ⟨rfl, hS⟩
    clear F1 N1
    rw [hvl, List.take_length] at hS
    k_steps
    rename News _ _ _ _ => N3
    rename Fr _ _ _ _ => F3
    unfold Hold
    have hyl : ys.length = rows.length := by rw [hS.len_eq, List.length_map]
    have hbd := flat_len hk12
    refine ⟨_, ys, ys.length, _, prefsAt rows, rfl, rfl, F3, N3, .tail _ (.head _), ?_, ?_, ?_, ?_⟩
    · rw [hyl, upTo_prefs, List.take_length]; omega
    · intro i v I oI C oC D ys2 m2 h2 tk2 E2 hv hC hx F4 N4
      clear F3 N3
      obtain ⟨tx, tt, rfl, hi2⟩ := hS.item i v hv
      have hi' : i < rows.length := by
        have := (List.getElem?_eq_some_iff.mp hi2).1
        simpa using this
      rw [List.getElem?_map, List.getElem?_eq_getElem hi'] at hi2
      obtain rfl : txt (bitsOf rows[i].net rows[i].k) = tx := Option.some.inj hi2
      have hkk : rows[i].k ≤ 12 := hk12 _ (List.getElem_mem hi')
      have hln : (txt (bitsOf rows[i].net rows[i].k)).length = rows[i].k := by rw [txt_length, bitsOf_length]
      have hpl : (prefsAt rows i).length = rows[i].k + 1 := by
        unfold prefsAt; rw [List.getElem?_eq_getElem hi']; exact prefs_len _
      rw [hpl]
      k_steps
      rename IsRange _ _ _ _ _ _ _ _ => hR9
      rename News _ _ _ _ => N9
      rename Fr _ _ _ _ => F9
      unfold Hold
      rw [show ((txt (bitsOf rows[i].net rows[i].k)).length : Int) + 1 = ((rows[i].k + 1 : Nat) : Int) by rw [hln]; omega] at hR9
      exact .mk _ _ _ _ _ _ hR9 (rng_small (by omega) (by omega)) rng_size F9 N9
    · intro i v I2 I oI C D j z tj o2 oC ys2 m2 h2 tk2 E2 hv hz hC hx hy F4 N4
      clear F3 N3
      obtain ⟨tx, tt, rfl, hi2⟩ := hS.item i v hv
      have hi' : i < rows.length := by
        have := (List.getElem?_eq_some_iff.mp hi2).1
        simpa using this
      rw [List.getElem?_map, List.getElem?_eq_getElem hi'] at hi2
      obtain rfl : txt (bitsOf rows[i].net rows[i].k) = tx := Option.some.inj hi2
      have hkk : rows[i].k ≤ 12 := hk12 _ (List.getElem_mem hi')
      have hln : (txt (bitsOf rows[i].net rows[i].k)).length = rows[i].k := by rw [txt_length, bitsOf_length]
      have hpz : (prefs rows[i])[j]? = some z := by
        unfold prefsAt at hz; rw [List.getElem?_eq_getElem hi'] at hz; exact hz
      obtain ⟨hjk, rfl⟩ := prefs_get hpz
      k_steps
      rename News _ _ _ _ => N9
      rename Fr _ _ _ _ => F9
      unfold Hold
      refine ⟨_, _, _, rfl, congrArg (fun z => Value.str z _) ?_, F9, N9⟩
      rw [show (0 : Int) + (j : Int) = (j : Int) by omega, slice_txt _ _ (by rw [bitsOf_length]; exact hjk), bitsOf_take _ hjk]
    · intro D9 h2 tk2 ys2 hS2 F4 N4 oD
      clear F3 N3
      rw [hyl, upTo_prefs, List.take_length] at hS2
      have hy2 : ys2.length = (rows.flatMap prefs).length := hS2.len_eq
      have hcat : ∀ t : Tok, [Value.str (Str.ofString "") t].length + ys2.length ≤ 16777216 := fun t => by simp only [List.length_cons, List.length_nil]; omega
      have hS3 : ∀ t : Tok, StrsAre ([Value.str (Str.ofString "") t] ++ ys2) (txt [] :: rows.flatMap prefs) := fun t => by rw [txt_nil]; exact .cons _ _ hS2
      k_steps
      rename News _ _ _ _ => N9
      rename Fr _ _ _ _ => F9
      unfold Hold
      refine my_set_strs rfl F9 N9 (.head _) (hS3 _) (by
        have h9 : ([Value.str (Str.ofString "") 0] ++ ys2).length + 1 ≤ 200 := by rw [List.length_append, hy2]; simp only [List.length_cons, List.length_nil]; omega
        exact Nat.lt_of_le_of_lt h9 (by decide)) fun S o h3 tk3 hSS F5 N5 lt5 => ?_
      clear F9 N9
      k_steps
      rename News _ _ _ _ => N9
      rename Fr _ _ _ _ => F9
      unfold Hold
      refine my_sorted_set rfl F9 N9 (.head _) hSS (metK_small hk12 hlen) fun D h6 tk6 d6 vs6 ss6 e6 F6 N6 off6 a1 a2 a3 => ?_
      k_steps
      rename News h₀ _ _ _ => kN
      rename Fr h₀ _ _ _ => kF
      exact hret D vs6 ss6 e6 h6 tk6 d6 kF (news_skip3 (news_skip2 kN)) (fun p hp => off6 p (.tail _ (.tail _ (.tail _ (.tail _ (.tail _ hp)))))) a1 a2 a3
end
end Mine

-- part V1
namespace Mine
set_option maxRecDepth 100000
set_option maxHeartbeats 8000000
set_option pp.deepTerms false
set_option pp.deepTerms.threshold 4
set_option pp.maxSteps 100000

theorem rising_pair : ∀ (p : Str) (l : List Str), risingS p l = true → (∀ x ∈ l, p.cps.toList ≤ x.cps.toList) ∧ l.Pairwise (fun a b => a.cps.toList ≤ b.cps.toList)
  | p, [], _ => ⟨fun x h => (nomatch h), .nil⟩
  | p, x :: r, h => by
    have h' : (!ltCps x.cps.toList p.cps.toList && risingS x r) = true := h
    rw [Bool.and_eq_true, Bool.not_eq_true', ltCps_eq, decide_eq_false_iff_not, List.not_lt] at h'
    obtain ⟨i1, i2⟩ := rising_pair x r h'.2
    refine ⟨fun y hy => ?_, List.pairwise_cons.mpr ⟨i1, i2⟩⟩
    rcases List.mem_cons.mp hy with rfl | hy
    · exact h'.1
    · exact List.le_trans h'.1 (i1 y hy)
theorem sorted_pair : ∀ (l : List Str), sortedS l = true → l.Pairwise (fun a b => a.cps.toList ≤ b.cps.toList)
  | [], _ => .nil
  | x :: r, h => List.pairwise_cons.mpr (rising_pair x r h)
theorem str_ext {a b : Str} (h : a.cps.toList = b.cps.toList) : a = b := by
  obtain ⟨⟨a⟩⟩ := a; obtain ⟨⟨b⟩⟩ := b; simp at h; rw [h]
theorem sorted_same {l1 l2 : List Str} (h1 : sortedS l1 = true) (h2 : sortedS l2 = true) (hp : l1.Perm l2) : l1 = l2 :=
  List.Perm.eq_of_pairwise (fun a b _ _ x y => str_ext (List.le_antisymm x y)) (sorted_pair l1 h1) (sorted_pair l2 h2) hp
theorem perm_of_mem {l1 l2 : List Str} (h1 : l1.Nodup) (h2 : l2.Nodup) (h : ∀ z, z ∈ l1 ↔ z ∈ l2) : l1.Perm l2 := (List.perm_ext_iff_of_nodup h1 h2).mpr h
/-- the branches that a list of rows wants -/
def Wants (f : Fm) (rows : List Row) : Prop := ∀ q, f q ≠ none ↔ q = [] ∨ ∃ row ∈ rows, ∃ j, j ≤ row.k ∧ q = bitsOf row.net j
theorem Wants.ds {f : Fm} {rows : List Row} (h : Wants f rows) : ∀ q, f q ≠ none → q ∈ ownPrefs rows := fun q hq => by
  rcases (h q).mp hq with rfl | ⟨row, hr, j, hj, rfl⟩
  · exact .head _
  · cases j with
    | zero => exact .head _
    | succ j => exact .tail _ (List.mem_flatMap.mpr ⟨row, hr, List.mem_map.mpr ⟨j, List.mem_range.mpr (by omega), rfl⟩⟩)
theorem same_texts {f : Fm} {rows : List Row} {ps : List Path} {s1 s2 : List Str} (h : Wants f rows) (hn : ps.Nodup) (hps : ∀ q, q ∈ ps ↔ f q ≠ none) (p1 : s1.Perm (ps.map txt)) (o1 : sortedS s1 = true) (p2 : s2.Perm (metK (txt [] :: rows.flatMap prefs))) (o2 : sortedS s2 = true) : s1 = s2 := by
  refine sorted_same o1 o2 (p1.trans (List.Perm.trans ?_ p2.symm))
  refine perm_of_mem ?_ (metK_nodup _) fun z => ?_
  · exact List.Pairwise.map txt (fun a b hab e => hab (txt_inj e)) hn
  · rw [metK_mem, List.mem_map, List.mem_cons, List.mem_flatMap]
    constructor
    · rintro ⟨q, hq, rfl⟩
      rcases (h q).mp ((hps q).mp hq) with rfl | ⟨row, hr, j, hj, rfl⟩
      · exact .inl rfl
      · exact .inr ⟨row, hr, mem_prefs.mpr ⟨j, hj, rfl⟩⟩
    · rintro (rfl | ⟨row, hr, hz⟩)
      · exact ⟨[], (hps _).mpr ((h _).mpr (.inl rfl)), rfl⟩
      · obtain ⟨j, hj, rfl⟩ := mem_prefs.mp hz
        exact ⟨_, (hps _).mpr ((h _).mpr (.inr ⟨row, hr, j, hj, rfl⟩)), rfl⟩
section
variable {prog : Program} {w : World} {A : Around} {E : Value → Shared → Prop} {Q : Value → Shared → Prop} {s : Shared} {h₀ : Heap} {L : Addr} {news : Led}
theorem my_eq_strs {la lb : Addr} {v1 v2 : List Value} {k1 k2 : Nat} {ss : List Str} (N : News h₀ L s.heap news) (ha : (la, listOf v1.toArray k1) ∈ news) (hb : (lb, listOf v2.toArray k2) ∈ news) (h1 : StrsAre v1 ss) (h2 : StrsAre v2 ss) (hu : A.units < cLine)
    (h : Q (.bool true) s) : wpAny (model prog w) A (compareOp .Eq (.ref la) (.ref lb)) Q E s := by
  have la' : s.heap.IsList la v1.toArray := ⟨_, (N _ ha).1, rfl, _, rfl⟩
  have lb' : s.heap.IsList lb v2.toArray := ⟨_, (N _ hb).1, rfl, _, rfl⟩
  refine SeqAt.eq_listAt (e := fun _ => true) la' lb' (by rw [List.size_toArray, List.size_toArray, h1.len_eq, h2.len_eq]) hu (fun j q1 q2 => ?_) (by
    have : ((List.range v1.toArray.size).all fun _ => true) = true := by simp
    rw [this]; exact h)
  rw [List.size_toArray] at q1 q2
  obtain ⟨x, t, e1, e2⟩ := h1.item j _ (List.getElem?_eq_getElem q1)
  obtain ⟨y, u, e3, e4⟩ := h2.item j _ (List.getElem?_eq_getElem q2)
  rw [e2] at e4
  cases e4
  have := SeqAt.EqAt.str_str (A := A.in1) (s := s) x t x u
  rw [beq_self_eq_true] at this
  simp only [List.getElem_toArray]
  rw [e1, e3]
  exact this
end
end Mine

-- part D3
namespace Mine
set_option maxRecDepth 100000
set_option maxHeartbeats 8000000
set_option pp.deepTerms false
set_option pp.deepTerms.threshold 4
set_option pp.maxSteps 100000


theorem and_mask (a k : Nat) (ha : a < 2^32) (hk : k ≤ 32) : a &&& (2^32 - 1 - (2^k - 1)) = a - a % 2^k := by
  have h1 : 2^32 - 1 - (2^k - 1) = (2^(32-k) - 1) * 2^k := by
    have : (2:Nat)^32 = 2^(32-k) * 2^k := by rw [← Nat.pow_add]; congr 1; omega
    rw [Nat.sub_mul, ← this]; have := Nat.pos_of_ne_zero (Nat.pos_iff_ne_zero.mp (Nat.two_pow_pos k)); omega
  rw [h1]
  apply Nat.eq_of_testBit_eq
  intro i
  have h2 : a - a % 2^k = (a / 2^k) * 2^k := by have := Nat.div_add_mod a (2^k); rw [Nat.mul_comm] at this; omega
  rw [h2, Nat.testBit_and, Nat.testBit_mul_two_pow, Nat.testBit_mul_two_pow, Nat.testBit_two_pow_sub_one, Nat.testBit_div_two_pow]
  by_cases h : k ≤ i
  · simp [h]
    by_cases h3 : i - k < 32 - k
    · simp [h3]
    · simp [h3]
      apply Nat.testBit_lt_two_pow
      calc a < 2^32 := ha
        _ ≤ 2^i := Nat.pow_le_pow_right (by decide) (by omega)
  · simp [h]
theorem bitAnd_mask {ad : Int} {k : Nat} (h0 : 0 ≤ ad) (h1 : ad ≤ 4294967295) (hk : k ≤ 32) : Builtin.bitAnd ad (4294967295 - (2 ^ k - 1)) = ad - ad % 2 ^ k := by
  obtain ⟨n, rfl⟩ := Int.eq_ofNat_of_zero_le h0
  have hn : n < 2 ^ 32 := by omega
  have hpow : (2 : Nat) ^ k ≤ 2 ^ 32 := Nat.pow_le_pow_right (by decide) hk
  have hpos : 0 < (2 : Nat) ^ k := Nat.two_pow_pos k
  have e : (4294967295 - (2 ^ k - 1) : Int) = ((2 ^ 32 - 1 - (2 ^ k - 1) : Nat) : Int) := by
    have : ((2 ^ k : Nat) : Int) = (2 : Int) ^ k := by simp
    omega
  rw [e]
  unfold Builtin.bitAnd
  have d1 : decide ((0 : Int) ≤ (n : Int)) = true := by simp
  have d2 : decide ((0 : Int) ≤ ((2 ^ 32 - 1 - (2 ^ k - 1) : Nat) : Int)) = true := by
    rw [decide_eq_true_eq]; exact Int.natCast_nonneg _
  rw [d1, d2]
  show (((n : Int).toNat &&& ((2 ^ 32 - 1 - (2 ^ k - 1) : Nat) : Int).toNat : Nat) : Int) = _
  rw [Int.toNat_natCast, Int.toNat_natCast, and_mask n k hn hk]
  have hle : n % 2 ^ k ≤ n := Nat.mod_le _ _
  have e3 : ((n % 2 ^ k : Nat) : Int) = (n : Int) % (2 : Int) ^ k := by simp
  omega
section
variable {prog : Program} {w : World} {p : Program} {loose : List Str} {mean : ExcName → Option Value} {mg mb : Str → Option Value}
    {dp un : Nat} {gd : Option (List Code)} {cn : Str} {cs : Scope} {a : Addr} {ccd : Value} {cl : List (Str × Addr)} {outer : List Env} {A₀ : Around} {base h₀ : Heap} {L : Addr} {m : Str → Option Value} {news : List (Addr × Obj)} {s : Shared} {Q E : Value → Shared → Prop}

theorem zsetD31 : True := by
  k_with_none
  k_with "z_ch" => first | with_reducible assumption | (refine' And.right ?_; rotate_left; first | with_reducible assumption | (refine' And.right ?_; rotate_left; first | with_reducible assumption | (refine' And.right ?_; rotate_left; first | with_reducible assumption | (refine' And.right ?_; rotate_left; first | with_reducible assumption | (refine' And.right ?_; rotate_left; first | with_reducible assumption | (refine' And.right ?_; rotate_left; first | with_reducible assumption | (refine' And.right ?_; rotate_left; with_reducible assumption)))))))
  k_with "z_lt" => first | with_reducible assumption | (refine' And.left ?_; rotate_left; k_extra "z_ch") | (refine' And.right ?_; rotate_left; k_extra "z_ch")
  k_with "k_ne" => (refine neN ?_; (try dsimp only); first | (refine' Nat.ne_of_gt ?_; k_extra "z_lt") | (refine' Nat.ne_of_lt ?_; k_extra "z_lt") | (refine' Nat.ne_of_gt (Nat.lt_trans ?_ (by with_reducible assumption)); k_extra "z_lt") | (refine' Nat.ne_of_lt (Nat.lt_trans ?_ (by with_reducible assumption)); k_extra "z_lt"))
  k_with "zfold" => ((fail_if_success (fail_if_success k_fold)); refine zfold_q ?_; intro qk)
  k_with "k_env" => (refine zfold_env (f := fun en9 => execs _ en9) ?_; intro en9; refine zfold_A ?_; intro ak9; (rename Fr _ _ _ _ => fr9); refine zfold_F fr9 ?_; clear fr9; intro fm9 fr9; try (refine zgen_t ?_; intro tk9))
  k_with "ktr_room" => first | exact fits (c := 1) hdp rfl rfl | exact fits0 (c := 1) hdp rfl rfl | exact fits (c := 2) hdp rfl rfl | exact fits0 (c := 2) hdp rfl rfl | exact fits (c := 0) hdp rfl rfl | exact fits0 (c := 0) hdp rfl rfl | exact fits (c := 3) hdp rfl rfl | exact fits0 (c := 3) hdp rfl rfl | exact Nat.le_of_ble_eq_true rfl
  k_with "ktr_units" => first | exact fits (c := 3) hun rfl rfl | exact fits0 (c := 3) hun rfl rfl | exact fits (c := 6) hun rfl rfl | exact fits0 (c := 6) hun rfl rfl | exact fits (c := 0) hun rfl rfl | exact fits0 (c := 0) hun rfl rfl | exact fits (c := 9) hun rfl rfl | exact fits0 (c := 9) hun rfl rfl | exact Nat.le_of_ble_eq_true rfl
  k_with "k_steps" => repeat' (first | (k_unfold; (try dsimp only); (try clear qk)) | (k_end; wrow_close) | walk1 | (dsimp only; walk1) | (leave1; try dsimp only) | fail "no step")
  k_with "execs cons" => (k_extra "zfold"; walk1)
  k_with "exec If" => (k_extra "zfold"; walk1)
  k_with "exec Assign" => (k_extra "zfold"; walk1)
  k_with "exec Expr" => (k_extra "zfold"; walk1)
  k_with "exec Return" => (k_extra "zfold"; walk1)
  k_with "isTrue" => (k_extra "zfold"; walk1)
  k_with "eval BinOp" => (k_extra "zfold"; walk1)
  k_with "eval BoolOp" => (k_extra "zfold"; walk1)
  k_with "eval UnaryOp" => (k_extra "zfold"; walk1)
  k_with "eval Call" => (k_extra "zfold"; walk1)
  k_with "eval Compare" => (k_extra "zfold"; walk1)
  k_with "eval Subscript" => (k_extra "zfold"; walk1)
  k_with "eval Attribute" => (k_extra "zfold"; walk1)
  k_with "eval Tuple" => (k_extra "zfold"; walk1)
  k_with "eval List nil" => (k_extra "zfold"; walk1)
  k_with "eval List cons" => (k_extra "zfold"; walk1)
  k_with "k_room" => ktr_room
  k_with "call ref" => (k_here; k_dflt (refine' mask_spec ?zqk1 ?zqk2 ?zqk3 ?zqk4 ?zqk5 ?zqkK ?zqu0 ?zqu1 ?zqkd ?zqku ?_; (case zqk1 => k_asm); (case zqk2 => k_asm); (case zqk3 => k_asm); (case zqk4 => k_asm); (case zqk5 => k_asm); (case zqkK => first | exact rfl | assumption); (case zqu0 => omega); (case zqu1 => omega); (case zqkd => ktr_room); (case zqku => ktr_units); k_whole; intro _ _ _ _ _; (try dsimp only); (try k_sweep); (try (k_extra "zfold"))))
  exact trivial
theorem net_spec {ad pl r : Int} {t u : Tok}
    (B : Below A₀ base outer h₀) (F : Fr h₀ L s.heap m) (X : (KK w.params).In h₀) (N : News h₀ L s.heap (news)) (T : Top p loose mean mg mb h₀) (hk : cs.kind = .function) (hr : ad - ad % 2 ^ (32 - pl).toNat = r) (h0 : 0 ≤ ad) (h1 : ad ≤ 4294967295) (hp0 : 0 ≤ pl) (hp1 : pl ≤ 32)
    (hdp : dp + 20 < recursionLimit) (hun : un + 400 < cLine)
    (hret : ∀ (tv : Tok) h' tk', Fr h₀ L h' m → News h₀ L h' news → Q (.int r tv) { s with heap := h', toks := tk' }) :
    wpAny (model prog w) (ktrTop dp un gd cn cs L a ccd cl outer) (call (.ref 67) [.int ad t, .int pl u]) Q E s := by
  (refine wpAny_call ?_; k_dflt ktr_enter; try (w_strict (k_extra "k_env")))
  k_steps
  all_goals (refine q_int ?_ (hret _ _ _ (by k_asm) (by k_asm)))
  all_goals exact (bitAnd_mask h0 h1 (by omega)).trans hr
end
end Mine

-- part P1
namespace Mine
set_option maxRecDepth 100000
set_option maxHeartbeats 8000000
set_option pp.deepTerms false
set_option pp.deepTerms.threshold 4
set_option pp.maxSteps 100000


section
variable {prog : Program} {w : World} {p : Program} {loose : List Str} {mean : ExcName → Option Value} {mg mb : Str → Option Value}
    {dp un : Nat} {gd : Option (List Code)} {cn : Str} {cs : Scope} {a : Addr} {ccd : Value} {cl : List (Str × Addr)} {outer : List Env} {A₀ : Around} {base h₀ : Heap} {L : Addr} {m : Str → Option Value} {news : List (Addr × Obj)} {s : Shared} {Q E : Value → Shared → Prop}

theorem zsetP11 : True := by
  k_with_none
  k_with "z_ch" => first | with_reducible assumption | (refine' And.right ?_; rotate_left; first | with_reducible assumption | (refine' And.right ?_; rotate_left; first | with_reducible assumption | (refine' And.right ?_; rotate_left; first | with_reducible assumption | (refine' And.right ?_; rotate_left; first | with_reducible assumption | (refine' And.right ?_; rotate_left; first | with_reducible assumption | (refine' And.right ?_; rotate_left; first | with_reducible assumption | (refine' And.right ?_; rotate_left; with_reducible assumption)))))))
  k_with "z_lt" => first | with_reducible assumption | (refine' And.left ?_; rotate_left; k_extra "z_ch") | (refine' And.right ?_; rotate_left; k_extra "z_ch")
  k_with "k_ne" => (refine neN ?_; (try dsimp only); first | (refine' Nat.ne_of_gt ?_; k_extra "z_lt") | (refine' Nat.ne_of_lt ?_; k_extra "z_lt") | (refine' Nat.ne_of_gt (Nat.lt_trans ?_ (by with_reducible assumption)); k_extra "z_lt") | (refine' Nat.ne_of_lt (Nat.lt_trans ?_ (by with_reducible assumption)); k_extra "z_lt"))
  k_with "zfold" => ((fail_if_success (fail_if_success k_fold)); refine zfold_q ?_; intro qk)
  k_with "k_env" => (refine zfold_env (f := fun en9 => execs _ en9) ?_; intro en9; refine zfold_A ?_; intro ak9; (rename Fr _ _ _ _ => fr9); refine zfold_F fr9 ?_; clear fr9; intro fm9 fr9; try (refine zgen_t ?_; intro tk9))
  k_with "ktr_room" => first | exact fits (c := 1) hdp rfl rfl | exact fits0 (c := 1) hdp rfl rfl | exact fits (c := 2) hdp rfl rfl | exact fits0 (c := 2) hdp rfl rfl | exact fits (c := 0) hdp rfl rfl | exact fits0 (c := 0) hdp rfl rfl | exact fits (c := 3) hdp rfl rfl | exact fits0 (c := 3) hdp rfl rfl | exact Nat.le_of_ble_eq_true rfl
  k_with "ktr_units" => first | exact fits (c := 3) hun rfl rfl | exact fits0 (c := 3) hun rfl rfl | exact fits (c := 6) hun rfl rfl | exact fits0 (c := 6) hun rfl rfl | exact fits (c := 0) hun rfl rfl | exact fits0 (c := 0) hun rfl rfl | exact fits (c := 9) hun rfl rfl | exact fits0 (c := 9) hun rfl rfl | exact Nat.le_of_ble_eq_true rfl
  k_with "k_steps" => repeat' (first | (k_unfold; (try dsimp only); (try clear qk)) | (k_end; wrow_close) | walk1 | (dsimp only; walk1) | (leave1; try dsimp only) | fail "no step")
  k_with "execs cons" => (k_extra "zfold"; walk1)
  k_with "exec If" => (k_extra "zfold"; walk1)
  k_with "exec Assign" => (k_extra "zfold"; walk1)
  k_with "exec Expr" => (k_extra "zfold"; walk1)
  k_with "exec Return" => (k_extra "zfold"; walk1)
  k_with "isTrue" => (k_extra "zfold"; walk1)
  k_with "eval BinOp" => (k_extra "zfold"; walk1)
  k_with "eval BoolOp" => (k_extra "zfold"; walk1)
  k_with "eval UnaryOp" => (k_extra "zfold"; walk1)
  k_with "eval Call" => (k_extra "zfold"; walk1)
  k_with "eval Compare" => (k_extra "zfold"; walk1)
  k_with "eval Subscript" => (k_extra "zfold"; walk1)
  k_with "eval Attribute" => (k_extra "zfold"; walk1)
  k_with "eval Tuple" => (k_extra "zfold"; walk1)
  k_with "eval List nil" => (k_extra "zfold"; walk1)
  k_with "eval List cons" => (k_extra "zfold"; walk1)
  k_with "k_mem" => first | assumption | exact List.mem_append.mpr (Or.inl (by assumption)) | exact List.mem_append.mpr (Or.inr (by assumption))
  k_with "k_ne" => (first | (refine' ne_neA ?zqh ?zqm; (case zqm => assumption); (case zqh => assumption)) | (refine' ne_between ?zqm ?zqh ?zqle; (case zqm => assumption); (case zqh => tbn_find); (case zqle => omega)))
  k_with "ktr_rel" => (repeat (first | exact Same.refl | exact Same.of2 | exact Same.of | refine Same.set ?_ (by rfl)))
  k_with "k_room" => ktr_room
  k_with "subscriptTail" => (k_here; k_dflt (refine' my_last ?zqN ?zqm ?zqv ?zqf ?_ ?zqhs; (case zqN => k_asm); (case zqm => k_mem); (case zqv => assumption); (case zqf => assumption); (case zqhs => with_unfolding_all rfl); k_whole))
  k_with "subscriptTail Name UnaryOp ref int" => (k_here; k_dflt (refine' my_last ?zqN ?zqm ?zqv ?zqf ?_ ?zqhs; (case zqN => k_asm); (case zqm => k_mem); (case zqv => assumption); (case zqf => assumption); (case zqhs => with_unfolding_all rfl); k_whole))
  k_with "call builtin:list.append" => (k_here; (with_reducible show wpAny _ _ (call (Value.builtin _) [Value.ref _, _]) _ _ _); k_dflt (refine' my_append ?zqk1 ?zqk2 ?zqk3 ?zqz ?_; (case zqk1 => k_asm); (case zqk2 => k_asm); (case zqk3 => k_upd); (case zqz => assumption); k_whole); intro _ _ _; (try k_sweep))
  k_with "k_all" => first | assumption | (refine all_repl ?_; first | assumption | (refine tbn_neAll ?_; tbn_find))
  k_with "k_upd" => exact upd_repl (by assumption) (by assumption)
  k_with "LPost" => (dsimp only [LPost])
  k_with "call ref" => (k_here; (with_reducible show wpAny _ _ (call (Value.ref 162) _) _ _ _); refine Hold.mk ?_)
  k_with "call ref" => (k_here; (with_reducible show wpAny _ _ (call (Value.ref 138) _) _ _ _); refine Hold.mk ?_)
  k_with "call ref" => (k_here; (with_reducible show wpAny _ _ (call (Value.ref 145) _) _ _ _); refine Hold.mk ?_)
  k_with "call ref" => (k_here; k_dflt (refine' bit_spec2 ?zqk1 ?zqk2 ?zqk3 ?zqk4 ?zqk5 ?zqkK ?zqu0 ?zqu1 ?zqu2 ?zqkd ?zqku ?_; (case zqk1 => k_asm); (case zqk2 => k_asm); (case zqk3 => k_asm); (case zqk4 => k_asm); (case zqk5 => k_asm); (case zqkK => first | exact rfl | assumption); (case zqu0 => assumption); (case zqu1 => omega); (case zqu2 => omega); (case zqkd => ktr_room); (case zqku => ktr_units); k_whole; intro _ _ _ _ _; (try dsimp only); (try k_sweep); (try (k_extra "zfold"))))
  k_with "exec For Name Call cons nil" => (k_here; (rename Fr _ _ _ _ => lF'); (with_unfolding_all refine' For_invVF lF' ?zqk1 ?zqk2 ?_; (case zqk1 => exact rfl); (case zqk2 => exact rfl); k_whole))
  k_with "pyIter ref" => (refine Hold.mk ?_)
  exact trivial
theorem path_spec {Z Fz : Led} {f : Fm} {tb td root : Addr} {many net : Int} {k : Nat} {mk : Bool} {t1 t2 u tn tp : Tok}
    (B : Below A₀ base outer h₀) (F : Fr h₀ L s.heap m) (X : (KK w.params).In h₀) (N : News h₀ L s.heap (Z ++ Fz)) (T : Top p loose mean mg mb h₀) (hk : cs.kind = .function) (nd : ND (Z ++ Fz)) (Tr : Tree w.params Z f) (hr : vOf (f []) = .ref root)
    (hb1 : (tb, instObj 244 td) ∈ Z ++ Fz) (hb2 : (td, tbD w.params t1 t2 u root many) ∈ Z ++ Fz) (hk32 : k ≤ 32)
    (hdp : dp + 30 < recursionLimit) (hun : un + 600 < cLine)
    (hret : ∀ fl Z' f' i n' h' tk', i ≤ k → Ext f net i f' → (mk = true → i = k) → (mk = false → f' = f ∧ Z' = Z ∧ (i = k ∨ f (bitsOf net (i + 1)) = none)) →
      Fr h₀ L h' m → News h₀ L h' ((fl, listOf (pathVals f' net i).toArray n') :: (Z' ++ Fz)) → ND ((fl, listOf (pathVals f' net i).toArray n') :: (Z' ++ Fz)) → Tree w.params Z' f' → (∀ r, RtIn w.params Z r → RtIn w.params Z' r) → Q (.ref fl) { s with heap := h', toks := tk' }) :
    wpAny (model prog w) (ktrTop dp un gd cn cs L a ccd cl outer) (call (.ref 201) [.ref tb, .int net tn, .int k tp, .bool mk]) Q E s := by
  (refine wpAny_call ?_; k_dflt ktr_enter; try (w_strict (k_extra "k_env")))
  k_steps
  rename_i l1 _ hl _ _ _ h9 tk9 t9 u9 v9 hR F9 N9 hK9
  unfold Hold
  refine range_loop0 [Str.ofString "bit", Str.ofString "later"] (n := k) (fun i nx => ∃ Z' f' n', nx = (l1, listOf (pathVals f' net i).toArray n') :: (Z' ++ Fz) ∧ ND nx ∧ Tree w.params Z' f' ∧ Ext f net i f' ∧ (mk = false → f' = f ∧ Z' = Z) ∧ ∀ r, RtIn w.params Z r → RtIn w.params Z' r) rfl hR F9 N9 ?_ ?_ ?_ ?_ ?_
  · exact rng_small (Int.natCast_nonneg _) (by omega)
  · exact rng_size
  · refine ⟨Z, f, 0, ?_, nd_cons (fun p hp => Nat.ne_of_lt (hl p hp)) nd, Tr, Ext.zero Tr, fun _ => ⟨rfl, rfl⟩, fun _ h => h⟩
    show _ = (l1, listOf [vOf (f [])].toArray 0) :: _
    rw [hr]
  · rintro i t u nx h tk I oI hi hI hJ9 F2 N2
    try (k_extra "zfold")
    obtain ⟨Z', f', n', rfl, ndx, Tr', hE, hmk, hkp⟩ := hJ9
    clear N9 F9 hK9 hR
    have ndx' := nd_tail ndx
    obtain ⟨ndq, hq⟩ : ∃ ndq, f' (bitsOf net i) = some ndq := by
      cases e : f' (bitsOf net i) with
      | none => exact absurd e (hE.all i (Nat.le_refl _))
      | some q => exact ⟨q, rfl⟩
    have hlast := pathVals_last f' net i
    rw [hq] at hlast
    simp only [vOf] at hlast
    have hlen : (pathVals f' net i).length ≤ 16777216 := by rw [pathVals_length]; omega
    obtain ⟨hix, ⟨s1, s2, s3, hid⟩, ⟨nl, hil⟩, hir⟩ := Tr'.nod _ _ hq
    have hIl : @Ne Nat l1 I := hI _ (.head _)
    have hIz : ∀ p ∈ Z' ++ Fz, p.1 ≠ I := fun p hp => hI p (.tail _ hp)
    have hlz : ∀ p ∈ Z' ++ Fz, p.1 ≠ l1 := nd_head ndx
    have hbit := bitI net i
    k_steps
    (unfold Hold; w_strict (k_dflt (refine' child_f (f := f') (q := bitsOf net i) (b := bitB net i) ?k1 ?k2 ?k3 ?k4 ?k5 ?kK ?u0 ?u1 ?u2 ?kd ?ku ?_; (case k1 => k_asm); (case k2 => k_asm); (case k3 => k_asm); (case k4 => k_asm); (case k5 => k_asm); (case kK => first | exact rfl | assumption); (case u0 => k_mem); (case u1 => k_mem); (case u2 => exact rfl); (case kd => ktr_room); (case ku => ktr_units))); intro h5 tk5 F5 N5; (try dsimp only); (try k_sweep); (try (k_extra "zfold")))
    cases hc : f' (bitsOf net i ++ [bitB net i]) with
    | none =>
      rw [vOf_none]
      cases mk with
      | true =>
        k_steps
        (unfold Hold; w_strict (k_dflt (refine' new_branch ?k1 ?k2 ?k3 ?k4 ?k5 ?kK  ?kd ?ku ?_; (case k1 => k_asm); (case k2 => k_asm); (case k3 => k_asm); (case k4 => k_asm); (case k5 => k_asm); (case kK => first | exact rfl | assumption);  (case kd => ktr_room); (case ku => ktr_units))); intro bx bd bl s4 s5 s6 h7 tk7 q1 q2 q3 F7 N7; (try dsimp only); (try k_sweep))
        k_lt q1
        k_lt2 q2
        k_lt2 q3
        k_steps
        (unfold Hold; w_strict (k_dflt (refine' set_b (b := bitB net i) ?k1 ?k2 ?k3 ?k4 ?k5 ?kK ?u0 ?u1 ?u2 ?kd ?ku ?_; (case k1 => k_asm); (case k2 => k_asm); (case k3 => k_asm); (case k4 => k_asm); (case k5 => k_asm); (case kK => first | exact rfl | assumption); (case u0 => k_mem); (case u1 => k_upd); (case u2 => exact rfl); (case kd => ktr_room); (case ku => ktr_units))); intro h6 tk6 F6 N6; (try dsimp only); (try k_sweep); (try (k_extra "zfold")))
        k_steps
        refine path_end_new (b := bitB net i) (by assumption) ?_ (by assumption) q1.2.2 q2 q3 q1.1 q1.2.1 ndx hI Tr' hq rfl hc (by omega) hE rfl hkp
        ktr_rel
      | false =>
        k_steps
        exact hret _ _ _ i _ _ _ (Nat.le_of_lt hi) hE (fun h => by cases h) (fun h => ⟨(hmk h).1, (hmk h).2, .inr (by rw [bitsOf_succ, ← (hmk h).1]; exact hc)⟩) (by k_asm) (fun p hp => (by assumption : News _ _ _ _) p (.tail _ hp)) ndx Tr' hkp
    | some n2 =>
      rw [vOf_some]
      k_steps
      refine path_end_old (by assumption) ?_ (by assumption) ndx hI Tr' hc hE hmk hkp
      ktr_rel
  · rintro u nx h tk hJ9 F2 N2
    try (k_extra "zfold")
    obtain ⟨Z', f', n', rfl, ndx, Tr', hE, hmk, hkp⟩ := hJ9
    clear N9 F9 hK9 hR
    k_steps
    exact hret _ _ _ k _ _ _ (Nat.le_refl _) hE (fun _ => rfl) (fun h => ⟨(hmk h).1, (hmk h).2, .inl rfl⟩) (by k_asm) (by k_asm) ndx Tr' hkp
end
section
variable {prog : Program} {w : World} {p : Program} {loose : List Str} {mean : ExcName → Option Value} {mg mb : Str → Option Value}
    {dp un : Nat} {gd : Option (List Code)} {cn : Str} {cs : Scope} {a : Addr} {ccd : Value} {cl : List (Str × Addr)} {outer : List Env} {A₀ : Around} {base h₀ : Heap} {L : Addr} {m : Str → Option Value} {news : List (Addr × Obj)} {s : Shared} {Q E : Value → Shared → Prop}

theorem path_specA {Aa Z Fz : Led} {f : Fm} {tb td root : Addr} {many net : Int} {k : Nat} {mk : Bool} {t1 t2 u tn tp : Tok}
    (B : Below A₀ base outer h₀) (F : Fr h₀ L s.heap m) (X : (KK w.params).In h₀) (N : News h₀ L s.heap (Aa ++ (Z ++ Fz))) (T : Top p loose mean mg mb h₀) (hk : cs.kind = .function) (nd : ND (Aa ++ (Z ++ Fz))) (Tr : Tree w.params Z f) (hr : vOf (f []) = .ref root)
    (hb1 : (tb, instObj 244 td) ∈ Aa ++ (Z ++ Fz)) (hb2 : (td, tbD w.params t1 t2 u root many) ∈ Aa ++ (Z ++ Fz)) (hk32 : k ≤ 32)
    (hdp : dp + 30 < recursionLimit) (hun : un + 600 < cLine)
    (hret : ∀ fl Z' f' i n' h' tk', i ≤ k → Ext f net i f' → (mk = true → i = k) → (mk = false → f' = f ∧ Z' = Z ∧ (i = k ∨ f (bitsOf net (i + 1)) = none)) →
      Fr h₀ L h' m → News h₀ L h' ((fl, listOf (pathVals f' net i).toArray n') :: (Aa ++ (Z' ++ Fz))) → ND ((fl, listOf (pathVals f' net i).toArray n') :: (Aa ++ (Z' ++ Fz))) → Tree w.params Z' f' → (∀ r, RtIn w.params Z r → RtIn w.params Z' r) → Q (.ref fl) { s with heap := h', toks := tk' }) :
    wpAny (model prog w) (ktrTop dp un gd cn cs L a ccd cl outer) (call (.ref 201) [.ref tb, .int net tn, .int k tp, .bool mk]) Q E s := by
  have sw : ∀ {X : Led} {p : Addr × Obj}, p ∈ Aa ++ (X ++ Fz) → p ∈ X ++ (Aa ++ Fz) := fun hp => by
    simp only [List.mem_append] at hp ⊢
    rcases hp with h | h | h
    · exact .inr (.inl h)
    · exact .inl h
    · exact .inr (.inr h)
  refine path_spec B F X (news_rot N) T hk (nd_rot nd) Tr hr (sw hb1) (sw hb2) hk32 hdp hun fun fl Z' f' i n' h' tk' e1 e2 e3 e4 F' N' nd' Tr' hkp => hret fl Z' f' i n' h' tk' e1 e2 e3 e4 F' (fun p hp => N' p ?_) (nd_cons (fun p hp => nd_head nd' p (sw hp)) (nd_rot (nd_tail nd'))) Tr' hkp
  rcases List.mem_cons.mp hp with rfl | hp
  · exact .head _
  · exact .tail _ (sw hp)
end
end Mine

-- part P3
namespace Mine
set_option maxRecDepth 100000
set_option maxHeartbeats 8000000
set_option pp.deepTerms false
set_option pp.deepTerms.threshold 4
set_option pp.maxSteps 100000


section

variable {prog : Program} {w : World} {p : Program} {loose : List Str} {mean : ExcName → Option Value} {mg mb : Str → Option Value}
    {dp un : Nat} {gd : Option (List Code)} {cn : Str} {cs : Scope} {a : Addr} {ccd : Value} {cl : List (Str × Addr)} {outer : List Env} {A₀ : Around} {base h₀ : Heap} {L : Addr} {m : Str → Option Value} {news : List (Addr × Obj)} {s : Shared} {Q E : Value → Shared → Prop}

theorem zsetP31 : True := by
  k_with_none
  k_with "z_ch" => first | with_reducible assumption | (refine' And.right ?_; rotate_left; first | with_reducible assumption | (refine' And.right ?_; rotate_left; first | with_reducible assumption | (refine' And.right ?_; rotate_left; first | with_reducible assumption | (refine' And.right ?_; rotate_left; first | with_reducible assumption | (refine' And.right ?_; rotate_left; first | with_reducible assumption | (refine' And.right ?_; rotate_left; first | with_reducible assumption | (refine' And.right ?_; rotate_left; with_reducible assumption)))))))
  k_with "z_lt" => first | with_reducible assumption | (refine' And.left ?_; rotate_left; k_extra "z_ch") | (refine' And.right ?_; rotate_left; k_extra "z_ch")
  k_with "k_ne" => (refine neN ?_; (try dsimp only); first | (refine' Nat.ne_of_gt ?_; k_extra "z_lt") | (refine' Nat.ne_of_lt ?_; k_extra "z_lt") | (refine' Nat.ne_of_gt (Nat.lt_trans ?_ (by with_reducible assumption)); k_extra "z_lt") | (refine' Nat.ne_of_lt (Nat.lt_trans ?_ (by with_reducible assumption)); k_extra "z_lt"))
  k_with "zfold" => ((fail_if_success (fail_if_success k_fold)); refine zfold_q ?_; intro qk)
  k_with "k_env" => (refine zfold_env (f := fun en9 => execs _ en9) ?_; intro en9; refine zfold_A ?_; intro ak9; (rename Fr _ _ _ _ => fr9); refine zfold_F fr9 ?_; clear fr9; intro fm9 fr9; try (refine zgen_t ?_; intro tk9))
  k_with "ktr_room" => first | exact fits (c := 1) hdp rfl rfl | exact fits0 (c := 1) hdp rfl rfl | exact fits (c := 2) hdp rfl rfl | exact fits0 (c := 2) hdp rfl rfl | exact fits (c := 0) hdp rfl rfl | exact fits0 (c := 0) hdp rfl rfl | exact fits (c := 3) hdp rfl rfl | exact fits0 (c := 3) hdp rfl rfl | exact Nat.le_of_ble_eq_true rfl
  k_with "ktr_units" => first | exact fits (c := 3) hun rfl rfl | exact fits0 (c := 3) hun rfl rfl | exact fits (c := 6) hun rfl rfl | exact fits0 (c := 6) hun rfl rfl | exact fits (c := 0) hun rfl rfl | exact fits0 (c := 0) hun rfl rfl | exact fits (c := 9) hun rfl rfl | exact fits0 (c := 9) hun rfl rfl | exact Nat.le_of_ble_eq_true rfl
  k_with "k_steps" => repeat' (first | (k_unfold; (try dsimp only); (try clear qk)) | (k_end; wrow_close) | walk1 | (dsimp only; walk1) | (leave1; try dsimp only) | fail "no step")
  k_with "execs cons" => (k_extra "zfold"; walk1)
  k_with "exec If" => (k_extra "zfold"; walk1)
  k_with "exec Assign" => (k_extra "zfold"; walk1)
  k_with "exec Expr" => (k_extra "zfold"; walk1)
  k_with "exec Return" => (k_extra "zfold"; walk1)
  k_with "isTrue" => (k_extra "zfold"; walk1)
  k_with "eval BinOp" => (k_extra "zfold"; walk1)
  k_with "eval BoolOp" => (k_extra "zfold"; walk1)
  k_with "eval UnaryOp" => (k_extra "zfold"; walk1)
  k_with "eval Call" => (k_extra "zfold"; walk1)
  k_with "eval Compare" => (k_extra "zfold"; walk1)
  k_with "eval Subscript" => (k_extra "zfold"; walk1)
  k_with "eval Attribute" => (k_extra "zfold"; walk1)
  k_with "eval Tuple" => (k_extra "zfold"; walk1)
  k_with "eval List nil" => (k_extra "zfold"; walk1)
  k_with "eval List cons" => (k_extra "zfold"; walk1)
  k_with "k_mem" => first | assumption | (with_reducible refine mem_appL ?_; assumption) | (with_reducible refine mem_appR ?_; assumption) | (with_reducible refine List.mem_append.mpr (Or.inl ?_); assumption) | (with_reducible refine List.mem_append.mpr (Or.inr ?_); assumption)
  k_with "k_ne" => (first | (refine' ne_neA ?zqh ?zqm; (case zqm => assumption); (case zqh => assumption)) | (refine' ne_between ?zqm ?zqh ?zqle; (case zqm => assumption); (case zqh => tbn_find); (case zqle => omega)))
  k_with "k_room" => ktr_room
  k_with "k_all" => first | assumption | (refine all_repl ?_; first | assumption | (refine tbn_neAll ?_; tbn_find))
  k_with "k_upd" => exact upd_repl (by assumption) (by assumption)
  k_with "ktr_rel" => (repeat (first | exact Same.refl | exact Same.of2 | exact Same.of | refine Same.set ?_ (by rfl)))
  k_with "tb_start" => (intro _ hp9; (repeat (refine List.Mem.tail _ ?_)); first | exact hp9 | exact List.mem_append.mpr (Or.inl hp9) | exact List.mem_append.mpr (Or.inr hp9))
  k_with "LPost" => (dsimp only [LPost])
  k_with "pyIter ref" => (refine Hold.mk ?_)
  k_with "call builtin:list.append" => (k_here; (with_reducible show wpAny _ _ (call (Value.builtin _) [Value.ref _, _]) _ _ _); k_dflt (refine' my_append ?zqk1 ?zqk2 ?zqk3 ?zqz ?_; (case zqk1 => k_asm); (case zqk2 => k_asm); (case zqk3 => k_upd); (case zqz => assumption); k_whole); intro _ _ _; (try k_sweep))
  k_with "call builtin:len" => (k_here; k_dflt (refine' my_len ?zqN ?zqm ?zqf ?_; (case zqN => k_asm); (case zqm => k_mem); (case zqf => assumption); k_whole))
  k_with "subscriptTail" => (k_here; k_dflt (refine' my_itemE ?zqN ?zqm ?zqv ?zqa ?zqf ?_ ?zqhs; (case zqN => k_asm); (case zqm => k_mem); (case zqv => with_reducible assumption); (case zqa => omega); (case zqf => assumption); (case zqhs => with_unfolding_all rfl); k_whole))
  k_with "subscriptTail Name UnaryOp ref int" => (k_here; k_dflt (refine' my_itemE ?zqN ?zqm ?zqv ?zqa ?zqf ?_ ?zqhs; (case zqN => k_asm); (case zqm => k_mem); (case zqv => with_reducible assumption); (case zqa => omega); (case zqf => assumption); (case zqhs => with_unfolding_all rfl); k_whole))
  k_with "subscriptTail" => (k_here; (with_reducible show wpAny _ _ (subscriptTail _ _ (Value.ref _) (Value.int (-1) _)) _ _ _); k_dflt (refine' my_last ?zqN ?zqm ?zqv ?zqf ?_ ?zqhs; (case zqN => k_asm); (case zqm => k_mem); (case zqv => with_reducible assumption); (case zqf => assumption); (case zqhs => with_unfolding_all rfl); k_whole))
  k_with "subscriptTail Name UnaryOp ref int" => (k_here; (with_reducible show wpAny _ _ (subscriptTail _ _ (Value.ref _) (Value.int (-1) _)) _ _ _); k_dflt (refine' my_last ?zqN ?zqm ?zqv ?zqf ?_ ?zqhs; (case zqN => k_asm); (case zqm => k_mem); (case zqv => with_reducible assumption); (case zqf => assumption); (case zqhs => with_unfolding_all rfl); k_whole))
  k_with "exec For Name Call cons nil" => (k_here; (rename Fr _ _ _ _ => lF'); (with_unfolding_all refine' For_invVF lF' ?zqk1 ?zqk2 ?_; (case zqk1 => exact rfl); (case zqk2 => exact rfl); k_whole))
  k_with "call ref" => (k_here; k_dflt (refine' net_spec ?zqk1 ?zqk2 ?zqk3 ?zqk4 ?zqk5 ?zqkK ?zqu0 ?zqu1 ?zqu2 ?zqu3 ?zqu4 ?zqkd ?zqku ?_; (case zqk1 => k_asm); (case zqk2 => k_asm); (case zqk3 => k_asm); (case zqk4 => k_asm); (case zqk5 => k_asm); (case zqkK => first | exact rfl | assumption); (case zqu0 => assumption); (case zqu1 => omega); (case zqu2 => omega); (case zqu3 => omega); (case zqu4 => omega); (case zqkd => ktr_room); (case zqku => ktr_units); k_whole; intro _ _ _ _ _; (try dsimp only); (try k_sweep); (try (k_extra "zfold"))))
  k_with "call ref" => (k_here; k_dflt (refine' path_specA (Aa := [_, _]) ?zqk1 ?zqk2 ?zqk3 ?zqk4 ?zqk5 ?zqkK ?zqu0 ?zqu1 ?zqu2 ?zqu3 ?zqu4 ?zqu5 ?zqkd ?zqku ?_; (case zqk1 => k_asm); (case zqk2 => k_asm); (case zqk3 => k_asm); (case zqk4 => k_asm); (case zqk5 => k_asm); (case zqkK => first | exact rfl | assumption); (case zqu0 => assumption); (case zqu1 => assumption); (case zqu2 => assumption); (case zqu3 => k_mem); (case zqu4 => k_mem); (case zqu5 => assumption); (case zqkd => ktr_room); (case zqku => ktr_units); k_whole; intro _ _ _ _ _ _ _ _ _ _ _ _ _ _ _ _; (try dsimp only); (try k_sweep); (try (k_extra "zfold")); refine Hold.mk ?_))
  k_with "setItem ref int" => (k_here; (with_reducible show wpAny _ _ (setItem (Value.ref _) (Value.int _ _) _) _ _ _); k_dflt (refine' my_set ?zqk1 ?zqk2 ?zqk3 ?zqa ?zqb ?zqf ?_; (case zqk1 => k_asm); (case zqk2 => k_asm); (case zqk3 => k_upd); (case zqa => omega); (case zqb => omega); (case zqf => assumption); k_whole); intro _ _ _; (try k_sweep))
  exact trivial
theorem add_spec {Z Fz : Led} {f : Fm} {tb td root rx : Addr} {many net gw face : Int} {k : Nat} {t1 t2 u : Tok}
    (B : Below A₀ base outer h₀) (F : Fr h₀ L s.heap m) (X : (KK w.params).In h₀) (N : News h₀ L s.heap ((tb, instObj 244 td) :: (td, tbD w.params t1 t2 u root many) :: (Z ++ Fz))) (T : Top p loose mean mg mb h₀) (hk : cs.kind = .function) (nd : ND ((tb, instObj 244 td) :: (td, tbD w.params t1 t2 u root many) :: (Z ++ Fz))) (Tr : Tree w.params Z f) (hr : vOf (f []) = .ref root)
    (hR : RtIn w.params Z ⟨rx, net, (k : Int), gw, face⟩) (hk32 : k ≤ 32) (hn0 : 0 ≤ net) (hn1 : net ≤ 4294967295) (hg0 : 0 ≤ gw) (hg1 : gw ≤ 4294967295) (hm : net - net % 2 ^ (32 - (k : Int)).toNat = net)
    (hrs : ∀ q nd, f q = some nd → nd.rs.length ≤ 1000)
    (hdp : dp + 40 < recursionLimit) (hun : un + 800 < cLine)
    (hret : ∀ Z' f1 nd many' u' h' tk', Ext f net k f1 → f1 (bitsOf net k) = some nd → many' = (if hasR ⟨rx, net, (k : Int), gw, face⟩ nd.rs = true then many else many + 1) →
      Fr h₀ L h' m → News h₀ L h' ((tb, instObj 244 td) :: (td, tbD w.params t1 t2 u' root many') :: (Z' ++ Fz)) → ND ((tb, instObj 244 td) :: (td, tbD w.params t1 t2 u' root many') :: (Z' ++ Fz)) →
      Tree w.params Z' (grow f1 (bitsOf net k) ⟨nd.x, nd.d, nd.l, putR ⟨rx, net, (k : Int), gw, face⟩ nd.rs⟩) → (∀ r, RtIn w.params Z r → RtIn w.params Z' r) → Q .none { s with heap := h', toks := tk' }) :
    wpAny (model prog w) (ktrTop dp un gd cn cs L a ccd cl outer) (call (.ref 208) [.ref tb, .ref rx]) Q E s := by
  obtain ⟨rd, a1, a2, a3, a4, a5, b1, b2, b3, b4, b5, met, hrx, hrd⟩ := hR.ex
  dsimp only at hrx hrd
  (refine wpAny_call ?_; k_dflt ktr_enter; try (w_strict (k_extra "k_env")))
  k_steps
  · exact absurd (rfl : net = net) (by assumption)
  rename_i fl1 Z1 f1 i1 n1 h1 tk1 e1 e2 e3 e4 F1 N1 nd1 Tr1 hkp1
  unfold Hold
  simp only [List.cons_append, List.nil_append] at N1 nd1
  obtain rfl : i1 = k := e3 rfl
  obtain ⟨ndq, hq⟩ : ∃ ndq, f1 (bitsOf net i1) = some ndq := by
    cases e : f1 (bitsOf net i1) with
    | none => exact absurd e (e2.all _ (Nat.le_refl _))
    | some q => exact ⟨q, rfl⟩
  have hlast := pathVals_last f1 net i1
  rw [hq] at hlast
  simp only [vOf] at hlast
  have hlen : (pathVals f1 net i1).length ≤ 16777216 := by rw [pathVals_length]; omega
  have hrl : ndq.rs.length ≤ 1000 := by
    cases e : f (bitsOf net i1) with
    | none => rw [(e2.new _ _ e hq).1]; exact Nat.zero_le _
    | some n9 =>
      have := e2.keep (bitsOf net i1) (by rw [e]; exact fun x => by cases x)
      rw [hq, e] at this
      cases this
      exact hrs _ _ e
  obtain ⟨hix, ⟨s1, s2, s3, hid⟩, ⟨nl, hil⟩, hir⟩ := Tr1.nod _ _ hq
  have hrl2 : (ndq.rs.map fun r => Value.ref r.x).length ≤ 16777216 := by rw [List.length_map]; omega
  have ndz := nd_tail (nd_tail (nd_tail nd1))
  have hR1 := hkp1 _ hR
  obtain ⟨rd', a1', a2', a3', a4', a5', b1', b2', b3', b4', b5', met', hrx1, hrd1⟩ := hR1.ex
  dsimp only at hrx1 hrd1
  k_steps
  rename_i h9 tk9 t9 u9 v9 hR9 F9 N9 hK9
  unfold Hold
  have ne1 : @Ne Nat tb fl1 := nd_head nd1 _ (.head _)
  have ne2 : @Ne Nat td fl1 := nd_head nd1 _ (.tail _ (.head _))
  have ne3 : @Ne Nat td tb := nd_head (nd_tail nd1) _ (.head _)
  have hfl : ∀ p ∈ Z1 ++ Fz, p.1 ≠ fl1 := fun p hp => nd_head nd1 _ (.tail _ (.tail _ hp))
  have htb : ∀ p ∈ Z1 ++ Fz, p.1 ≠ tb := fun p hp => nd_head (nd_tail nd1) _ (.tail _ hp)
  have htd : ∀ p ∈ Z1 ++ Fz, p.1 ≠ td := fun p hp => nd_head (nd_tail (nd_tail nd1)) _ hp
  refine range_loop0 [Str.ofString "other"] (n := ndq.rs.length) (fun i nx => nx = (fl1, listOf (pathVals f1 net i1).toArray n1) :: (tb, instObj 244 td) :: (td, tbD w.params t1 t2 u root many) :: (Z1 ++ Fz) ∧ ∀ j b, j < i → ndq.rs[j]? = some b → ¬ sameR b ⟨rx, net, (i1 : Int), gw, face⟩) rfl hR9 F9 N9 ?_ ?_ ?_ ?_ ?_
  · exact rng_small (Int.natCast_nonneg _) (by omega)
  · rw [List.length_map]; exact rng_size
  · exact ⟨rfl, fun j b hj => absurd hj (Nat.not_lt_zero _)⟩
  · rintro i t uu nx h tk I oI hi hI hJ9 F2 N2
    try (k_extra "zfold")
    obtain ⟨rfl, hno⟩ := hJ9
    clear F9 N9 hK9 hR9
    have hv : (ndq.rs.map fun r => Value.ref r.x)[((0 : Int) + (i : Int)).toNat]? = some (.ref ndq.rs[i].x) := by
      have e : ((0 : Int) + (i : Int)).toNat = i := by omega
      rw [e]; simp [hi]
    obtain ⟨od, c1, c2, c3, c4, c5, d1, d2, d3, d4, d5, omet, hox, hod⟩ := (hir _ (List.getElem_mem hi)).ex
    have hIz : ∀ p ∈ Z1 ++ Fz, p.1 ≠ I := fun p hp => hI p (.tail _ (.tail _ (.tail _ hp)))
    have hi' : (i : Int) < ((ndq.rs.map fun r => Value.ref r.x).length : Int) := by rw [List.length_map]; omega
    k_steps
    · obtain ⟨ep, eh⟩ := putR_at (r := ⟨rx, net, (i1 : Int), gw, face⟩) (i := i) (a := ndq.rs[i]) hno (by simp [hi]) ⟨by assumption, by assumption⟩
      refine hret (repl ndq.l (rtL (putR ⟨rx, net, (i1 : Int), gw, face⟩ ndq.rs) nl) Z1) f1 ndq many u _ _ e2 hq (by rw [eh]; rfl) (by k_asm) ?_ (nd_repl2 (A := [_, _]) (nd_tail nd1)) (Tree.setRs Tr1 (nd_left ndz) hq fun r hr => (mem_putR hr).elim (fun e => e ▸ hR1) (hir r)) (fun r hr => RtIn.replL Tr1 (nd_left ndz) hq (hkp1 _ hr))
      rw [ep, ← rt_set (r := ⟨rx, net, (i1 : Int), gw, face⟩) (rx := rx) rfl]
      exact news_sub (by assumption) fun p hp => .tail _ (.tail _ hp)
    all_goals (
      refine lend_mk _ (by assumption) (by assumption) (fun p hp => .tail _ hp) (.head _) hI ⟨by ktr_rel, rfl, fun j b hj hb hs => ?_⟩
      by_cases hji : j < i
      · exact hno j b hji hb hs
      · have hje : j = i := by omega
        rw [hje, List.getElem?_eq_getElem hi] at hb
        cases hb
        first | exact absurd hs.1 (by assumption) | exact absurd hs.2 (by assumption))
  · rintro uu nx h tk hJ9 F2 N2
    try (k_extra "zfold")
    obtain ⟨rfl, hno⟩ := hJ9
    clear F9 N9 hK9 hR9
    k_steps
    obtain ⟨ep, eh⟩ := putR_none (r := ⟨rx, net, (i1 : Int), gw, face⟩) (rs := ndq.rs) fun a ha => by
      obtain ⟨j, hj, rfl⟩ := List.getElem_of_mem ha
      exact hno j _ hj (by simp [hj])
    rename News _ _ _ _ => N8
    have N9 := news_sub N8 fun p hp => .tail _ hp
    rw [rt_snoc (r := ⟨rx, net, (i1 : Int), gw, face⟩) (rx := rx) rfl, ← ep] at N9
    exact hret _ f1 ndq (many + 1) _ _ _ e2 hq (by rw [eh]; rfl) (by k_asm) N9 (nd_table (nd_tail nd1)) (Tree.setRs Tr1 (nd_left ndz) hq fun r hr => (mem_putR hr).elim (fun e => e ▸ hR1) (hir r)) (fun r hr => RtIn.replL Tr1 (nd_left ndz) hq (hkp1 _ hr))
end
end Mine

-- part T5
namespace Mine
set_option maxRecDepth 100000
set_option maxHeartbeats 8000000
set_option pp.deepTerms false
set_option pp.deepTerms.threshold 4
set_option pp.maxSteps 100000

theorem Prn.rs {f f' : Fm} {net : Int} {i a : Nat} (h : Prn f net i a f') : rsOf f' = rsOf f := by
  funext q
  unfold rsOf
  cases e : f q with
  | some nd =>
    by_cases hr : nd.rs = []
    · cases e' : f' q with
      | none => exact hr.symm
      | some n2 => rw [h.back e'] at e; cases e; rfl
    · rw [h.keep e hr]
  | none =>
    cases e' : f' q with
    | none => rfl
    | some n2 => rw [h.back e'] at e; cases e
theorem Prn.root {f f' : Fm} {net : Int} {i a : Nat} (h : Prn f net i a f') : f' [] = f [] := h.at (Nat.zero_le _)
theorem rsOf_grow {f : Fm} {q : Path} {nd : Nd} : rsOf (Mine.grow f q nd) = fun p => if p = q then nd.rs else rsOf f p := by
  funext p
  unfold rsOf
  by_cases e : p = q
  · subst e; rw [grow_self, if_pos rfl]
  · rw [grow_ne _ _ e, if_neg e]
/-- the same branches, other routes at q -/
theorem bareB_grow {f : Fm} {q p : Path} {nd n2 nd' : Nd} (hq : f q = some nd) (hp : p ≠ q) : bareB (Mine.grow f q nd') p n2 = bareB f p n2 := by
  have hn : ∀ q', (Mine.grow f q nd' q').isNone = (f q').isNone := fun q' => by
    by_cases e : q' = q
    · subst e; rw [grow_self, hq]; rfl
    · rw [grow_ne _ _ e]
  unfold bareB
  rw [hn, hn]
theorem Prn.lean2 {f f' : Fm} {net : Int} {i a : Nat} {nd nd' : Nd} (hL : Lean' f) (hq : f (bitsOf net i) = some nd) (h : Prn (Mine.grow f (bitsOf net i) nd') net i a f') (hall : ∀ j, j ≤ i → f (bitsOf net j) ≠ none)
    (hend : a = 0 ∨ ∀ nd, f' (bitsOf net a) = some nd → bareB f' (bitsOf net a) nd = false) : Lean' f' := by
  refine h.lean (fun j hj => ?_) hend fun q n1 e hne hoff => ?_
  · by_cases e : bitsOf net j = bitsOf net i
    · rw [e, grow_self]; exact fun x => nomatch x
    · rw [grow_ne _ _ e]; exact hall j hj
  · have hqi := hoff i (Nat.le_refl _)
    rw [grow_ne _ _ hqi] at e
    rw [bareB_grow hq hqi]
    exact hL q n1 e hne
theorem pathVals_grow {f : Fm} {net : Int} {i : Nat} {q : Path} {nd nd' : Nd} (hq : f q = some nd) (hx : nd'.x = nd.x) : pathVals (Mine.grow f q nd') net i = pathVals f net i := by
  refine pathVals_congr fun j _ => ?_
  by_cases e : bitsOf net j = q
  · rw [e, grow_self, hq, vOf_some, vOf_some, hx]
  · rw [grow_ne _ _ e]
theorem vOf_grow {f : Fm} {q p : Path} {nd nd' : Nd} (hq : f q = some nd) (hx : nd'.x = nd.x) : vOf (Mine.grow f q nd' p) = vOf (f p) := by
  by_cases e : p = q
  · rw [e, grow_self, hq, vOf_some, vOf_some, hx]
  · rw [grow_ne _ _ e]
theorem brD_ne_inst2 {P : Params} {t1 t2 t3 : Tok} {v0 v1 : Value} {l C x : Addr} : instObj C x ≠ brD P t1 t2 t3 v0 v1 l := fun e => brD_ne_inst e.symm
theorem brD_ne5 {P : Params} {t1 t2 t3 : Tok} {v0 v1 : Value} {l : Addr} {es : List DictEntry} (e : brD P t1 t2 t3 v0 v1 l = dictOf es 5) : False := by injection e with _ _ e3 _; injection e3 with _ e4; cases e4
/-- a branch is given a new list of routes -/
theorem Tree.newL {P : Params} {Z : Led} {f : Fm} {q : Path} {nd : Nd} {rs : List Rt} {k : Nat} {l' : Addr} {s1 s2 s3 : Tok} {v0 v1 : Value} (T : Tree P Z f) (ndZ : ND Z) (hq : f q = some nd) (hr : ∀ r ∈ rs, RtIn P Z r) (hl : l' ∉ keys Z)
    (h0 : vOf (f (q ++ [false])) = v0) (h1 : vOf (f (q ++ [true])) = v1) :
    Tree P ((l', rtL rs k) :: repl nd.d (brD P s1 s2 s3 v0 v1 l') Z) (Mine.grow f q ⟨nd.x, nd.d, l', rs⟩) := by
  subst h0 h1
  obtain ⟨jx, ⟨u1, u2, u3, jd⟩, ⟨kk, jl⟩, jr⟩ := T.nod _ _ hq
  have hv : ∀ q', vOf (Mine.grow f q ⟨nd.x, nd.d, l', rs⟩ q') = vOf (f q') := fun q' => vOf_grow hq rfl
  have hk : ∀ r, RtIn P Z r → RtIn P ((l', rtL rs k) :: repl nd.d (brD P s1 s2 s3 (vOf (f (q ++ [false]))) (vOf (f (q ++ [true]))) l') Z) r := fun r h => (h.repl ndZ jd (fun _ _ => brD_ne_inst) fun _ e => brD_ne5 e).mono fun p hp => .tail _ hp
  have hn : ∀ q', Mine.grow f q ⟨nd.x, nd.d, l', rs⟩ q' ≠ none ↔ f q' ≠ none := fun q' => by
    by_cases e : q' = q
    · subst e; rw [grow_self, hq]; simp
    · rw [grow_ne _ _ e]
  refine ⟨fun q' nd' h => ?_, fun q1 q2 n1 n2 h1 h2 e => ?_, fun q' c h => (hn _).mpr (T.pre _ _ ((hn _).mp h)), fun q' h => T.fin _ ((hn _).mp h), (hn _).mpr T.root⟩
  · by_cases e : q' = q
    · subst e
      rw [grow_self] at h
      cases h
      refine ⟨.tail _ (mem_repl_ne jx (nd_ne ndZ jx jd brD_ne_inst2)), ⟨s1, s2, s3, ?_⟩, ⟨k, .head _⟩, fun r h => hk r (hr r h)⟩
      rw [hv, hv]
      exact .tail _ (mem_repl_self jd)
    · rw [grow_ne _ _ e] at h
      obtain ⟨ix, ⟨u1, u2, u3, id⟩, ⟨n, il⟩, ir⟩ := T.nod _ _ h
      refine ⟨.tail _ (mem_repl_ne ix (nd_ne ndZ ix jd brD_ne_inst2)), ⟨u1, u2, u3, ?_⟩, ⟨n, .tail _ (mem_repl_ne il (nd_ne ndZ il jd rtL_ne_brD))⟩, fun r h => hk r (ir r h)⟩
      rw [hv, hv]
      exact .tail _ (mem_repl_ne id (T.x_ne h hq e).2.1)
  · have lk : ∀ q' n', f q' = some n' → n'.l ≠ l' := fun q' n' h e => by
      obtain ⟨_, _, ⟨_, il⟩, _⟩ := T.nod _ _ h
      exact hl (e ▸ mem_keys il)
    by_cases e1 : q1 = q
    · by_cases e2 : q2 = q
      · rw [e1, e2]
      · rw [e1, grow_self] at h1; rw [grow_ne _ _ e2] at h2
        cases h1
        rcases e with e | e | e
        · exact absurd e.symm (T.x_ne h2 hq e2).2.1
        · exact absurd e.symm (T.x_ne h2 hq e2).1
        · exact absurd e.symm (lk _ _ h2)
    · rw [grow_ne _ _ e1] at h1
      by_cases e2 : q2 = q
      · rw [e2, grow_self] at h2
        cases h2
        rcases e with e | e | e
        · exact absurd e (T.x_ne h1 hq e1).2.1
        · exact absurd e (T.x_ne h1 hq e1).1
        · exact absurd e (lk _ _ h1)
      · rw [grow_ne _ _ e2] at h2
        exact T.inj _ _ _ _ h1 h2 e
theorem RtIn.replD {P : Params} {Z : Led} {f : Fm} {q : Path} {nd : Nd} {s1 s2 s3 : Tok} {v0 v1 : Value} {l' : Addr} (T : Tree P Z f) (ndZ : ND Z) (hq : f q = some nd) {r : Rt} (h : RtIn P Z r) : RtIn P (Mine.repl nd.d (brD P s1 s2 s3 v0 v1 l') Z) r := by
  obtain ⟨_, ⟨_, _, _, jd⟩, _, _⟩ := T.nod _ _ hq
  exact h.repl ndZ jd (fun _ _ => brD_ne_inst) fun _ e => brD_ne5 e
theorem nd_in3 {a b c l d : Addr} {o1 o2 o3 p1 p2 p3 o4 x : Obj} {Z F : Led} (h : ND ((a, o1) :: (b, o2) :: (c, o3) :: (Z ++ F))) (hl : ∀ p ∈ (a, o1) :: (b, o2) :: (c, o3) :: (Z ++ F), p.1 ≠ l) :
    ND ((a, p1) :: (b, p2) :: (c, p3) :: (((l, o4) :: repl d x Z) ++ F)) := by
  refine nd_perm (Z := (l, o4) :: (a, o1) :: (b, o2) :: (c, o3) :: (Z ++ F)) ?_ (nd_cons hl h)
  have e : keys ((a, p1) :: (b, p2) :: (c, p3) :: (((l, o4) :: repl d x Z) ++ F)) = [a, b, c] ++ l :: (keys Z ++ keys F) := by
    have := keys_repl (d := d) (o' := x) (Z := Z)
    unfold keys at this ⊢
    simp only [List.map_cons, List.cons_append, List.map_append, this, List.nil_append]
  have e2 : keys ((l, o4) :: (a, o1) :: (b, o2) :: (c, o3) :: (Z ++ F)) = l :: ([a, b, c] ++ (keys Z ++ keys F)) := by
    unfold keys; simp only [List.map_cons, List.cons_append, List.map_append, List.nil_append]
  rw [e, e2]
  exact List.perm_middle
theorem news_in3 {h₀ h : Heap} {L : Addr} {a b c l : Addr × Obj} {Z F : Led} (N : News h₀ L h (l :: a :: b :: c :: (Z ++ F))) : News h₀ L h (a :: b :: c :: ((l :: Z) ++ F)) := news_sub N fun p hp => by
  simp only [List.mem_cons, List.cons_append] at hp ⊢
  rcases hp with e | e | e | e | e
  · exact .inr (.inl e)
  · exact .inr (.inr (.inl e))
  · exact .inr (.inr (.inr (.inl e)))
  · exact .inl e
  · exact .inr (.inr (.inr (.inr e)))
/-- behind a branch that is not there none is -/
theorem none_below {f : Fm} (hp : ∀ q b, f (q ++ [b]) ≠ none → f q ≠ none) {net : Int} {i k : Nat} (h : f (bitsOf net (i + 1)) = none) (hk : i < k) : f (bitsOf net k) = none := by
  induction k with
  | zero => exact absurd hk (Nat.not_lt_zero _)
  | succ k ih =>
    by_cases e : i = k
    · exact e ▸ h
    · cases e2 : f (bitsOf net (k + 1)) with
      | none => rfl
      | some n =>
        have := hp (bitsOf net k) (bitB net k) (by rw [← bitsOf_succ, e2]; exact fun x => nomatch x)
        exact absurd (ih (by omega)) this
end Mine

-- part T6
namespace Mine
set_option maxRecDepth 100000
set_option maxHeartbeats 8000000
set_option pp.deepTerms false
set_option pp.deepTerms.threshold 4
set_option pp.maxSteps 100000

open PyProof.Rows.LCg PyProof.Rows.LCt in
theorem off1_mem {D : Addr} : ∀ {l : Led}, Off1 D l → ∀ p ∈ l, p.1 ≠ D
  | [], _, _, h => nomatch h
  | _ :: _, x, p, h => (List.mem_cons.mp h).elim (fun e => e ▸ x.1) fun h => off1_mem x.2 p h
theorem news_inA {h₀ h : Heap} {L : Addr} {l : Addr × Obj} {A Z F : Led} (N : News h₀ L h (l :: (A ++ (Z ++ F)))) : News h₀ L h (A ++ ((l :: Z) ++ F)) := news_sub N fun p hp => by
  simp only [List.mem_cons, List.mem_append, List.cons_append] at hp ⊢
  rcases hp with e | e | e | e
  · exact .inr (.inl e)
  · exact .inl e
  · exact .inr (.inr (.inl e))
  · exact .inr (.inr (.inr e))
theorem nd_inA {A Z F : Led} {l d : Addr} {o x : Obj} (h : ND (A ++ (Z ++ F))) (hl : ∀ p ∈ A ++ (Z ++ F), p.1 ≠ l) : ND (A ++ (((l, o) :: repl d x Z) ++ F)) := by
  refine nd_perm (Z := (l, o) :: (A ++ (Z ++ F))) ?_ (nd_cons hl h)
  have e : keys (A ++ (((l, o) :: repl d x Z) ++ F)) = keys A ++ l :: (keys Z ++ keys F) := by
    have := keys_repl (d := d) (o' := x) (Z := Z)
    unfold keys at this ⊢
    simp only [List.map_cons, List.cons_append, List.map_append, this]
  have e2 : keys ((l, o) :: (A ++ (Z ++ F))) = l :: (keys A ++ (keys Z ++ keys F)) := by
    unfold keys; simp only [List.map_cons, List.map_append]
  rw [e, e2]
  exact List.perm_middle
def neF (face : Int) (r : Rt) : Bool := decide (r.face ≠ face)
def eqF (face : Int) (r : Rt) : Bool := decide (r.face = face)
structure Fc (f : Fm) (face : Int) (rs : List Rt) (i : Nat) (f' : Fm) : Prop where
  any : ∀ q, rsOf f' q = rsOf f q ∨ rsOf f' q = (rsOf f q).filter (neF face)
  did : ∀ j r, j < i → rs[j]? = some r → r.face = face → rsOf f' (bitsOf r.net r.pre.toNat) = (rsOf f (bitsOf r.net r.pre.toNat)).filter (neF face)
theorem Fc.zero {f : Fm} {face : Int} {rs : List Rt} : Fc f face rs 0 f := ⟨fun _ => .inl rfl, fun _ _ h => absurd h (Nat.not_lt_zero _)⟩
theorem Fc.no {f f' : Fm} {face : Int} {rs : List Rt} {i : Nat} {r : Rt} (h : Fc f face rs i f') (hr : rs[i]? = some r) (hf : r.face ≠ face) : Fc f face rs (i + 1) f' := ⟨h.any, fun j r' hj hr' hf' => by
  by_cases e : j = i
  · rw [e, hr] at hr'; cases hr'; exact absurd hf' hf
  · exact h.did j r' (by omega) hr' hf'⟩
theorem filter_twice {p : Rt → Bool} (l : List Rt) : (l.filter p).filter p = l.filter p := by rw [List.filter_filter]; congr 1; funext x; simp
theorem Fc.step {f f' f3 : Fm} {face : Int} {rs : List Rt} {i : Nat} {r : Rt} {q' : Path} (h : Fc f face rs i f') (hr : rs[i]? = some r)
    (h3 : rsOf f3 = fun p => if p = q' then (rsOf f' q').filter (neF face) else rsOf f' p) (hq : bitsOf r.net r.pre.toNat = q' ∨ rsOf f' (bitsOf r.net r.pre.toNat) = []) : Fc f face rs (i + 1) f3 := by
  have any' : ∀ q, rsOf f3 q = rsOf f q ∨ rsOf f3 q = (rsOf f q).filter (neF face) := fun q => by
    rw [h3]
    by_cases e : q = q'
    · subst e
      simp only [if_true]
      right
      rcases h.any q with e | e
      · rw [e]
      · rw [e, filter_twice]
    · simp only [if_neg e]
      exact h.any q
  have keep : ∀ q, rsOf f' q = (rsOf f q).filter (neF face) → rsOf f3 q = (rsOf f q).filter (neF face) := fun q e => by
    rw [h3]
    by_cases e2 : q = q'
    · subst e2; simp only [if_true]; rw [e, filter_twice]
    · simp only [if_neg e2]; exact e
  refine ⟨any', fun j r' hj hr' hf' => ?_⟩
  by_cases e : j = i
  · rw [e, hr] at hr'
    cases hr'
    rcases hq with e2 | e2
    · rw [h3]
      simp only [e2, if_true]
      rcases h.any q' with e | e
      · rw [e]
      · rw [e, filter_twice]
    · refine keep _ ?_
      rcases h.any (bitsOf r.net r.pre.toNat) with e | e
      · rw [← e, e2]; rfl
      · exact e
  · exact keep _ (h.did j r' (by omega) hr' hf')
theorem Fc.fin {f f' : Fm} {face : Int} {ps : List Path} (h : Fc f face (ps.flatMap (rsOf f)) (ps.flatMap (rsOf f)).length f') (hown : ∀ q r, r ∈ rsOf f q → bitsOf r.net r.pre.toNat = q) (hps : ∀ q, q ∈ ps ↔ f q ≠ none) :
    rsOf f' = fun q => (rsOf f q).filter (neF face) := by
  funext q
  rcases h.any q with e | e
  · by_cases hx : ∃ r ∈ rsOf f q, r.face = face
    · obtain ⟨r, hr, hf⟩ := hx
      have hq : q ∈ ps := (hps q).mpr fun e => by unfold rsOf at hr; rw [e] at hr; cases hr
      have hm : r ∈ ps.flatMap (rsOf f) := List.mem_flatMap.mpr ⟨q, hq, hr⟩
      obtain ⟨j, hj, e2⟩ := List.getElem_of_mem hm
      have := h.did j r hj (by rw [List.getElem?_eq_getElem hj, e2]) hf
      rw [hown q r hr] at this
      exact this
    · rw [e]
      symm
      refine List.filter_eq_self.mpr fun r hr => ?_
      unfold neF
      exact decide_eq_true fun hf => hx ⟨r, hr, hf⟩
  · exact e
theorem countP_take {p : Rt → Bool} {rs : List Rt} {i : Nat} {r : Rt} (h : rs[i]? = some r) : (rs.take (i + 1)).countP p = (rs.take i).countP p + (if p r = true then 1 else 0) := by
  rw [List.take_add_one, h, List.countP_append]
  simp [List.countP_cons]
end Mine

-- part X1
namespace Mine
set_option maxRecDepth 100000
set_option maxHeartbeats 8000000
set_option pp.deepTerms false
set_option pp.deepTerms.threshold 4
set_option pp.maxSteps 100000


abbrev excO (t : Addr) : Obj := { cls := .ref 51, data := .fields #[.ref t, .none, .none, .none, .bool false, .none] }
abbrev excD (t D : Addr) : Obj := { cls := .ref 51, dict := some D, data := .fields #[.ref t, .none, .none, .none, .bool false, .none] }
abbrev bm51 : List Value := [.ref 38, .type "Exception", .type "BaseException", .type "object"]
theorem cls51 {P : Params} {h : Heap} (X : (KK P).In h) : ∃ nm q bs sn sub ab col dd k0 k1 k2 k3 k5, h.get? 51 = some (excClassObj nm q 51 50 bs bm51 true sn sub ab col dd k0 k1 k2 k3 k5 "Exception.__new__") :=
  ⟨_, _, _, _, _, _, _, _, _, _, _, _, _, X 51 _ (by k_is)⟩
theorem cd51 (P : Params) : ∃ cd, clsIn (KK P) 51 = some cd ∧ cd.mro = .ref 51 :: bm51 ∧ cd.hasDict = true := ⟨_, by k_is, rfl, rfl⟩
theorem set51 (P : Params) : findIn (KK P) (.ref 51) "__setattr__" = some (some (.builtin "object.__setattr__")) := by k_is
theorem msg51 (P : Params) : findIn (KK P) (.ref 51) "message" = some none := by k_is
theorem init51 (P : Params) : findIn (KK P) (.ref 51) "__init__" = some (some (.ref 35)) := by k_is
theorem name51 (P : Params) : nsIn (KK P) mainGlobals (Str.ofString "RouteError") = some (some (.ref 51)) := by k_is
theorem fun35 (P : Params) : typeIn (KK P) (.ref 35) = some (.type "function") := by k_is
section
variable {prog : Program} {w : World} {A : Around} {R : Result → Shared → Prop} {E : Value → Shared → Prop} {h : Heap} {g : Array GenState} {d : Drawn} {t : Nat} {os : OsState}
theorem exc_new {rest : List Value} (X : (KK w.params).In h)
    (hq : R (.ok (.ret (.ref (h.objs.size + 1)))) ⟨(h.push { cls := .type "tuple", data := .seq rest.toArray }).push (excO h.objs.size), g, d, t, os⟩) (hrest : rest.length ≤ sizeLine) :
    codeAny (model prog w) A (.builtin "Exception.__new__" ⟨.ref 51 :: rest, []⟩) R ⟨h, g, d, t, os⟩ := by
  have Fn := PySem.F.excBase_Exception
  obtain ⟨nm, q, bs, sn, sub, ab, col, dd, k0, k1, k2, k3, k5, hC⟩ := cls51 X
  have hends := Fn.ends
  have hcB : (Value.ref 51 :: bm51).contains (.type "Exception") = true := by decide
  have hcA : (Value.ref 51 :: bm51).contains (.type "AttributeError") = false := by decide
  have hcN : (Value.ref 51 :: bm51).contains (.type "NameError") = false := by decide
  refine codeAny_builtinAt Fn.entry ?_
  unfold Builtin.«BaseException.__new__»
  refine PySem.wpAt_bind ?_
  show PySem.wpAt _ _ _ (stack >>= _) _ _ _
  refine PySem.wpAt_bind (PySem.wpAt_stack fun p below => PySem.wpAt_of_wpAny ?_)
  wp_walk
  refine PySem.wpAt_of_wpAny ?_
  rw [Fn.owner]
  repeat (first | with_reducible refine wpAny_madeHere_exc Fn.canon hC ?_ | with_reducible refine wpAny_loadPart_at hC ?_ | (with_reducible refine wpAny_isSubtype_exc hC ?_; first | rw [hcB] | rw [hcA] | rw [hcN]) | wp_step)
  show R _ _
  rw [Heap.size_push]
  exact hq
theorem exc_newcheck {rest : List Value} {Q : Unit → Shared → Prop} (X : (KK w.params).In h)
    (hq : Q () ⟨h, g, d, t, os⟩) : wpAny (model prog w) A (checkBuiltinCall "Exception.__new__" ⟨.ref 51 :: rest, []⟩) Q E ⟨h, g, d, t, os⟩ := by
  have Fn := PySem.F.excBase_Exception
  obtain ⟨nm, q, bs, sn, sub, ab, col, dd, k0, k1, k2, k3, k5, hC⟩ := cls51 X
  have hcont : (Value.ref 51 :: bm51).contains (.type "Exception") = true := by decide
  have hstar := Fn.noStar
  simp only [checkBuiltinCall, Fn.newKind, Fn.newSplit, Fn.newRow]
  repeat (first | refine wpAny_loadPart_at hC ?_ | (refine wpAny_isSubtype_exc hC ?_; rw [hcont]) | refine wpAny_staticBase_exc hC ?_ | refine wpAny_madeBy_exc hC ?_ | simp only [bne_self_eq_false, Bool.false_eq_true, if_false] | wp_step)
  exact hq
theorem exc_core {x : Str} {tx : Tok} (X : (KK w.params).In h)
    (hq : codeAny (model prog w) (A.under (.builtin "type.__call__" ⟨[.ref 51, .str x tx], []⟩)) (.call (.ref 35) ⟨[.ref (h.objs.size + 1), .str x tx], []⟩) (InitBack (h.objs.size + 1) R)
      ⟨(h.push { cls := .type "tuple", data := .seq #[.str x tx] }).push (excO h.objs.size), g, d, t, os⟩) :
    codeAny (model prog w) A (.call (.ref 51) ⟨[.str x tx], []⟩) R ⟨h, g, d, t, os⟩ := by
  have Fn := PySem.F.excBase_Exception
  obtain ⟨nm, q, bs, sn, sub, ab, col, dd, k0, k1, k2, k3, k5, hC⟩ := cls51 X
  have f1 := tc_lookup
  have f2 := tc_bind (.ref 51)
  have hT : (⟨h, g, d, t, os⟩ : Shared).TypeIs (.ref 51) "type" := ⟨_, hC, rfl⟩
  refine codeAny_of_tree ?_
  show wpAny _ _ (callAny (.ref 51) _) _ _ _
  repeat (any_goals (first | assumption | with_reducible refine wpAny_loadPart_at hC ?_ | wp_step))
  refine ⟨rfl, ?_⟩
  refine codeAny_call_builtin_at (Code.quiet_builtin _ (by decide +kernel)) entry_typeCall (wpAny_check_type_call_sub hC ?_)
  repeat (first | with_reducible refine wpAny_loadPart_at hC ?_ | with_reducible refine wpAny_madeBy_exc hC ?_ | wp_step)
  refine codeAny_call_builtin_code (Code.quiet_builtin _ Fn.quiet) (exc_newcheck X ?_)
  refine exc_new (rest := [Value.str x tx]) X ?_ (by rw [sizeLine_eq]; simp)
  show wpAny _ _ _ _ _ _
  have k : ∀ b o, h.get? b = some o → ((h.push { cls := .type "tuple", data := .seq [Value.str x tx].toArray }).push (excO h.objs.size)).get? b = some o := fun b o e => Heap.get?_push_of_some _ (Heap.get?_push_of_some _ e)
  have hC₁ := k _ _ hC
  have hget : ((h.push { cls := .type "tuple", data := .seq [Value.str x tx].toArray }).push (excO h.objs.size)).get? (h.objs.size + 1) = some { cls := .ref 51, data := .fields #[.ref h.objs.size, .none, .none, .none, .bool false, .none] } := by heap_get
  have hcC : (Value.ref 51 :: bm51).contains (.ref 51) = true := by decide
  have X₁ := X.keeps k
  unfold isInstance
  repeat (first | with_reducible refine wpAny_loadPart_at hget ?_ | (with_reducible refine wpAny_isSubtype_exc hC₁ ?_; rw [hcC]) | wp_step)
  show wpAny _ _ (typeLookup (.ref 51) _) _ _ _
  refine (looks_findIn X₁ (init51 _)).here ?_
  dsimp only
  refine wpAny_holding (wpAny_bind ((bind_fn X₁ _ (fun35 _)).here ?_))
  dsimp only
  refine wpAny_bind (wpAny_call (codeAny_mono hq fun r s' z => ?_))
  rcases r with e | (v | _ | _ | _) <;> first | exact z | exact z.elim | skip
  obtain ⟨rfl, z⟩ := z
  exact wpAny_pure (wpAny_pure z)
theorem exc_osa {s : Shared} {x ta : Addr} {tk : Tok} {v : Value} (X : (KK w.params).In s.heap) (hx : s.heap.get? x = some (excO ta))
    (hq : ∀ h' tk' D, h'.get? x = some (excD ta D) → (∀ b o, b ≠ x → s.heap.get? b = some o → h'.get? b = some o) → R (.ok (.ret .none)) { s with heap := h', toks := tk' }) :
    codeAny (model prog w) A (.call (.builtin "object.__setattr__") ⟨[.ref x, .str (Str.ofString "message") tk, v], []⟩) R s := by
  have I : InstAt s.heap x (excO ta) 51 none := ⟨hx, rfl, rfl, trivial⟩
  have SF := PySem.F.store_object
  have SE := PySem.F.store_Exception
  obtain ⟨cd, hc, hmro, hdict⟩ := cd51 w.params
  have sub : Looks (model prog w) s.heap (isInstance (.ref x) (.type "object")) true := I.type.andThen (looks_mroIn X (by unfold mroIn; rw [hc, Option.bind_some, hmro]; decide))
  refine codeAny_call_builtin SF.slot.plain SF.entry (@check_slot (model prog w) _ _ s "object.__setattr__" "object" "__setattr__" (.ref x) [.str (Str.ofString "message") tk, v] [] _ SF.kind SF.split sub (SF.args (.ref x) (.str (Str.ofString "message") tk) v) ?_)
  have hm : Looks (model prog w) s.heap (mroOf (.ref 51)) cd.mro := (looks_clsIn X hc).andThen .now
  rw [osa_eq, refuse_eq]
  refine wpAny_bind (wpAny_bind (I.type.here (wpAny_bind (hm.here ?_))))
  rw [hmro, refuseLoop_ref, refuseLoop_ref, SE.passes]
  refine wpAny_pure (wpAny_bind (I.type.here (wpAny_bind ((looks_findIn X (msg51 _)).here (wpAny_bind (wpAny_pure ?_))))))
  dsimp only
  have hx₁ : (s.heap.push { cls := .type "dict", data := .dict #[] }).get? x = some (excO ta) := Heap.get?_push_of_some _ hx
  have hxs : x ≠ s.heap.objs.size := Nat.ne_of_lt (Heap.lt_size hx)
  refine wpAny_bind (wpAny_pure (wpAny_bind (wpAny_bind (wpAny_loadPart hx (wpAny_bind ((looks_clsIn X hc).here ?_))))))
  rw [hdict]
  show wpAny (model prog w) A.in1 (alloc { cls := .type "dict", data := .dict #[] } >>= fun d => update x (fun o => { cls := o.cls, dict := some d, data := o.data, slots := o.slots }) >>= fun _ => dictMade (.ref 51) x d) _ _ s
  refine wpAny_bind (wpAny_alloc ?_)
  refine wpAny_bind (wpAny_update hx₁ ?_)
  refine wpAny_pure ?_
  have hgd : ((s.heap.push { cls := .type "dict", data := .dict #[] }).update x fun o => { cls := o.cls, dict := some s.heap.objs.size, data := o.data, slots := o.slots }).get? s.heap.objs.size
      = some { cls := .type "dict", data := .dict #[] } :=
    (Heap.get?_update_ne _ _ _ _ hxs.symm).trans (Heap.get?_push_at rfl rfl)
  have hnd : ((s.heap.push { cls := .type "dict", data := .dict #[] }).update x fun o => { cls := o.cls, dict := some s.heap.objs.size, data := o.data, slots := o.slots }).Ns s.heap.objs.size (fun _ => none) :=
    ⟨_, #[], _, hgd, rfl, fun e he => absurd he (by simp), fun _ => rfl⟩
  show wpAny _ _ (Builtin.ObjectAttr.storeInDict s.heap.objs.size (.str (Str.ofString "message") tk) (Str.ofString "message") v) _ _ _
  unfold Builtin.ObjectAttr.storeInDict Builtin.ObjectAttr.newKeyGuard
  refine wpAny_bind (wpAny_pure (wpAny_bind (wpAny_nsSet1 (Heap.Ns1.of_empty hnd) fun h' hn' hs => ?_)))
  obtain ⟨oD, esD, epD, hoD, hdD, hcD⟩ := hn'.count (Within.cons (Str.ofString "message") v Within.nil)
  refine wpAny_bind (wpAny_lookBehind hoD (by rw [hdD]; exact pastItsLine_dict (Nat.le_trans hcD (by rw [List.length_cons, List.length_nil, sizeLine_eq]; omega))) ?_)
  refine wpAny_pure (hq h' _ s.heap.objs.size ?_ fun b o hb e => ?_)
  · exact (hs.2 x hxs).trans (Heap.get?_update_self _ hx₁ rfl)
  · exact (hs.2 b (Nat.ne_of_lt (Heap.lt_size e))).trans ((Heap.get?_update_ne _ _ _ _ hb).trans (Heap.get?_push_of_some _ e))
theorem wpAny_exc_set {s : Shared} {x ta : Addr} {v : Value} {Q : Unit → Shared → Prop} (X : (KK w.params).In s.heap) (hx : s.heap.get? x = some (excO ta))
    (hq : ∀ h' tk' D, h'.get? x = some (excD ta D) → (∀ b o, b ≠ x → s.heap.get? b = some o → h'.get? b = some o) → Q () { s with heap := h', toks := tk' }) :
    wpAny (model prog w) A (setAttr (.ref x) (Str.ofString "message") v) Q E s := by
  have I : InstAt s.heap x (excO ta) 51 none := ⟨hx, rfl, rfl, trivial⟩
  exact set_plain X I (set51 _) (exc_osa (s := { s with toks := s.toks + 1 }) X hx hq)
end
end Mine

-- part X2
namespace Mine
set_option maxRecDepth 100000
set_option maxHeartbeats 8000000
set_option pp.deepTerms false
set_option pp.deepTerms.threshold 4
set_option pp.maxSteps 100000


section
variable {prog : Program} {w : World} {p : Program} {loose : List Str} {mean : ExcName → Option Value} {mg mb : Str → Option Value}
    {dp un : Nat} {gd : Option (List Code)} {cn : Str} {cs : Scope} {a : Addr} {ccd : Value} {cl : List (Str × Addr)} {outer : List Env} {A₀ : Around} {base h₀ : Heap} {L : Addr} {m : Str → Option Value} {news : List (Addr × Obj)} {s : Shared} {Q E : Value → Shared → Prop}

theorem zsetX21 : True := by
  k_with_none
  k_with "z_ch" => first | with_reducible assumption | (refine' And.right ?_; rotate_left; first | with_reducible assumption | (refine' And.right ?_; rotate_left; first | with_reducible assumption | (refine' And.right ?_; rotate_left; first | with_reducible assumption | (refine' And.right ?_; rotate_left; first | with_reducible assumption | (refine' And.right ?_; rotate_left; first | with_reducible assumption | (refine' And.right ?_; rotate_left; first | with_reducible assumption | (refine' And.right ?_; rotate_left; with_reducible assumption)))))))
  k_with "z_lt" => first | with_reducible assumption | (refine' And.left ?_; rotate_left; k_extra "z_ch") | (refine' And.right ?_; rotate_left; k_extra "z_ch")
  k_with "k_ne" => (refine neN ?_; (try dsimp only); first | (refine' Nat.ne_of_gt ?_; k_extra "z_lt") | (refine' Nat.ne_of_lt ?_; k_extra "z_lt") | (refine' Nat.ne_of_gt (Nat.lt_trans ?_ (by with_reducible assumption)); k_extra "z_lt") | (refine' Nat.ne_of_lt (Nat.lt_trans ?_ (by with_reducible assumption)); k_extra "z_lt"))
  k_with "zfold" => ((fail_if_success (fail_if_success k_fold)); refine zfold_q ?_; intro qk)
  k_with "k_env" => (refine zfold_env (f := fun en9 => execs _ en9) ?_; intro en9; refine zfold_A ?_; intro ak9; (rename Fr _ _ _ _ => fr9); refine zfold_F fr9 ?_; clear fr9; intro fm9 fr9; try (refine zgen_t ?_; intro tk9))
  k_with "ktr_room" => first | exact fits (c := 1) hdp rfl rfl | exact fits0 (c := 1) hdp rfl rfl | exact fits (c := 2) hdp rfl rfl | exact fits0 (c := 2) hdp rfl rfl | exact fits (c := 0) hdp rfl rfl | exact fits0 (c := 0) hdp rfl rfl | exact fits (c := 3) hdp rfl rfl | exact fits0 (c := 3) hdp rfl rfl | exact Nat.le_of_ble_eq_true rfl
  k_with "ktr_units" => first | exact fits (c := 3) hun rfl rfl | exact fits0 (c := 3) hun rfl rfl | exact fits (c := 6) hun rfl rfl | exact fits0 (c := 6) hun rfl rfl | exact fits (c := 0) hun rfl rfl | exact fits0 (c := 0) hun rfl rfl | exact fits (c := 9) hun rfl rfl | exact fits0 (c := 9) hun rfl rfl | exact Nat.le_of_ble_eq_true rfl
  k_with "k_steps" => repeat' (first | (k_unfold; (try dsimp only); (try clear qk)) | (k_end; wrow_close) | walk1 | (dsimp only; walk1) | (leave1; try dsimp only) | fail "no step")
  k_with "execs cons" => (k_extra "zfold"; walk1)
  k_with "exec If" => (k_extra "zfold"; walk1)
  k_with "exec Assign" => (k_extra "zfold"; walk1)
  k_with "exec Expr" => (k_extra "zfold"; walk1)
  k_with "exec Return" => (k_extra "zfold"; walk1)
  k_with "isTrue" => (k_extra "zfold"; walk1)
  k_with "eval BinOp" => (k_extra "zfold"; walk1)
  k_with "eval BoolOp" => (k_extra "zfold"; walk1)
  k_with "eval UnaryOp" => (k_extra "zfold"; walk1)
  k_with "eval Call" => (k_extra "zfold"; walk1)
  k_with "eval Compare" => (k_extra "zfold"; walk1)
  k_with "eval Subscript" => (k_extra "zfold"; walk1)
  k_with "eval Attribute" => (k_extra "zfold"; walk1)
  k_with "eval Tuple" => (k_extra "zfold"; walk1)
  k_with "eval List nil" => (k_extra "zfold"; walk1)
  k_with "eval List cons" => (k_extra "zfold"; walk1)
  k_with "setAttr ref" => (refine Hold.mk ?_)
  exact trivial
theorem exc_make {x : Str} {tx : Tok}
    (B : Below A₀ base outer h₀) (F : Fr h₀ L s.heap m) (X : (KK w.params).In h₀) (N : News h₀ L s.heap (news)) (T : Top p loose mean mg mb h₀) (hk : cs.kind = .function) (hdp : dp + 20 < recursionLimit) (hun : un + 400 < cLine)
    (hret : ∀ e t D h' tk', Fr h₀ L h' m → News h₀ L h' ((e, excD t D) :: (t, tupO [.str x tx]) :: news) → (∀ p ∈ news, p.1 < t) → @LT.lt Nat _ t e → Q (.ref e) { s with heap := h', toks := tk' }) :
    wpAny (model prog w) (ktrTop dp un gd cn cs L a ccd cl outer) (call (.ref 51) [.str x tx]) Q E s := by
  refine wpAny_call ?_
  obtain ⟨hh, gg, dd, tt, oo⟩ := s
  refine exc_core (X.keeps F.keep) ?_
  have N1 : News h₀ L (hh.push { cls := .type "tuple", data := .seq #[Value.str x tx] }) ((hh.objs.size, tupO [.str x tx]) :: news) := N.push F (tupO [.str x tx])
  have F1 := F.push { cls := .type "tuple", data := .seq #[Value.str x tx] }
  have N2 := N1.push F1 (excO hh.objs.size)
  rw [Heap.size_push] at N2
  have F2 := F1.push (excO hh.objs.size)
  have hlt : ∀ p ∈ news, p.1 < hh.objs.size := fun p hp => Heap.lt_size (N p hp).1
  clear F N N1 F1
  k_dflt ktr_enter
  k_steps
  unfold Hold
  rename_i g' L' h' FG' F' N' B' X' T' _
  have hE := N' _ (.head _)
  refine wpAny_exc_set (X'.keeps F'.keep) hE.1 fun h2 tk2 D hx hk2 => ?_
  have F3 : Fr g' L' h2 _ := ⟨F'.ns.at' fun o e => hk2 _ o (Ne.symm hE.2.1) e, fun b o e => hk2 b o (fun q => by rw [q, hE.2.2] at e; cases e) (F'.keep b o e), F'.above⟩
  have N3 : News g' L' h2 ((hh.objs.size + 1, excD hh.objs.size D) :: (hh.objs.size, tupO [.str x tx]) :: news) := fun p hp => by
    rcases List.mem_cons.mp hp with rfl | hp
    · exact ⟨hx, hE.2⟩
    · refine ⟨hk2 _ _ (fun q => ?_) (N' p (.tail _ hp)).1, (N' p (.tail _ hp)).2⟩
      rcases List.mem_cons.mp hp with rfl | hp
      · exact absurd q (Nat.ne_of_lt (Nat.lt_succ_self _))
      · exact absurd (q ▸ hlt p hp) (Nat.not_lt.mpr (Nat.le_succ _))
  clear F' N' F2 N2 hE
  k_steps
  exact hret _ _ D _ _ (by k_asm) (by k_asm) hlt (Nat.lt_succ_self _)
end
end Mine

-- part X3
namespace Mine
set_option maxRecDepth 100000
set_option maxHeartbeats 8000000
set_option pp.deepTerms false
set_option pp.deepTerms.threshold 4
set_option pp.maxSteps 100000

section
variable {M : Model} {A : Around} {E : Value → Shared → Prop} {s' : Shared} {base g : Heap} {outer : List Env} {L a e t D : Addr} {m : Str → Option Value} {name : Str} {scope : Scope} {cd : Value} {Q : Unit → Shared → Prop} {news : Led} {v : Value}
theorem leave_raiseD (K : Below A base outer g) (F : Fr g L s'.heap m) (N : News g L s'.heap ((e, excD t D) :: (t, tupO [v]) :: news)) (hne : ∀ p ∈ news, p.1 ≠ e ∧ p.1 ≠ t)
    (hQ : ∀ h', RaisedS base g outer e (.ref 51) t [v] news h' → g.UpToSlots h' → Q () { s' with heap := h' }) (hk : scope.kind = .function := by rfl) :
    wpAny M (A.deeper (envOf name scope L a cd)) (leaving (envOf name scope L a cd) (.ref e)) Q E s' := by
  have K' := K.push (name := name) (a := a) (cd := cd) F hk
  have hE := N _ (.head _)
  have hT := N _ (.tail _ (.head _))
  have hin : ∀ env ∈ (envOf name scope L a cd :: outer), ∀ b, env.frame = some b → b ∈ e :: t :: (envOf name scope L a cd :: outer).filterMap (·.frame) := fun env he b hb => .tail _ (.tail _ (List.mem_filterMap.mpr ⟨env, he, hb⟩))
  have sg0 : ∀ b o, g.get? b = some o → b ≠ e ∧ b ≠ t := fun b o q => ⟨fun z => (by rw [z, hE.2.2] at q; cases q), fun z => (by rw [z, hT.2.2] at q; cases q)⟩
  have st : base.StaysIn (hideAll s'.heap (e :: t :: (envOf name scope L a cd :: outer).filterMap (·.frame))) := fun b o q => hideAll_get _ (K'.stays b o q) fun hm => by
    rcases List.mem_cons.mp hm with z | hm
    · exact (sg0 b o (K.stays b o q)).1 z
    · rcases List.mem_cons.mp hm with z | hm
      · exact (sg0 b o (K.stays b o q)).2 z
      · rw [(K'.frames.mem hm).1] at q; cases q
  have sg : ∀ b o, g.get? b = some o → b ∉ outer.filterMap (·.frame) → (hideAll s'.heap (e :: t :: (envOf name scope L a cd :: outer).filterMap (·.frame))).get? b = some o := fun b o q nm => hideAll_get _ (F.keep b o q) fun hm => by
    rcases List.mem_cons.mp hm with z | hm
    · exact (sg0 b o q).1 z
    · rcases List.mem_cons.mp hm with z | hm
      · exact (sg0 b o q).2 z
      · rcases kts_mem hm with z | z
        · rw [z, kts_self F] at q
          cases q
        · exact nm z
  have hl : ∀ q ∈ news, (hideAll s'.heap (e :: t :: (envOf name scope L a cd :: outer).filterMap (·.frame))).get? q.1 = some q.2 ∧ g.get? q.1 = none ∧ base.get? q.1 = none := fun q hq => by
    have hN := N q (.tail _ (.tail _ hq))
    refine ⟨hideAll_get _ hN.1 fun hm => ?_, hN.2.2, fresh_of_stays K.stays hN.2.2⟩
    rcases List.mem_cons.mp hm with z | hm
    · exact (hne q hq).1 z
    · rcases List.mem_cons.mp hm with z | hm
      · exact (hne q hq).2 z
      · obtain ⟨env, he, hf⟩ := List.mem_filterMap.mp hm
        rcases List.mem_cons.mp he with rfl | he
        · exact hN.2.1 (Option.some.inj hf).symm
        · obtain ⟨o, ho, _⟩ := (K.frames.mem (List.mem_filterMap.mpr ⟨env, he, hf⟩)).2
          rw [hN.2.2] at ho; cases ho
  have he0 : (hideAll s'.heap (e :: t :: (envOf name scope L a cd :: outer).filterMap (·.frame))).get? e = none := hideAll_none _ (.head _)
  have ht0 : (hideAll s'.heap (e :: t :: (envOf name scope L a cd :: outer).filterMap (·.frame))).get? t = none := hideAll_none _ (.tail _ (.head _))
  refine wpAny_leaving_firstW (a0 := .ref t) (Around.frames_deeper K.stack) (funFrames_hide K'.frames hin) rfl hE.1 (fun b o q => of_hideAll _ q) he0 rfl rfl rfl fun h' hL => ?_
  obtain ⟨k1, ⟨_, _, k2⟩, k3, k4⟩ := hL
  exact hQ h' ⟨⟨_, st, sg, hl, ⟨k1, he0, k2, k3⟩, ht0⟩, Heap.TupAt.of_slots ⟨_, _, hT.1, rfl, rfl⟩ k4⟩ ((Heap.UpToSlots.of_keeps F.keep).trans k4)
end
section
variable {prog : Program} {w : World} {A : Around} {E : Value → Shared → Prop} {s : Shared} {env : Env} {Q : Flow → Shared → Prop}
theorem raise_D {x : Sem Value} (hh : A.handled = none)
    (h : wpAny (model prog w) A x (fun v s₁ => ∃ e t D, v = .ref e ∧ (KK w.params).In s₁.heap ∧ s₁.heap.get? e = some (excD t D) ∧ E (.ref e) s₁) E s) :
    wpAny (model prog w) A (raiseStmt env (some x) none) Q E s := by
  have hcB : (Value.ref 51 :: bm51).contains (.type "BaseException") = true := by decide
  unfold raiseStmt
  refine wpAny_bind (wpAny_mono h (fun v s₁ h₁ => ?_) fun _ _ x => x)
  obtain ⟨e, t, D, rfl, X, he, hE⟩ := h₁
  obtain ⟨nm, q, bs, sn, sub, ab, col, dd, k0, k1, k2, k3, k5, hC⟩ := cls51 X
  obtain ⟨hp, g, d, tk, os⟩ := s₁
  repeat (first | with_reducible refine wpAny_loadPart_at he ?_ | with_reducible refine wpAny_loadPart_at hC ?_ | (with_reducible refine wpAny_isSubtype_exc hC ?_; rw [hcB]) | wp_step)
  exact wpAny_raiseNew_none hh hE
theorem exec_Raise_D {x : PySem.Expr} {pos : Pos} (hh : A.handled = none)
    (h : wpAny (model prog w) A (eval x env) (fun v s₁ => ∃ e t D, v = .ref e ∧ (KK w.params).In s₁.heap ∧ s₁.heap.get? e = some (excD t D) ∧ E (.ref e) s₁) E s) :
    wpAny (model prog w) A (exec (.Raise (some x) none pos) env) Q E s := by
  rw [arm_exec_Raise]
  refine wpAny_bind (wpAny_standAt (raise_D hh (wpAny_bind (wpAny_mono h (fun v s₃ h₃ => ?_) fun _ _ x => x))))
  exact wpAny_bind (wpAny_standAt (wpAny_pure h₃))
end
end Mine

-- part X4
namespace Mine
set_option maxRecDepth 100000
set_option maxHeartbeats 8000000
set_option pp.deepTerms false
set_option pp.deepTerms.threshold 4
set_option pp.maxSteps 100000

section
variable {A₀ : Around} {base g G B h₅ : Heap} {outer : List Env} {env : Env} {L : Addr} {m : Str → Option Value}
theorem mem_frames {b : Addr} (hf : env.frame = some L) (hm : b ∈ (env :: outer).filterMap (·.frame)) : b = L ∨ b ∈ outer.filterMap (·.frame) := by
  rw [List.filterMap_cons, hf] at hm
  exact List.mem_cons.mp hm
theorem my_ground (hf : env.frame = some L) (K : Below A₀ base outer g) (F : Fr g L G m) (hBG : ∀ b o, G.get? b = some o → b ∉ (env :: outer).filterMap (·.frame) → B.get? b = some o) (hBh : B.StaysIn h₅) (hsm : G.UpToSlots h₅) :
    ∃ g', KtsTurn (outer.filterMap (·.frame)) g g' ∧ Fr g' L h₅ m ∧ Below A₀ base outer g' := by
  have off : ∀ b o, g.get? b = some o → b ∉ outer.filterMap (·.frame) → h₅.get? b = some o := fun b o e nm => hBh b o (hBG b o (F.keep b o e) fun hm => by
    rcases mem_frames hf hm with z | z
    · rw [z, kts_self F] at e; cases e
    · exact nm z)
  have on : ∀ b o, g.get? b = some o → b ∈ outer.filterMap (·.frame) → ∃ sl, h₅.get? b = some { o with slots := sl } := fun b o e hm => by
    obtain ⟨_, o', ho', hd⟩ := K.frames.mem hm
    rw [e] at ho'
    cases ho'
    exact hsm b o (F.keep b o e) hd
  obtain ⟨T, S⟩ := kts_turn_at (h := h₅) (fs := outer.filterMap (·.frame)) (g := g) (fun b hb => (K.frames.mem hb).2.imp fun o h => h.1) off on
  refine ⟨_, T, ⟨hsm.ns F.ns, S, by rw [T.size]; exact F.above⟩, ⟨K.stack, fun b o e => T.other b o (K.stays b o e) (fun hm => by
    rw [(K.frames.mem hm).1] at e
    cases e), K.frames.of_keeps fun b o e _ => ?_⟩⟩
  obtain ⟨sl, hs⟩ := T.up e
  exact ⟨_, hs, rfl⟩
theorem my_fresh {b : Addr} (hf : env.frame = some L) (F : Fr g L G m) (hBG : ∀ b o, G.get? b = some o → b ∉ (env :: outer).filterMap (·.frame) → B.get? b = some o) (hb : B.get? b = none)
    (hnf : ∀ o, g.get? b = some o → b ∈ outer.filterMap (·.frame) → False) : g.get? b = none := by
  cases q : g.get? b with
  | none => rfl
  | some o =>
    by_cases hm : b ∈ outer.filterMap (·.frame)
    · exact (hnf o q hm).elim
    · rw [hBG b o (F.keep b o q) fun hm' => by
        rcases mem_frames hf hm' with z | z
        · rw [z, kts_self F] at q; cases q
        · exact hm z] at hb
      cases hb
end
section
variable {prog : Program} {w : World} {A₀ : Around} {E : Value → Shared → Prop} {s' : Shared} {base g G : Heap} {outer : List Env} {L a e t : Addr} {m : Str → Option Value} {cn : Str} {cs : Scope} {ccd : Value} {cl : List (Str × Addr)}
  {vs : List Value} {b₀ : Stmt} {suite : List Stmt} {pos np : Pos} {rest : List ExceptHandler} {Q : Flow → Shared → Prop} {news : Led}
  {p : Program} {loose : List Str} {mean : ExcName → Option Value} {mg mb : Str → Option Value}
theorem my_caught (R : RaisedS base G (envX cn cs L a ccd cl :: outer) e (.ref 51) t vs news s'.heap) (F : Fr g L G m) (K : Below A₀ base outer g) (hsm : G.UpToSlots s'.heap) (XB : (KK w.params).In base) (TB : Top p loose mean mg mb base)
    (D : KtsDicts (outer.filterMap (·.frame)) g)
    (k : ∀ h' g', KtsTurn (outer.filterMap (·.frame)) g g' → Fr g' L h' m → News g' L h' news → Below A₀ base outer g' → (KK w.params).In g' → Top p loose mean mg mb g' → KtsDicts (outer.filterMap (·.frame)) g' →
      wpAny (model prog w) ((A₀.deeper (envX cn cs L a ccd cl)).mark (some (.ref e))) (execs (b₀ :: suite) (envX cn cs L a ccd cl)) Q E { s' with heap := h' })
    (hk : cs.kind = .function := by rfl) (hx : (envX cn cs L a ccd cl).kindOf (Str.ofString "RouteError") = some .globalImplicit := by rfl)
    (hE : PassesOwnAt (model prog w) ((A₀.deeper (envX cn cs L a ccd cl)).mark (some (.ref e))) (A₀.deeper (envX cn cs L a ccd cl)) (envX cn cs L a ccd cl) E := by passes_own) :
    wpAny (model prog w) (A₀.deeper (envX cn cs L a ccd cl)) (noteFrame (.ref e) (envX cn cs L a ccd cl))
      (fun _ s₂ => wpAny (model prog w) (A₀.deeper (envX cn cs L a ccd cl)) (setFlight (.ref e) none) (fun _ s₃ =>
        wpAny (model prog w) (A₀.deeper (envX cn cs L a ccd cl)) (handleBy (.ref e) (envX cn cs L a ccd cl) (.ExceptHandler (some (.Name (Str.ofString "RouteError") np)) none (b₀ :: suite) pos :: rest)) Q E s₃) E s₂) E s' := by
  obtain ⟨⟨B, hB, hBG, hl, hfl, hnew⟩, htup⟩ := R
  have hL : B.get? L = none := by
    obtain ⟨_, ⟨L', _, hf, hn', _⟩, _⟩ := hfl.2.2.1
    obtain rfl : L = L' := Option.some.inj hf
    exact hn'
  refine wpAny_looks_onW (Around.frames_deeper K.stack) rfl hfl fun h₄ hheld₄ hsm₄ => ?_
  refine wpAny_landsW hheld₄ fun h₅ hheld hsm₅' => ?_
  have hsm₅ := hsm₄.trans hsm₅'
  obtain ⟨g₅, T₅, F₅, K₅⟩ := my_ground rfl K F hBG hheld.1 (hsm.trans hsm₅)
  have X₅ : (KK w.params).In g₅ := XB.keeps K₅.stays
  have P₅ : TopRead p loose mg mb g₅ := topRead_of (TB.keeps K₅.stays)
  obtain ⟨ob, hob, hobc⟩ := hheld.there
  obtain ⟨nm, q', bs, sn, sub, ab, col, dd, k0, k1, k2, k3, k5, hC⟩ := cls51 X₅
  refine wpAny_handleBy_cons (codeAny_handlers_test (nameX_K (v := .ref 51) F₅ X₅ P₅ (name51 _) ?_ hk hx)) (by intro q; cases q)
  refine wpAny_excMatches_sub_self (F₅.keep _ _ hC) hob hobc (by decide) (codeAny_handlers_suite ?_)
  refine lands_againW hheld fun h₆ hfl₆ hsm₆ => ?_
  obtain ⟨g₆, T₆, F₆, K₆⟩ := my_ground rfl K F hBG hfl₆.1 ((hsm.trans hsm₅).trans hsm₆)
  refine wpAny_passesOwnAt hE (k h₆ g₆ T₆ F₆ (fun q hq => ⟨hfl₆.1 _ _ (hl q hq).1, (fun z => by have := (hl q hq).1; rw [z, hL] at this; cases this), T₆.none_ _ (kts_none F.keep (hl q hq).2.1)⟩) K₆ (XB.keeps K₆.stays) (TB.keeps K₆.stays) (D.turn T₆))
end
section
variable {prog : Program} {w : World} {A₀ A : Around} {s : Shared} {h₀ : Heap} {L : Addr} {m : Str → Option Value} {env : Env} {news : List (Addr × Obj)} {K : Frag} {p : Program} {loose : List Str} {mean : ExcName → Option Value} {mg mb : Str → Option Value}
  {R : Result → Shared → Prop} {name qual : Str} {params : Arguments} {body : List Stmt} {scope : Scope} {dV kV doc pm cdv ct oc : Value} {an od : Option Addr} {osl : Array (Option Value)} {f : Addr} {args : Args} {binds : List (Str × Value)}
/-- a def with cells and a try, called by the law itself: what it leaves may have turned the slots of the law's frame -/
theorem code_SC0 (B : Below A₀ h₀ [] h₀) (F : Fr h₀ L s.heap m) (X₀ : K.In h₀) (N : News h₀ L s.heap news) (T : Top p loose mean mg mb h₀) (hA : A.frames = some [env]) (hf : env.frame = some L) (hke : env.scope.kind = .function)
    (ho : K.lookup f = some ⟨oc, od, .func (fnOf name qual params body scope dV kV doc pm an cdv ct), osl⟩) (hcd : codeIn K cdv qual = true) (hroom : A.depth < recursionLimit)
    (hbind : BindsTo s (fnOf name qual params body scope dV kV doc pm an cdv ct) args binds) (hkind : (binds.all fun y => scope.names.lookup y.1 == some .local || scope.names.lookup y.1 == some .cell) = true)
    (hnd : ((cellsFrom 0 scope.names []).map (·.1)).Nodup)
    (h : ∀ g L' h₁ tk cells, Fr h₀ L g m → Fr g L' h₁ (bindL (envOfC qual scope L' f cdv).kindOf binds fun _ => none) → News g L' h₁ (cells ++ news) →
      CellsAre (bindC (envOfC qual scope L' f cdv).kindOf binds fun _ => none) (cellsFrom (L' + 1) scope.names []) cells → Below A h₀ [env] g → K.In g → Top p loose mean mg mb g → (∀ p ∈ news, p.1 < L') → KtsDicts ([env].filterMap (·.frame)) g →
      wpAny (model prog w) (A.deeper (envOfC qual scope L' f cdv)) (execs body (envOfC qual scope L' f cdv))
        (fun fl s' => LeaveS0 ([env].filterMap (·.frame)) h₀ L m g R (match fl with | .ret v => v | _ => .none) s')
        (fun e s' => wpAny (model prog w) (A.deeper (envOfC qual scope L' f cdv)) (leaving (envOfC qual scope L' f cdv) e) (fun _ s'' => R (.error e) s'') (fun e' s'' => R (.error e') s'') s')
        { s with heap := h₁, toks := tk })
    (hco : scope.isCoroutine = false) (hgen : scope.isGenerator = false) (hk : scope.kind = .function) : codeAny (model prog w) A (.call (.ref f) args) R s := by
  obtain ⟨FG, BG, st, -⟩ := groundX (R := R) B F N hA hf hke
  have X := X₀.keeps F.keep
  refine codeAny_call_function hroom (X _ _ ho) rfl hco hgen rfl (codeRec_of X hcd) (hbind _ _ _ _ ?_)
  refine wpAny_newFunctionEnv_cells hk (kindsX hkind _) fun env' he s' x => ?_
  subst he
  refine ⟨(T.nolimit.keeps F.keep).keeps x.toInCall.keep, codeAny_func ?_⟩
  obtain ⟨h₁, tk, rfl, _⟩ := x.done
  have hk₁ := x.toInCall.keep
  obtain ⟨cells, NC, Y⟩ := Cl.news (h₀ := s.heap) (Nat.le_refl _) fun n c hm => ⟨x.cell n c (lookup_of_mem_nodup (cellsFrom_names scope.names 0 (s.heap.objs.size + 1) [] [] rfl ▸ hnd) hm), x.above n c hm⟩
  have memf : ∀ {b : Addr}, b ∈ [env].filterMap (·.frame) → b = L := fun hb => by
    rw [List.filterMap_cons, hf] at hb
    exact List.mem_singleton.mp hb
  have inf : L ∈ [env].filterMap (·.frame) := by rw [List.filterMap_cons, hf]; exact .head _
  have nL : h₀.get? L = none := kts_self F
  obtain ⟨oL, es, ep, hLg, hLd, hLk, hLf⟩ := FG.ns
  refine wpAny_mono (h _ s.heap.objs.size h₁ tk cells FG ⟨x.toInCall.ns, fun b o e => hk₁ b o (of_hideAll _ e), Nat.le_of_eq (hideAll_size _ _)⟩ (fun p hp => ?_) Y BG (X₀.keeps st) (T.keeps st) (fun p hp => Heap.lt_size (N p hp).1)
    (fun b hb => ⟨oL, es, ep, (memf hb) ▸ hLg, hLd⟩)) (fun fl s' hl => ?_) fun _ _ y => y
  · rcases List.mem_append.mp hp with hp | hp
    · refine ⟨(NC p hp).1, (NC p hp).2.1, ?_⟩
      cases q : (hideAll s.heap (news.map (·.1))).get? p.1 with
      | none => rfl
      | some o => have := of_hideAll _ q; rw [(NC p hp).2.2] at this; cases this
    · exact ⟨hk₁ _ _ (N p hp).1, Nat.ne_of_lt (Heap.lt_size (N p hp).1), hideAll_none _ (List.mem_map_of_mem hp)⟩
  · obtain ⟨g', L', m', news', T', F', N', k⟩ := hl
    obtain ⟨sl, hs⟩ := T'.up hLg
    refine k ⟨⟨_, es, ep, F'.keep _ _ hs, hLd, hLk, hLf⟩, fun b o e => F'.keep b o (T'.other b o (st b o e) fun q => ?_), F.above⟩ fun p hp => ⟨(N' p hp).1, fun q => ?_, ?_⟩
    · rw [memf q, nL] at e; cases e
    · have := (N' p hp).2.2; rw [q, hs] at this; cases this
    · cases q : h₀.get? p.1 with
      | none => rfl
      | some o =>
        obtain ⟨sl', hs'⟩ := T'.up (st _ _ q)
        have := (N' p hp).2.2
        rw [hs'] at this; cases this
end
end Mine

-- part P4
namespace Mine
set_option maxRecDepth 100000
set_option maxHeartbeats 8000000
set_option pp.deepTerms false
set_option pp.deepTerms.threshold 4
set_option pp.maxSteps 100000


section

variable {prog : Program} {w : World} {p : Program} {loose : List Str} {mean : ExcName → Option Value} {mg mb : Str → Option Value}
    {dp un : Nat} {gd : Option (List Code)} {cn : Str} {cs : Scope} {a : Addr} {ccd : Value} {cl : List (Str × Addr)} {outer : List Env} {A₀ : Around} {base h₀ : Heap} {L : Addr} {m : Str → Option Value} {news : List (Addr × Obj)} {s : Shared} {Q E : Value → Shared → Prop}

theorem zsetP41 : True := by
  k_with_none
  k_with "z_ch" => first | with_reducible assumption | (refine' And.right ?_; rotate_left; first | with_reducible assumption | (refine' And.right ?_; rotate_left; first | with_reducible assumption | (refine' And.right ?_; rotate_left; first | with_reducible assumption | (refine' And.right ?_; rotate_left; first | with_reducible assumption | (refine' And.right ?_; rotate_left; first | with_reducible assumption | (refine' And.right ?_; rotate_left; first | with_reducible assumption | (refine' And.right ?_; rotate_left; with_reducible assumption)))))))
  k_with "z_lt" => first | with_reducible assumption | (refine' And.left ?_; rotate_left; k_extra "z_ch") | (refine' And.right ?_; rotate_left; k_extra "z_ch")
  k_with "k_ne" => (refine neN ?_; (try dsimp only); first | (refine' Nat.ne_of_gt ?_; k_extra "z_lt") | (refine' Nat.ne_of_lt ?_; k_extra "z_lt") | (refine' Nat.ne_of_gt (Nat.lt_trans ?_ (by with_reducible assumption)); k_extra "z_lt") | (refine' Nat.ne_of_lt (Nat.lt_trans ?_ (by with_reducible assumption)); k_extra "z_lt"))
  k_with "zfold" => ((fail_if_success (fail_if_success k_fold)); refine zfold_q ?_; intro qk)
  k_with "k_env" => (refine zfold_env (f := fun en9 => execs _ en9) ?_; intro en9; refine zfold_A ?_; intro ak9; (rename Fr _ _ _ _ => fr9); refine zfold_F fr9 ?_; clear fr9; intro fm9 fr9; try (refine zgen_t ?_; intro tk9))
  k_with "ktr_room" => first | exact fits (c := 1) hdp rfl rfl | exact fits0 (c := 1) hdp rfl rfl | exact fits (c := 2) hdp rfl rfl | exact fits0 (c := 2) hdp rfl rfl | exact fits (c := 0) hdp rfl rfl | exact fits0 (c := 0) hdp rfl rfl | exact fits (c := 3) hdp rfl rfl | exact fits0 (c := 3) hdp rfl rfl | exact Nat.le_of_ble_eq_true rfl
  k_with "ktr_units" => first | exact fits (c := 3) hun rfl rfl | exact fits0 (c := 3) hun rfl rfl | exact fits (c := 6) hun rfl rfl | exact fits0 (c := 6) hun rfl rfl | exact fits (c := 0) hun rfl rfl | exact fits0 (c := 0) hun rfl rfl | exact fits (c := 9) hun rfl rfl | exact fits0 (c := 9) hun rfl rfl | exact Nat.le_of_ble_eq_true rfl
  k_with "k_steps" => repeat' (first | (k_unfold; (try dsimp only); (try clear qk)) | (k_end; wrow_close) | walk1 | (dsimp only; walk1) | (leave1; try dsimp only) | fail "no step")
  k_with "execs cons" => (k_extra "zfold"; walk1)
  k_with "exec If" => (k_extra "zfold"; walk1)
  k_with "exec Assign" => (k_extra "zfold"; walk1)
  k_with "exec Expr" => (k_extra "zfold"; walk1)
  k_with "exec Return" => (k_extra "zfold"; walk1)
  k_with "isTrue" => (k_extra "zfold"; walk1)
  k_with "eval BinOp" => (k_extra "zfold"; walk1)
  k_with "eval BoolOp" => (k_extra "zfold"; walk1)
  k_with "eval UnaryOp" => (k_extra "zfold"; walk1)
  k_with "eval Call" => (k_extra "zfold"; walk1)
  k_with "eval Compare" => (k_extra "zfold"; walk1)
  k_with "eval Subscript" => (k_extra "zfold"; walk1)
  k_with "eval Attribute" => (k_extra "zfold"; walk1)
  k_with "eval Tuple" => (k_extra "zfold"; walk1)
  k_with "eval List nil" => (k_extra "zfold"; walk1)
  k_with "eval List cons" => (k_extra "zfold"; walk1)
  k_with "k_mem" => first | assumption | (with_reducible refine mem_appL ?_; assumption) | (with_reducible refine mem_appR ?_; assumption) | (with_reducible refine List.mem_append.mpr (Or.inl ?_); assumption) | (with_reducible refine List.mem_append.mpr (Or.inr ?_); assumption)
  k_with "k_ne" => (first | (refine' ne_neA ?zqh ?zqm; (case zqm => assumption); (case zqh => assumption)) | (refine' ne_between ?zqm ?zqh ?zqle; (case zqm => assumption); (case zqh => tbn_find); (case zqle => omega)))
  k_with "k_room" => ktr_room
  k_with "k_all" => first | assumption | (refine all_repl ?_; first | assumption | (refine tbn_neAll ?_; tbn_find))
  k_with "k_upd" => exact upd_repl (by assumption) (by assumption)
  k_with "ktr_rel" => (repeat (first | exact Same.refl | exact Same.of2 | exact Same.of | refine Same.set ?_ (by rfl)))
  k_with "tb_start" => (intro _ hp9; (repeat (refine List.Mem.tail _ ?_)); first | exact hp9 | exact List.mem_append.mpr (Or.inl hp9) | exact List.mem_append.mpr (Or.inr hp9))
  k_with "LPost" => (dsimp only [LPost])
  k_with "pyIter ref" => (refine Hold.mk ?_)
  k_with "call builtin:list.append" => (k_here; (with_reducible show wpAny _ _ (call (Value.builtin _) [Value.ref _, _]) _ _ _); k_dflt (refine' my_append ?zqk1 ?zqk2 ?zqk3 ?zqz ?_; (case zqk1 => k_asm); (case zqk2 => k_asm); (case zqk3 => k_upd); (case zqz => assumption); k_whole); intro _ _ _; (try k_sweep))
  k_with "call builtin:len" => (k_here; k_dflt (refine' my_len ?zqN ?zqm ?zqf ?_; (case zqN => k_asm); (case zqm => k_mem); (case zqf => assumption); k_whole))
  k_with "subscriptTail" => (k_here; k_dflt (refine' my_itemE ?zqN ?zqm ?zqv ?zqa ?zqf ?_ ?zqhs; (case zqN => k_asm); (case zqm => k_mem); (case zqv => with_reducible assumption); (case zqa => omega); (case zqf => assumption); (case zqhs => with_unfolding_all rfl); k_whole))
  k_with "subscriptTail Name UnaryOp ref int" => (k_here; k_dflt (refine' my_itemE ?zqN ?zqm ?zqv ?zqa ?zqf ?_ ?zqhs; (case zqN => k_asm); (case zqm => k_mem); (case zqv => with_reducible assumption); (case zqa => omega); (case zqf => assumption); (case zqhs => with_unfolding_all rfl); k_whole))
  k_with "subscriptTail" => (k_here; (with_reducible show wpAny _ _ (subscriptTail _ _ (Value.ref _) (Value.int (-1) _)) _ _ _); k_dflt (refine' my_last ?zqN ?zqm ?zqv ?zqf ?_ ?zqhs; (case zqN => k_asm); (case zqm => k_mem); (case zqv => with_reducible assumption); (case zqf => assumption); (case zqhs => with_unfolding_all rfl); k_whole))
  k_with "subscriptTail Name UnaryOp ref int" => (k_here; (with_reducible show wpAny _ _ (subscriptTail _ _ (Value.ref _) (Value.int (-1) _)) _ _ _); k_dflt (refine' my_last ?zqN ?zqm ?zqv ?zqf ?_ ?zqhs; (case zqN => k_asm); (case zqm => k_mem); (case zqv => with_reducible assumption); (case zqf => assumption); (case zqhs => with_unfolding_all rfl); k_whole))
  k_with "exec For Name Call cons nil" => (k_here; (rename Fr _ _ _ _ => lF'); (with_unfolding_all refine' For_invVF lF' ?zqk1 ?zqk2 ?_; (case zqk1 => exact rfl); (case zqk2 => exact rfl); k_whole))
  k_with "exec Raise some none" => (k_here; k_dflt (refine' exec_Raise_D ?zqhh ?_; (case zqhh => exact rfl); k_whole))
  k_with "call ref" => (k_here; (with_reducible show wpAny _ _ (call (Value.ref 51) _) _ _ _); refine Hold.mk ?_)
  exact trivial
theorem add_raise {tb rx : Addr} {net gw : Int} {k face : Int}
    (B : Below A₀ base outer h₀) (F : Fr h₀ L s.heap m) (X : (KK w.params).In h₀) (N : News h₀ L s.heap (news)) (T : Top p loose mean mg mb h₀) (hk : cs.kind = .function) (hR : RtIn w.params news ⟨rx, net, k, gw, face⟩) (hn0 : 0 ≤ net) (hn1 : net ≤ 4294967295) (hg1 : 4294967295 < gw)
    (hdp : dp + 40 < recursionLimit) (hun : un + 800 < cLine)
    (hexc : ∀ e t v G h' tk', Fr h₀ L G m → RaisedS base G (envX cn cs L a ccd cl :: outer) e (.ref 51) t [v] news h' → G.UpToSlots h' → E (.ref e) { s with heap := h', toks := tk' }) :
    wpAny (model prog w) (ktrTop dp un gd cn cs L a ccd cl outer) (call (.ref 208) [.ref tb, .ref rx]) Q E s := by
  obtain ⟨rd, a1, a2, a3, a4, a5, b1, b2, b3, b4, b5, met, hrx, hrd⟩ := hR.ex
  dsimp only at hrx hrd
  (refine wpAny_call ?_; k_dflt ktr_enter; try (w_strict (k_extra "k_env")))
  k_steps
  rename Below (ktrTop _ _ _ _ _ _ _ _ _ _) _ _ _ => B'
  rename Frag.In _ _ => X'
  rename Fr h₀ L _ m => FG'
  (unfold Hold; w_strict (k_dflt (refine' exc_make ?k1 ?k2 ?k3 ?k4 ?k5 ?kK  ?kd ?ku ?_; (case k1 => k_asm); (case k2 => k_asm); (case k3 => k_asm); (case k4 => k_asm); (case k5 => k_asm); (case kK => first | exact rfl | assumption);  (case kd => ktr_room); (case ku => ktr_units))); intro e' t' D' h2 tk3 F' N' lt' ne'; (try dsimp only); (try k_sweep))
  refine ⟨e', t', D', rfl, X'.keeps F'.keep, (N' _ (.head _)).1, ?_⟩
  refine leave_raiseD B' F' N' (fun p hp => ⟨Nat.ne_of_lt (Nat.lt_trans (lt' p hp) ne'), Nat.ne_of_lt (lt' p hp)⟩) fun h3 R hs => hexc _ _ _ _ _ _ FG' R hs
end
end Mine

-- part B1
namespace Mine
set_option maxRecDepth 100000
set_option maxHeartbeats 8000000
set_option pp.deepTerms false
set_option pp.deepTerms.threshold 4
set_option pp.maxSteps 100000


section

theorem lit01 {h₀ h : Heap} {L lb : Addr} {t0 t1 : Tok} {b : Addr × Obj} {c : Led} (N : News h₀ L h ((lb, listOf [.int 0 t0, .int 1 t1].toArray 0) :: b :: c)) : ∃ t0 t1, News h₀ L h ((lb, listOf [.int 0 t0, .int 1 t1].toArray 0) :: c) :=
  ⟨t0, t1, news_sub N fun p hp => by
    rcases List.mem_cons.mp hp with e | e
    · exact e ▸ .head _
    · exact .tail _ (.tail _ e)⟩
variable {prog : Program} {w : World} {p : Program} {loose : List Str} {mean : ExcName → Option Value} {mg mb : Str → Option Value}
    {dp un : Nat} {gd : Option (List Code)} {cn : Str} {cs : Scope} {a : Addr} {ccd : Value} {cl : List (Str × Addr)} {outer : List Env} {A₀ : Around} {base h₀ : Heap} {L : Addr} {m : Str → Option Value} {news : List (Addr × Obj)} {s : Shared} {Q E : Value → Shared → Prop}

theorem zsetB11 : True := by
  k_with_none
  k_with "z_ch" => first | with_reducible assumption | (refine' And.right ?_; rotate_left; first | with_reducible assumption | (refine' And.right ?_; rotate_left; first | with_reducible assumption | (refine' And.right ?_; rotate_left; first | with_reducible assumption | (refine' And.right ?_; rotate_left; first | with_reducible assumption | (refine' And.right ?_; rotate_left; first | with_reducible assumption | (refine' And.right ?_; rotate_left; first | with_reducible assumption | (refine' And.right ?_; rotate_left; with_reducible assumption)))))))
  k_with "z_lt" => first | with_reducible assumption | (refine' And.left ?_; rotate_left; k_extra "z_ch") | (refine' And.right ?_; rotate_left; k_extra "z_ch")
  k_with "k_ne" => (refine neN ?_; (try dsimp only); first | (refine' Nat.ne_of_gt ?_; k_extra "z_lt") | (refine' Nat.ne_of_lt ?_; k_extra "z_lt") | (refine' Nat.ne_of_gt (Nat.lt_trans ?_ (by with_reducible assumption)); k_extra "z_lt") | (refine' Nat.ne_of_lt (Nat.lt_trans ?_ (by with_reducible assumption)); k_extra "z_lt"))
  k_with "zfold" => ((fail_if_success (fail_if_success k_fold)); refine zfold_q ?_; intro qk)
  k_with "k_env" => (refine zfold_env (f := fun en9 => execs _ en9) ?_; intro en9; refine zfold_A ?_; intro ak9; (rename Fr _ _ _ _ => fr9); refine zfold_F fr9 ?_; clear fr9; intro fm9 fr9; try (refine zgen_t ?_; intro tk9))
  k_with "ktr_room" => first | exact fits (c := 1) hdp rfl rfl | exact fits0 (c := 1) hdp rfl rfl | exact fits (c := 2) hdp rfl rfl | exact fits0 (c := 2) hdp rfl rfl | exact fits (c := 0) hdp rfl rfl | exact fits0 (c := 0) hdp rfl rfl | exact fits (c := 3) hdp rfl rfl | exact fits0 (c := 3) hdp rfl rfl | exact Nat.le_of_ble_eq_true rfl
  k_with "ktr_units" => first | exact fits (c := 3) hun rfl rfl | exact fits0 (c := 3) hun rfl rfl | exact fits (c := 6) hun rfl rfl | exact fits0 (c := 6) hun rfl rfl | exact fits (c := 0) hun rfl rfl | exact fits0 (c := 0) hun rfl rfl | exact fits (c := 9) hun rfl rfl | exact fits0 (c := 9) hun rfl rfl | exact Nat.le_of_ble_eq_true rfl
  k_with "k_steps" => repeat' (first | (k_unfold; (try dsimp only); (try clear qk)) | (k_end; wrow_close) | walk1 | (dsimp only; walk1) | (leave1; try dsimp only) | fail "no step")
  k_with "execs cons" => (k_extra "zfold"; walk1)
  k_with "exec If" => (k_extra "zfold"; walk1)
  k_with "exec Assign" => (k_extra "zfold"; walk1)
  k_with "exec Expr" => (k_extra "zfold"; walk1)
  k_with "exec Return" => (k_extra "zfold"; walk1)
  k_with "isTrue" => (k_extra "zfold"; walk1)
  k_with "eval BinOp" => (k_extra "zfold"; walk1)
  k_with "eval BoolOp" => (k_extra "zfold"; walk1)
  k_with "eval UnaryOp" => (k_extra "zfold"; walk1)
  k_with "eval Call" => (k_extra "zfold"; walk1)
  k_with "eval Compare" => (k_extra "zfold"; walk1)
  k_with "eval Subscript" => (k_extra "zfold"; walk1)
  k_with "eval Attribute" => (k_extra "zfold"; walk1)
  k_with "eval Tuple" => (k_extra "zfold"; walk1)
  k_with "eval List nil" => (k_extra "zfold"; walk1)
  k_with "eval List cons" => (k_extra "zfold"; walk1)
  k_with "k_mem" => first | assumption | (with_reducible refine mem_appL ?_; assumption) | (with_reducible refine mem_appR ?_; assumption) | (with_reducible refine List.mem_append.mpr (Or.inl ?_); assumption) | (with_reducible refine List.mem_append.mpr (Or.inr ?_); assumption)
  k_with "k_ne" => (first | (refine' ne_neA ?zqh ?zqm; (case zqm => assumption); (case zqh => assumption)) | (refine' ne_between ?zqm ?zqh ?zqle; (case zqm => assumption); (case zqh => tbn_find); (case zqle => omega)))
  k_with "k_room" => ktr_room
  k_with "k_all" => first | assumption | (refine all_repl ?_; first | assumption | (refine tbn_neAll ?_; tbn_find))
  k_with "k_upd" => exact upd_repl (by assumption) (by assumption)
  k_with "ktr_rel" => (repeat (first | exact Same.refl | exact Same.of2 | exact Same.of | refine Same.set ?_ (by rfl)))
  k_with "tb_start" => (intro _ hp9; (repeat (refine List.Mem.tail _ ?_)); first | exact hp9 | exact List.mem_append.mpr (Or.inl hp9) | exact List.mem_append.mpr (Or.inr hp9))
  k_with "LPost" => (dsimp only [LPost])
  k_with "pyIter ref" => (refine Hold.mk ?_)
  k_with "call builtin:list.append" => (k_here; (with_reducible show wpAny _ _ (call (Value.builtin _) [Value.ref _, _]) _ _ _); k_dflt (refine' my_append ?zqk1 ?zqk2 ?zqk3 ?zqz ?_; (case zqk1 => k_asm); (case zqk2 => k_asm); (case zqk3 => k_upd); (case zqz => assumption); k_whole); intro _ _ _; (try k_sweep))
  k_with "call builtin:len" => (k_here; k_dflt (refine' my_len ?zqN ?zqm ?zqf ?_; (case zqN => k_asm); (case zqm => k_mem); (case zqf => assumption); k_whole))
  k_with "subscriptTail" => (k_here; k_dflt (refine' my_itemE ?zqN ?zqm ?zqv ?zqa ?zqf ?_ ?zqhs; (case zqN => k_asm); (case zqm => k_mem); (case zqv => with_reducible assumption); (case zqa => omega); (case zqf => assumption); (case zqhs => with_unfolding_all rfl); k_whole))
  k_with "subscriptTail Name UnaryOp ref int" => (k_here; k_dflt (refine' my_itemE ?zqN ?zqm ?zqv ?zqa ?zqf ?_ ?zqhs; (case zqN => k_asm); (case zqm => k_mem); (case zqv => with_reducible assumption); (case zqa => omega); (case zqf => assumption); (case zqhs => with_unfolding_all rfl); k_whole))
  k_with "subscriptTail" => (k_here; (with_reducible show wpAny _ _ (subscriptTail _ _ (Value.ref _) (Value.int (-1) _)) _ _ _); k_dflt (refine' my_last ?zqN ?zqm ?zqv ?zqf ?_ ?zqhs; (case zqN => k_asm); (case zqm => k_mem); (case zqv => with_reducible assumption); (case zqf => assumption); (case zqhs => with_unfolding_all rfl); k_whole))
  k_with "subscriptTail Name UnaryOp ref int" => (k_here; (with_reducible show wpAny _ _ (subscriptTail _ _ (Value.ref _) (Value.int (-1) _)) _ _ _); k_dflt (refine' my_last ?zqN ?zqm ?zqv ?zqf ?_ ?zqhs; (case zqN => k_asm); (case zqm => k_mem); (case zqv => with_reducible assumption); (case zqf => assumption); (case zqhs => with_unfolding_all rfl); k_whole))
  k_with "exec For Name Call cons nil" => (k_here; (rename Fr _ _ _ _ => lF'); (with_unfolding_all refine' For_invVF lF' ?zqk1 ?zqk2 ?_; (case zqk1 => exact rfl); (case zqk2 => exact rfl); k_whole))
  k_with "call ref" => (k_here; (with_reducible show wpAny _ _ (call (Value.ref 138) _) _ _ _); refine Hold.mk ?_)
  k_with "binaryOp Add str str" => (k_here; (with_reducible show wpAny _ _ (binaryOp Operator.Add (Value.str _ _) (Value.str _ _)) _ _ _); first | (refine my_add_bit false txt_bit0 (by assumption) ?_; intro _ _) | (refine my_add_bit true txt_bit1 (by assumption) ?_; intro _ _))
  k_with "call builtin:sorted" => (k_here; (with_reducible show wpAny _ _ (call (Value.builtin _) [Value.ref _]) _ _ _); k_dflt (refine' my_sorted ?zqF ?zqN ?zqm ?zqS ?zqz ?_; (case zqF => k_asm); (case zqN => k_asm); (case zqm => k_mem); (case zqS => assumption); (case zqz => assumption); k_whole); intro _ _ _ _ _ _ _ l1 _ _ _; (try k_lt l1); (try k_sweep))
  k_with "compareOp NotEq ref ref" => (k_here; k_dflt (refine' my_ne_nil ?zqN ?zqa ?zqb ?zqu ?_; (case zqN => k_asm); (case zqa => k_mem); (case zqb => k_mem); (case zqu => ktr_units); k_whole); (try simp only [List.map_nil, List.map_cons, List.isEmpty_nil, List.isEmpty_cons, empty_snoc, Bool.not_true, Bool.not_false]))
  k_with "call builtin:list.pop" => (k_here; (with_reducible show wpAny _ _ (call (Value.builtin _) [Value.ref _]) _ _ _); k_dflt (refine' my_pop ?zqF ?zqN ?zqU ?zqz ?_; (case zqF => k_asm); (case zqN => k_asm); (case zqU => k_upd); (case zqz => assumption); k_whole); intro _ _ _; (try k_sweep))
  k_with "exec While Compare cons nil" => (refine Hold.mk ?_)
  exact trivial
theorem branches_spec {Z Fz : Led} {f : Fm} {tb td root : Addr} {many : Int} {t1 t2 u : Tok} {ds : List Path}
    (B : Below A₀ base outer h₀) (F : Fr h₀ L s.heap m) (X : (KK w.params).In h₀) (N : News h₀ L s.heap (Z ++ Fz)) (T : Top p loose mean mg mb h₀) (hk : cs.kind = .function) (Tr : Tree w.params Z f) (hr : vOf (f []) = .ref root)
    (hb1 : (tb, instObj 244 td) ∈ Z ++ Fz) (hb2 : (td, tbD w.params t1 t2 u root many) ∈ Z ++ Fz) (hds : ∀ q, f q ≠ none → q ∈ ds) (hdl : ds.length ≤ 61)
    (hdp : dp + 20 < recursionLimit) (hun : un + 400 < cLine)
    (hret : ∀ fl (ps : List Path) (vs : List Value) (ss : List Str) n' h' tk', ps.Nodup → (∀ q, q ∈ ps ↔ f q ≠ none) → StrsAre vs ss → ss.Perm (ps.map txt) → sortedS ss = true →
      Fr h₀ L h' m → News h₀ L h' ((fl, listOf vs.toArray n') :: (Z ++ Fz)) → (∀ p ∈ Z ++ Fz, p.1 < fl) → Q (.ref fl) { s with heap := h', toks := tk' }) :
    wpAny (model prog w) (ktrTop dp un gd cn cs L a ccd cl outer) (call (.ref 295) [.ref tb]) Q E s := by
  (refine wpAny_call ?_; k_dflt ktr_enter; try (w_strict (k_extra "k_env")))
  k_steps
  rename_i fl hx1 hfl a0 hx2 ha0 l2 hx3 hl2 D9 hx4 hD9 hx5 hx6 h9 F9 N9
  unfold Hold
  refine while_loop0 [Str.ofString "branch", Str.ofString "text", Str.ofString "bit"] (n₀ := ds.length) (fun n nx => ∃ done left TL vs k1 k2, nx = (l2, listOf (List.map (fun e : Addr × Path => Value.ref e.1) left).toArray k2) :: (fl, listOf vs.toArray k1) :: (TL ++ (Z ++ Fz)) ∧ StrsAre vs (List.map txt done) ∧ (∀ e : Addr × Path, e ∈ left → ∃ t, (e.1, tupO [vOf (f e.2), .str (txt e.2) t]) ∈ TL) ∧ (∀ p ∈ TL, p.1 ≠ l2) ∧ (∀ p ∈ TL, p.1 ≠ fl) ∧ Trav f done (left.map (·.2)) ∧ n + done.length = ds.length) F9 (news_sub N9 (small := (l2, listOf #[Value.ref a0] 0) :: (fl, listOf #[] 0) :: ([(a0, tupO [Value.ref root, .str (Str.ofString "") (tk9 + 1)])] ++ (Z ++ Fz))) ?_) ?_ ?_
  · intro p hp
    simp only [List.mem_cons, List.mem_append, List.not_mem_nil, or_false] at hp ⊢
    rcases hp with e | e | e | e
    · exact .inr (.inl e)
    · exact .inr (.inr (.inr (.inl e)))
    · exact .inr (.inr (.inl e))
    · exact .inr (.inr (.inr (.inr e)))
  · refine ⟨[], [(a0, [])], _, [], 0, 0, rfl, .nil, ?_, ?_, ?_, Trav.start Tr.root, by simp⟩
    · intro e he
      rw [List.mem_singleton.mp he]
      refine ⟨tk9 + 1, ?_⟩
      dsimp only
      rw [hr, txt_nil]; exact .head _
    · intro p hp
      rw [List.mem_singleton.mp hp]
      show @Ne Nat a0 l2
      omega
    · intro p hp
      rw [List.mem_singleton.mp hp]
      show @Ne Nat a0 fl
      omega
  · rintro n u nx h tk hJ9 F3 N3
    try (k_extra "zfold")
    obtain ⟨done, left, TL, vs, k1, k2, rfl, hS, hL, hT1, hT2, hT, hn⟩ := hJ9
    clear F9 N9
    have nl : @Ne Nat fl l2 := by omega
    have nl' : @Ne Nat l2 fl := by omega
    have hz2 : ∀ p ∈ Z ++ Fz, p.1 ≠ l2 := fun p hp => Nat.ne_of_lt (tb_ltOf hl2.2.2 p hp)
    have hz1 : ∀ p ∈ Z ++ Fz, p.1 ≠ fl := fun p hp => Nat.ne_of_lt (hfl p hp)
    have hza : ∀ p ∈ TL ++ (Z ++ Fz), p.1 ≠ l2 := fun p hp => (List.mem_append.mp hp).elim (hT1 p) (hz2 p)
    have hzb : ∀ p ∈ TL ++ (Z ++ Fz), p.1 ≠ fl := fun p hp => (List.mem_append.mp hp).elim (hT2 p) (hz1 p)
    have hll := hT.llen hds
    have hdn := hT.dlen hds
    have hvl := StrsAre.len_eq hS
    rw [List.length_map] at hvl hll
    rcases List.eq_nil_or_concat left with rfl | ⟨l, ⟨ta, q⟩, rfl⟩
    · have h64 : vs.length < 64 := by omega
      k_steps
      exact hret _ done _ _ _ _ _ hT.nd hT.fin (by assumption) (by assumption) (by assumption) (by assumption) (news_sub (by assumption) fun p hp => by
        rcases List.mem_cons.mp hp with e | e
        · exact e ▸ .head _
        · exact .tail _ (.tail _ (.tail _ (.tail _ (List.mem_append.mpr (.inr e)))))) fun p hp => by
          rename _ ∧ _ ∧ _ ∧ AllLt _ _ => hD
          exact tb_ltOf hD.2.2.2 p (List.mem_append.mpr (.inr hp))
    · rw [List.concat_eq_append] at hT hll N3 hL
      rw [List.map_append, List.map_cons, List.map_nil] at hT N3
      have hroom := hT.room hds
      obtain ⟨nd, hq⟩ : ∃ nd, f q = some nd := by
        cases e : f q with
        | none => exact absurd e (hT.lin q (List.mem_append.mpr (.inr (.head _))))
        | some nd => exact ⟨nd, rfl⟩
      obtain ⟨tq, htq⟩ := hL (ta, q) (List.mem_append.mpr (.inr (.head _)))
      dsimp only at htq
      rw [hq, vOf_some] at htq
      obtain ⟨hix, ⟨s1, s2, s3, hid⟩, ⟨nl, hil⟩, hir⟩ := Tr.nod _ _ hq
      have hgl : ((List.map (fun e : Addr × Path => Value.ref e.1) l) ++ [Value.ref ta]).length ≤ 16777216 := by
        rw [List.length_append] at hll ⊢; rw [List.length_map]; simp only [List.length_cons, List.length_nil] at hll ⊢; omega
      have hvl2 : vs.length ≤ 16777216 := by omega
      have hq32 := Tr.fin q (by rw [hq]; exact fun e => nomatch e)
      k_steps
      rename_i lb hx7 hlb _ _
      unfold Hold
      rename Fr _ _ _ _ => F4
      rename News _ _ _ _ => N4
      have hixW : (nd.x, instObj 162 nd.d) ∈ Z ++ Fz := List.mem_append.mpr (.inl hix)
      have hidW := List.mem_append.mpr (Or.inl (b := (nd.d, brD w.params s1 s2 s3 (vOf (f (q ++ [false]))) (vOf (f (q ++ [true]))) nd.l) ∈ Fz) hid)
      obtain ⟨t0, t1, N5⟩ := lit01 N4
      refine list_loop0 [] (vs := [.int 0 t0, .int 1 t1]) (l := lb) (k := 0) (fun i nx => ∃ kids TL' k, nx = (lb, listOf [Value.int 0 t0, Value.int 1 t1].toArray 0) :: (l2, listOf (List.map (fun e : Addr × Path => Value.ref e.1) (l ++ kids)).toArray k) :: (fl, listOf (vs ++ [Value.str (txt q) tq]).toArray (k1 + 1)) :: (TL' ++ (Z ++ Fz)) ∧ (∀ e : Addr × Path, e ∈ l ++ kids → ∃ t, (e.1, tupO [vOf (f e.2), Value.str (txt e.2) t]) ∈ TL') ∧ (∀ p ∈ TL', p.1 ≠ l2) ∧ (∀ p ∈ TL', p.1 ≠ fl) ∧ (∀ p ∈ TL', p.1 ≠ lb) ∧ List.map (·.2) kids = kidsTo f q i) rfl F4 N5 (.head _) ?_ ?_ ?_ ?_
      · rename _ ∧ _ ∧ _ ∧ AllLt _ (_ ++ _) => hLt
        refine ⟨[], TL, k2 + 1, ?_, fun e he => hL e ?_, hT1, hT2, fun p hp => Nat.ne_of_lt (tb_ltOf hLt.2.2.2 p (List.mem_append.mpr (.inl hp))), rfl⟩
        · rw [List.append_nil]
        · rw [List.append_nil] at he
          exact List.mem_append.mpr (.inl he)
      · rintro i nx ⟨kids, TL', k, rfl, _⟩
        exact .head _
      · rintro i v u nx h tk I oI hv hI hJ9 F6 N6
        try (k_extra "zfold")
        obtain ⟨kids, TL', k, rfl, hK, hq1, hq2, hq3, hkk⟩ := hJ9
        clear F4 N4 N5
        rename _ ∧ _ ∧ _ ∧ AllLt lb _ => hLt
        have nb2 : @Ne Nat lb l2 := by omega
        have nbf : @Ne Nat lb fl := by omega
        have nb2' : @Ne Nat l2 lb := by omega
        have nbf' : @Ne Nat fl lb := by omega
        have i1 : @Ne Nat lb I := hI _ (.head _)
        have i2 : @Ne Nat l2 I := hI _ (.tail _ (.head _))
        have i3 : @Ne Nat fl I := hI _ (.tail _ (.tail _ (.head _)))
        have i1' := Ne.symm i1
        have i2' := Ne.symm i2
        have i3' := Ne.symm i3
        have hIt : ∀ p ∈ TL' ++ (Z ++ Fz), p.1 ≠ I := fun p hp => hI p (.tail _ (.tail _ (.tail _ hp)))
        have hxa : ∀ p ∈ TL' ++ (Z ++ Fz), p.1 ≠ l2 := fun p hp => (List.mem_append.mp hp).elim (hq1 p) (hz2 p)
        have hxb : ∀ p ∈ TL' ++ (Z ++ Fz), p.1 ≠ fl := fun p hp => (List.mem_append.mp hp).elim (hq2 p) (hz1 p)
        obtain ⟨b, tb, rfl, hib⟩ : ∃ b tb, v = .int (bI b) tb ∧ i = cond b 1 0 := by
          rcases i with _ | _ | j
          · cases hv; exact ⟨false, _, rfl, rfl⟩
          · cases hv; exact ⟨true, _, rfl, rfl⟩
          · exact absurd hv (by simp)
        clear hv
        have hkl : (List.map (fun e : Addr × Path => Value.ref e.1) (l ++ kids)).length ≤ 16777216 := by
          have := congrArg List.length hkk
          rw [List.length_append] at hll
          have h9 : (kidsTo f q i).length ≤ 1 := by
            subst hib
            cases b
            · exact Nat.zero_le _
            · show (kidsTo f q (0 + 1)).length ≤ 1
              cases e : f (q ++ [false]) <;> simp [kidsTo, e]
          rw [List.length_map] at this
          rw [List.length_map, List.length_append, this]
          simp only [List.length_cons, List.length_nil] at hll
          omega
        have hk0 : f (q ++ [b]) = none → kidsTo f q (i + 1) = kidsTo f q i := fun h => by
          subst hib
          cases b
          · exact kidsTo_f0 h
          · exact kidsTo_f1 h
        have hk1 : ∀ n0, f (q ++ [b]) = some n0 → kidsTo f q (i + 1) = kidsTo f q i ++ [q ++ [b]] := fun n0 h => by
          subst hib
          cases b
          · exact kidsTo_s0 h
          · exact kidsTo_s1 h
        clear hib
        k_steps
        (unfold Hold; w_strict (k_dflt (refine' child_f (f := f) (q := q) (b := b) ?k1 ?k2 ?k3 ?k4 ?k5 ?kK ?u0 ?u1 ?u2 ?kd ?ku ?_; (case k1 => k_asm); (case k2 => k_asm); (case k3 => k_asm); (case k4 => k_asm); (case k5 => k_asm); (case kK => first | exact rfl | assumption); (case u0 => exact .tail _ (.tail _ (.tail _ (.tail _ (mem_appR hixW))))); (case u1 => exact .tail _ (.tail _ (.tail _ (.tail _ (mem_appR hidW))))); (case u2 => exact rfl); (case kd => ktr_room); (case ku => ktr_units))); intro h5 tk5 F5 N5; (try dsimp only); (try k_sweep))
        cases h0 : f (q ++ [b]) with
        | none =>
          rw [vOf_none]
          k_steps
          refine lend_mk _ (by assumption) (by assumption) (fun p hp => .tail _ hp) (.head _) hI ⟨by ktr_rel, kids, TL', k, rfl, hK, hq1, hq2, hq3, hkk.trans (hk0 h0).symm⟩
        | some n0 =>
          rw [vOf_some]
          k_steps
          (unfold Hold; w_strict (k_dflt (refine' child_f (f := f) (q := q) (b := b) ?k1 ?k2 ?k3 ?k4 ?k5 ?kK ?u0 ?u1 ?u2 ?kd ?ku ?_; (case k1 => k_asm); (case k2 => k_asm); (case k3 => k_asm); (case k4 => k_asm); (case k5 => k_asm); (case kK => first | exact rfl | assumption); (case u0 => exact .tail _ (.tail _ (.tail _ (.tail _ (mem_appR hixW))))); (case u1 => exact .tail _ (.tail _ (.tail _ (.tail _ (mem_appR hidW))))); (case u2 => exact rfl); (case kd => ktr_room); (case ku => ktr_units))); intro h5 tk5 F5 N5; (try dsimp only); (try k_sweep))
          rw [h0, vOf_some]
          cases b with
          | false =>
            rw [show bI false = 0 from rfl] at F5
            k_steps
            rename_i t9 tk9 D9 h8 hD h9' F8 N8
            have e9 : List.map (fun e : Addr × Path => Value.ref e.1) (l ++ (kids ++ [(D9, q ++ [false])])) = List.map (fun e : Addr × Path => Value.ref e.1) (l ++ kids) ++ [Value.ref D9] := by simp
            refine lend_mk ((lb, listOf [Value.int 0 t0, Value.int 1 t1].toArray 0) :: (l2, listOf (List.map (fun e : Addr × Path => Value.ref e.1) (l ++ (kids ++ [(D9, q ++ [false])]))).toArray (k + 1)) :: (fl, listOf (vs ++ [Value.str (txt q) tq]).toArray (k1 + 1)) :: (((D9, tupO [Value.ref n0.x, Value.str (txt (q ++ [false])) t9]) :: TL') ++ (Z ++ Fz))) F8 N8 (fun p hp => ?_) (.tail _ (.head _)) (fun p hp => ?_) ⟨by ktr_rel, kids ++ [(D9, q ++ [false])], (D9, tupO [Value.ref n0.x, Value.str (txt (q ++ [false])) t9]) :: TL', k + 1, rfl, fun e he => ?_, fun p hp => ?_, fun p hp => ?_, fun p hp => ?_, ?_⟩
            · rw [e9] at hp
              simp only [List.mem_cons, List.cons_append] at hp ⊢
              rcases hp with e | e | e | e | e
              · exact .inr (.inr (.inl e))
              · exact .inr (.inr (.inr (.inl e)))
              · exact .inr (.inr (.inr (.inr (.inl e))))
              · exact .inl e
              · exact .inr (.inr (.inr (.inr (.inr e))))
            · simp only [List.mem_cons, List.cons_append] at hp
              rcases hp with e | e | e | e | e
              · rw [e]; exact i1
              · rw [e]; exact i2
              · rw [e]; exact i3
              · rw [e]; exact (Nat.ne_of_lt hD.1).symm
              · exact hIt p e
            · rw [← List.append_assoc] at he
              rcases List.mem_append.mp he with he | he
              · obtain ⟨t, ht⟩ := hK e he
                exact ⟨t, .tail _ ht⟩
              · rw [List.mem_singleton.mp he]
                refine ⟨t9, ?_⟩
                dsimp only
                rw [h0, vOf_some]
                exact .head _
            · rcases List.mem_cons.mp hp with e | e
              · rw [e]; exact (Nat.ne_of_lt hD.2.2.1).symm
              · exact hq1 p e
            · rcases List.mem_cons.mp hp with e | e
              · rw [e]; exact (Nat.ne_of_lt hD.2.2.2.1).symm
              · exact hq2 p e
            · rcases List.mem_cons.mp hp with e | e
              · rw [e]; exact (Nat.ne_of_lt hD.2.1).symm
              · exact hq3 p e
            · rw [List.map_append, hkk, hk1 _ h0]; rfl
          | true =>
            rw [show bI true = 1 from rfl] at F5
            k_steps
            rename_i t9 tk9 D9 h8 hD h9' F8 N8
            have e9 : List.map (fun e : Addr × Path => Value.ref e.1) (l ++ (kids ++ [(D9, q ++ [true])])) = List.map (fun e : Addr × Path => Value.ref e.1) (l ++ kids) ++ [Value.ref D9] := by simp
            refine lend_mk ((lb, listOf [Value.int 0 t0, Value.int 1 t1].toArray 0) :: (l2, listOf (List.map (fun e : Addr × Path => Value.ref e.1) (l ++ (kids ++ [(D9, q ++ [true])]))).toArray (k + 1)) :: (fl, listOf (vs ++ [Value.str (txt q) tq]).toArray (k1 + 1)) :: (((D9, tupO [Value.ref n0.x, Value.str (txt (q ++ [true])) t9]) :: TL') ++ (Z ++ Fz))) F8 N8 (fun p hp => ?_) (.tail _ (.head _)) (fun p hp => ?_) ⟨by ktr_rel, kids ++ [(D9, q ++ [true])], (D9, tupO [Value.ref n0.x, Value.str (txt (q ++ [true])) t9]) :: TL', k + 1, rfl, fun e he => ?_, fun p hp => ?_, fun p hp => ?_, fun p hp => ?_, ?_⟩
            · rw [e9] at hp
              simp only [List.mem_cons, List.cons_append] at hp ⊢
              rcases hp with e | e | e | e | e
              · exact .inr (.inr (.inl e))
              · exact .inr (.inr (.inr (.inl e)))
              · exact .inr (.inr (.inr (.inr (.inl e))))
              · exact .inl e
              · exact .inr (.inr (.inr (.inr (.inr e))))
            · simp only [List.mem_cons, List.cons_append] at hp
              rcases hp with e | e | e | e | e
              · rw [e]; exact i1
              · rw [e]; exact i2
              · rw [e]; exact i3
              · rw [e]; exact (Nat.ne_of_lt hD.1).symm
              · exact hIt p e
            · rw [← List.append_assoc] at he
              rcases List.mem_append.mp he with he | he
              · obtain ⟨t, ht⟩ := hK e he
                exact ⟨t, .tail _ ht⟩
              · rw [List.mem_singleton.mp he]
                refine ⟨t9, ?_⟩
                dsimp only
                rw [h0, vOf_some]
                exact .head _
            · rcases List.mem_cons.mp hp with e | e
              · rw [e]; exact (Nat.ne_of_lt hD.2.2.1).symm
              · exact hq1 p e
            · rcases List.mem_cons.mp hp with e | e
              · rw [e]; exact (Nat.ne_of_lt hD.2.2.2.1).symm
              · exact hq2 p e
            · rcases List.mem_cons.mp hp with e | e
              · rw [e]; exact (Nat.ne_of_lt hD.2.1).symm
              · exact hq3 p e
            · rw [List.map_append, hkk, hk1 _ h0]; rfl
      · rintro u nx h tk hJ9 F6 N6
        try (k_extra "zfold")
        obtain ⟨kids, TL', k, rfl, hK, hq1, hq2, hq3, hkk⟩ := hJ9
        clear F4 N4 N5
        k_steps
        have hT' := hT.step Tr.pre (kidsTo_kids f q)
        refine' ⟨rfl, _, _, _, (l2, listOf (List.map (fun e : Addr × Path => Value.ref e.1) (l ++ kids)).toArray k) :: (fl, listOf (vs ++ [Value.str (txt q) tq]).toArray (k1 + 1)) :: (TL' ++ (Z ++ Fz)), n - 1, rfl, by assumption, news_sub N6 (fun p hp => .tail _ hp), by omega, ?_, done ++ [q], l ++ kids, TL', vs ++ [Value.str (txt q) tq], k1 + 1, k, rfl, ?_, hK, hq1, hq2, ?_, ?_⟩
        · refine Same.ofSub ?_ (by decide +kernel)
          ktr_rel
        · rw [List.map_append]
          exact strsAre_snoc hS
        · rw [List.map_append, hkk]
          exact hT'
        · simp only [List.length_append, List.length_cons, List.length_nil]; omega
end
end Mine

-- part V2
namespace Mine
set_option maxRecDepth 100000
set_option maxHeartbeats 8000000
set_option pp.deepTerms false
set_option pp.deepTerms.threshold 4
set_option pp.maxSteps 100000


theorem RowsAre.mono {W W' : Led} {vs : List Value} {rows : List Row} (h : RowsAre W vs rows) (hs : ∀ p ∈ W, p ∈ W') : RowsAre W' vs rows := ⟨h.1, fun i v row a b => by
  obtain ⟨x, t0, t1, t2, t3, e, hm⟩ := h.2 i v row a b
  exact ⟨x, t0, t1, t2, t3, e, hs _ hm⟩⟩
section

variable {prog : Program} {w : World} {p : Program} {loose : List Str} {mean : ExcName → Option Value} {mg mb : Str → Option Value}
    {dp un : Nat} {gd : Option (List Code)} {cn : Str} {cs : Scope} {a : Addr} {ccd : Value} {cl : List (Str × Addr)} {outer : List Env} {A₀ : Around} {base h₀ : Heap} {L : Addr} {m : Str → Option Value} {news : List (Addr × Obj)} {s : Shared} {Q E : Value → Shared → Prop}

theorem zsetV21 : True := by
  k_with_none
  k_with "z_ch" => first | with_reducible assumption | (refine' And.right ?_; rotate_left; first | with_reducible assumption | (refine' And.right ?_; rotate_left; first | with_reducible assumption | (refine' And.right ?_; rotate_left; first | with_reducible assumption | (refine' And.right ?_; rotate_left; first | with_reducible assumption | (refine' And.right ?_; rotate_left; first | with_reducible assumption | (refine' And.right ?_; rotate_left; first | with_reducible assumption | (refine' And.right ?_; rotate_left; with_reducible assumption)))))))
  k_with "z_lt" => first | with_reducible assumption | (refine' And.left ?_; rotate_left; k_extra "z_ch") | (refine' And.right ?_; rotate_left; k_extra "z_ch")
  k_with "k_ne" => (refine neN ?_; (try dsimp only); first | (refine' Nat.ne_of_gt ?_; k_extra "z_lt") | (refine' Nat.ne_of_lt ?_; k_extra "z_lt") | (refine' Nat.ne_of_gt (Nat.lt_trans ?_ (by with_reducible assumption)); k_extra "z_lt") | (refine' Nat.ne_of_lt (Nat.lt_trans ?_ (by with_reducible assumption)); k_extra "z_lt"))
  k_with "zfold" => ((fail_if_success (fail_if_success k_fold)); refine zfold_q ?_; intro qk)
  k_with "k_env" => (refine zfold_env (f := fun en9 => execs _ en9) ?_; intro en9; refine zfold_A ?_; intro ak9; (rename Fr _ _ _ _ => fr9); refine zfold_F fr9 ?_; clear fr9; intro fm9 fr9; try (refine zgen_t ?_; intro tk9))
  k_with "ktr_room" => first | exact fits (c := 1) hdp rfl rfl | exact fits0 (c := 1) hdp rfl rfl | exact fits (c := 2) hdp rfl rfl | exact fits0 (c := 2) hdp rfl rfl | exact fits (c := 0) hdp rfl rfl | exact fits0 (c := 0) hdp rfl rfl | exact fits (c := 3) hdp rfl rfl | exact fits0 (c := 3) hdp rfl rfl | exact Nat.le_of_ble_eq_true rfl
  k_with "ktr_units" => first | exact fits (c := 3) hun rfl rfl | exact fits0 (c := 3) hun rfl rfl | exact fits (c := 6) hun rfl rfl | exact fits0 (c := 6) hun rfl rfl | exact fits (c := 0) hun rfl rfl | exact fits0 (c := 0) hun rfl rfl | exact fits (c := 9) hun rfl rfl | exact fits0 (c := 9) hun rfl rfl | exact Nat.le_of_ble_eq_true rfl
  k_with "k_steps" => repeat' (first | (k_unfold; (try dsimp only); (try clear qk)) | (k_end; wrow_close) | walk1 | (dsimp only; walk1) | (leave1; try dsimp only) | fail "no step")
  k_with "execs cons" => (k_extra "zfold"; walk1)
  k_with "exec If" => (k_extra "zfold"; walk1)
  k_with "exec Assign" => (k_extra "zfold"; walk1)
  k_with "exec Expr" => (k_extra "zfold"; walk1)
  k_with "exec Return" => (k_extra "zfold"; walk1)
  k_with "isTrue" => (k_extra "zfold"; walk1)
  k_with "eval BinOp" => (k_extra "zfold"; walk1)
  k_with "eval BoolOp" => (k_extra "zfold"; walk1)
  k_with "eval UnaryOp" => (k_extra "zfold"; walk1)
  k_with "eval Call" => (k_extra "zfold"; walk1)
  k_with "eval Compare" => (k_extra "zfold"; walk1)
  k_with "eval Subscript" => (k_extra "zfold"; walk1)
  k_with "eval Attribute" => (k_extra "zfold"; walk1)
  k_with "eval Tuple" => (k_extra "zfold"; walk1)
  k_with "eval List nil" => (k_extra "zfold"; walk1)
  k_with "eval List cons" => (k_extra "zfold"; walk1)
  k_with "k_mem" => first | assumption | (with_reducible refine mem_appL ?_; assumption) | (with_reducible refine mem_appR ?_; assumption) | (with_reducible refine List.mem_append.mpr (Or.inl ?_); assumption) | (with_reducible refine List.mem_append.mpr (Or.inr ?_); assumption)
  k_with "k_ne" => (first | (refine' ne_neA ?zqh ?zqm; (case zqm => assumption); (case zqh => assumption)) | (refine' ne_between ?zqm ?zqh ?zqle; (case zqm => assumption); (case zqh => tbn_find); (case zqle => omega)))
  k_with "k_room" => ktr_room
  k_with "k_all" => first | assumption | (refine all_repl ?_; first | assumption | (refine tbn_neAll ?_; tbn_find))
  k_with "k_upd" => exact upd_repl (by assumption) (by assumption)
  k_with "ktr_rel" => (repeat (first | exact Same.refl | exact Same.of2 | exact Same.of | refine Same.set ?_ (by rfl)))
  k_with "tb_start" => (intro _ hp9; (repeat (refine List.Mem.tail _ ?_)); first | exact hp9 | exact List.mem_append.mpr (Or.inl hp9) | exact List.mem_append.mpr (Or.inr hp9))
  k_with "LPost" => (dsimp only [LPost])
  k_with "pyIter ref" => (refine Hold.mk ?_)
  k_with "call builtin:list.append" => (k_here; (with_reducible show wpAny _ _ (call (Value.builtin _) [Value.ref _, _]) _ _ _); k_dflt (refine' my_append ?zqk1 ?zqk2 ?zqk3 ?zqz ?_; (case zqk1 => k_asm); (case zqk2 => k_asm); (case zqk3 => k_upd); (case zqz => assumption); k_whole); intro _ _ _; (try k_sweep))
  k_with "call builtin:len" => (k_here; k_dflt (refine' my_len ?zqN ?zqm ?zqf ?_; (case zqN => k_asm); (case zqm => k_mem); (case zqf => assumption); k_whole))
  k_with "subscriptTail" => (k_here; k_dflt (refine' my_itemE ?zqN ?zqm ?zqv ?zqa ?zqf ?_ ?zqhs; (case zqN => k_asm); (case zqm => k_mem); (case zqv => with_reducible assumption); (case zqa => omega); (case zqf => assumption); (case zqhs => with_unfolding_all rfl); k_whole))
  k_with "subscriptTail Name UnaryOp ref int" => (k_here; k_dflt (refine' my_itemE ?zqN ?zqm ?zqv ?zqa ?zqf ?_ ?zqhs; (case zqN => k_asm); (case zqm => k_mem); (case zqv => with_reducible assumption); (case zqa => omega); (case zqf => assumption); (case zqhs => with_unfolding_all rfl); k_whole))
  k_with "subscriptTail" => (k_here; (with_reducible show wpAny _ _ (subscriptTail _ _ (Value.ref _) (Value.int (-1) _)) _ _ _); k_dflt (refine' my_last ?zqN ?zqm ?zqv ?zqf ?_ ?zqhs; (case zqN => k_asm); (case zqm => k_mem); (case zqv => with_reducible assumption); (case zqf => assumption); (case zqhs => with_unfolding_all rfl); k_whole))
  k_with "subscriptTail Name UnaryOp ref int" => (k_here; (with_reducible show wpAny _ _ (subscriptTail _ _ (Value.ref _) (Value.int (-1) _)) _ _ _); k_dflt (refine' my_last ?zqN ?zqm ?zqv ?zqf ?_ ?zqhs; (case zqN => k_asm); (case zqm => k_mem); (case zqv => with_reducible assumption); (case zqf => assumption); (case zqhs => with_unfolding_all rfl); k_whole))
  k_with "exec For Name Call cons nil" => (k_here; (rename Fr _ _ _ _ => lF'); (with_unfolding_all refine' For_invVF lF' ?zqk1 ?zqk2 ?_; (case zqk1 => exact rfl); (case zqk2 => exact rfl); k_whole))
  k_with "call ref" => (k_here; (with_reducible show wpAny _ _ (call (Value.ref 295) _) _ _ _); refine Hold.mk ?_)
  k_with "call ref" => (k_here; (with_reducible show wpAny _ _ (call (Value.ref 300) _) _ _ _); refine Hold.mk ?_)
  k_with "compareOp Eq ref ref" => (refine Hold.mk ?_)
  exact trivial
theorem stands_spec {Z Fz : Led} {f : Fm} {tb td root rl : Addr} {many : Int} {t1 t2 u : Tok} {vs : List Value} {n : Nat} {rows : List Row}
    (B : Below A₀ base outer h₀) (F : Fr h₀ L s.heap m) (X : (KK w.params).In h₀) (N : News h₀ L s.heap (Z ++ Fz)) (T : Top p loose mean mg mb h₀) (hk : cs.kind = .function) (Tr : Tree w.params Z f) (hr : vOf (f []) = .ref root)
    (hb1 : (tb, instObj 244 td) ∈ Z ++ Fz) (hb2 : (td, tbD w.params t1 t2 u root many) ∈ Z ++ Fz) (hl : (rl, listOf vs.toArray n) ∈ Z ++ Fz) (hR : RowsAre (Z ++ Fz) vs rows)
    (hW : Wants f rows) (hlen : rows.length ≤ 5) (hk12 : ∀ row ∈ rows, row.k ≤ 12) (hmany : many = (rows.length : Int))
    (hdp : dp + 50 < recursionLimit) (hun : un + 1000 < cLine)
    (hret : ∀ h' tk' d, Fr h₀ L h' m → News h₀ L h' (Z ++ Fz) → Q (.bool true) { s with heap := h', toks := tk', drawn := d }) :
    wpAny (model prog w) (ktrTop dp un gd cn cs L a ccd cl outer) (call (.ref 307) [.ref tb, .ref rl]) Q E s := by
  have hvl : vs.length = rows.length := hR.1
  have hds : (ownPrefs rows).length ≤ 61 := by have := ownPrefs_len hk12; omega
  (refine wpAny_call ?_; k_dflt ktr_enter; try (w_strict (k_extra "k_env")))
  k_steps
  (unfold Hold; w_strict (k_dflt (refine' branches_spec (ds := ownPrefs rows) ?k1 ?k2 ?k3 ?k4 ?k5 ?kK ?u0 ?u1 ?u2 ?u3 ?u4 ?u5 ?kd ?ku ?_; (case k1 => k_asm); (case k2 => k_asm); (case k3 => k_asm); (case k4 => k_asm); (case k5 => k_asm); (case kK => first | exact rfl | assumption); (case u0 => exact Tr); (case u1 => exact hr); (case u2 => exact hb1); (case u3 => exact hb2); (case u4 => exact hW.ds); (case u5 => exact hds); (case kd => ktr_room); (case ku => ktr_units))); intro fl ps v1 s1 n1 h1 tk1 hn1 hps p1 e1 o1 F1 N1 lt1; (try dsimp only); (try k_sweep); (try (k_extra "zfold")))
  k_steps
  (unfold Hold; w_strict (k_dflt (refine' due_spec (vs := vs) (n := n) (rows := rows) ?k1 ?k2 ?k3 ?k4 ?k5 ?kK ?u0 ?u1 ?u2 ?u3 ?kd ?ku ?_; (case k1 => k_asm); (case k2 => k_asm); (case k3 => k_asm); (case k4 => k_asm); (case k5 => k_asm); (case kK => first | exact rfl | assumption); (case u0 => exact .tail _ hl); (case u1 => (exact hR.mono fun p hp => .tail _ hp)); (case u2 => exact hlen); (case u3 => exact hk12); (case kd => ktr_room); (case ku => ktr_units))); intro D2 v2 s2 n2 h2 tk2 d2 F2 N2 off2 p2 e2 o2; (try dsimp only); (try k_sweep); (try (k_extra "zfold")))
  obtain rfl : s1 = s2 := same_texts hW hn1 hps e1 o1 e2 o2
  have hvz : vs.length ≤ 16777216 := by omega
  have hb1' : (tb, instObj 244 td) ∈ (D2, listOf v2.toArray n2) :: (fl, listOf v1.toArray n1) :: (Z ++ Fz) := .tail _ (.tail _ hb1)
  have hb2' : (td, tbD w.params t1 t2 u root many) ∈ (D2, listOf v2.toArray n2) :: (fl, listOf v1.toArray n1) :: (Z ++ Fz) := .tail _ (.tail _ hb2)
  have hl' : (rl, listOf vs.toArray n) ∈ (D2, listOf v2.toArray n2) :: (fl, listOf v1.toArray n1) :: (Z ++ Fz) := .tail _ (.tail _ hl)
  k_steps
  unfold Hold
  refine my_eq_strs N2 (.tail _ (.head _)) (.head _) p1 p2 (by ktr_units) ?_
  k_steps
  rename News h₀ _ _ _ => kN
  rename Fr h₀ _ _ _ => kF
  exact q_bool (by rw [hmany, hvl]; exact beq_self_eq_true _) (hret _ _ _ kF (news_tail (news_tail kN)))
end
end Mine

-- part V3
namespace Mine
set_option maxRecDepth 100000
set_option maxHeartbeats 8000000
set_option pp.deepTerms false
set_option pp.deepTerms.threshold 4
set_option pp.maxSteps 100000

theorem ediv_step (a : Int) (j : Nat) (hj : j < 32) : a / 2 ^ (31 - j) = 2 * (a / 2 ^ (32 - j)) + a / 2 ^ (31 - j) % 2 := by
  have e : (2 : Int) ^ (32 - j) = 2 ^ (31 - j) * 2 := by
    rw [← Int.pow_succ]; congr 1; omega
  have e2 : a / (2 ^ (31 - j) * 2) = a / 2 ^ (31 - j) / 2 := (Int.ediv_ediv_of_nonneg (Int.le_of_lt (pow_pos_int _))).symm
  rw [e, e2]
  omega
theorem bits_inj {a b : Int} {k : Nat} (ha : NetOk k a) (hb : NetOk k b) (h : bitsOf a k = bitsOf b k) : a = b := by
  obtain ⟨hk, a0, a1, am⟩ := ha
  obtain ⟨_, b0, b1, bm⟩ := hb
  have bit : ∀ i, i < k → bitB a i = bitB b i := fun i hi => by
    have h1 := congrArg (fun l => l[i]?) h
    simp only [bitsOf, List.getElem?_map, List.getElem?_range hi] at h1
    exact Option.some.inj h1
  have key : ∀ j, j ≤ k → a / 2 ^ (32 - j) = b / 2 ^ (32 - j) := by
    intro j
    induction j with
    | zero =>
      intro _
      rw [show (2 : Int) ^ (32 - 0) = 4294967296 by decide]
      omega
    | succ j ih =>
      intro hj
      have e := ih (by omega)
      have hb' := bit j (by omega)
      have h1 := ediv_step a j (by omega)
      have h2 := ediv_step b j (by omega)
      rw [show 32 - (j + 1) = 31 - j by omega, h1, h2, e]
      have : a / 2 ^ (31 - j) % 2 = b / 2 ^ (31 - j) % 2 := by
        have q1 := bit01 a j
        have q2 := bit01 b j
        cases e : bitB a j with
        | true => rw [q1.2 e, q2.2 (hb' ▸ e)]
        | false => rw [q1.1 e, q2.1 (hb' ▸ e)]
      rw [this]
  have e := key k (Nat.le_refl _)
  have hM : (2 : Int) ^ (32 - (k : Int)).toNat = 2 ^ (32 - k) := by congr 1; omega
  rw [hM] at am bm
  have p := pow_pos_int (32 - k)
  generalize (2 : Int) ^ (32 - k) = M at am bm e p
  have x1 := Int.mul_ediv_add_emod a M
  have x2 := Int.mul_ediv_add_emod b M
  have y1 : a % M = 0 := by omega
  have y2 : b % M = 0 := by omega
  rw [e] at x1
  omega
theorem filter_len {α : Type} (p : α → Bool) : ∀ (l : List α), l.length = (l.filter p).length + (l.filter fun x => !p x).length
  | [] => rfl
  | a :: l => by
    have ih := filter_len p l
    cases h : p a with
    | true => rw [List.filter_cons_of_pos h, List.filter_cons_of_neg (by simp [h])]; simp only [List.length_cons]; omega
    | false => rw [List.filter_cons_of_neg (by simp [h]), List.filter_cons_of_pos (by simp [h])]; simp only [List.length_cons]; omega
def rowOf (r : Rt) : Row := ⟨r.net, r.pre.toNat, r.gw, r.face⟩
def pathOf (row : Row) : Path := bitsOf row.net row.k
theorem key_inj {a b : Row} (ha : NetOk a.k a.net) (hb : NetOk b.k b.net) (h : pathOf a = pathOf b) : a.net = b.net ∧ a.k = b.k := by
  unfold pathOf at h
  have hl := congrArg List.length h
  rw [bitsOf_length, bitsOf_length] at hl
  rw [← hl] at h hb
  exact ⟨bits_inj ha hb h, hl⟩
structure Inv (f : Fm) (rows : List Row) : Prop where
  lean : Lean' f
  own : ∀ q r, r ∈ rsOf f q → ∃ k : Nat, r.pre = (k : Int) ∧ NetOk k r.net ∧ bitsOf r.net k = q
  net : ∀ row ∈ rows, NetOk row.k row.net
  nd : rows.Nodup
  cor : ∀ q, ((rsOf f q).map rowOf).Perm (rows.filter fun row => decide (pathOf row = q))
theorem Inv.own' {f : Fm} {rows : List Row} (I : Inv f rows) : ∀ q r, r ∈ rsOf f q → ∃ k : Nat, r.pre = (k : Int) ∧ k ≤ 32 ∧ bitsOf r.net k = q := fun q r hr => by
  obtain ⟨k, a, b, c⟩ := I.own q r hr
  exact ⟨k, a, by have := b.1; omega, c⟩
theorem rsOf_some {f : Fm} {q : Path} {r : Rt} (h : r ∈ rsOf f q) : f q ≠ none := fun e => by unfold rsOf at h; rw [e] at h; cases h
theorem Inv.has {f : Fm} {rows : List Row} (I : Inv f rows) {row : Row} (h : row ∈ rows) : ∃ r ∈ rsOf f (pathOf row), rowOf r = row := by
  have h1 : row ∈ rows.filter fun x => decide (pathOf x = pathOf row) := List.mem_filter.mpr ⟨h, decide_eq_true rfl⟩
  exact List.mem_map.mp ((I.cor _).mem_iff.mpr h1)
theorem Inv.row {f : Fm} {rows : List Row} (I : Inv f rows) {q : Path} {r : Rt} (h : r ∈ rsOf f q) : rowOf r ∈ rows ∧ pathOf (rowOf r) = q := by
  have h1 := (I.cor q).mem_iff.mp (List.mem_map.mpr ⟨r, h, rfl⟩)
  exact ⟨(List.mem_filter.mp h1).1, of_decide_eq_true (List.mem_filter.mp h1).2⟩
theorem bitsOf_pre (net : Int) {j k : Nat} (h : j ≤ k) : ∃ r, bitsOf net k = bitsOf net j ++ r := ⟨(bitsOf net k).drop j, by rw [← bitsOf_take net h, List.take_append_drop]⟩
theorem snoc_bits {q : Path} {b : Bool} {net : Int} {j : Nat} (h : q ++ [b] = bitsOf net j) : ∃ i, j = i + 1 ∧ q = bitsOf net i := by
  cases j with
  | zero => exact absurd h (by simp [bitsOf_zero])
  | succ i => rw [bitsOf_succ] at h; exact ⟨i, rfl, (snoc_inj h).1⟩
theorem Inv.wants {f : Fm} {rows : List Row} (I : Inv f rows) (hp : ∀ q b, f (q ++ [b]) ≠ none → f q ≠ none) (hroot : f [] ≠ none) (hfin : ∀ q, f q ≠ none → q.length ≤ 32) : Wants f rows := by
  intro q
  constructor
  · have main : ∀ n (q : Path), q.length + n = 33 → f q ≠ none → q = [] ∨ ∃ row ∈ rows, ∃ j, j ≤ row.k ∧ q = bitsOf row.net j := by
      intro n
      induction n with
      | zero => intro q hn hq; have := hfin q hq; omega
      | succ n ih =>
        intro q hn hq
        by_cases e : q = []
        · exact .inl e
        · right
          obtain ⟨nd, hnd⟩ : ∃ nd, f q = some nd := by
            cases e : f q with
            | none => exact absurd e hq
            | some nd => exact ⟨nd, rfl⟩
          rcases bareB_false.mp (I.lean q nd hnd e) with hr | ⟨b, hb⟩
          · obtain ⟨r, hr⟩ := List.exists_mem_of_ne_nil _ hr
            have hr' : r ∈ rsOf f q := by unfold rsOf; rw [hnd]; exact hr
            obtain ⟨h1, h2⟩ := I.row hr'
            exact ⟨_, h1, _, Nat.le_refl _, h2.symm⟩
          · rcases ih (q ++ [b]) (by rw [List.length_append]; simp only [List.length_cons, List.length_nil]; omega) hb with h | ⟨row, h1, j, h2, h3⟩
            · exact absurd h (by simp)
            · obtain ⟨i, rfl, h4⟩ := snoc_bits h3
              exact ⟨row, h1, i, by omega, h4⟩
    intro hq
    exact main (33 - q.length) q (by have := hfin q hq; omega) hq
  · rintro (rfl | ⟨row, h1, j, h2, rfl⟩)
    · exact hroot
    · obtain ⟨r, hr, _⟩ := I.has h1
      have h3 := rsOf_some hr
      unfold pathOf at h3
      obtain ⟨t, ht⟩ := bitsOf_pre row.net h2
      rw [ht] at h3
      exact pre_closed hp t _ h3
/- taking out a network -/
theorem Inv.cut {f f' : Fm} {rows : List Row} {net : Int} {k : Nat} (I : Inv f rows) (hk : NetOk k net) (hL : Lean' f') (hrs : rsOf f' = fun p => if p = bitsOf net k then [] else rsOf f p) :
    Inv f' (rows.filter fun row => !(decide (row.net = net) && decide (row.k = k))) ∧ (rsOf f (bitsOf net k)).length + (rows.filter fun row => !(decide (row.net = net) && decide (row.k = k))).length = rows.length := by
  have same : ∀ row ∈ rows, (decide (row.net = net) && decide (row.k = k)) = decide (pathOf row = bitsOf net k) := fun row hr => by
    by_cases e : pathOf row = bitsOf net k
    · have := key_inj (b := ⟨net, k, 0, 0⟩) (I.net row hr) hk e
      simp [e, this.1, this.2]
    · rw [decide_eq_false e]
      by_cases e1 : row.net = net
      · by_cases e2 : row.k = k
        · exact absurd (by unfold pathOf; rw [e1, e2]) e
        · simp [e2]
      · simp [e1]
  have hf : (rows.filter fun row => !(decide (row.net = net) && decide (row.k = k))) = rows.filter fun row => !decide (pathOf row = bitsOf net k) := List.filter_congr fun row hr => by rw [same row hr]
  rw [hf]
  refine ⟨⟨hL, fun q r hr => ?_, fun row hr => I.net row (List.mem_filter.mp hr).1, I.nd.filter _, fun q => ?_⟩, ?_⟩
  · rw [hrs] at hr
    by_cases e : q = bitsOf net k
    · simp [e] at hr
    · simp only [if_neg e] at hr
      exact I.own q r hr
  · rw [hrs, List.filter_filter]
    by_cases e : q = bitsOf net k
    · subst e
      simp only [if_true]
      rw [List.filter_eq_nil_iff.mpr]
      · exact .nil
      · intro row _ h
        rw [Bool.and_eq_true] at h
        rw [h.1] at h
        simp at h
    · simp only [if_neg e]
      refine (I.cor q).trans (List.Perm.of_eq (List.filter_congr fun row _ => ?_))
      by_cases e2 : pathOf row = q
      · simp [e2, e]
      · simp [e2]
  · have h1 := (I.cor (bitsOf net k)).length_eq
    rw [List.length_map] at h1
    rw [h1]
    have := filter_len (fun row => decide (pathOf row = bitsOf net k)) rows
    omega
/- taking out a face -/
theorem filter_or {p q : Row → Bool} : ∀ (l : List Row), (∀ x ∈ l, p x = true → q x = false) → (l.filter p ++ l.filter q).Perm (l.filter fun x => p x || q x)
  | [], _ => .nil
  | a :: l, h => by
    have ih := filter_or l fun x hx => h x (.tail _ hx)
    have ha := h a (.head _)
    cases hp : p a with
    | true =>
      rw [List.filter_cons_of_pos (by exact hp), List.filter_cons_of_neg (by rw [ha hp]; simp), List.filter_cons_of_pos (by rw [hp]; rfl)]
      exact ih.cons a
    | false =>
      rw [List.filter_cons_of_neg (by rw [hp]; simp)]
      cases hq : q a with
      | true =>
        rw [List.filter_cons_of_pos (by exact hq), List.filter_cons_of_pos (by rw [hp, hq]; rfl)]
        exact List.perm_middle.trans (ih.cons a)
      | false =>
        rw [List.filter_cons_of_neg (by rw [hq]; simp), List.filter_cons_of_neg (by rw [hp, hq]; simp)]
        exact ih
theorem flat_rows {rows : List Row} : ∀ {ps : List Path}, ps.Nodup → (ps.flatMap fun q => rows.filter fun row => decide (pathOf row = q)).Perm (rows.filter fun row => decide (pathOf row ∈ ps))
  | [], _ => by simp
  | q :: ps, h => by
    obtain ⟨h1, h2⟩ := List.nodup_cons.mp h
    rw [List.flatMap_cons]
    refine ((flat_rows h2).append_left _).trans ((filter_or rows fun x _ hx => ?_).trans (List.Perm.of_eq (List.filter_congr fun row _ => ?_)))
    · rw [decide_eq_false_iff_not, of_decide_eq_true hx]; exact h1
    · simp
theorem flatMap_perm {ps : List Path} {g g' : Path → List Row} (h : ∀ q, (g q).Perm (g' q)) : (ps.flatMap g).Perm (ps.flatMap g') := by
  induction ps with
  | nil => exact .nil
  | cons q ps ih => rw [List.flatMap_cons, List.flatMap_cons]; exact (h q).append ih
theorem Inv.face {f f' : Fm} {rows : List Row} {face : Int} {ps : List Path} (I : Inv f rows) (hL : Lean' f') (hrs : rsOf f' = fun p => (rsOf f p).filter (neF face)) (hn : ps.Nodup) (hps : ∀ q, q ∈ ps ↔ f q ≠ none) :
    Inv f' (rows.filter fun row => decide (row.face ≠ face)) ∧ (ps.flatMap (rsOf f)).countP (eqF face) + (rows.filter fun row => decide (row.face ≠ face)).length = rows.length := by
  refine ⟨⟨hL, fun q r hr => ?_, fun row hr => I.net row (List.mem_filter.mp hr).1, I.nd.filter _, fun q => ?_⟩, ?_⟩
  · rw [hrs] at hr
    exact I.own q r (List.mem_filter.mp hr).1
  · rw [hrs]
    have e : ((rsOf f q).filter (neF face)).map rowOf = ((rsOf f q).map rowOf).filter fun row => decide (row.face ≠ face) := by
      rw [List.filter_map]; rfl
    rw [e, List.filter_filter]
    refine ((I.cor q).filter _).trans (List.Perm.of_eq ?_)
    rw [List.filter_filter]
    exact List.filter_congr fun row _ => Bool.and_comm _ _
  · have h1 : (ps.flatMap (rsOf f)).countP (eqF face) = ((ps.flatMap (rsOf f)).map rowOf).countP fun row => decide (row.face = face) := by
      rw [List.countP_map]; rfl
    have h2 : ((ps.flatMap (rsOf f)).map rowOf).Perm rows := by
      rw [List.map_flatMap]
      refine (flatMap_perm I.cor).trans ((flat_rows hn).trans (List.Perm.of_eq ?_))
      refine List.filter_eq_self.mpr fun row hr => decide_eq_true ?_
      obtain ⟨r, hr2, _⟩ := I.has hr
      exact (hps _).mpr (rsOf_some hr2)
    rw [h1, h2.countP_eq, List.countP_eq_length_filter]
    have := filter_len (fun row : Row => decide (row.face = face)) rows
    have e3 : (rows.filter fun row => !decide (row.face = face)) = rows.filter fun row => decide (row.face ≠ face) := List.filter_congr fun row _ => by simp
    rw [e3] at this
    omega
end Mine

-- part V4
namespace Mine
set_option maxRecDepth 100000
set_option maxHeartbeats 8000000
set_option pp.deepTerms false
set_option pp.deepTerms.threshold 4
set_option pp.maxSteps 100000

theorem Ext.rs {f f1 : Fm} {net : Int} {k : Nat} (h : Ext f net k f1) : rsOf f1 = rsOf f := by
  funext q
  unfold rsOf
  cases e : f q with
  | some nd => rw [h.keep q (by rw [e]; exact fun x => nomatch x), e]
  | none =>
    cases e' : f1 q with
    | none => rfl
    | some nd => exact (h.new q nd e e').1
theorem putR_ne {r : Rt} : ∀ {rs : List Rt}, putR r rs ≠ []
  | [] => by simp [putR]
  | a :: t => by unfold putR; split <;> simp
theorem hasR_mem {r : Rt} {rs : List Rt} : hasR r rs = true ↔ ∃ a ∈ rs, sameR a r := by
  unfold hasR; rw [List.any_eq_true]
  constructor
  · rintro ⟨a, h1, h2⟩; exact ⟨a, h1, of_decide_eq_true h2⟩
  · rintro ⟨a, h1, h2⟩; exact ⟨a, h1, decide_eq_true h2⟩
theorem rowOf_same {a r : Rt} (h : a.net = r.net ∧ a.pre = r.pre) : sameR a r ↔ rowOf a = rowOf r := by
  unfold sameR rowOf
  rw [h.1, h.2]
  constructor
  · rintro ⟨e1, e2⟩; rw [e1, e2]
  · intro e; injection e with _ _ e3 e4; exact ⟨e3, e4⟩
theorem putR_map {r : Rt} : ∀ {rs : List Rt}, (∀ a ∈ rs, a.net = r.net ∧ a.pre = r.pre) → hasR r rs = true → (putR r rs).map rowOf = rs.map rowOf
  | [], _, h => by cases h
  | a :: t, h, hh => by
    show (if sameR a r then r :: t else a :: putR r t).map rowOf = _
    by_cases e : sameR a r
    · rw [if_pos e, List.map_cons, List.map_cons, (rowOf_same (h a (.head _))).mp e]
    · rw [if_neg e, List.map_cons, List.map_cons]
      have : hasR r t = true := by
        have h2 : (decide (sameR a r) || hasR r t) = true := hh
        rwa [decide_eq_false e, Bool.false_or] at h2
      rw [putR_map (fun x hx => h x (.tail _ hx)) this]
theorem hasR_false {r : Rt} {rs : List Rt} (h : hasR r rs = false) : putR r rs = rs ++ [r] := (putR_none fun a ha hs => by
  rw [hasR_mem.mpr ⟨a, ha, hs⟩] at h; cases h).1
theorem renew_perm {rows : List Row} {row : Row} (hn : rows.Nodup) (h : row ∈ rows) : (rows.filter (fun x => decide (x ≠ row)) ++ [row]).Perm rows := by
  refine (List.perm_ext_iff_of_nodup ?_ hn).mpr fun x => ?_
  · refine List.nodup_append.mpr ⟨hn.filter _, by simp, fun a ha b hb e => ?_⟩
    rw [List.mem_singleton.mp hb] at e
    exact (of_decide_eq_true (List.mem_filter.mp ha).2) e
  · rw [List.mem_append, List.mem_filter, List.mem_singleton]
    constructor
    · rintro (⟨h1, _⟩ | rfl)
      · exact h1
      · exact h
    · intro hx
      by_cases e : x = row
      · exact .inr e
      · exact .inl ⟨hx, decide_eq_true e⟩
theorem renew_new {rows : List Row} {row : Row} (h : row ∉ rows) : rows.filter (fun x => decide (x ≠ row)) = rows := List.filter_eq_self.mpr fun x hx => decide_eq_true fun e => h (e ▸ hx)
theorem renew_nodup {rows : List Row} {row : Row} (hn : rows.Nodup) : (rows.filter (fun x => decide (x ≠ row)) ++ [row]).Nodup := by
  refine List.nodup_append.mpr ⟨hn.filter _, by simp, fun a ha b hb e => ?_⟩
  rw [List.mem_singleton.mp hb] at e
  exact (of_decide_eq_true (List.mem_filter.mp ha).2) e
theorem Inv.add {f f1 : Fm} {rows : List Row} {r : Rt} {k : Nat} {nd : Nd} (I : Inv f rows) (hpre : r.pre = (k : Int)) (hk : NetOk k r.net) (hE : Ext f r.net k f1) (hq : f1 (bitsOf r.net k) = some nd) :
    Inv (Mine.grow f1 (bitsOf r.net k) ⟨nd.x, nd.d, nd.l, putR r nd.rs⟩) (rows.filter (fun x => decide (x ≠ rowOf r)) ++ [rowOf r]) ∧ (rows.filter (fun x => decide (x ≠ rowOf r)) ++ [rowOf r]).length = (if hasR r nd.rs = true then rows.length else rows.length + 1) := by
  have hrow : rowOf r = ⟨r.net, k, r.gw, r.face⟩ := by unfold rowOf; rw [hpre, Int.toNat_natCast]
  have hpath : pathOf (rowOf r) = bitsOf r.net k := by rw [hrow]; rfl
  have hrq : rsOf f (bitsOf r.net k) = nd.rs := by rw [← hE.rs]; unfold rsOf; rw [hq]
  have hkey : ∀ a ∈ nd.rs, a.net = r.net ∧ a.pre = r.pre := fun a ha => by
    rw [← hrq] at ha
    obtain ⟨k2, e1, e2, e3⟩ := I.own _ a ha
    have hl := congrArg List.length e3
    rw [bitsOf_length, bitsOf_length] at hl
    subst hl
    exact ⟨bits_inj e2 hk e3, by rw [e1, hpre]⟩
  have hmem : hasR r nd.rs = true ↔ rowOf r ∈ rows := by
    rw [hasR_mem]
    constructor
    · rintro ⟨a, h1, h2⟩
      rw [← (rowOf_same (hkey a h1)).mp h2]
      exact (I.row (hrq ▸ h1)).1
    · intro h
      obtain ⟨a, h1, h2⟩ := I.has h
      rw [hpath, hrq] at h1
      exact ⟨a, h1, (rowOf_same (hkey a h1)).mpr h2⟩
  have hrs' : rsOf (Mine.grow f1 (bitsOf r.net k) ⟨nd.x, nd.d, nd.l, putR r nd.rs⟩) = fun p => if p = bitsOf r.net k then putR r nd.rs else rsOf f p := by rw [rsOf_grow, hE.rs]
  have hne : ∀ q', f1 q' ≠ none → Mine.grow f1 (bitsOf r.net k) ⟨nd.x, nd.d, nd.l, putR r nd.rs⟩ q' ≠ none := fun q' h => by
    by_cases e : q' = bitsOf r.net k
    · rw [e, grow_self]; exact fun x => nomatch x
    · rw [grow_ne _ _ e]; exact h
  refine ⟨⟨fun q' nd' h hn => ?_, fun q' r' hr' => ?_, fun row hr => ?_, renew_nodup I.nd, fun q' => ?_⟩, ?_⟩
  · by_cases e : q' = bitsOf r.net k
    · rw [e, grow_self] at h
      cases h
      exact bareB_false.mpr (.inl putR_ne)
    · rw [grow_ne _ _ e] at h
      by_cases hj : ∃ j, j ≤ k ∧ q' = bitsOf r.net j
      · obtain ⟨j, hj, rfl⟩ := hj
        have hjk : j < k := by
          rcases Nat.lt_or_ge j k with h1 | h1
          · exact h1
          · exact absurd (by rw [Nat.le_antisymm hj h1]) e
        refine bareB_false.mpr (.inr ⟨bitB r.net j, hne _ ?_⟩)
        rw [← bitsOf_succ]
        exact hE.all _ hjk
      · cases e2 : f q' with
        | none =>
          obtain ⟨_, j, h1, h2⟩ := hE.new q' nd' e2 h
          exact absurd ⟨j, h1, h2⟩ hj
        | some nd2 =>
          have h1 := hE.keep q' (by rw [e2]; exact fun x => nomatch x)
          rw [h, e2] at h1
          cases h1
          rcases bareB_false.mp (I.lean q' nd' e2 hn) with h1 | ⟨b, h1⟩
          · exact bareB_false.mpr (.inl h1)
          · exact bareB_false.mpr (.inr ⟨b, hne _ (by rw [hE.keep _ h1]; exact h1)⟩)
  · rw [hrs'] at hr'
    by_cases e : q' = bitsOf r.net k
    · simp only [if_pos e] at hr'
      rcases mem_putR hr' with rfl | h
      · exact ⟨k, hpre, hk, e.symm⟩
      · rw [← hrq] at h; rw [e]; exact I.own _ _ h
    · simp only [if_neg e] at hr'
      exact I.own _ _ hr'
  · rcases List.mem_append.mp hr with h | h
    · exact I.net row (List.mem_filter.mp h).1
    · rw [List.mem_singleton.mp h, hrow]; exact hk
  · rw [hrs', List.filter_append]
    by_cases e : q' = bitsOf r.net k
    · simp only [if_pos e]
      cases hh : hasR r nd.rs with
      | true =>
        rw [putR_map hkey hh, ← List.filter_append, ← hrq, e]
        exact (I.cor _).trans ((renew_perm I.nd (hmem.mp hh)).symm.filter _)
      | false =>
        have hnm : rowOf r ∉ rows := fun h => by rw [hmem.mpr h] at hh; cases hh
        rw [hasR_false hh, renew_new hnm, List.map_append, ← hrq, e]
        refine List.Perm.append (I.cor _) (List.Perm.of_eq ?_)
        rw [List.filter_cons_of_pos (by rw [hpath]; simp)]
        rfl
    · simp only [if_neg e]
      have h0 : [rowOf r].filter (fun row => decide (pathOf row = q')) = [] := List.filter_eq_nil_iff.mpr fun x hx => by
        rw [List.mem_singleton.mp hx, hpath]
        simpa using Ne.symm e
      rw [h0, List.append_nil, List.filter_filter]
      refine (I.cor q').trans (List.Perm.of_eq (List.filter_congr fun x _ => ?_))
      by_cases e2 : pathOf x = q'
      · have : x ≠ rowOf r := fun e3 => e (by rw [← e2, e3, hpath])
        simp [e2, this]
      · simp [e2]
  · cases hh : hasR r nd.rs with
    | true => rw [if_pos rfl, (renew_perm I.nd (hmem.mp hh)).length_eq]
    | false =>
      have hnm : rowOf r ∉ rows := fun h => by rw [hmem.mpr h] at hh; cases hh
      rw [if_neg (by simp), renew_new hnm, List.length_append]; rfl
theorem Inv.pruned {f f1 f' : Fm} {rows : List Row} {net : Int} {k a : Nat} (I : Inv f rows) (hE : Ext f net k f1) (hP : Prn f1 net k a f') (hend : a = 0 ∨ ∀ nd, f' (bitsOf net a) = some nd → bareB f' (bitsOf net a) nd = false) : Inv f' rows := by
  have hrs : rsOf f' = rsOf f := by rw [hP.rs, hE.rs]
  refine ⟨hP.lean hE.all hend fun q nd hq hne hoff => ?_, fun q r hr => I.own q r (by rw [← hrs]; exact hr), I.net, I.nd, fun q => by rw [hrs]; exact I.cor q⟩
  cases e2 : f q with
  | none =>
    obtain ⟨_, j, h1, h2⟩ := hE.new q nd e2 hq
    exact absurd h2 (hoff j h1)
  | some nd2 =>
    have h1 := hE.keep q (by rw [e2]; exact fun x => nomatch x)
    rw [hq, e2] at h1
    cases h1
    rcases bareB_false.mp (I.lean q nd e2 hne) with h1 | ⟨b, h1⟩
    · exact bareB_false.mpr (.inl h1)
    · exact bareB_false.mpr (.inr ⟨b, by rw [hE.keep _ h1]; exact h1⟩)
theorem Inv.bare {f f1 : Fm} {rows : List Row} {net : Int} {k : Nat} {nd : Nd} (I : Inv f rows) (hp : ∀ q b, f (q ++ [b]) ≠ none → f q ≠ none) (hW : Wants f rows) (hE : Ext f net k f1) (hq : f1 (bitsOf net k) = some nd) :
    bareB f1 (bitsOf net k) nd = !(!rows.isEmpty && decide (f (bitsOf net k) ≠ none)) := by
  cases e : f (bitsOf net k) with
  | none =>
    have hrs := (hE.new _ _ e hq).1
    have hkid : ∀ b, f1 (bitsOf net k ++ [b]) = none := fun b => by
      cases e3 : f1 (bitsOf net k ++ [b]) with
      | none => rfl
      | some n3 =>
        cases e4 : f (bitsOf net k ++ [b]) with
        | none =>
          obtain ⟨_, j, h1, h2⟩ := hE.new _ _ e4 e3
          have := congrArg List.length h2
          rw [List.length_append, bitsOf_length, bitsOf_length] at this
          simp only [List.length_cons, List.length_nil] at this
          omega
        | some n4 => exact absurd e (hp _ b (by rw [e4]; exact fun x => nomatch x))
    unfold bareB
    rw [hrs, hkid, hkid]; simp
  | some n2 =>
    have h1 := hE.keep _ (show f (bitsOf net k) ≠ none by rw [e]; exact fun x => nomatch x)
    rw [hq, e] at h1
    cases h1
    simp only [ne_eq, reduceCtorEq, not_false_eq_true, decide_true, Bool.and_true, Bool.not_not]
    by_cases hn : bitsOf net k = []
    · cases rows with
      | nil =>
        have hrs0 : nd.rs = [] := by
          cases hr : nd.rs with
          | nil => rfl
          | cons a t =>
            have : a ∈ rsOf f (bitsOf net k) := by unfold rsOf; rw [e]; simp only [hr]; exact .head _
            exact absurd (I.row this).1 (by simp)
        have hkid : ∀ b, f1 (bitsOf net k ++ [b]) = none := fun b => by
          cases e3 : f1 (bitsOf net k ++ [b]) with
          | none => rfl
          | some n3 =>
            cases e4 : f (bitsOf net k ++ [b]) with
            | none =>
              obtain ⟨_, j, h1, h2⟩ := hE.new _ _ e4 e3
              have := congrArg List.length h2
              rw [List.length_append, bitsOf_length, bitsOf_length] at this
              simp only [List.length_cons, List.length_nil] at this
              omega
            | some n4 =>
              rcases (hW _).mp (show f (bitsOf net k ++ [b]) ≠ none by rw [e4]; exact fun x => nomatch x) with h | ⟨row, h, _⟩
              · exact absurd h (by simp)
              · cases h
        unfold bareB
        rw [hrs0, hkid, hkid]; rfl
      | cons a t =>
        show bareB f1 (bitsOf net k) nd = false
        refine bareB_false.mpr ?_
        obtain ⟨r, hr, _⟩ := I.has (show a ∈ a :: t from .head _)
        by_cases e5 : pathOf a = bitsOf net k
        · left
          rw [e5] at hr
          unfold rsOf at hr
          rw [e] at hr
          exact List.ne_nil_of_mem hr
        · right
          have h6 : pathOf a ≠ [] := fun h => e5 (h.trans hn.symm)
          have h7 : a.k ≠ 0 := fun h => h6 (by unfold pathOf; rw [h, bitsOf_zero])
          have h8 := (hW (bitsOf a.net 1)).mpr (.inr ⟨a, .head _, 1, by omega, rfl⟩)
          refine ⟨bitB a.net 0, ?_⟩
          have h9 : bitsOf net k ++ [bitB a.net 0] = bitsOf a.net 1 := by rw [hn, bitsOf_succ, bitsOf_zero]
          rw [h9, hE.keep _ h8]; exact h8
    · have h2 := bareB_false.mp (I.lean _ _ e hn)
      have h3 : bareB f1 (bitsOf net k) nd = false := by
        rcases h2 with h2 | ⟨b, h2⟩
        · exact bareB_false.mpr (.inl h2)
        · exact bareB_false.mpr (.inr ⟨b, by rw [hE.keep _ h2]; exact h2⟩)
      rw [h3]
      cases rows with
      | nil =>
        rcases (hW _).mp (show f (bitsOf net k) ≠ none by rw [e]; exact fun x => nomatch x) with h | ⟨row, h, _⟩
        · exact absurd h hn
        · cases h
      | cons a t => rfl
end Mine

-- part A0
namespace Mine
set_option maxRecDepth 100000
set_option maxHeartbeats 8000000
set_option pp.deepTerms false
set_option pp.deepTerms.threshold 4
set_option pp.maxSteps 100000

abbrev addRows (rows : List Row) (row : Row) : List Row := rows.filter (fun x => decide (x ≠ row)) ++ [row]
theorem nd_lt {a : Addr} {o : Obj} {Z : Led} (h : AllLt a Z) (nd : ND Z) : ND ((a, o) :: Z) := nd_cons (fun p hp => Nat.ne_of_lt (tb_ltOf h p hp)) nd
theorem allLt_le {a b : Addr} {Z : Led} (h : AllLt a Z) (hab : @LE.le Nat _ a b) : AllLt b Z := allLt_of fun p hp => Nat.lt_of_lt_of_le (tb_ltOf h p hp) hab
theorem nd_cells {L : Addr} {o1 o2 o3 o4 : Obj} {Z : Led} (h : AllLt L Z) (nd : ND Z) : ND ((L + 1 + 1 + 1 + 1, o4) :: (L + 1 + 1 + 1, o3) :: (L + 1 + 1, o2) :: (L + 1, o1) :: Z) := by
  have h1 : AllLt (L + 1) Z := allLt_le h (Nat.le_succ _)
  have h2 : AllLt (L + 1 + 1) ((L + 1, o1) :: Z) := ⟨Nat.lt_succ_self _, allLt_le h1 (Nat.le_succ _)⟩
  have h3 : AllLt (L + 1 + 1 + 1) ((L + 1 + 1, o2) :: (L + 1, o1) :: Z) := ⟨Nat.lt_succ_self _, allLt_le h2 (Nat.le_succ _)⟩
  have h4 : AllLt (L + 1 + 1 + 1 + 1) ((L + 1 + 1 + 1, o3) :: (L + 1 + 1, o2) :: (L + 1, o1) :: Z) := ⟨Nat.lt_succ_self _, allLt_le h3 (Nat.le_succ _)⟩
  exact nd_lt h4 (nd_lt h3 (nd_lt h2 (nd_lt h1 nd)))
theorem nd_mid {M Z W : Led} {a b c d : Addr × Obj} (h : ND (a :: b :: (M ++ (c :: d :: (Z ++ W))))) : ND (c :: d :: ((a :: b :: Z) ++ (M ++ W))) := by
  refine nd_perm ?_ h
  unfold keys
  simp only [List.map_cons, List.map_append, List.cons_append]
  generalize M.map (·.1) = m
  generalize Z.map (·.1) = z
  generalize W.map (·.1) = v
  have e1 : (c.1 :: d.1 :: a.1 :: b.1 :: (z ++ (m ++ v))).Perm (a.1 :: b.1 :: c.1 :: d.1 :: (z ++ (m ++ v))) := by
    refine List.perm_iff_count.mpr fun x => ?_
    simp only [List.count_cons]; omega
  refine e1.trans ?_
  refine List.Perm.cons _ (List.Perm.cons _ ?_)
  refine List.perm_iff_count.mpr fun x => ?_
  simp only [List.count_cons, List.count_append]; omega
theorem news_mid {h₀ h : Heap} {L : Addr} {M Z W : Led} {a b c d : Addr × Obj} (N : News h₀ L h (a :: b :: (M ++ (c :: d :: (Z ++ W))))) : News h₀ L h (c :: d :: ((a :: b :: Z) ++ (M ++ W))) := news_sub N fun p hp => by
  simp only [List.mem_cons, List.mem_append, List.cons_append] at hp ⊢
  rcases hp with e | e | e | e | e | e | e
  · exact .inr (.inr (.inr (.inl e)))
  · exact .inr (.inr (.inr (.inr (.inl e))))
  · exact .inl e
  · exact .inr (.inl e)
  · exact .inr (.inr (.inr (.inr (.inr (.inl e)))))
  · exact .inr (.inr (.inl e))
  · exact .inr (.inr (.inr (.inr (.inr (.inr e)))))
theorem news_back {h₀ h : Heap} {L : Addr} {M Z W : Led} {b d : Addr × Obj} (N : News h₀ L h (b :: d :: (Z ++ (M ++ W)))) : News h₀ L h (M ++ (b :: d :: (Z ++ W))) := news_sub N fun p hp => by
  simp only [List.mem_cons, List.mem_append] at hp ⊢
  rcases hp with e | e | e | e | e
  · exact .inr (.inr (.inr (.inl e)))
  · exact .inl e
  · exact .inr (.inl e)
  · exact .inr (.inr (.inl e))
  · exact .inr (.inr (.inr (.inr e)))
theorem nd_back {M Z W : Led} {b d : Addr × Obj} (h : ND (b :: d :: (Z ++ (M ++ W)))) : ND (M ++ (b :: d :: (Z ++ W))) := by
  refine nd_perm ?_ h
  unfold keys
  simp only [List.map_cons, List.map_append]
  refine List.perm_iff_count.mpr fun x => ?_
  simp only [List.count_cons, List.count_append]; omega
theorem news_out {h₀ h : Heap} {L : Addr} {M Z W : Led} {s b d : Addr × Obj} (N : News h₀ L h (M ++ (s :: b :: d :: (Z ++ W)))) : News h₀ L h (s :: b :: d :: (Z ++ (M ++ W))) := news_sub N fun p hp => by
  simp only [List.mem_cons, List.mem_append] at hp ⊢
  rcases hp with e | e | e | e | e | e
  · exact .inr (.inl e)
  · exact .inr (.inr (.inl e))
  · exact .inr (.inr (.inr (.inl e)))
  · exact .inr (.inr (.inr (.inr (.inl e))))
  · exact .inl e
  · exact .inr (.inr (.inr (.inr (.inr e))))
theorem nd_out {M Z W : Led} {s b d : Addr × Obj} (h : ND (M ++ (s :: b :: d :: (Z ++ W)))) : ND (s :: b :: d :: (Z ++ (M ++ W))) := by
  refine nd_perm ?_ h
  unfold keys
  simp only [List.map_cons, List.map_append]
  refine List.perm_iff_count.mpr fun x => ?_
  simp only [List.count_cons, List.count_append]; omega
section
variable {prog : Program} {w : World} {p : Program} {loose : List Str} {mean : ExcName → Option Value} {mg mb : Str → Option Value}
    {dp un : Nat} {gd : Option (List Code)} {cn : Str} {cs : Scope} {a : Addr} {ccd : Value} {cl : List (Str × Addr)} {outer : List Env} {A₀ : Around} {base h₀ : Heap} {L : Addr} {m : Str → Option Value} {news : List (Addr × Obj)} {s : Shared} {Q E : Value → Shared → Prop}

theorem add_any {M Z W : Led} {f : Fm} {tb td root rx rd : Addr} {many net gw face : Int} {k : Nat} {t1 t2 u a1 a2 a3 a4 a5 b1 b2 b3 b4 b5 : Tok} {met : Int} {rows : List Row}
    (B : Below A₀ base outer h₀) (F : Fr h₀ L s.heap m) (X : (KK w.params).In h₀) (N : News h₀ L s.heap ((rx, instObj 113 rd) :: (rd, rtD w.params a1 a2 a3 a4 a5 b1 b2 b3 b4 b5 net (k : Int) gw face met) :: (M ++ ((tb, instObj 244 td) :: (td, tbD w.params t1 t2 u root many) :: (Z ++ W))))) (T : Top p loose mean mg mb h₀) (hk : cs.kind = .function)
    (ndM : ND (M ++ ((tb, instObj 244 td) :: (td, tbD w.params t1 t2 u root many) :: (Z ++ W)))) (hd : AllLt rd (M ++ ((tb, instObj 244 td) :: (td, tbD w.params t1 t2 u root many) :: (Z ++ W)))) (hx : @LT.lt Nat _ rd rx)
    (Tr : Tree w.params Z f) (hr : vOf (f []) = .ref root) (I : Inv f rows) (hN : NetOk k net) (hg0 : 0 ≤ gw) (hg1 : gw ≤ 4294967295) (hlen : rows.length ≤ 1000) (hmany : many = (rows.length : Int))
    (hdp : dp + 40 < recursionLimit) (hun : un + 800 < cLine)
    (hret : ∀ Z' f' many' u' h' tk', Inv f' (addRows rows ⟨net, k, gw, face⟩) → (addRows rows ⟨net, k, gw, face⟩).length ≤ rows.length + 1 → many' = ((addRows rows ⟨net, k, gw, face⟩).length : Int) →
      Tree w.params Z' f' → vOf (f' []) = .ref root → Fr h₀ L h' m → News h₀ L h' ((tb, instObj 244 td) :: (td, tbD w.params t1 t2 u' root many') :: (Z' ++ (M ++ W))) → ND ((tb, instObj 244 td) :: (td, tbD w.params t1 t2 u' root many') :: (Z' ++ (M ++ W))) → Q .none { s with heap := h', toks := tk' }) :
    wpAny (model prog w) (ktrTop dp un gd cn cs L a ccd cl outer) (call (.ref 208) [.ref tb, .ref rx]) Q E s := by
  have nd0 : ND ((rx, instObj 113 rd) :: (rd, rtD w.params a1 a2 a3 a4 a5 b1 b2 b3 b4 b5 net (k : Int) gw face met) :: (M ++ ((tb, instObj 244 td) :: (td, tbD w.params t1 t2 u root many) :: (Z ++ W)))) := nd_lt ⟨hx, allLt_le hd (Nat.le_of_lt hx)⟩ (nd_lt hd ndM)
  have nd1 := nd_mid nd0
  have N1 := news_mid N
  have Tr1 : Tree w.params ((rx, instObj 113 rd) :: (rd, rtD w.params a1 a2 a3 a4 a5 b1 b2 b3 b4 b5 net (k : Int) gw face met) :: Z) f :=
    ⟨fun q nd h => by
      obtain ⟨ix, ⟨s1, s2, s3, id⟩, ⟨n, il⟩, ir⟩ := Tr.nod q nd h
      exact ⟨.tail _ (.tail _ ix), ⟨s1, s2, s3, .tail _ (.tail _ id)⟩, ⟨n, .tail _ (.tail _ il)⟩, fun r hr => (ir r hr).mono fun p hp => .tail _ (.tail _ hp)⟩, Tr.inj, Tr.pre, Tr.fin, Tr.root⟩
  have hR : RtIn w.params ((rx, instObj 113 rd) :: (rd, rtD w.params a1 a2 a3 a4 a5 b1 b2 b3 b4 b5 net (k : Int) gw face met) :: Z) ⟨rx, net, (k : Int), gw, face⟩ := ⟨rd, a1, a2, a3, a4, a5, b1, b2, b3, b4, b5, met, .head _, .tail _ (.head _)⟩
  have hrs : ∀ q nd, f q = some nd → nd.rs.length ≤ 1000 := fun q nd h => by
    have h1 := (I.cor q).length_eq
    have h2 : rsOf f q = nd.rs := by unfold rsOf; rw [h]
    rw [List.length_map, h2] at h1
    rw [h1]
    exact Nat.le_trans (List.length_filter_le _ _) hlen
  refine add_spec B F X N1 T hk nd1 Tr1 hr hR (by have := hN.1; omega) hN.2.1 hN.2.2.1 hg0 hg1 hN.2.2.2 hrs hdp hun fun Z' f1 nd many' u' h' tk' hE hq hm F' N' nd' Tr' hkp => ?_
  obtain ⟨I', hl'⟩ := I.add (r := ⟨rx, net, (k : Int), gw, face⟩) rfl hN hE hq
  have hrow : rowOf ⟨rx, net, (k : Int), gw, face⟩ = ⟨net, k, gw, face⟩ := by unfold rowOf; simp
  rw [hrow] at I' hl'
  refine hret Z' _ many' u' h' tk' I' ?_ ?_ Tr' ?_ F' N' nd'
  · rw [hl']; split <;> omega
  · rw [hl', hm, hmany]; split <;> simp
  · have hf0 : f1 [] = f [] := hE.keep [] Tr.root
    rw [← hr, ← hf0]
    exact vOf_grow hq rfl
end
end Mine

-- part W1
namespace Mine
set_option maxRecDepth 100000
set_option maxHeartbeats 8000000
set_option pp.deepTerms false
set_option pp.deepTerms.threshold 4
set_option pp.maxSteps 100000

theorem RowsAre.nil {W : Led} : RowsAre W [] [] := ⟨rfl, fun _ _ _ h => nomatch h⟩
theorem RowsAre.snoc {W : Led} {vs : List Value} {rows : List Row} {v : Value} {row : Row} (h : RowsAre W vs rows) (hr : RowAt W v row) : RowsAre W (vs ++ [v]) (rows ++ [row]) := by
  refine ⟨by simp [h.1], fun i x y h1 h2 => ?_⟩
  by_cases e : i < vs.length
  · rw [List.getElem?_append_left e] at h1
    rw [List.getElem?_append_left (by rw [← h.1]; exact e)] at h2
    exact h.2 i x y h1 h2
  · rw [List.getElem?_append_right (by omega)] at h1
    rw [List.getElem?_append_right (by rw [← h.1]; omega), ← h.1] at h2
    cases e2 : i - vs.length with
    | zero =>
      rw [e2] at h1 h2
      cases h1; cases h2
      exact hr
    | succ k => rw [e2] at h1; cases h1
theorem RowsAre.filt {W : Led} {ys : List Value} {rows : List Row} {v : Value} {i : Nat} (P : Row → Bool) (hi : i < rows.length) (h : RowsAre W ys ((rows.take i).filter P)) (hr : RowAt W v rows[i]) (hp : P rows[i] = true) : RowsAre W (ys ++ [v]) ((rows.take (i + 1)).filter P) := by
  rw [List.take_add_one, List.getElem?_eq_getElem hi, List.filter_append, Option.toList_some, List.filter_cons, if_pos hp]
  exact h.snoc hr
theorem RowsAre.skip {W : Led} {ys : List Value} {rows : List Row} {i : Nat} (P : Row → Bool) (hi : i < rows.length) (h : RowsAre W ys ((rows.take i).filter P)) (hp : P rows[i] = false) : RowsAre W ys ((rows.take (i + 1)).filter P) := by
  rw [List.take_add_one, List.getElem?_eq_getElem hi, List.filter_append, Option.toList_some, List.filter_cons, if_neg (by rw [hp]; decide), List.filter_nil, List.append_nil]
  exact h
section
variable {prog : Program} {w : World} {A : Around} {E : Value → Shared → Prop} {Q : Value → Shared → Prop} {s : Shared} {h₀ : Heap} {L : Addr} {news : Led}
theorem my_ne_tup4 {a b : Addr} {x0 x1 x2 x3 y0 y1 y2 y3 : Int} {t0 t1 t2 t3 u0 u1 u2 u3 : Tok} (N : News h₀ L s.heap news) (ha : (a, tupO [.int x0 t0, .int x1 t1, .int x2 t2, .int x3 t3]) ∈ news) (hb : (b, tupO [.int y0 u0, .int y1 u1, .int y2 u2, .int y3 u3]) ∈ news) (hu : A.units < cLine)
    (h : Q (.bool (!(decide (x0 = y0 ∧ x1 = y1 ∧ x2 = y2 ∧ x3 = y3)))) s) : wpAny (model prog w) A (compareOp .NotEq (.ref a) (.ref b)) Q E s := by
  refine SeqAt.RcNeAt.tuples (e := fun j => match j with | 0 => x0 == y0 | 1 => x1 == y1 | 2 => x2 == y2 | _ => x3 == y3) ⟨_, (N _ ha).1, rfl, _, rfl⟩ ⟨_, (N _ hb).1, rfl, _, rfl⟩ hu (fun j h1 h2 => ?_) prog w E Q ?_
  · match j, h1, h2 with
    | 0, _, _ => exact SeqAt.EqAt.int_int _ _ _ _
    | 1, _, _ => exact SeqAt.EqAt.int_int _ _ _ _
    | 2, _, _ => exact SeqAt.EqAt.int_int _ _ _ _
    | 3, _, _ => exact SeqAt.EqAt.int_int _ _ _ _
    | n + 4, h1, _ => exact absurd h1 (by simp)
  · have e : (!((List.range (min [Value.int x0 t0, .int x1 t1, .int x2 t2, .int x3 t3].toArray.size [Value.int y0 u0, .int y1 u1, .int y2 u2, .int y3 u3].toArray.size)).all (fun j => match j with | 0 => x0 == y0 | 1 => x1 == y1 | 2 => x2 == y2 | _ => x3 == y3) && [Value.int x0 t0, .int x1 t1, .int x2 t2, .int x3 t3].toArray.size == [Value.int y0 u0, .int y1 u1, .int y2 u2, .int y3 u3].toArray.size)) = !(decide (x0 = y0 ∧ x1 = y1 ∧ x2 = y2 ∧ x3 = y3)) := by
      have e4 : List.range (min [Value.int x0 t0, .int x1 t1, .int x2 t2, .int x3 t3].toArray.size [Value.int y0 u0, .int y1 u1, .int y2 u2, .int y3 u3].toArray.size) = [0, 1, 2, 3] := rfl
      rw [e4]
      congr 1
      have e5 : ([Value.int x0 t0, .int x1 t1, .int x2 t2, .int x3 t3].toArray.size == [Value.int y0 u0, .int y1 u1, .int y2 u2, .int y3 u3].toArray.size) = true := rfl
      rw [e5, Bool.and_true]
      simp only [List.all_cons, List.all_nil, Bool.and_true]
      rw [Bool.eq_iff_iff]
      simp only [Bool.and_eq_true, beq_iff_eq, decide_eq_true_eq]
    rw [e]; exact h
theorem my_ne_tup2 {a b : Addr} {x0 x1 y0 y1 : Int} {t0 t1 u0 u1 : Tok} {oa : Obj} {na : Nat} (N : News h₀ L s.heap news) (ha : (a, oa) ∈ news) (hc : oa.cls = .type "tuple") (hda : oa.data = .seq #[.int x0 t0, .int x1 t1] na) (hb : (b, tupO [.int y0 u0, .int y1 u1]) ∈ news) (hu : A.units < cLine)
    (h : Q (.bool (!(decide (x0 = y0 ∧ x1 = y1)))) s) : wpAny (model prog w) A (compareOp .NotEq (.ref a) (.ref b)) Q E s := by
  refine SeqAt.RcNeAt.tuples (e := fun j => match j with | 0 => x0 == y0 | _ => x1 == y1) ⟨_, (N _ ha).1, hc, _, hda⟩ ⟨_, (N _ hb).1, rfl, _, rfl⟩ hu (fun j h1 h2 => ?_) prog w E Q ?_
  · match j, h1, h2 with
    | 0, _, _ => exact SeqAt.EqAt.int_int _ _ _ _
    | 1, _, _ => exact SeqAt.EqAt.int_int _ _ _ _
    | n + 2, h1, _ => exact absurd h1 (by simp)
  · have e : (!((List.range (min #[Value.int x0 t0, .int x1 t1].size [Value.int y0 u0, .int y1 u1].toArray.size)).all (fun j => match j with | 0 => x0 == y0 | _ => x1 == y1) && #[Value.int x0 t0, .int x1 t1].size == [Value.int y0 u0, .int y1 u1].toArray.size)) = !(decide (x0 = y0 ∧ x1 = y1)) := by
      have e4 : List.range (min #[Value.int x0 t0, .int x1 t1].size [Value.int y0 u0, .int y1 u1].toArray.size) = [0, 1] := rfl
      rw [e4]
      congr 1
      have e5 : (#[Value.int x0 t0, .int x1 t1].size == [Value.int y0 u0, .int y1 u1].toArray.size) = true := rfl
      rw [e5, Bool.and_true]
      simp only [List.all_cons, List.all_nil, Bool.and_true]
      rw [Bool.eq_iff_iff]
      simp only [Bool.and_eq_true, beq_iff_eq, decide_eq_true_eq]
    rw [e]; exact h
theorem my_in_strs {x : Str} {tx : Tok} {l : Addr} {vs : List Value} {k : Nat} {ss : List Str} (N : News h₀ L s.heap news) (ha : (l, listOf vs.toArray k) ∈ news) (h1 : StrsAre vs ss)
    (h : Q (.bool (ss.contains x)) s) : wpAny (model prog w) A (compareOp .In (.str x tx) (.ref l)) Q E s := by
  refine SeqAt.in_listAt (items := vs.toArray) (fun v => match v with | .str y _ => y == x | _ => false) ⟨_, (N _ ha).1, rfl, _, rfl⟩ (fun y hy => ?_) ?_
  · obtain ⟨j, hj, rfl⟩ := List.getElem_of_mem (List.mem_toArray.mp hy)
    obtain ⟨z, t, e1, e2⟩ := h1.item j _ (List.getElem?_eq_getElem hj)
    rw [e1]
    exact SeqAt.EqAt.str_str _ _ _ _
  · have e : (vs.toArray.any fun v => match v with | .str y _ => y == x | _ => false) = ss.contains x := by
      rw [List.any_toArray]
      clear ha N h
      induction h1 with
      | nil => rfl
      | cons y t _ ih =>
        rw [List.any_cons, ih, List.contains_cons]
        simp [Bool.beq_comm, BEq.comm]
    rw [e]; exact h
end
end Mine

-- part A1
namespace Mine
set_option maxRecDepth 100000
set_option maxHeartbeats 8000000
set_option pp.deepTerms false
set_option pp.deepTerms.threshold 4
set_option pp.maxSteps 100000


theorem row_ne {r : Row} {net gw face : Int} {k : Nat} (h : ¬ r = ⟨net, k, gw, face⟩) : (!(decide (r.net = net ∧ (r.k : Int) = (k : Int) ∧ r.gw = gw ∧ r.face = face))) = true := by
  rw [Bool.not_eq_true', decide_eq_false_iff_not]
  rintro ⟨e1, e2, e3, e4⟩
  refine h ?_
  obtain ⟨a, b, c, d⟩ := r
  simp only at e1 e2 e3 e4
  obtain rfl : b = k := by omega
  rw [e1, e3, e4]
theorem RowAt.up {W : Led} {x : Addr × Obj} {v : Value} {row : Row} (h : RowAt W v row) : RowAt (x :: W) v row := by
  obtain ⟨a, t0, t1, t2, t3, e, hm⟩ := h
  exact ⟨a, t0, t1, t2, t3, e, .tail _ hm⟩
open PyProof.Rows.LCg PyProof.Rows.LCt in
theorem nd_off1 {a : Addr} {o : Obj} {Z : Led} (nd : ND Z) (h : Off1 a Z) : ND ((a, o) :: Z) := nd_cons (off1_mem h) nd
theorem nd_lt' {a : Addr} {o : Obj} {Z : Led} (nd : ND Z) (h : AllLt a Z) : ND ((a, o) :: Z) := nd_lt h nd
theorem abs_cells {h₀ h : Heap} {L : Addr} {t1 t2 t3 c4 c3 c2 c1 s : Addr × Obj} {R : Led} (N : News h₀ L h (t1 :: t2 :: t3 :: c4 :: c3 :: c2 :: c1 :: s :: R)) (nd : ND (c4 :: c3 :: c2 :: c1 :: s :: R)) :
    ∃ M, News h₀ L h (s :: (M ++ R)) ∧ ND (s :: (M ++ R)) ∧ c4 ∈ M ∧ c3 ∈ M ∧ c2 ∈ M ∧ c1 ∈ M := by
  refine ⟨[c4, c3, c2, c1], news_sub N fun p hp => ?_, nd_perm ?_ nd, .head _, .tail _ (.head _), .tail _ (.tail _ (.head _)), .tail _ (.tail _ (.tail _ (.head _)))⟩
  · rcases List.mem_cons.mp hp with e | e
    · subst e; exact .tail _ (.tail _ (.tail _ (.tail _ (.tail _ (.tail _ (.tail _ (.head _)))))))
    · rcases List.mem_append.mp e with e | e
      · exact .tail _ (.tail _ (.tail _ (List.mem_append.mpr (.inl e) : p ∈ [c4, c3, c2, c1] ++ (s :: R))))
      · exact .tail _ (.tail _ (.tail _ (.tail _ (.tail _ (.tail _ (.tail _ (.tail _ e)))))))
  · unfold keys
    simp only [List.map_cons, List.map_append, List.map_nil]
    exact (List.perm_middle (l₁ := [c4.1, c3.1, c2.1, c1.1]) (l₂ := R.map (·.1)) (a := s.1)).symm
theorem fin_cells {h₀ h : Heap} {L : Addr} {A M Z W : Led} {s b d : Addr × Obj} (N : News h₀ L h (A ++ (s :: (M ++ (b :: d :: (Z ++ W)))))) : News h₀ L h (s :: b :: d :: (Z ++ (A ++ (M ++ W)))) := news_sub N fun p hp => by
  simp only [List.mem_cons, List.mem_append] at hp ⊢
  rcases hp with e | e | e | e | e | e | e
  · exact .inr (.inl e)
  · exact .inr (.inr (.inr (.inl e)))
  · exact .inr (.inr (.inr (.inr (.inl e))))
  · exact .inr (.inr (.inr (.inr (.inr (.inl e)))))
  · exact .inl e
  · exact .inr (.inr (.inl e))
  · exact .inr (.inr (.inr (.inr (.inr (.inr e)))))
theorem fin_nd {A M Z W : Led} {s b d : Addr × Obj} (h : ND (A ++ (s :: (M ++ (b :: d :: (Z ++ W)))))) : ND (s :: b :: d :: (Z ++ (A ++ (M ++ W)))) := by
  refine nd_perm ?_ h
  unfold keys
  simp only [List.map_cons, List.map_append]
  refine List.perm_iff_count.mpr fun x => ?_
  simp only [List.count_cons, List.count_append]; omega
theorem cells_off {L : Addr} {Z : Led} (h : AllLt L Z) : (∀ p ∈ Z, p.1 ≠ L + 1) ∧ (∀ p ∈ Z, p.1 ≠ L + 1 + 1) ∧ (∀ p ∈ Z, p.1 ≠ L + 1 + 1 + 1) ∧ (∀ p ∈ Z, p.1 ≠ L + 1 + 1 + 1 + 1) :=
  have k : ∀ (n : Nat), ∀ p ∈ Z, @Ne Nat p.1 (L + n) := fun n p hp => Nat.ne_of_lt (Nat.lt_of_lt_of_le (tb_ltOf h p hp) (Nat.le_add_right L n))
  ⟨k 1, k 2, k 3, k 4⟩
section
open PyProof.Rows.LCg PyProof.Rows.LCt


variable {prog : Program} {w : World} {p : Program} {loose : List Str} {mean : ExcName → Option Value} {mg mb : Str → Option Value}
    {dp un : Nat} {gd : Option (List Code)} {cn : Str} {cs : Scope} {a : Addr} {ccd : Value} {cl : List (Str × Addr)} {A₀ : Around} {h₀ : Heap} {L : Addr} {m : Str → Option Value} {s : Shared} {Q E : Value → Shared → Prop}
theorem zsetA11 : True := by
  k_with_none
  k_with "z_ch" => first | with_reducible assumption | (refine' And.right ?_; rotate_left; first | with_reducible assumption | (refine' And.right ?_; rotate_left; first | with_reducible assumption | (refine' And.right ?_; rotate_left; first | with_reducible assumption | (refine' And.right ?_; rotate_left; first | with_reducible assumption | (refine' And.right ?_; rotate_left; first | with_reducible assumption | (refine' And.right ?_; rotate_left; first | with_reducible assumption | (refine' And.right ?_; rotate_left; with_reducible assumption)))))))
  k_with "z_lt" => first | with_reducible assumption | (refine' And.left ?_; rotate_left; k_extra "z_ch") | (refine' And.right ?_; rotate_left; k_extra "z_ch")
  k_with "k_ne" => (refine neN ?_; (try dsimp only); first | (refine' Nat.ne_of_gt ?_; k_extra "z_lt") | (refine' Nat.ne_of_lt ?_; k_extra "z_lt") | (refine' Nat.ne_of_gt (Nat.lt_trans ?_ (by with_reducible assumption)); k_extra "z_lt") | (refine' Nat.ne_of_lt (Nat.lt_trans ?_ (by with_reducible assumption)); k_extra "z_lt"))
  k_with "zfold" => ((fail_if_success (fail_if_success k_fold)); refine zfold_q ?_; intro qk)
  k_with "k_env" => (refine zfold_env (f := fun en9 => execs _ en9) ?_; intro en9; refine zfold_A ?_; intro ak9; (rename Fr _ _ _ _ => fr9); refine zfold_F fr9 ?_; clear fr9; intro fm9 fr9; try (refine zgen_t ?_; intro tk9))
  k_with "ktr_room" => first | exact fits (c := 1) hdp rfl rfl | exact fits0 (c := 1) hdp rfl rfl | exact fits (c := 2) hdp rfl rfl | exact fits0 (c := 2) hdp rfl rfl | exact fits (c := 0) hdp rfl rfl | exact fits0 (c := 0) hdp rfl rfl | exact fits (c := 3) hdp rfl rfl | exact fits0 (c := 3) hdp rfl rfl | exact Nat.le_of_ble_eq_true rfl
  k_with "ktr_units" => first | exact fits (c := 3) hun rfl rfl | exact fits0 (c := 3) hun rfl rfl | exact fits (c := 6) hun rfl rfl | exact fits0 (c := 6) hun rfl rfl | exact fits (c := 0) hun rfl rfl | exact fits0 (c := 0) hun rfl rfl | exact fits (c := 9) hun rfl rfl | exact fits0 (c := 9) hun rfl rfl | exact Nat.le_of_ble_eq_true rfl
  k_with "k_steps" => repeat' (first | (k_unfold; (try dsimp only); (try clear qk)) | (k_end; wrow_close) | walk1 | (dsimp only; walk1) | (leave1; try dsimp only) | fail "no step")
  k_with "execs cons" => (k_extra "zfold"; walk1)
  k_with "exec If" => (k_extra "zfold"; walk1)
  k_with "exec Assign" => (k_extra "zfold"; walk1)
  k_with "exec Expr" => (k_extra "zfold"; walk1)
  k_with "exec Return" => (k_extra "zfold"; walk1)
  k_with "isTrue" => (k_extra "zfold"; walk1)
  k_with "eval BinOp" => (k_extra "zfold"; walk1)
  k_with "eval BoolOp" => (k_extra "zfold"; walk1)
  k_with "eval UnaryOp" => (k_extra "zfold"; walk1)
  k_with "eval Call" => (k_extra "zfold"; walk1)
  k_with "eval Compare" => (k_extra "zfold"; walk1)
  k_with "eval Subscript" => (k_extra "zfold"; walk1)
  k_with "eval Attribute" => (k_extra "zfold"; walk1)
  k_with "eval Tuple" => (k_extra "zfold"; walk1)
  k_with "eval List nil" => (k_extra "zfold"; walk1)
  k_with "eval List cons" => (k_extra "zfold"; walk1)
  k_with "k_mem" => first | assumption | (with_reducible refine mem_appL ?_; assumption) | (with_reducible refine mem_appR ?_; assumption) | (with_reducible refine List.mem_append.mpr (Or.inl ?_); assumption) | (with_reducible refine List.mem_append.mpr (Or.inr ?_); assumption)
  k_with "k_ne" => (first | (refine' ne_neA ?zqh ?zqm; (case zqm => assumption); (case zqh => assumption)) | (refine' ne_between ?zqm ?zqh ?zqle; (case zqm => assumption); (case zqh => tbn_find); (case zqle => omega)))
  k_with "k_room" => ktr_room
  k_with "k_all" => first | assumption | (refine all_repl ?_; first | assumption | (refine tbn_neAll ?_; tbn_find))
  k_with "k_upd" => exact upd_repl (by assumption) (by assumption)
  k_with "ktr_rel" => (repeat (first | exact Same.refl | exact Same.of2 | exact Same.of | refine Same.set ?_ (by rfl)))
  k_with "tb_start" => (intro _ hp9; (repeat (refine List.Mem.tail _ ?_)); first | exact hp9 | exact List.mem_append.mpr (Or.inl hp9) | exact List.mem_append.mpr (Or.inr hp9))
  k_with "LPost" => (dsimp only [LPost])
  k_with "pyIter ref" => (refine Hold.mk ?_)
  k_with "call builtin:list.append" => (k_here; (with_reducible show wpAny _ _ (call (Value.builtin _) [Value.ref _, _]) _ _ _); k_dflt (refine' my_append ?zqk1 ?zqk2 ?zqk3 ?zqz ?_; (case zqk1 => k_asm); (case zqk2 => k_asm); (case zqk3 => k_upd); (case zqz => assumption); k_whole); intro _ _ _; (try k_sweep))
  k_with "call builtin:len" => (k_here; k_dflt (refine' my_len ?zqN ?zqm ?zqf ?_; (case zqN => k_asm); (case zqm => k_mem); (case zqf => assumption); k_whole))
  k_with "subscriptTail" => (k_here; k_dflt (refine' my_itemE ?zqN ?zqm ?zqv ?zqa ?zqf ?_ ?zqhs; (case zqN => k_asm); (case zqm => k_mem); (case zqv => with_reducible assumption); (case zqa => omega); (case zqf => assumption); (case zqhs => with_unfolding_all rfl); k_whole))
  k_with "subscriptTail Name UnaryOp ref int" => (k_here; k_dflt (refine' my_itemE ?zqN ?zqm ?zqv ?zqa ?zqf ?_ ?zqhs; (case zqN => k_asm); (case zqm => k_mem); (case zqv => with_reducible assumption); (case zqa => omega); (case zqf => assumption); (case zqhs => with_unfolding_all rfl); k_whole))
  k_with "subscriptTail" => (k_here; (with_reducible show wpAny _ _ (subscriptTail _ _ (Value.ref _) (Value.int (-1) _)) _ _ _); k_dflt (refine' my_last ?zqN ?zqm ?zqv ?zqf ?_ ?zqhs; (case zqN => k_asm); (case zqm => k_mem); (case zqv => with_reducible assumption); (case zqf => assumption); (case zqhs => with_unfolding_all rfl); k_whole))
  k_with "subscriptTail Name UnaryOp ref int" => (k_here; (with_reducible show wpAny _ _ (subscriptTail _ _ (Value.ref _) (Value.int (-1) _)) _ _ _); k_dflt (refine' my_last ?zqN ?zqm ?zqv ?zqf ?_ ?zqhs; (case zqN => k_asm); (case zqm => k_mem); (case zqv => with_reducible assumption); (case zqf => assumption); (case zqhs => with_unfolding_all rfl); k_whole))
  k_with "exec For Name Call cons nil" => (k_here; (rename Fr _ _ _ _ => lF'); (with_unfolding_all refine' For_invVF lF' ?zqk1 ?zqk2 ?_; (case zqk1 => exact rfl); (case zqk2 => exact rfl); k_whole))
  k_with "binaryOp Pow int int" => (with_reducible refine pow_int_small ?zqkb1 ?zqkb2 ?zqkb3 ?_; (case zqkb1 => omega); (case zqkb2 => omega); (case zqkb3 => decide))
  k_with "binaryOp Pow int int" => (with_reducible refine pow_lit (k := 24) (z := 16777216) (by decide +kernel) (by decide) (by decide) ?_)
  k_with "binaryOp Pow int int" => (with_reducible refine pow_lit (k := 28) (z := 268435456) (by decide +kernel) (by decide) (by decide) ?_)
  k_with "binaryOp Pow int int" => (with_reducible refine pow_lit (k := 31) (z := 2147483648) (by decide +kernel) (by decide) (by decide) ?_)
  k_with "binaryOp Pow int int" => (with_reducible refine pow_lit (k := 32) (z := 4294967296) (by decide +kernel) (by decide) (by decide) ?_)
  k_with "binaryOp Mult int int" => (with_reducible refine mul_lit (x := 127) (y := 16777216) (z := 2130706432) (by decide) (by decide) (by decide) ?_)
  k_with "binaryOp Mult int int" => (with_reducible refine mul_lit (x := 128) (y := 16777216) (z := 2147483648) (by decide) (by decide) (by decide) ?_)
  k_with "binaryOp Mult int int" => (with_reducible refine mul_lit (x := 160) (y := 16777216) (z := 2684354560) (by decide) (by decide) (by decide) ?_)
  k_with "binaryOp Mult int int" => (with_reducible refine mul_lit (x := 163) (y := 16777216) (z := 2734686208) (by decide) (by decide) (by decide) ?_)
  k_with "binaryOp Mult int int" => (with_reducible refine mul_lit (x := 224) (y := 16777216) (z := 3758096384) (by decide) (by decide) (by decide) ?_)
  k_with "k_all" => assumption
  k_with "k_mem" => ((repeat (first | with_reducible assumption | with_reducible exact List.Mem.head _ | (with_reducible refine List.Mem.tail _ ?_) | (with_reducible refine mem_appL ?_; with_reducible assumption) | with_reducible refine mem_appR ?_)); done)
  k_with "exec Try" => (k_here; refine wpAny_Try_except ?_)
  k_with "call ref" => (k_here; (with_reducible show wpAny _ _ (call (Value.ref 113) _) _ _ _); refine Hold.mk ?_)
  k_with "call ref" => (k_here; (with_reducible show wpAny _ _ (call (Value.ref 288) _) _ _ _); refine Hold.mk ?_)
  k_with "call ref" => (k_here; (with_reducible show wpAny _ _ (call (Value.ref 269) _) _ _ _); refine Hold.mk ?_)
  k_with "call ref" => (k_here; (with_reducible show wpAny _ _ (call (Value.ref 262) _) _ _ _); refine Hold.mk ?_)
  k_with "call ref" => (k_here; (with_reducible show wpAny _ _ (call (Value.ref 208) _) _ _ _); refine Hold.mk ?_)
  k_with "binaryOp Add ref ref" => (k_here; (with_reducible show wpAny _ _ (binaryOp _ (Value.ref _) (Value.ref _)) _ _ _); k_dflt (refine' my_cat ?zqF ?zqN ?zqa ?zqb ?zqz ?_; (case zqF => k_asm); (case zqN => k_asm); (case zqa => (repeat (first | exact List.Mem.head _ | refine List.Mem.tail _ ?_))); (case zqb => exact .head _); (case zqz => first | assumption | (apply_assumption)); k_whole); intro _ _ _ _ l1; (try k_lt l1); (try k_sweep))
  k_with "compareOp NotEq ref ref" => (refine Hold.mk ?_)
  k_with "CompSrcT" => (refine Hold.mk ?_)
  k_with "CEnd" => (refine Hold.mk ?_)
  exact trivial
theorem added_spec {Z W : Led} {f : Fm} {src tb td root rl : Addr} {os : Obj} {many : Int} {t1 t2 u : Tok} {vs : List Value} {n : Nat} {rows : List Row}
    (B : Below A₀ h₀ [] h₀) (F : Fr h₀ L s.heap m) (X : (KK w.params).In h₀) (N : News h₀ L s.heap ((src, os) :: (tb, instObj 244 td) :: (td, tbD w.params t1 t2 u root many) :: (Z ++ W))) (T : Top p loose mean mg mb h₀) (hk : cs.kind = .function)
    (nd : ND ((src, os) :: (tb, instObj 244 td) :: (td, tbD w.params t1 t2 u root many) :: (Z ++ W))) (hS : Src os) (Tr : Tree w.params Z f) (hr : vOf (f []) = .ref root)
    (I : Inv f rows) (hl : (rl, listOf vs.toArray n) ∈ W) (hR : RowsAre W vs rows) (hlen : rows.length ≤ 100) (hmany : many = (rows.length : Int))
    (hdp : dp + 60 < recursionLimit) (hun : un + 1200 < cLine)
    (hret : ∀ rl' (vs' : List Value) n' (rows' : List Row) os' Z' W' f' many' u' h' tk', Src os' → Inv f' rows' → rows'.length ≤ rows.length + 1 → many' = (rows'.length : Int) → Tree w.params Z' f' → vOf (f' []) = .ref root → (rl', listOf vs'.toArray n') ∈ W' → RowsAre W' vs' rows' → (∀ p ∈ W, p ∈ W') →
      Fr h₀ L h' m → News h₀ L h' ((src, os') :: (tb, instObj 244 td) :: (td, tbD w.params t1 t2 u' root many') :: (Z' ++ W')) → ND ((src, os') :: (tb, instObj 244 td) :: (td, tbD w.params t1 t2 u' root many') :: (Z' ++ W')) → Q (.ref rl') { s with heap := h', toks := tk' }) :
    wpAny (model prog w) (ktrTop dp un gd cn cs L a ccd cl []) (call (.ref 312) [.ref src, .ref tb, .ref rl]) Q E s := by
  have ns1 : @Ne Nat tb src := nd_head nd _ (.head _)
  have ns2 : @Ne Nat td src := nd_head nd _ (.tail _ (.head _))
  have ns3 : @Ne Nat td tb := nd_head (nd_tail nd) _ (.head _)
  have zs : ∀ p ∈ Z ++ W, p.1 ≠ src := fun p hp => nd_head nd _ (.tail _ (.tail _ hp))
  have zb : ∀ p ∈ Z ++ W, p.1 ≠ tb := fun p hp => nd_head (nd_tail nd) _ (.tail _ hp)
  have zd : ∀ p ∈ Z ++ W, p.1 ≠ td := fun p hp => nd_head (nd_tail (nd_tail nd)) _ hp
  (refine wpAny_call ?_; k_dflt (refine' code_SC0 ?k1 ?k2 ?k3 ?k4 ?k5 ?kA ?kF ?kK ?k6 ?k7 ?k8 ?k9 ?kB ?kD ?_ ?c2 ?c3 ?c4; (case kA => exact rfl); (case kF => exact rfl); (case kK => assumption); (case k1 => k_asm); (case k2 => k_asm); (case k3 => k_asm); (case k4 => k_asm); (case k5 => k_asm); (case k6 => k_is); (case k7 => k_is); (case k8 => ktr_room); (case k9 => exact BindsTo.of_eq rfl); (case kB => exact rfl); (case kD => decide +kernel); (case c2 => exact rfl); (case c3 => exact rfl); (case c4 => exact rfl); k_whole; intro g' L' h' tk' cells' FG' F' N' Y' B' X' T' l1 KD'; (try k_lt l1); k_cells Y'; (try simp only [List.cons_append, List.nil_append] at N'); (try dsimp only); (try k_fold)); try (w_strict (k_extra "k_env")); (refine zfold_e ?_; intro ek))
  k_steps
  (unfold Hold; w_strict (k_dflt (refine' net_drawU ?k1 ?k2 ?k3 ?k4 ?k5 ?kK ?u0 ?u1 ?kd ?ku ?_; (case k1 => k_asm); (case k2 => k_asm); (case k3 => k_asm); (case k4 => k_asm); (case k5 => k_asm); (case kK => first | exact rfl | assumption); (case u0 => k_updF); (case u1 => assumption); (case kd => ktr_room); (case ku => ktr_units))); intro k net q0 q1 D os1 h1 tk1 hN hS1 F1 N1 lt1; (try dsimp only); (try k_sweep); (try (k_extra "zfold")))
  k_lt lt1
  obtain ⟨zc1, zc2, zc3, zc4⟩ := cells_off l1.2.2.2
  k_steps
  (unfold Hold; w_strict (k_dflt (refine' one_S (ns := [0, 0, 9, 4294967296]) ?k1 ?k2 ?k3 ?k4 ?k5 ?kK ?u0 ?u1 ?u2 ?u3 ?u4 ?u5 ?u6 ?kd ?ku ?_; (case k1 => k_asm); (case k2 => k_asm); (case k3 => k_asm); (case k4 => k_asm); (case k5 => k_asm); (case kK => first | exact rfl | assumption); (case u0 => k_updF); (case u1 => assumption); (case u2 => k_mem); (case u3 => (repeat (first | exact .nil | refine .cons _ _ ?_))); (case u4 => omega); (case u5 => decide); (case u6 => decide); (case kd => ktr_room); (case ku => ktr_units))); intro gw tgw os2 h2 tk2 hgw hS2 F2 N2; (try dsimp only); (try k_sweep); (try (k_extra "zfold")))
  have hgv : gw = 4294967296 ∨ (0 ≤ gw ∧ gw ≤ 4294967295) := by
    simp only [List.mem_cons, List.not_mem_nil, or_false] at hgw
    omega
  clear hgw
  k_steps
  (unfold Hold; w_strict (k_dflt (refine' take_S ?k1 ?k2 ?k3 ?k4 ?k5 ?kK ?u0 ?u1 ?u2 ?u3 ?kd ?ku ?_; (case k1 => k_asm); (case k2 => k_asm); (case k3 => k_asm); (case k4 => k_asm); (case k5 => k_asm); (case kK => first | exact rfl | assumption); (case u0 => k_updF); (case u1 => assumption); (case u2 => decide); (case u3 => decide); (case kd => ktr_room); (case ku => ktr_units))); intro face tfc os3 h3 tk3 hf0 hf1 hS3 F3 N3; (try dsimp only); (try k_sweep); (try (k_extra "zfold")))
  k_steps
  rename News g' L' _ _ => kN
  obtain ⟨M, N4, ndM, mc4, mc3, mc2, mc1⟩ := abs_cells kN (nd_cells (Z := (src, os3) :: (tb, instObj 244 td) :: (td, tbD w.params t1 t2 u root many) :: (Z ++ W)) l1 (nd_keys (by unfold keys; simp only [List.map_cons]) nd))
  clear kN lt1 ns1 ns2 ns3 zs zb zd zc1 zc2 zc3 zc4 nd N
  (unfold Hold; w_strict (k_dflt (refine' new_route5 ?k1 ?k2 ?k3 ?k4 ?k5 ?kK  ?kd ?ku ?_; (case k1 => k_asm); (case k2 => k_asm); (case k3 => k_asm); (case k4 => k_asm); (case k5 => k_asm); (case kK => first | exact rfl | assumption);  (case kd => ktr_room); (case ku => ktr_units))); intro rx rd s1 s2 s3 s4 s5 h4 tk4 ad ax F4 N5; (try dsimp only); (try k_sweep))
  k_lt2 ax
  k_steps
  rename News g' L' _ _ => kN
  rename Fr g' L' _ _ => kF
  rcases hgv with hgv | ⟨hg0, hg1⟩
  · (unfold Hold; w_strict (k_dflt (refine' add_raise (k := (k : Int)) (face := face) (net := net) (gw := gw) ?k1 ?k2 ?k3 ?k4 ?k5 ?kK ?u0 ?u1 ?u2 ?u3 ?kd ?ku ?_; (case k1 => k_asm); (case k2 => k_asm); (case k3 => k_asm); (case k4 => k_asm); (case k5 => k_asm); (case kK => first | exact rfl | assumption); (case u0 => exact ⟨_, _, _, _, _, _, _, _, _, _, _, _, .head _, .tail _ (.head _)⟩); (case u1 => exact hN.2.1); (case u2 => exact hN.2.2.1); (case u3 => omega); (case kd => ktr_room); (case ku => ktr_units))); intro e9 t9 v9 G9 h9 tk9 F9 RR9 hsm9; (try dsimp only); (try k_sweep); (try (k_extra "zfold")))
    refine my_caught RR9 F9 B' hsm9 X T KD' (fun h5 g5 KT F5 N5 B5 X5 T5 KD5 => ?_)
    k_steps
    all_goals (try (exact absurd hgv (by assumption)))
    rename News h₀ _ _ _ => kN
    rename Fr h₀ _ _ _ => kF
    have kN3 := fin_cells (A := [_, _]) kN
    have e6 := fin_nd (A := [(rx, os3), (rd, os3)]) (nd_cons (fun p hp => (List.mem_cons.mp hp).elim (fun e => by rw [e]; exact Nat.ne_of_lt ax) (fun hp => Nat.ne_of_lt (Nat.lt_trans (ad p hp) ax))) (nd_cons (fun p hp => Nat.ne_of_lt (ad p hp)) ndM))
    refine hret _ vs _ rows os3 Z _ f many u _ _ hS3 I (Nat.le_succ _) hmany Tr hr (mem_appR (mem_appR hl)) (hR.mono fun p hp => mem_appR (mem_appR hp)) (fun p hp => mem_appR (mem_appR hp)) kF kN3 (nd_keys ?_ e6)
    unfold keys; simp only [List.map_cons, List.map_append, List.cons_append, List.nil_append]
    try rfl
  · have kN' : News _ _ _ ((_, instObj 113 _) :: (_, rtD w.params _ _ _ _ _ _ _ _ _ _ net (k : Int) gw face 1) :: (((src, os3) :: M) ++ ((tb, instObj 244 td) :: (td, tbD w.params t1 t2 u root many) :: (Z ++ W)))) := kN
    clear kN
    (unfold Hold; w_strict (k_dflt (refine' add_any (M := (src, os3) :: M) (rows := rows) ?k1 ?k2 ?k3 ?k4 ?k5 ?kK ?u0 ?u1 ?u2 ?u3 ?u4 ?u5 ?u6 ?u7 ?u8 ?u9 ?u10 ?kd ?ku ?_; (case k1 => k_asm); (case k2 => k_asm); (case k3 => k_asm); (case k4 => k_asm); (case k5 => k_asm); (case kK => first | exact rfl | assumption); (case u0 => exact ndM); (case u1 => exact allLt_of ad); (case u2 => exact ax); (case u3 => exact Tr); (case u4 => exact hr); (case u5 => exact I); (case u6 => exact hN); (case u7 => exact hg0); (case u8 => exact hg1); (case u9 => omega); (case u10 => exact hmany); (case kd => ktr_room); (case ku => ktr_units))); intro Z1 f1 many1 u1 h1' tk1' I1 hl1' hm1 Tr1 hr1 F9 N9 nd9; (try dsimp only); (try k_sweep); (try (k_extra "zfold")))
    have N10 := news_back N9
    have nd10 := nd_back nd9
    clear N9 nd9
    simp only [List.cons_append] at N10
    have hne : gw ≠ 4294967296 := by omega
    k_steps
    all_goals (try (exfalso; exact hne (by assumption)))
    rename News g' _ _ _ => N5
    rename Fr g' _ _ _ => F5
    unfold Hold
    try dsimp only
    have hl1 : (rl, listOf vs.toArray n) ∈ Z1 ++ W := List.mem_append.mpr (.inr hl)
    have hvl : vs.length = rows.length := hR.1
    refine compT_list (vs := vs) (k := n) (fun j ys nx => nx = (_ :: (M ++ (_ :: _ :: (Z1 ++ W)))) ∧ RowsAre W ys ((rows.take j).filter (fun x => decide (x ≠ ⟨net, k, gw, face⟩)))) rfl F5 N5 ?_ (by omega) ⟨rfl, RowsAre.nil⟩ ?_ ?_ ?_
    · exact .tail _ (mem_appR (.tail _ (.tail _ hl1)))
    · rintro j ys nx ⟨rfl, _⟩
      exact .tail _ (mem_appR (.tail _ (.tail _ hl1)))
    · rintro j v ys nx I2 oI2 C oC D9 m2 h2' tk2' E2 hj hv2 hJ9 hC hx F6 N6 o1 o2 o3 r1 r2 r3
      try (k_extra "zfold")
      obtain ⟨rfl, hy⟩ := hJ9
      clear F5 N5
      have hj' : j < rows.length := by omega
      obtain ⟨ra, t0, t1', t2', t3, rfl, hra⟩ := hR.2 j v rows[j] hv2 (List.getElem?_eq_getElem hj')
      have hra1 : (ra, rowO t0 t1' t2' t3 rows[j]) ∈ M ++ ((tb, instObj 244 td) :: (td, tbD w.params t1 t2 u1 root many1) :: (Z1 ++ W)) := mem_appR (.tail _ (.tail _ (mem_appR hra)))
      k_steps
      rename News g' _ _ _ => N7
      unfold Hold
      refine my_ne_tup4 N7 (by repeat (first | exact hra1 | refine List.Mem.tail _ ?_)) (.head _) (by ktr_units) ?_
      by_cases hrw : rows[j] = ⟨net, k, gw, face⟩
      · rw [show (!(decide (rows[j].net = net ∧ (rows[j].k : Int) = (k : Int) ∧ rows[j].gw = gw ∧ rows[j].face = face))) = false by rw [hrw]; simp]
        k_steps
        unfold Hold
        rename News g' _ _ _ => N8
        exact cend_mk (by k_asm) (news_tail N8) o1 o2 o3 ⟨rfl, RowsAre.skip _ hj' hy (by rw [hrw]; simp)⟩
      · rw [row_ne hrw]
        k_steps
        unfold Hold
        rename News g' _ _ _ => N8
        exact cend_mk (by k_asm) (news_tail N8) o1 o2 o3 ⟨rfl, RowsAre.filt _ hj' hy (⟨ra, t0, t1', t2', t3, rfl, hra⟩) (by simp [hrw])⟩
    · rintro g9 ys nx ⟨rfl, hy⟩
      clear F5 N5
      rw [hvl, List.take_length] at hy
      have hyl : ys.length ≤ rows.length := by rw [hy.1]; exact List.length_filter_le _ _
      have hcat : ∀ v : Value, ys.length + [v].length ≤ 16777216 := fun v => by simp only [List.length_cons, List.length_nil]; omega
      k_steps
      rename News h₀ _ _ _ => kN
      rename Fr h₀ _ _ _ => kF
      have kN3 := fin_cells (A := [_, _, _, _]) kN
      rename _ ∧  Off1 _ _ => af
      rename _ ∧ _ ∧ _ ∧ _ ∧  AllLt _ _ => at3
      rename _ ∧ _ ∧ _ ∧  AllLt _ _ => at2
      rename _ ∧ _ ∧  AllLt _ _ => at1
      have e6 := fin_nd (A := [(_, os3), (_, os3), (_, os3), (_, os3)]) (nd_lt' (nd_lt' (nd_lt' (nd_off1 nd10 af) at1) at2) at3)
      refine hret _ (ys ++ [_]) _ (addRows rows ⟨net, k, gw, face⟩) os3 Z1 _ f1 many1 u1 _ _ hS3 I1 hl1' hm1 Tr1 hr1 (.head _) (RowsAre.snoc (hy.mono fun p hp => by repeat (first | exact mem_appR (mem_appR hp) | refine List.Mem.tail _ ?_)) ?_) (fun p hp => by repeat (first | exact mem_appR (mem_appR hp) | refine List.Mem.tail _ ?_)) kF kN3 (nd_keys ?_ e6)
      · exact ⟨_, _, _, _, _, rfl, .tail _ (.tail _ (.head _))⟩
      · unfold keys; simp only [List.map_cons, List.map_append, List.cons_append, List.nil_append, List.append_eq]; try rfl
end
end Mine

-- part P2
namespace Mine
set_option maxRecDepth 100000
set_option maxHeartbeats 8000000
set_option pp.deepTerms false
set_option pp.deepTerms.threshold 4
set_option pp.maxSteps 100000


section
variable {prog : Program} {w : World} {p : Program} {loose : List Str} {mean : ExcName → Option Value} {mg mb : Str → Option Value}
    {dp un : Nat} {gd : Option (List Code)} {cn : Str} {cs : Scope} {a : Addr} {ccd : Value} {cl : List (Str × Addr)} {outer : List Env} {A₀ : Around} {base h₀ : Heap} {L : Addr} {m : Str → Option Value} {news : List (Addr × Obj)} {s : Shared} {Q E : Value → Shared → Prop}

theorem zsetP21 : True := by
  k_with_none
  k_with "z_ch" => first | with_reducible assumption | (refine' And.right ?_; rotate_left; first | with_reducible assumption | (refine' And.right ?_; rotate_left; first | with_reducible assumption | (refine' And.right ?_; rotate_left; first | with_reducible assumption | (refine' And.right ?_; rotate_left; first | with_reducible assumption | (refine' And.right ?_; rotate_left; first | with_reducible assumption | (refine' And.right ?_; rotate_left; first | with_reducible assumption | (refine' And.right ?_; rotate_left; with_reducible assumption)))))))
  k_with "z_lt" => first | with_reducible assumption | (refine' And.left ?_; rotate_left; k_extra "z_ch") | (refine' And.right ?_; rotate_left; k_extra "z_ch")
  k_with "k_ne" => (refine neN ?_; (try dsimp only); first | (refine' Nat.ne_of_gt ?_; k_extra "z_lt") | (refine' Nat.ne_of_lt ?_; k_extra "z_lt") | (refine' Nat.ne_of_gt (Nat.lt_trans ?_ (by with_reducible assumption)); k_extra "z_lt") | (refine' Nat.ne_of_lt (Nat.lt_trans ?_ (by with_reducible assumption)); k_extra "z_lt"))
  k_with "zfold" => ((fail_if_success (fail_if_success k_fold)); refine zfold_q ?_; intro qk)
  k_with "k_env" => (refine zfold_env (f := fun en9 => execs _ en9) ?_; intro en9; refine zfold_A ?_; intro ak9; (rename Fr _ _ _ _ => fr9); refine zfold_F fr9 ?_; clear fr9; intro fm9 fr9; try (refine zgen_t ?_; intro tk9))
  k_with "ktr_room" => first | exact fits (c := 1) hdp rfl rfl | exact fits0 (c := 1) hdp rfl rfl | exact fits (c := 2) hdp rfl rfl | exact fits0 (c := 2) hdp rfl rfl | exact fits (c := 0) hdp rfl rfl | exact fits0 (c := 0) hdp rfl rfl | exact fits (c := 3) hdp rfl rfl | exact fits0 (c := 3) hdp rfl rfl | exact Nat.le_of_ble_eq_true rfl
  k_with "ktr_units" => first | exact fits (c := 3) hun rfl rfl | exact fits0 (c := 3) hun rfl rfl | exact fits (c := 6) hun rfl rfl | exact fits0 (c := 6) hun rfl rfl | exact fits (c := 0) hun rfl rfl | exact fits0 (c := 0) hun rfl rfl | exact fits (c := 9) hun rfl rfl | exact fits0 (c := 9) hun rfl rfl | exact Nat.le_of_ble_eq_true rfl
  k_with "k_steps" => repeat' (first | (k_unfold; (try dsimp only); (try clear qk)) | (k_end; wrow_close) | walk1 | (dsimp only; walk1) | (leave1; try dsimp only) | fail "no step")
  k_with "execs cons" => (k_extra "zfold"; walk1)
  k_with "exec If" => (k_extra "zfold"; walk1)
  k_with "exec Assign" => (k_extra "zfold"; walk1)
  k_with "exec Expr" => (k_extra "zfold"; walk1)
  k_with "exec Return" => (k_extra "zfold"; walk1)
  k_with "isTrue" => (k_extra "zfold"; walk1)
  k_with "eval BinOp" => (k_extra "zfold"; walk1)
  k_with "eval BoolOp" => (k_extra "zfold"; walk1)
  k_with "eval UnaryOp" => (k_extra "zfold"; walk1)
  k_with "eval Call" => (k_extra "zfold"; walk1)
  k_with "eval Compare" => (k_extra "zfold"; walk1)
  k_with "eval Subscript" => (k_extra "zfold"; walk1)
  k_with "eval Attribute" => (k_extra "zfold"; walk1)
  k_with "eval Tuple" => (k_extra "zfold"; walk1)
  k_with "eval List nil" => (k_extra "zfold"; walk1)
  k_with "eval List cons" => (k_extra "zfold"; walk1)
  k_with "k_mem" => first | assumption | exact List.mem_append.mpr (Or.inl (by assumption)) | exact List.mem_append.mpr (Or.inr (by assumption))
  k_with "k_ne" => (first | (refine' ne_neA ?zqh ?zqm; (case zqm => assumption); (case zqh => assumption)) | (refine' ne_between ?zqm ?zqh ?zqle; (case zqm => assumption); (case zqh => tbn_find); (case zqle => omega)))
  k_with "k_room" => ktr_room
  k_with "k_all" => first | assumption | (refine all_repl ?_; first | assumption | (refine tbn_neAll ?_; tbn_find))
  k_with "k_upd" => exact upd_repl (by assumption) (by assumption)
  k_with "ktr_rel" => (repeat (first | exact Same.refl | exact Same.of2 | exact Same.of | refine Same.set ?_ (by rfl)))
  k_with "tb_start" => (intro _ hp9; (repeat (refine List.Mem.tail _ ?_)); first | exact hp9 | exact List.mem_append.mpr (Or.inl hp9) | exact List.mem_append.mpr (Or.inr hp9))
  k_with "subscriptTail" => (k_here; k_dflt (refine' my_itemE ?zqN ?zqm ?zqv ?zqa ?zqf ?_ ?zqhs; (case zqN => k_asm); (case zqm => k_mem); (case zqv => with_reducible assumption); (case zqa => omega); (case zqf => assumption); (case zqhs => with_unfolding_all rfl); k_whole))
  k_with "subscriptTail Name UnaryOp ref int" => (k_here; k_dflt (refine' my_itemE ?zqN ?zqm ?zqv ?zqa ?zqf ?_ ?zqhs; (case zqN => k_asm); (case zqm => k_mem); (case zqv => with_reducible assumption); (case zqa => omega); (case zqf => assumption); (case zqhs => with_unfolding_all rfl); k_whole))
  k_with "call ref" => (k_here; k_dflt (refine' bit_spec3 ?zqk1 ?zqk2 ?zqk3 ?zqk4 ?zqk5 ?zqkK ?zqu0 ?zqu1 ?zqu2 ?zqkd ?zqku ?_; (case zqk1 => k_asm); (case zqk2 => k_asm); (case zqk3 => k_asm); (case zqk4 => k_asm); (case zqk5 => k_asm); (case zqkK => first | exact rfl | assumption); (case zqu0 => assumption); (case zqu1 => omega); (case zqu2 => omega); (case zqkd => ktr_room); (case zqku => ktr_units); k_whole; intro _ _ _ _ _; (try dsimp only); (try k_sweep); (try (k_extra "zfold"))))
  k_with "call ref" => (k_here; k_dflt (refine' bare_spec ?zqk1 ?zqk2 ?zqk3 ?zqk4 ?zqk5 ?zqkK ?zqu0 ?zqu1 ?zqu2 ?zqu3 ?zqkd ?zqku ?_; (case zqk1 => k_asm); (case zqk2 => k_asm); (case zqk3 => k_asm); (case zqk4 => k_asm); (case zqk5 => k_asm); (case zqkK => first | exact rfl | assumption); (case zqu0 => assumption); (case zqu1 => assumption); (case zqu2 => assumption); (case zqu3 => tb_start); (case zqkd => ktr_room); (case zqku => ktr_units); k_whole; intro _ _ _ _; (try dsimp only); (try k_sweep); (try (k_extra "zfold"))))
  k_with "exec While BoolOp cons nil" => (refine Hold.mk ?_)
  k_with "call builtin:len" => (k_here; k_dflt (refine' my_len ?zqN ?zqm ?zqf ?_; (case zqN => k_asm); (case zqm => k_mem); (case zqf => assumption); k_whole))
  exact trivial
theorem prune_spec {Z Fz : Led} {f : Fm} {tb pl : Addr} {net : Int} {i kk : Nat} {tn : Tok}
    (B : Below A₀ base outer h₀) (F : Fr h₀ L s.heap m) (X : (KK w.params).In h₀) (N : News h₀ L s.heap (Z ++ Fz)) (T : Top p loose mean mg mb h₀) (hk : cs.kind = .function) (nd : ND (Z ++ Fz)) (Tr : Tree w.params Z f) (hi32 : i ≤ 32) (hpl : (pl, listOf (pathVals f net i).toArray kk) ∈ Fz) (hall : ∀ j, j ≤ i → f (bitsOf net j) ≠ none)
    (hdp : dp + 20 < recursionLimit) (hun : un + 400 < cLine)
    (hret : ∀ Z' f' a h' tk', Prn f net i a f' → (a = 0 ∨ ∀ nd, f' (bitsOf net a) = some nd → bareB f' (bitsOf net a) nd = false) →
      Fr h₀ L h' m → News h₀ L h' (Z' ++ Fz) → ND (Z' ++ Fz) → Tree w.params Z' f' → (∀ r, RtIn w.params Z r → RtIn w.params Z' r) → Q .none { s with heap := h', toks := tk' }) :
    wpAny (model prog w) (ktrTop dp un gd cn cs L a ccd cl outer) (call (.ref 227) [.ref tb, .int net tn, .ref pl]) Q E s := by
  have hlen : (pathVals f net i).length ≤ 16777216 := by rw [pathVals_length]; omega
  (refine wpAny_call ?_; k_dflt ktr_enter; try (w_strict (k_extra "k_env")))
  k_steps
  rename_i h2 F2 N2
  unfold Hold
  refine while_loop1 (Str.ofString "at") [] (n₀ := i) (fun n v nx => ∃ f' Z' t, v = .int (n : Int) t ∧ nx = Z' ++ Fz ∧ ND (Z' ++ Fz) ∧ Tree w.params Z' f' ∧ Prn f net i n f' ∧ ∀ r, RtIn w.params Z r → RtIn w.params Z' r) F2 N2 rfl ?_ ?_
  · refine ⟨f, Z, _, congrArg (fun x => Value.int x _) ?_, rfl, nd, Tr, Prn.zero, fun _ h => h⟩
    rw [pathVals_length]; omega
  · rintro n v u nx h tk hJ9 F3 N3
    try (k_extra "zfold")
    obtain ⟨f', Z', t, rfl, rfl, ndx, Tr', hP, hkp⟩ := hJ9
    clear F2 N2
    cases n with
    | zero =>
      k_steps
      all_goals exact hret Z' f' 0 _ _ hP (.inl rfl) (by k_asm) (by k_asm) ndx Tr' hkp
    | succ n =>
      have hle := hP.le
      obtain ⟨ndq, hq⟩ : ∃ ndq, f (bitsOf net (n + 1)) = some ndq := by
        cases e : f (bitsOf net (n + 1)) with
        | none => exact absurd e (hall _ hle)
        | some q => exact ⟨q, rfl⟩
      obtain ⟨ndp, hp⟩ : ∃ ndp, f (bitsOf net n) = some ndp := by
        cases e : f (bitsOf net n) with
        | none => exact absurd e (hall _ (by omega))
        | some q => exact ⟨q, rfl⟩
      have hq' := hq
      have hp' := hp
      rw [← hP.at (Nat.le_refl _)] at hq'
      rw [← hP.at (Nat.le_succ _)] at hp'
      have hv1 : (pathVals f net i)[(((n + 1 : Nat) : Int)).toNat]? = some (.ref ndq.x) := by
        have := pathVals_get f net hle
        rw [hq] at this; exact this
      have hv2 : (pathVals f net i)[((((n + 1 : Nat) : Int)) - 1).toNat]? = some (.ref ndp.x) := by
        have := pathVals_get f net (show n ≤ i by omega)
        rw [hp] at this
        have e : ((((n + 1 : Nat) : Int)) - 1).toNat = n := by omega
        rw [e]; exact this
      obtain ⟨hix, ⟨s1, s2, s3, hid⟩, ⟨nl, hil⟩, hir⟩ := Tr'.nod _ _ hp'
      obtain ⟨hjx, ⟨u1, u2, u3, hjd⟩, _, _⟩ := Tr'.nod _ _ hq'
      have h01 := bit01 net n
      cases hbare : bareB f' (bitsOf net (n + 1)) ndq with
      | false =>
        k_steps
        all_goals exact hret Z' f' (n + 1) _ _ hP (.inr fun nd9 h9 => by rw [hq'] at h9; cases h9; exact hbare) (by k_asm) (by k_asm) ndx Tr' hkp
      | true =>
        cases hb : bitB net n with
        | false =>
          have hbit := h01.1 hb
          k_steps
          refine prune_end (b := false) (by assumption) (by ktr_rel) rfl (by omega) (by assumption) ndx Tr' hp' hq' hb hbare hP hkp
        | true =>
          have hbit := h01.2 hb
          k_steps
          refine prune_end (b := true) (by assumption) (by ktr_rel) rfl (by omega) (by assumption) ndx Tr' hp' hq' hb hbare hP hkp
end
section
variable {prog : Program} {w : World} {p : Program} {loose : List Str} {mean : ExcName → Option Value} {mg mb : Str → Option Value}
    {dp un : Nat} {gd : Option (List Code)} {cn : Str} {cs : Scope} {a : Addr} {ccd : Value} {cl : List (Str × Addr)} {outer : List Env} {A₀ : Around} {base h₀ : Heap} {L : Addr} {m : Str → Option Value} {news : List (Addr × Obj)} {s : Shared} {Q E : Value → Shared → Prop}

theorem prune_specA {Aa Z Fz : Led} {f : Fm} {tb pl : Addr} {net : Int} {i kk : Nat} {tn : Tok}
    (B : Below A₀ base outer h₀) (F : Fr h₀ L s.heap m) (X : (KK w.params).In h₀) (N : News h₀ L s.heap (Aa ++ (Z ++ Fz))) (T : Top p loose mean mg mb h₀) (hk : cs.kind = .function) (nd : ND (Aa ++ (Z ++ Fz))) (Tr : Tree w.params Z f) (hpl : (pl, listOf (pathVals f net i).toArray kk) ∈ Aa) (hall : ∀ j, j ≤ i → f (bitsOf net j) ≠ none) (hi32 : i ≤ 32)
    (hdp : dp + 20 < recursionLimit) (hun : un + 400 < cLine)
    (hret : ∀ Z' f' a h' tk', Prn f net i a f' → (a = 0 ∨ ∀ nd, f' (bitsOf net a) = some nd → bareB f' (bitsOf net a) nd = false) →
      Fr h₀ L h' m → News h₀ L h' (Aa ++ (Z' ++ Fz)) → ND (Aa ++ (Z' ++ Fz)) → Tree w.params Z' f' → (∀ r, RtIn w.params Z r → RtIn w.params Z' r) → Q .none { s with heap := h', toks := tk' }) :
    wpAny (model prog w) (ktrTop dp un gd cn cs L a ccd cl outer) (call (.ref 227) [.ref tb, .int net tn, .ref pl]) Q E s :=
  prune_spec B F X (news_rot N) T hk (nd_rot nd) Tr hi32 (List.mem_append.mpr (.inl hpl)) hall hdp hun fun Z' f' a h' tk' e1 e2 F' N' nd' Tr' hkp => hret Z' f' a h' tk' e1 e2 F' (news_unrot N') (nd_rot nd') Tr' hkp
end
end Mine

-- part R1
namespace Mine
set_option maxRecDepth 100000
set_option maxHeartbeats 8000000
set_option pp.deepTerms false
set_option pp.deepTerms.threshold 4
set_option pp.maxSteps 100000



section

variable {prog : Program} {w : World} {p : Program} {loose : List Str} {mean : ExcName → Option Value} {mg mb : Str → Option Value}
    {dp un : Nat} {gd : Option (List Code)} {cn : Str} {cs : Scope} {a : Addr} {ccd : Value} {cl : List (Str × Addr)} {outer : List Env} {A₀ : Around} {base h₀ : Heap} {L : Addr} {m : Str → Option Value} {news : List (Addr × Obj)} {s : Shared} {Q E : Value → Shared → Prop}

theorem zsetR11 : True := by
  k_with_none
  k_with "z_ch" => first | with_reducible assumption | (refine' And.right ?_; rotate_left; first | with_reducible assumption | (refine' And.right ?_; rotate_left; first | with_reducible assumption | (refine' And.right ?_; rotate_left; first | with_reducible assumption | (refine' And.right ?_; rotate_left; first | with_reducible assumption | (refine' And.right ?_; rotate_left; first | with_reducible assumption | (refine' And.right ?_; rotate_left; first | with_reducible assumption | (refine' And.right ?_; rotate_left; with_reducible assumption)))))))
  k_with "z_lt" => first | with_reducible assumption | (refine' And.left ?_; rotate_left; k_extra "z_ch") | (refine' And.right ?_; rotate_left; k_extra "z_ch")
  k_with "k_ne" => (refine neN ?_; (try dsimp only); first | (refine' Nat.ne_of_gt ?_; k_extra "z_lt") | (refine' Nat.ne_of_lt ?_; k_extra "z_lt") | (refine' Nat.ne_of_gt (Nat.lt_trans ?_ (by with_reducible assumption)); k_extra "z_lt") | (refine' Nat.ne_of_lt (Nat.lt_trans ?_ (by with_reducible assumption)); k_extra "z_lt"))
  k_with "zfold" => ((fail_if_success (fail_if_success k_fold)); refine zfold_q ?_; intro qk)
  k_with "k_env" => (refine zfold_env (f := fun en9 => execs _ en9) ?_; intro en9; refine zfold_A ?_; intro ak9; (rename Fr _ _ _ _ => fr9); refine zfold_F fr9 ?_; clear fr9; intro fm9 fr9; try (refine zgen_t ?_; intro tk9))
  k_with "ktr_room" => first | exact fits (c := 1) hdp rfl rfl | exact fits0 (c := 1) hdp rfl rfl | exact fits (c := 2) hdp rfl rfl | exact fits0 (c := 2) hdp rfl rfl | exact fits (c := 0) hdp rfl rfl | exact fits0 (c := 0) hdp rfl rfl | exact fits (c := 3) hdp rfl rfl | exact fits0 (c := 3) hdp rfl rfl | exact Nat.le_of_ble_eq_true rfl
  k_with "ktr_units" => first | exact fits (c := 3) hun rfl rfl | exact fits0 (c := 3) hun rfl rfl | exact fits (c := 6) hun rfl rfl | exact fits0 (c := 6) hun rfl rfl | exact fits (c := 0) hun rfl rfl | exact fits0 (c := 0) hun rfl rfl | exact fits (c := 9) hun rfl rfl | exact fits0 (c := 9) hun rfl rfl | exact Nat.le_of_ble_eq_true rfl
  k_with "k_steps" => repeat' (first | (k_unfold; (try dsimp only); (try clear qk)) | (k_end; wrow_close) | walk1 | (dsimp only; walk1) | (leave1; try dsimp only) | fail "no step")
  k_with "execs cons" => (k_extra "zfold"; walk1)
  k_with "exec If" => (k_extra "zfold"; walk1)
  k_with "exec Assign" => (k_extra "zfold"; walk1)
  k_with "exec Expr" => (k_extra "zfold"; walk1)
  k_with "exec Return" => (k_extra "zfold"; walk1)
  k_with "isTrue" => (k_extra "zfold"; walk1)
  k_with "eval BinOp" => (k_extra "zfold"; walk1)
  k_with "eval BoolOp" => (k_extra "zfold"; walk1)
  k_with "eval UnaryOp" => (k_extra "zfold"; walk1)
  k_with "eval Call" => (k_extra "zfold"; walk1)
  k_with "eval Compare" => (k_extra "zfold"; walk1)
  k_with "eval Subscript" => (k_extra "zfold"; walk1)
  k_with "eval Attribute" => (k_extra "zfold"; walk1)
  k_with "eval Tuple" => (k_extra "zfold"; walk1)
  k_with "eval List nil" => (k_extra "zfold"; walk1)
  k_with "eval List cons" => (k_extra "zfold"; walk1)
  k_with "k_mem" => first | assumption | (with_reducible refine mem_appL ?_; assumption) | (with_reducible refine mem_appR ?_; assumption) | (with_reducible refine List.mem_append.mpr (Or.inl ?_); assumption) | (with_reducible refine List.mem_append.mpr (Or.inr ?_); assumption)
  k_with "k_ne" => (first | (refine' ne_neA ?zqh ?zqm; (case zqm => assumption); (case zqh => assumption)) | (refine' ne_between ?zqm ?zqh ?zqle; (case zqm => assumption); (case zqh => tbn_find); (case zqle => omega)))
  k_with "k_room" => ktr_room
  k_with "k_all" => first | assumption | (refine all_repl ?_; first | assumption | (refine tbn_neAll ?_; tbn_find))
  k_with "k_upd" => exact upd_repl (by assumption) (by assumption)
  k_with "ktr_rel" => (repeat (first | exact Same.refl | exact Same.of2 | exact Same.of | refine Same.set ?_ (by rfl)))
  k_with "tb_start" => (intro _ hp9; (repeat (refine List.Mem.tail _ ?_)); first | exact hp9 | exact List.mem_append.mpr (Or.inl hp9) | exact List.mem_append.mpr (Or.inr hp9))
  k_with "LPost" => (dsimp only [LPost])
  k_with "pyIter ref" => (refine Hold.mk ?_)
  k_with "call builtin:list.append" => (k_here; (with_reducible show wpAny _ _ (call (Value.builtin _) [Value.ref _, _]) _ _ _); k_dflt (refine' my_append ?zqk1 ?zqk2 ?zqk3 ?zqz ?_; (case zqk1 => k_asm); (case zqk2 => k_asm); (case zqk3 => k_upd); (case zqz => assumption); k_whole); intro _ _ _; (try k_sweep))
  k_with "call builtin:len" => (k_here; k_dflt (refine' my_len ?zqN ?zqm ?zqf ?_; (case zqN => k_asm); (case zqm => k_mem); (case zqf => assumption); k_whole))
  k_with "subscriptTail" => (k_here; k_dflt (refine' my_itemE ?zqN ?zqm ?zqv ?zqa ?zqf ?_ ?zqhs; (case zqN => k_asm); (case zqm => k_mem); (case zqv => with_reducible assumption); (case zqa => omega); (case zqf => assumption); (case zqhs => with_unfolding_all rfl); k_whole))
  k_with "subscriptTail Name UnaryOp ref int" => (k_here; k_dflt (refine' my_itemE ?zqN ?zqm ?zqv ?zqa ?zqf ?_ ?zqhs; (case zqN => k_asm); (case zqm => k_mem); (case zqv => with_reducible assumption); (case zqa => omega); (case zqf => assumption); (case zqhs => with_unfolding_all rfl); k_whole))
  k_with "subscriptTail" => (k_here; (with_reducible show wpAny _ _ (subscriptTail _ _ (Value.ref _) (Value.int (-1) _)) _ _ _); k_dflt (refine' my_last ?zqN ?zqm ?zqv ?zqf ?_ ?zqhs; (case zqN => k_asm); (case zqm => k_mem); (case zqv => with_reducible assumption); (case zqf => assumption); (case zqhs => with_unfolding_all rfl); k_whole))
  k_with "subscriptTail Name UnaryOp ref int" => (k_here; (with_reducible show wpAny _ _ (subscriptTail _ _ (Value.ref _) (Value.int (-1) _)) _ _ _); k_dflt (refine' my_last ?zqN ?zqm ?zqv ?zqf ?_ ?zqhs; (case zqN => k_asm); (case zqm => k_mem); (case zqv => with_reducible assumption); (case zqf => assumption); (case zqhs => with_unfolding_all rfl); k_whole))
  k_with "exec For Name Call cons nil" => (k_here; (rename Fr _ _ _ _ => lF'); (with_unfolding_all refine' For_invVF lF' ?zqk1 ?zqk2 ?_; (case zqk1 => exact rfl); (case zqk2 => exact rfl); k_whole))
  k_with "compareOp NotEq ref ref" => (k_here; k_dflt (refine' my_ne_nil ?zqN ?zqa ?zqb ?zqu ?_; (case zqN => k_asm); (case zqa => k_mem); (case zqb => k_mem); (case zqu => ktr_units); k_whole); (try simp only [List.map_nil, List.map_cons, List.isEmpty_nil, List.isEmpty_cons, empty_snoc, Bool.not_true, Bool.not_false]))
  k_with "call builtin:list.pop" => (k_here; (with_reducible show wpAny _ _ (call (Value.builtin _) [Value.ref _]) _ _ _); k_dflt (refine' my_pop ?zqF ?zqN ?zqU ?zqz ?_; (case zqF => k_asm); (case zqN => k_asm); (case zqU => k_upd); (case zqz => assumption); k_whole); intro _ _ _; (try k_sweep))
  k_with "binaryOp Add ref ref" => (k_here; (with_reducible show wpAny _ _ (binaryOp _ (Value.ref _) (Value.ref _)) _ _ _); k_dflt (refine' my_cat ?zqF ?zqN ?zqa ?zqb ?zqz ?_; (case zqF => k_asm); (case zqN => k_asm); (case zqa => k_mem); (case zqb => k_mem); (case zqz => assumption); k_whole); intro _ _ _ _ l1; (try k_lt l1); (try k_sweep))
  k_with "exec While Compare cons nil" => (refine Hold.mk ?_)
  exact trivial
theorem rows_spec {Z Fz : Led} {f : Fm} {tb td root : Addr} {many : Int} {t1 t2 u : Tok} {ds : List Path}
    (B : Below A₀ base outer h₀) (F : Fr h₀ L s.heap m) (X : (KK w.params).In h₀) (N : News h₀ L s.heap (Z ++ Fz)) (T : Top p loose mean mg mb h₀) (hk : cs.kind = .function) (Tr : Tree w.params Z f) (hr : vOf (f []) = .ref root)
    (hb1 : (tb, instObj 244 td) ∈ Z ++ Fz) (hb2 : (td, tbD w.params t1 t2 u root many) ∈ Z ++ Fz) (hds : ∀ q, f q ≠ none → q ∈ ds) (hdl : ds.length ≤ 1000) (hrs : ∀ q nd, f q = some nd → nd.rs.length ≤ 1000)
    (hdp : dp + 10 < recursionLimit) (hun : un + 200 < cLine)
    (hret : ∀ fl ps n' h' tk', ps.Nodup → (∀ q, q ∈ ps ↔ f q ≠ none) →
      Fr h₀ L h' m → News h₀ L h' ((fl, listOf (rsVals f ps).toArray n') :: (Z ++ Fz)) → (∀ p ∈ Z ++ Fz, p.1 < fl) → Q (.ref fl) { s with heap := h', toks := tk' }) :
    wpAny (model prog w) (ktrTop dp un gd cn cs L a ccd cl outer) (call (.ref 241) [.ref tb]) Q E s := by
  (refine wpAny_call ?_; k_dflt ktr_enter; try (w_strict (k_extra "k_env")))
  k_steps
  rename_i l1 hx hl1 hy tky l2 hz hl2 h9 F9 N9
  unfold Hold
  refine while_loop1 (Str.ofString "found") [Str.ofString "branch"] (n₀ := ds.length) (fun n v nx => ∃ done left fl k1 k2, v = .ref fl ∧ nx = (l2, listOf (left.map fun q => vOf (f q)).toArray k2) :: (fl, listOf (rsVals f done).toArray k1) :: (Z ++ Fz) ∧ @Ne Nat fl l2 ∧ (∀ p ∈ Z ++ Fz, p.1 < fl) ∧ Trav f done left ∧ n + done.length = ds.length) F9 N9 rfl ?_ ?_
  · refine ⟨[], [[]], l1, 0, 0, rfl, ?_, by omega, hl1, Trav.start Tr.root, by simp⟩
    simp only [List.map_cons, List.map_nil, hr]; rfl
  · rintro n v u nx h tk hJ9 F3 N3
    try (k_extra "zfold")
    obtain ⟨done, left, fl, k1, k2, rfl, rfl, hne, hfl, hT, hn⟩ := hJ9
    clear F9 N9
    have hl2' : ∀ p ∈ Z ++ Fz, p.1 < l2 := tb_ltOf hl2.2
    have hfl' : ∀ p ∈ Z ++ Fz, p.1 ≠ fl := fun p hp => Nat.ne_of_lt (hfl p hp)
    have hl2n : ∀ p ∈ Z ++ Fz, p.1 ≠ l2 := fun p hp => Nat.ne_of_lt (hl2' p hp)
    have hne' : @Ne Nat l2 fl := Ne.symm hne
    have hll := hT.llen hds
    have hdn := hT.dlen hds
    rcases List.eq_nil_or_concat left with rfl | ⟨l, q, rfl⟩
    · k_steps
      exact hret fl done _ _ _ hT.nd hT.fin (by assumption) (news_sub (by assumption) fun p hp => .tail _ (.tail _ hp)) hfl
    · rw [List.concat_eq_append] at hT hll N3
      have hroom := hT.room hds
      obtain ⟨nd, hq⟩ : ∃ nd, f q = some nd := by
        cases e : f q with
        | none => exact absurd e (hT.lin q (List.mem_append.mpr (.inr (.head _))))
        | some nd => exact ⟨nd, rfl⟩
      obtain ⟨hix, ⟨s1, s2, s3, hid⟩, ⟨nl, hil⟩, hir⟩ := Tr.nod _ _ hq
      have hrl := hrs q nd hq
      have hgl : ((l.map fun q => vOf (f q)) ++ [Value.ref nd.x]).length ≤ 16777216 := by
        rw [List.length_append] at hll ⊢; rw [List.length_map]; simp only [List.length_cons, List.length_nil] at hll ⊢; omega
      have hcl : (rsVals f done).length + (nd.rs.map fun r => Value.ref r.x).length ≤ 16777216 := by
        have := rsVals_len hrs done
        rw [List.length_map]
        have : done.length * 1000 ≤ 1000 * 1000 := Nat.mul_le_mul_right _ (by omega)
        omega
      have hal : (l.map fun q => vOf (f q)).length ≤ 16777216 := by rw [List.length_append] at hgl; omega
      have hal1 : ∀ x, ((l.map fun q => vOf (f q)) ++ [x]).length ≤ 16777216 := fun x => by
        rw [List.length_append] at hgl ⊢; exact hgl
      rw [List.map_append, List.map_cons, List.map_nil, hq, vOf_some] at N3
      cases h0 : f (q ++ [false]) with
      | none =>
        cases h1 : f (q ++ [true]) with
        | none =>
          rw [h0, h1, vOf_none] at hid
          have hT' := hT.step Tr.pre (kids0 (by decide) h1 h0)
          k_steps
          rename _ ∧ _ ∧ _ ∧ AllLt _ _ => hD
          rename News _ _ _ _ => N8
          refine' ⟨rfl, _, _, _, _, n - 1, rfl, by assumption, ?_, by omega, by ktr_rel, _, rfl, done ++ [q], l ++ [], _, 0, k2 + 1, rfl, rfl, ?_, tb_ltOf hD.2.2.2, hT', by simp only [List.length_append, List.length_cons, List.length_nil]; omega⟩
          · rw [List.map_append, rsVals_snoc hq]
            simp only [List.map_cons, List.map_nil, List.append_nil, h0, h1, vOf_some]
            (try simp only [List.append_assoc, List.cons_append, List.nil_append] at N8); (try simp only [List.append_assoc, List.cons_append, List.nil_append])
            exact news_sub N8 fun p hp => by
              simp only [List.mem_cons] at hp ⊢
              rcases hp with e | e | e
              · exact .inr (.inr (.inl e))
              · exact .inl e
              · exact .inr (.inr (.inr (.inr e)))
          all_goals omega
        | some n1 =>
          rw [h0, h1, vOf_none, vOf_some] at hid
          have hT' := hT.step Tr.pre (kids1 (b := true) (c := false) (by decide) (by rw [h1]; exact fun e => nomatch e) h0)
          k_steps
          rename _ ∧ _ ∧ _ ∧ AllLt _ _ => hD
          rename News _ _ _ _ => N8
          refine' ⟨rfl, _, _, _, _, n - 1, rfl, by assumption, ?_, by omega, by ktr_rel, _, rfl, done ++ [q], l ++ [q ++ [true]], _, 0, k2 + 1 + 1, rfl, rfl, ?_, tb_ltOf hD.2.2.2, hT', by simp only [List.length_append, List.length_cons, List.length_nil]; omega⟩
          · rw [List.map_append, rsVals_snoc hq]
            simp only [List.map_cons, List.map_nil, List.append_nil, h0, h1, vOf_some]
            (try simp only [List.append_assoc, List.cons_append, List.nil_append] at N8); (try simp only [List.append_assoc, List.cons_append, List.nil_append])
            exact news_sub N8 fun p hp => by
              simp only [List.mem_cons] at hp ⊢
              rcases hp with e | e | e
              · exact .inr (.inr (.inl e))
              · exact .inl e
              · exact .inr (.inr (.inr (.inr e)))
          all_goals omega
      | some n0 =>
        cases h1 : f (q ++ [true]) with
        | none =>
          rw [h0, h1, vOf_none, vOf_some] at hid
          have hT' := hT.step Tr.pre (kids1 (b := false) (c := true) (by decide) (by rw [h0]; exact fun e => nomatch e) h1)
          k_steps
          rename _ ∧ _ ∧ _ ∧ AllLt _ _ => hD
          rename News _ _ _ _ => N8
          refine' ⟨rfl, _, _, _, _, n - 1, rfl, by assumption, ?_, by omega, by ktr_rel, _, rfl, done ++ [q], l ++ [q ++ [false]], _, 0, k2 + 1 + 1, rfl, rfl, ?_, tb_ltOf hD.2.2.2, hT', by simp only [List.length_append, List.length_cons, List.length_nil]; omega⟩
          · rw [List.map_append, rsVals_snoc hq]
            simp only [List.map_cons, List.map_nil, List.append_nil, h0, h1, vOf_some]
            (try simp only [List.append_assoc, List.cons_append, List.nil_append] at N8); (try simp only [List.append_assoc, List.cons_append, List.nil_append])
            exact news_sub N8 fun p hp => by
              simp only [List.mem_cons] at hp ⊢
              rcases hp with e | e | e
              · exact .inr (.inr (.inl e))
              · exact .inl e
              · exact .inr (.inr (.inr (.inr e)))
          all_goals omega
        | some n1 =>
          rw [h0, h1, vOf_some, vOf_some] at hid
          have hT' := hT.step Tr.pre (kids2 (b := true) (c := false) (by decide) (by rw [h1]; exact fun e => nomatch e) (by rw [h0]; exact fun e => nomatch e))
          have hal2 := hal1 (Value.ref n1.x)
          k_steps
          rename _ ∧ _ ∧ _ ∧ AllLt _ _ => hD
          rename News _ _ _ _ => N8
          refine' ⟨rfl, _, _, _, _, n - 1, rfl, by assumption, ?_, by omega, by ktr_rel, _, rfl, done ++ [q], l ++ [q ++ [true], q ++ [false]], _, 0, k2 + 1 + 1 + 1, rfl, rfl, ?_, tb_ltOf hD.2.2.2, hT', by simp only [List.length_append, List.length_cons, List.length_nil]; omega⟩
          · rw [List.map_append, rsVals_snoc hq]
            simp only [List.map_cons, List.map_nil, List.append_nil, h0, h1, vOf_some]
            (try simp only [List.append_assoc, List.cons_append, List.nil_append] at N8); (try simp only [List.append_assoc, List.cons_append, List.nil_append])
            exact news_sub N8 fun p hp => by
              simp only [List.mem_cons] at hp ⊢
              rcases hp with e | e | e
              · exact .inr (.inr (.inl e))
              · exact .inl e
              · exact .inr (.inr (.inr (.inr e)))
          all_goals omega
end
end Mine

-- part R2
namespace Mine
set_option maxRecDepth 100000
set_option maxHeartbeats 8000000
set_option pp.deepTerms false
set_option pp.deepTerms.threshold 4
set_option pp.maxSteps 100000


section

variable {prog : Program} {w : World} {p : Program} {loose : List Str} {mean : ExcName → Option Value} {mg mb : Str → Option Value}
    {dp un : Nat} {gd : Option (List Code)} {cn : Str} {cs : Scope} {a : Addr} {ccd : Value} {cl : List (Str × Addr)} {outer : List Env} {A₀ : Around} {base h₀ : Heap} {L : Addr} {m : Str → Option Value} {news : List (Addr × Obj)} {s : Shared} {Q E : Value → Shared → Prop}

theorem zsetR21 : True := by
  k_with_none
  k_with "z_ch" => first | with_reducible assumption | (refine' And.right ?_; rotate_left; first | with_reducible assumption | (refine' And.right ?_; rotate_left; first | with_reducible assumption | (refine' And.right ?_; rotate_left; first | with_reducible assumption | (refine' And.right ?_; rotate_left; first | with_reducible assumption | (refine' And.right ?_; rotate_left; first | with_reducible assumption | (refine' And.right ?_; rotate_left; first | with_reducible assumption | (refine' And.right ?_; rotate_left; with_reducible assumption)))))))
  k_with "z_lt" => first | with_reducible assumption | (refine' And.left ?_; rotate_left; k_extra "z_ch") | (refine' And.right ?_; rotate_left; k_extra "z_ch")
  k_with "k_ne" => (refine neN ?_; (try dsimp only); first | (refine' Nat.ne_of_gt ?_; k_extra "z_lt") | (refine' Nat.ne_of_lt ?_; k_extra "z_lt") | (refine' Nat.ne_of_gt (Nat.lt_trans ?_ (by with_reducible assumption)); k_extra "z_lt") | (refine' Nat.ne_of_lt (Nat.lt_trans ?_ (by with_reducible assumption)); k_extra "z_lt"))
  k_with "zfold" => ((fail_if_success (fail_if_success k_fold)); refine zfold_q ?_; intro qk)
  k_with "k_env" => (refine zfold_env (f := fun en9 => execs _ en9) ?_; intro en9; refine zfold_A ?_; intro ak9; (rename Fr _ _ _ _ => fr9); refine zfold_F fr9 ?_; clear fr9; intro fm9 fr9; try (refine zgen_t ?_; intro tk9))
  k_with "ktr_room" => first | exact fits (c := 1) hdp rfl rfl | exact fits0 (c := 1) hdp rfl rfl | exact fits (c := 2) hdp rfl rfl | exact fits0 (c := 2) hdp rfl rfl | exact fits (c := 0) hdp rfl rfl | exact fits0 (c := 0) hdp rfl rfl | exact fits (c := 3) hdp rfl rfl | exact fits0 (c := 3) hdp rfl rfl | exact Nat.le_of_ble_eq_true rfl
  k_with "ktr_units" => first | exact fits (c := 3) hun rfl rfl | exact fits0 (c := 3) hun rfl rfl | exact fits (c := 6) hun rfl rfl | exact fits0 (c := 6) hun rfl rfl | exact fits (c := 0) hun rfl rfl | exact fits0 (c := 0) hun rfl rfl | exact fits (c := 9) hun rfl rfl | exact fits0 (c := 9) hun rfl rfl | exact Nat.le_of_ble_eq_true rfl
  k_with "k_steps" => repeat' (first | (k_unfold; (try dsimp only); (try clear qk)) | (k_end; wrow_close) | walk1 | (dsimp only; walk1) | (leave1; try dsimp only) | fail "no step")
  k_with "execs cons" => (k_extra "zfold"; walk1)
  k_with "exec If" => (k_extra "zfold"; walk1)
  k_with "exec Assign" => (k_extra "zfold"; walk1)
  k_with "exec Expr" => (k_extra "zfold"; walk1)
  k_with "exec Return" => (k_extra "zfold"; walk1)
  k_with "isTrue" => (k_extra "zfold"; walk1)
  k_with "eval BinOp" => (k_extra "zfold"; walk1)
  k_with "eval BoolOp" => (k_extra "zfold"; walk1)
  k_with "eval UnaryOp" => (k_extra "zfold"; walk1)
  k_with "eval Call" => (k_extra "zfold"; walk1)
  k_with "eval Compare" => (k_extra "zfold"; walk1)
  k_with "eval Subscript" => (k_extra "zfold"; walk1)
  k_with "eval Attribute" => (k_extra "zfold"; walk1)
  k_with "eval Tuple" => (k_extra "zfold"; walk1)
  k_with "eval List nil" => (k_extra "zfold"; walk1)
  k_with "eval List cons" => (k_extra "zfold"; walk1)
  k_with "k_mem" => first | assumption | (with_reducible refine mem_appL ?_; assumption) | (with_reducible refine mem_appR ?_; assumption) | (with_reducible refine List.mem_append.mpr (Or.inl ?_); assumption) | (with_reducible refine List.mem_append.mpr (Or.inr ?_); assumption)
  k_with "k_ne" => (first | (refine' ne_neA ?zqh ?zqm; (case zqm => assumption); (case zqh => assumption)) | (refine' ne_between ?zqm ?zqh ?zqle; (case zqm => assumption); (case zqh => tbn_find); (case zqle => omega)))
  k_with "k_room" => ktr_room
  k_with "k_all" => first | assumption | (refine all_repl ?_; first | assumption | (refine tbn_neAll ?_; tbn_find))
  k_with "k_upd" => exact upd_repl (by assumption) (by assumption)
  k_with "ktr_rel" => (repeat (first | exact Same.refl | exact Same.of2 | exact Same.of | refine Same.set ?_ (by rfl)))
  k_with "tb_start" => (intro _ hp9; (repeat (refine List.Mem.tail _ ?_)); first | exact hp9 | exact List.mem_append.mpr (Or.inl hp9) | exact List.mem_append.mpr (Or.inr hp9))
  k_with "LPost" => (dsimp only [LPost])
  k_with "pyIter ref" => (refine Hold.mk ?_)
  k_with "call builtin:list.append" => (k_here; (with_reducible show wpAny _ _ (call (Value.builtin _) [Value.ref _, _]) _ _ _); k_dflt (refine' my_append ?zqk1 ?zqk2 ?zqk3 ?zqz ?_; (case zqk1 => k_asm); (case zqk2 => k_asm); (case zqk3 => k_upd); (case zqz => assumption); k_whole); intro _ _ _; (try k_sweep))
  k_with "call builtin:len" => (k_here; k_dflt (refine' my_len ?zqN ?zqm ?zqf ?_; (case zqN => k_asm); (case zqm => k_mem); (case zqf => assumption); k_whole))
  k_with "subscriptTail" => (k_here; k_dflt (refine' my_itemE ?zqN ?zqm ?zqv ?zqa ?zqf ?_ ?zqhs; (case zqN => k_asm); (case zqm => k_mem); (case zqv => with_reducible assumption); (case zqa => omega); (case zqf => assumption); (case zqhs => with_unfolding_all rfl); k_whole))
  k_with "subscriptTail Name UnaryOp ref int" => (k_here; k_dflt (refine' my_itemE ?zqN ?zqm ?zqv ?zqa ?zqf ?_ ?zqhs; (case zqN => k_asm); (case zqm => k_mem); (case zqv => with_reducible assumption); (case zqa => omega); (case zqf => assumption); (case zqhs => with_unfolding_all rfl); k_whole))
  k_with "subscriptTail" => (k_here; (with_reducible show wpAny _ _ (subscriptTail _ _ (Value.ref _) (Value.int (-1) _)) _ _ _); k_dflt (refine' my_last ?zqN ?zqm ?zqv ?zqf ?_ ?zqhs; (case zqN => k_asm); (case zqm => k_mem); (case zqv => with_reducible assumption); (case zqf => assumption); (case zqhs => with_unfolding_all rfl); k_whole))
  k_with "subscriptTail Name UnaryOp ref int" => (k_here; (with_reducible show wpAny _ _ (subscriptTail _ _ (Value.ref _) (Value.int (-1) _)) _ _ _); k_dflt (refine' my_last ?zqN ?zqm ?zqv ?zqf ?_ ?zqhs; (case zqN => k_asm); (case zqm => k_mem); (case zqv => with_reducible assumption); (case zqf => assumption); (case zqhs => with_unfolding_all rfl); k_whole))
  k_with "exec For Name Call cons nil" => (k_here; (rename Fr _ _ _ _ => lF'); (with_unfolding_all refine' For_invVF lF' ?zqk1 ?zqk2 ?_; (case zqk1 => exact rfl); (case zqk2 => exact rfl); k_whole))
  k_with "call ref" => (k_here; (with_reducible show wpAny _ _ (call (Value.ref 227) _) _ _ _); refine Hold.mk ?_)
  k_with "call ref" => (k_here; (with_reducible show wpAny _ _ (call (Value.ref 201) _) _ _ _); refine Hold.mk ?_)
  k_with "call ref" => (k_here; k_dflt (refine' net_spec ?zqk1 ?zqk2 ?zqk3 ?zqk4 ?zqk5 ?zqkK ?zqu0 ?zqu1 ?zqu2 ?zqu3 ?zqu4 ?zqkd ?zqku ?_; (case zqk1 => k_asm); (case zqk2 => k_asm); (case zqk3 => k_asm); (case zqk4 => k_asm); (case zqk5 => k_asm); (case zqkK => first | exact rfl | assumption); (case zqu0 => assumption); (case zqu1 => omega); (case zqu2 => omega); (case zqu3 => omega); (case zqu4 => omega); (case zqkd => ktr_room); (case zqku => ktr_units); k_whole; intro _ _ _ _ _; (try dsimp only); (try k_sweep); (try (k_extra "zfold"))))
  exact trivial
theorem remove_spec {Z Fz : Led} {f : Fm} {tb td root : Addr} {many net : Int} {k : Nat} {t1 t2 u tn tp : Tok}
    (B : Below A₀ base outer h₀) (F : Fr h₀ L s.heap m) (X : (KK w.params).In h₀) (N : News h₀ L s.heap ((tb, instObj 244 td) :: (td, tbD w.params t1 t2 u root many) :: (Z ++ Fz))) (T : Top p loose mean mg mb h₀) (hk : cs.kind = .function) (nd : ND ((tb, instObj 244 td) :: (td, tbD w.params t1 t2 u root many) :: (Z ++ Fz))) (Tr : Tree w.params Z f) (hr : vOf (f []) = .ref root)
    (hk32 : k ≤ 32) (hn0 : 0 ≤ net) (hn1 : net ≤ 4294967295) (hm : net - net % 2 ^ (32 - (k : Int)).toNat = net) (hL : Lean' f) (hrs : ∀ q nd, f q = some nd → nd.rs.length ≤ 1000)
    (hdp : dp + 40 < recursionLimit) (hun : un + 800 < cLine)
    (hret : ∀ Z' f' many' u' tv h' tk', Lean' f' → (rsOf f' = fun p => if p = bitsOf net k then [] else rsOf f p) → many' = many - ((rsOf f (bitsOf net k)).length : Int) → vOf (f' []) = .ref root →
      Fr h₀ L h' m → News h₀ L h' ((tb, instObj 244 td) :: (td, tbD w.params t1 t2 u' root many') :: (Z' ++ Fz)) → ND ((tb, instObj 244 td) :: (td, tbD w.params t1 t2 u' root many') :: (Z' ++ Fz)) →
      Tree w.params Z' f' → (∀ r, RtIn w.params Z r → RtIn w.params Z' r) → Q (.int ((rsOf f (bitsOf net k)).length : Int) tv) { s with heap := h', toks := tk' }) :
    wpAny (model prog w) (ktrTop dp un gd cn cs L a ccd cl outer) (call (.ref 215) [.ref tb, .int net tn, .int (k : Int) tp]) Q E s := by
  (refine wpAny_call ?_; k_dflt ktr_enter; try (w_strict (k_extra "k_env")))
  k_steps
  (unfold Hold; w_strict (k_dflt (refine' path_specA (Aa := [_, _]) (mk := false) ?k1 ?k2 ?k3 ?k4 ?k5 ?kK ?u0 ?u1 ?u2 ?u3 ?u4 ?u5 ?kd ?ku ?_; (case k1 => k_asm); (case k2 => k_asm); (case k3 => k_asm); (case k4 => k_asm); (case k5 => k_asm); (case kK => first | exact rfl | assumption); (case u0 => assumption); (case u1 => assumption); (case u2 => assumption); (case u3 => k_mem); (case u4 => k_mem); (case u5 => assumption); (case kd => ktr_room); (case ku => ktr_units))); intro fl Z1 f1 i n1 h1 tk1 e1 e2 e3 e4 F1 N1 nd1 Tr1 hkp1; (try dsimp only); (try k_sweep); (try (k_extra "zfold")))
  obtain ⟨rfl, rfl, hik⟩ := e4 rfl
  simp only [List.cons_append, List.nil_append] at N1 nd1
  have hlen : (pathVals f1 net i).length ≤ 16777216 := by rw [pathVals_length]; omega
  have hpl : (pathVals f1 net i).length = i + 1 := pathVals_length _ _ _
  have ne1 : @Ne Nat tb fl := nd_head nd1 _ (.head _)
  have ne2 : @Ne Nat td fl := nd_head nd1 _ (.tail _ (.head _))
  have ne3 : @Ne Nat td tb := nd_head (nd_tail nd1) _ (.head _)
  have hfl : ∀ p ∈ Z1 ++ Fz, p.1 ≠ fl := fun p hp => nd_head nd1 _ (.tail _ (.tail _ hp))
  have htb : ∀ p ∈ Z1 ++ Fz, p.1 ≠ tb := fun p hp => nd_head (nd_tail nd1) _ (.tail _ hp)
  have htd : ∀ p ∈ Z1 ++ Fz, p.1 ≠ td := fun p hp => nd_head (nd_tail (nd_tail nd1)) _ hp
  rcases Nat.lt_or_ge i k with hlt | hge
  · have hq : f1 (bitsOf net k) = none := by
      rcases hik with h | h
      · omega
      · exact none_below Tr1.pre h hlt
    have hr0 : rsOf f1 (bitsOf net k) = [] := by unfold rsOf; rw [hq]
    rw [hr0] at hret
    k_steps
    all_goals exact hret Z1 f1 many u _ _ _ hL (by funext p; by_cases e : p = bitsOf net k <;> simp [e, hr0]) (by simp) hr (by k_asm) (news_sub (by assumption) fun p hp => .tail _ hp) nd Tr1 (fun _ h => h)
  · obtain rfl : i = k := Nat.le_antisymm e1 hge
    obtain ⟨ndq, hq⟩ : ∃ ndq, f1 (bitsOf net i) = some ndq := by
      cases e : f1 (bitsOf net i) with
      | none => exact absurd e (e2.all _ (Nat.le_refl _))
      | some q => exact ⟨q, rfl⟩
    have hlast := pathVals_last f1 net i
    rw [hq] at hlast
    simp only [vOf] at hlast
    have hrl := hrs _ _ hq
    obtain ⟨hix, ⟨s1, s2, s3, hid⟩, ⟨nl, hil⟩, hir⟩ := Tr1.nod _ _ hq
    have hrl2 : (ndq.rs.map fun r => Value.ref r.x).length ≤ 16777216 := by rw [List.length_map]; omega
    have ndz := nd_tail (nd_tail (nd_tail nd1))
    have hrq : rsOf f1 (bitsOf net i) = ndq.rs := by unfold rsOf; rw [hq]
    k_steps
    rename News _ _ _ _ => N2
    rename _ ∧ _ ∧ _ ∧ AllLt _ _ => hl9
    rename_i lq _ _ _ _ _
    have hne9 : ∀ p ∈ (fl, listOf (pathVals f1 net i).toArray n1) :: (tb, instObj 244 td) :: (td, tbD w.params t1 t2 u root many) :: (Z1 ++ Fz), p.1 ≠ _ := fun p hp => by
      simp only [List.mem_cons] at hp
      rcases hp with rfl | rfl | rfl | hp
      · exact Nat.ne_of_lt hl9.1
      · exact Nat.ne_of_lt hl9.2.1
      · exact Nat.ne_of_lt hl9.2.2.1
      · exact Nat.ne_of_lt (tb_ltOf hl9.2.2.2 p hp)
    have lf : lq ∉ keys Z1 := fun hm => by
      obtain ⟨p, hp, e⟩ := List.mem_map.mp hm
      exact hne9 p (.tail _ (.tail _ (.tail _ (List.mem_append.mpr (.inl hp))))) e
    have Tr2 := Tree.newL (rs := []) (k := 0) (l' := lq) (s1 := s1) (s2 := s2) (s3 := s3) Tr1 (nd_left ndz) hq (fun r h => nomatch h) lf rfl rfl
    have N3 := news_in3 (l := (lq, rtL [] 0)) N2
    have nd3 := nd_in3 (o4 := rtL [] 0) (p1 := listOf (pathVals f1 net i).toArray n1) (p2 := instObj 244 td) (p3 := tbD w.params t1 t2 u root (many - ((ndq.rs.map fun r => Value.ref r.x).length : Int))) (d := ndq.d) (x := brD w.params s1 s2 s3 (vOf (f1 (bitsOf net i ++ [false]))) (vOf (f1 (bitsOf net i ++ [true]))) lq) nd1 hne9
    clear N2
    rw [← pathVals_grow (nd' := ⟨ndq.x, ndq.d, lq, []⟩) hq rfl] at N3 nd3
    have hall : ∀ j, j ≤ i → Mine.grow f1 (bitsOf net i) ⟨ndq.x, ndq.d, lq, []⟩ (bitsOf net j) ≠ none := fun j hj => by
      by_cases e : bitsOf net j = bitsOf net i
      · rw [e, grow_self]; exact fun x => nomatch x
      · rw [grow_ne _ _ e]; exact e2.all j hj
    change News _ _ _ ([_, _, _] ++ ((_ :: _) ++ Fz)) at N3
    change ND ([_, _, _] ++ ((_ :: _) ++ Fz)) at nd3
    (unfold Hold; w_strict (k_dflt (refine' prune_specA (Aa := [_, _, _]) ?k1 ?k2 ?k3 ?k4 ?k5 ?kK ?u0 ?u1 ?u2 ?u3 ?u4 ?kd ?ku ?_; (case k1 => k_asm); (case k2 => k_asm); (case k3 => k_asm); (case k4 => k_asm); (case k5 => k_asm); (case kK => first | exact rfl | assumption); (case u0 => exact nd3); (case u1 => exact Tr2); (case u2 => exact .head _); (case u3 => exact hall); (case u4 => omega); (case kd => ktr_room); (case ku => ktr_units))); intro Z4 f4 a4 h4 tk4 hP4 hend4 F4 N4 nd4 Tr4 hkp4; (try dsimp only); (try k_sweep); (try (k_extra "zfold")))
    simp only [List.cons_append, List.nil_append] at N4 nd4
    k_steps
    rename News h₀ _ _ _ => kN
    rename Fr h₀ _ _ _ => kF
    have hlq : ((ndq.rs.map fun r => Value.ref r.x).length : Int) = (ndq.rs.length : Int) := by rw [List.length_map]
    refine q_int (by rw [hrq, hlq]) (hret Z4 f4 _ _ _ _ _ (Prn.lean2 hL hq hP4 (e2.all) hend4) ?_ (by rw [hrq, hlq]) ?_ kF (news_tail kN) (nd_tail nd4) Tr4 fun r hr => hkp4 _ ((RtIn.replD Tr1 (nd_left ndz) hq hr).mono fun p hp => .tail _ hp))
    · rw [hP4.rs, rsOf_grow]
    · rw [hP4.root]; exact (vOf_grow (nd' := ⟨ndq.x, ndq.d, lq, []⟩) hq rfl).trans hr
end
end Mine

-- part F1
namespace Mine
set_option maxRecDepth 100000
set_option maxHeartbeats 8000000
set_option pp.deepTerms false
set_option pp.deepTerms.threshold 4
set_option pp.maxSteps 100000


theorem news_rot1 {h₀ h : Heap} {L : Addr} {x : Addr × Obj} {A Z R : Led} (N : News h₀ L h (x :: (Z ++ (A ++ R)))) : News h₀ L h (x :: (A ++ (Z ++ R))) := fun p hp => by
  rcases List.mem_cons.mp hp with e | hp
  · exact N p (e ▸ .head _)
  · exact news_rot (news_tail N) p hp
theorem rsVals_get {f : Fm} {ps : List Path} {i : Nat} {iv : Value} (h : (rsVals f ps)[i]? = some iv) : ∃ r, (ps.flatMap (rsOf f))[i]? = some r ∧ iv = .ref r.x := by
  unfold rsVals at h
  rw [List.getElem?_map] at h
  cases e : (ps.flatMap (rsOf f))[i]? with
  | none => rw [e] at h; cases h
  | some r => rw [e] at h; exact ⟨r, rfl, (Option.some.inj h).symm⟩
theorem not3 {a b c z : Str} (h : [a, b, c].contains z = false) : z ≠ a ∧ z ≠ b ∧ z ≠ c := by simpa [List.contains_cons] using h
section
open PyProof.Rows.LCg PyProof.Rows.LCt

variable {prog : Program} {w : World} {p : Program} {loose : List Str} {mean : ExcName → Option Value} {mg mb : Str → Option Value}
    {dp un : Nat} {gd : Option (List Code)} {cn : Str} {cs : Scope} {a : Addr} {ccd : Value} {cl : List (Str × Addr)} {outer : List Env} {A₀ : Around} {base h₀ : Heap} {L : Addr} {m : Str → Option Value} {news : List (Addr × Obj)} {s : Shared} {Q E : Value → Shared → Prop}

theorem zsetF11 : True := by
  k_with_none
  k_with "z_ch" => first | with_reducible assumption | (refine' And.right ?_; rotate_left; first | with_reducible assumption | (refine' And.right ?_; rotate_left; first | with_reducible assumption | (refine' And.right ?_; rotate_left; first | with_reducible assumption | (refine' And.right ?_; rotate_left; first | with_reducible assumption | (refine' And.right ?_; rotate_left; first | with_reducible assumption | (refine' And.right ?_; rotate_left; first | with_reducible assumption | (refine' And.right ?_; rotate_left; with_reducible assumption)))))))
  k_with "z_lt" => first | with_reducible assumption | (refine' And.left ?_; rotate_left; k_extra "z_ch") | (refine' And.right ?_; rotate_left; k_extra "z_ch")
  k_with "k_ne" => (refine neN ?_; (try dsimp only); first | (refine' Nat.ne_of_gt ?_; k_extra "z_lt") | (refine' Nat.ne_of_lt ?_; k_extra "z_lt") | (refine' Nat.ne_of_gt (Nat.lt_trans ?_ (by with_reducible assumption)); k_extra "z_lt") | (refine' Nat.ne_of_lt (Nat.lt_trans ?_ (by with_reducible assumption)); k_extra "z_lt"))
  k_with "zfold" => ((fail_if_success (fail_if_success k_fold)); refine zfold_q ?_; intro qk)
  k_with "k_env" => (refine zfold_env (f := fun en9 => execs _ en9) ?_; intro en9; refine zfold_A ?_; intro ak9; (rename Fr _ _ _ _ => fr9); refine zfold_F fr9 ?_; clear fr9; intro fm9 fr9; try (refine zgen_t ?_; intro tk9))
  k_with "ktr_room" => first | exact fits (c := 1) hdp rfl rfl | exact fits0 (c := 1) hdp rfl rfl | exact fits (c := 2) hdp rfl rfl | exact fits0 (c := 2) hdp rfl rfl | exact fits (c := 0) hdp rfl rfl | exact fits0 (c := 0) hdp rfl rfl | exact fits (c := 3) hdp rfl rfl | exact fits0 (c := 3) hdp rfl rfl | exact Nat.le_of_ble_eq_true rfl
  k_with "ktr_units" => first | exact fits (c := 3) hun rfl rfl | exact fits0 (c := 3) hun rfl rfl | exact fits (c := 6) hun rfl rfl | exact fits0 (c := 6) hun rfl rfl | exact fits (c := 0) hun rfl rfl | exact fits0 (c := 0) hun rfl rfl | exact fits (c := 9) hun rfl rfl | exact fits0 (c := 9) hun rfl rfl | exact Nat.le_of_ble_eq_true rfl
  k_with "k_steps" => repeat' (first | (k_unfold; (try dsimp only); (try clear qk)) | (k_end; wrow_close) | walk1 | (dsimp only; walk1) | (leave1; try dsimp only) | fail "no step")
  k_with "execs cons" => (k_extra "zfold"; walk1)
  k_with "exec If" => (k_extra "zfold"; walk1)
  k_with "exec Assign" => (k_extra "zfold"; walk1)
  k_with "exec Expr" => (k_extra "zfold"; walk1)
  k_with "exec Return" => (k_extra "zfold"; walk1)
  k_with "isTrue" => (k_extra "zfold"; walk1)
  k_with "eval BinOp" => (k_extra "zfold"; walk1)
  k_with "eval BoolOp" => (k_extra "zfold"; walk1)
  k_with "eval UnaryOp" => (k_extra "zfold"; walk1)
  k_with "eval Call" => (k_extra "zfold"; walk1)
  k_with "eval Compare" => (k_extra "zfold"; walk1)
  k_with "eval Subscript" => (k_extra "zfold"; walk1)
  k_with "eval Attribute" => (k_extra "zfold"; walk1)
  k_with "eval Tuple" => (k_extra "zfold"; walk1)
  k_with "eval List nil" => (k_extra "zfold"; walk1)
  k_with "eval List cons" => (k_extra "zfold"; walk1)
  k_with "k_mem" => first | assumption | (with_reducible refine mem_appL ?_; assumption) | (with_reducible refine mem_appR ?_; assumption) | (with_reducible refine List.mem_append.mpr (Or.inl ?_); assumption) | (with_reducible refine List.mem_append.mpr (Or.inr ?_); assumption)
  k_with "k_ne" => (first | (refine' ne_neA ?zqh ?zqm; (case zqm => assumption); (case zqh => assumption)) | (refine' ne_between ?zqm ?zqh ?zqle; (case zqm => assumption); (case zqh => tbn_find); (case zqle => omega)))
  k_with "k_room" => ktr_room
  k_with "k_all" => first | assumption | (refine all_repl ?_; first | assumption | (refine tbn_neAll ?_; tbn_find))
  k_with "k_upd" => exact upd_repl (by assumption) (by assumption)
  k_with "ktr_rel" => (repeat (first | exact Same.refl | exact Same.of2 | exact Same.of | refine Same.set ?_ (by rfl)))
  k_with "tb_start" => (intro _ hp9; (repeat (refine List.Mem.tail _ ?_)); first | exact hp9 | exact List.mem_append.mpr (Or.inl hp9) | exact List.mem_append.mpr (Or.inr hp9))
  k_with "LPost" => (dsimp only [LPost])
  k_with "pyIter ref" => (refine Hold.mk ?_)
  k_with "call builtin:list.append" => (k_here; (with_reducible show wpAny _ _ (call (Value.builtin _) [Value.ref _, _]) _ _ _); k_dflt (refine' my_append ?zqk1 ?zqk2 ?zqk3 ?zqz ?_; (case zqk1 => k_asm); (case zqk2 => k_asm); (case zqk3 => k_upd); (case zqz => assumption); k_whole); intro _ _ _; (try k_sweep))
  k_with "call builtin:len" => (k_here; k_dflt (refine' my_len ?zqN ?zqm ?zqf ?_; (case zqN => k_asm); (case zqm => k_mem); (case zqf => assumption); k_whole))
  k_with "subscriptTail" => (k_here; k_dflt (refine' my_itemE ?zqN ?zqm ?zqv ?zqa ?zqf ?_ ?zqhs; (case zqN => k_asm); (case zqm => k_mem); (case zqv => with_reducible assumption); (case zqa => omega); (case zqf => assumption); (case zqhs => with_unfolding_all rfl); k_whole))
  k_with "subscriptTail Name UnaryOp ref int" => (k_here; k_dflt (refine' my_itemE ?zqN ?zqm ?zqv ?zqa ?zqf ?_ ?zqhs; (case zqN => k_asm); (case zqm => k_mem); (case zqv => with_reducible assumption); (case zqa => omega); (case zqf => assumption); (case zqhs => with_unfolding_all rfl); k_whole))
  k_with "subscriptTail" => (k_here; (with_reducible show wpAny _ _ (subscriptTail _ _ (Value.ref _) (Value.int (-1) _)) _ _ _); k_dflt (refine' my_last ?zqN ?zqm ?zqv ?zqf ?_ ?zqhs; (case zqN => k_asm); (case zqm => k_mem); (case zqv => with_reducible assumption); (case zqf => assumption); (case zqhs => with_unfolding_all rfl); k_whole))
  k_with "subscriptTail Name UnaryOp ref int" => (k_here; (with_reducible show wpAny _ _ (subscriptTail _ _ (Value.ref _) (Value.int (-1) _)) _ _ _); k_dflt (refine' my_last ?zqN ?zqm ?zqv ?zqf ?_ ?zqhs; (case zqN => k_asm); (case zqm => k_mem); (case zqv => with_reducible assumption); (case zqf => assumption); (case zqhs => with_unfolding_all rfl); k_whole))
  k_with "exec For Name Call cons nil" => (k_here; (rename Fr _ _ _ _ => lF'); (with_unfolding_all refine' For_invVF lF' ?zqk1 ?zqk2 ?_; (case zqk1 => exact rfl); (case zqk2 => exact rfl); k_whole))
  k_with "exec Assign cons ListComp" => (walk_at "exec Assign")
  k_with "call ref" => (k_here; (with_reducible show wpAny _ _ (call (Value.ref 227) _) _ _ _); refine Hold.mk ?_)
  k_with "call ref" => (k_here; (with_reducible show wpAny _ _ (call (Value.ref 201) _) _ _ _); refine Hold.mk ?_)
  k_with "call ref" => (k_here; (with_reducible show wpAny _ _ (call (Value.ref 241) _) _ _ _); refine Hold.mk ?_)
  k_with "CompSrc" => (refine Hold.mk ?_)
  k_with "CompSrcT" => (refine Hold.mk ?_)
  k_with "CEnd" => (refine Hold.mk ?_)
  exact trivial
theorem face_spec {Z Fz : Led} {f : Fm} {tb td root : Addr} {many face : Int} {t1 t2 u tn : Tok} {ds : List Path}
    (B : Below A₀ base outer h₀) (F : Fr h₀ L s.heap m) (X : (KK w.params).In h₀) (N : News h₀ L s.heap ((tb, instObj 244 td) :: (td, tbD w.params t1 t2 u root many) :: (Z ++ Fz))) (T : Top p loose mean mg mb h₀) (hk : cs.kind = .function) (nd : ND ((tb, instObj 244 td) :: (td, tbD w.params t1 t2 u root many) :: (Z ++ Fz))) (Tr : Tree w.params Z f) (hr : vOf (f []) = .ref root)
    (hL : Lean' f) (hrs : ∀ q nd, f q = some nd → nd.rs.length ≤ 1000) (hds : ∀ q, f q ≠ none → q ∈ ds) (hdl : ds.length ≤ 1000)
    (hown : ∀ q r, r ∈ rsOf f q → ∃ k : Nat, r.pre = (k : Int) ∧ k ≤ 32 ∧ bitsOf r.net k = q)
    (hdp : dp + 40 < recursionLimit) (hun : un + 800 < cLine)
    (hret : ∀ Z' f' many' u' tv h' tk' (ps : List Path) c, Lean' f' → (rsOf f' = fun p => (rsOf f p).filter (neF face)) → ps.Nodup → (∀ q, q ∈ ps ↔ f q ≠ none) → c = (((ps.flatMap (rsOf f)).countP (eqF face) : Nat) : Int) → many' = many - c → vOf (f' []) = .ref root →
      Fr h₀ L h' m → News h₀ L h' ((tb, instObj 244 td) :: (td, tbD w.params t1 t2 u' root many') :: (Z' ++ Fz)) → ND ((tb, instObj 244 td) :: (td, tbD w.params t1 t2 u' root many') :: (Z' ++ Fz)) →
      Tree w.params Z' f' → (∀ r, RtIn w.params Z r → RtIn w.params Z' r) → Q (.int c tv) { s with heap := h', toks := tk' }) :
    wpAny (model prog w) (ktrTop dp un gd cn cs L a ccd cl outer) (call (.ref 220) [.ref tb, .int face tn]) Q E s := by
  (refine wpAny_call ?_; k_dflt (refine' code_defC ?k1 ?k2 ?k3 ?k4 ?k5 ?kA ?kF ?kK ?k6 ?k7 ?k8 ?k9 ?kB ?kD ?_ ?c2 ?c3 ?c4; (case kA => exact rfl); (case kF => exact rfl); (case kK => assumption); (case k1 => k_asm); (case k2 => k_asm); (case k3 => k_asm); (case k4 => k_asm); (case k5 => k_asm); (case k6 => k_is); (case k7 => k_is); (case k8 => ktr_room); (case k9 => exact BindsTo.of_eq rfl); (case kB => exact rfl); (case kD => decide +kernel); (case c2 => exact rfl); (case c3 => exact rfl); (case c4 => exact rfl); k_whole; intro g' L' h' tk' cells' FG' F' N' Y' B' X' T' l1; (try k_lt l1); k_cells Y'; (try simp only [List.cons_append, List.nil_append] at N'); (try dsimp only); (try k_fold)); try (w_strict (k_extra "k_env")); (refine zfold_e ?_; intro ek))
  k_steps
  rename Fr _ _ _ _ => lF
  rename_i o9 d9 h9 N9
  have N10 := news_rot (A := [_, _, _]) N9
  clear N9
  unfold Hold
  dsimp only [List.append_nil, List.cons_append, List.nil_append] at N10 ⊢
  change News _ _ _ (Z ++ ([(L' + 1, o9), (tb, instObj 244 td), (td, tbD w.params t1 t2 u root many)] ++ Fz)) at N10
  refine Hold.mk ?_
  (unfold Hold; w_strict (k_dflt (refine' rows_spec (ds := ds) ?k1 ?k2 ?k3 ?k4 ?k5 ?kK ?u0 ?u1 ?u2 ?u3 ?u4 ?u5 ?u6 ?kd ?ku ?_; (case k1 => k_asm); (case k2 => k_asm); (case k3 => k_asm); (case k4 => k_asm); (case k5 => k_asm); (case kK => first | exact rfl | assumption); (case u0 => exact Tr); (case u1 => exact hr); (case u2 => exact List.mem_append.mpr (.inr (.tail _ (.head _)))); (case u3 => exact List.mem_append.mpr (.inr (.tail _ (.tail _ (.head _))))); (case u4 => exact hds); (case u5 => exact hdl); (case u6 => exact hrs); (case kd => ktr_room); (case ku => ktr_units))); intro fl ps n1 h1 tk1 hps1 hps2 F1 N1 lt1; (try dsimp only); (try k_sweep); (try (k_extra "zfold")))
  have N2 := news_rot1 N1
  clear N1
  k_steps
  unfold Hold
  have hIN : ∀ q r, r ∈ rsOf f q → RtIn w.params Z r := fun q r hr => by
    unfold rsOf at hr
    cases e : f q with
    | none => rw [e] at hr; cases hr
    | some nd => rw [e] at hr; exact (Tr.nod _ _ e).ir r hr
  have hal := tb_ltOf l1.2.2
  have nd0 : ND ((fl, listOf (rsVals f ps).toArray n1) :: (L' + 1, o9) :: (tb, instObj 244 td) :: (td, tbD w.params t1 t2 u root many) :: (Z ++ Fz)) := by
    refine nd_cons (fun p hp => Nat.ne_of_lt (lt1 p ?_)) (nd_cons (fun p hp => Nat.ne_of_lt (Nat.lt_succ_of_lt ?_)) nd)
    · simp only [List.mem_cons, List.mem_append, List.cons_append, List.nil_append] at hp ⊢
      rcases hp with e | e | e | e | e
      · exact .inr (.inl e)
      · exact .inr (.inr (.inl e))
      · exact .inr (.inr (.inr (.inl e)))
      · exact .inl e
      · exact .inr (.inr (.inr (.inr e)))
    · simp only [List.mem_cons] at hp
      rcases hp with rfl | rfl | hp
      · exact l1.1
      · exact l1.2.1
      · exact hal p hp
  refine list_loop1 (Str.ofString "many") [Str.ofString "path"] (fun i v nx => ∃ Z' f' tk, v = .int (((ps.flatMap (rsOf f)).take i).countP (eqF face) : Nat) tk ∧ nx = (fl, listOf (rsVals f ps).toArray n1) :: (L' + 1, o9) :: (tb, instObj 244 td) :: (td, tbD w.params t1 t2 u root many) :: (Z' ++ Fz) ∧ ND nx ∧ Tree w.params Z' f' ∧ vOf (f' []) = .ref root ∧ Lean' f' ∧ Fc f face (ps.flatMap (rsOf f)) i f' ∧ ∀ r, RtIn w.params Z r → RtIn w.params Z' r) rfl F1 N2 (.head _) rfl ?_ ?_ ?_ ?_
  · exact ⟨Z, f, _, rfl, rfl, nd0, Tr, hr, hL, Fc.zero, fun _ h => h⟩
  · rintro i v nx ⟨Z', f', tk, rfl, rfl, _⟩; exact .head _
  · rintro i iv v uu nx h tk I oI hv hI hJ9 F3 N3
    try (k_extra "zfold")
    obtain ⟨Z', f', tk9, rfl, rfl, ndx, Tr', hr', hL', hF, hkp⟩ := hJ9
    clear F1 N2 nd0
    obtain ⟨r, hri, rfl⟩ := rsVals_get hv
    obtain ⟨q, hqp, hrq⟩ := List.mem_flatMap.mp (List.mem_of_getElem? hri)
    obtain ⟨k, hpre, hk32, hbits⟩ := hown q r hrq
    obtain ⟨rd, a1, a2, a3, a4, a5, b1, b2, b3, b4, b5, met, hrx, hrd⟩ := (hkp _ (hIN q r hrq)).ex
    rw [hpre] at hrd
    have ndI := nd_cons (o := oI) hI ndx
    have m1 : @Ne Nat fl I := hI _ (.head _)
    have m2 : @Ne Nat (L' + 1) I := hI _ (.tail _ (.head _))
    have m3 : @Ne Nat tb I := hI _ (.tail _ (.tail _ (.head _)))
    have m4 : @Ne Nat td I := hI _ (.tail _ (.tail _ (.tail _ (.head _))))
    k_steps
    · rename_i hfc
      (unfold Hold; w_strict (k_dflt (refine' path_specA (Aa := [_, _, _, _, _]) (mk := false) ?k1 ?k2 ?k3 ?k4 ?k5 ?kK ?u0 ?u1 ?u2 ?u3 ?u4 ?u5 ?kd ?ku ?_; (case k1 => k_asm); (case k2 => k_asm); (case k3 => k_asm); (case k4 => k_asm); (case k5 => k_asm); (case kK => first | exact rfl | assumption); (case u0 => exact ndI); (case u1 => exact Tr'); (case u2 => exact hr'); (case u3 => (refine .tail _ (.tail _ (.tail _ (.head _))))); (case u4 => (refine .tail _ (.tail _ (.tail _ (.tail _ (.head _)))))); (case u5 => assumption); (case kd => ktr_room); (case ku => ktr_units))); intro pl Z1 f1 ii n2 h1 tk1 e1 e2 e3 e4 F1 N1 nd1 Tr1 hkp1; (try dsimp only); (try k_sweep); (try (k_extra "zfold")))
      obtain ⟨rfl, rfl, hik⟩ := e4 rfl
      simp only [List.cons_append, List.nil_append] at N1 nd1
      have hlenp : (pathVals f1 r.net ii).length ≤ 16777216 := by rw [pathVals_length]; omega
      obtain ⟨ndq, hq⟩ : ∃ ndq, f1 (bitsOf r.net ii) = some ndq := by
        cases e : f1 (bitsOf r.net ii) with
        | none => exact absurd e (e2.all _ (Nat.le_refl _))
        | some q => exact ⟨q, rfl⟩
      have hlast := pathVals_last f1 r.net ii
      rw [hq] at hlast
      simp only [vOf] at hlast
      obtain ⟨hix, ⟨s1, s2, s3, hid⟩, ⟨nl, hil⟩, hir⟩ := Tr1.nod _ _ hq
      have hrl : ndq.rs.length ≤ 1000 := by
        have h1 : rsOf f1 (bitsOf r.net ii) = ndq.rs := by unfold rsOf; rw [hq]
        have h2 : (rsOf f (bitsOf r.net ii)).length ≤ 1000 := by
          unfold rsOf
          cases e : f (bitsOf r.net ii) with
          | none => exact Nat.zero_le _
          | some n9 => exact hrs _ _ e
        rw [← h1]
        rcases hF.any (bitsOf r.net ii) with e | e
        · rw [e]; exact h2
        · rw [e]; exact Nat.le_trans (List.length_filter_le _ _) h2
      have hrl2 : (ndq.rs.map fun r => Value.ref r.x).length ≤ 16777216 := by rw [List.length_map]; omega
      have ndz := nd_tail (nd_tail (nd_tail (nd_tail (nd_tail (nd_tail nd1)))))
      have z1 : ∀ p ∈ Z1 ++ Fz, p.1 ≠ pl := fun p hp => nd_head nd1 _ (.tail _ (.tail _ (.tail _ (.tail _ (.tail _ hp)))))
      have z2 : ∀ p ∈ Z1 ++ Fz, p.1 ≠ I := fun p hp => nd_head (nd_tail nd1) _ (.tail _ (.tail _ (.tail _ (.tail _ hp))))
      have z3 : ∀ p ∈ Z1 ++ Fz, p.1 ≠ fl := fun p hp => nd_head (nd_tail (nd_tail nd1)) _ (.tail _ (.tail _ (.tail _ hp)))
      have z4 : ∀ p ∈ Z1 ++ Fz, p.1 ≠ L' + 1 := fun p hp => nd_head (nd_tail (nd_tail (nd_tail nd1))) _ (.tail _ (.tail _ hp))
      have z5 : ∀ p ∈ Z1 ++ Fz, p.1 ≠ tb := fun p hp => nd_head (nd_tail (nd_tail (nd_tail (nd_tail nd1)))) _ (.tail _ hp)
      have z6 : ∀ p ∈ Z1 ++ Fz, p.1 ≠ td := fun p hp => nd_head (nd_tail (nd_tail (nd_tail (nd_tail (nd_tail nd1))))) _ hp
      k_steps
      rename News g' _ _ _ => N5
      rename Fr g' _ _ _ => F5
      unfold Hold
      dsimp only
      refine compT_list (vs := ndq.rs.map fun r => Value.ref r.x) (k := nl) (fun j ys nx => nx = (pl, listOf (pathVals f1 r.net ii).toArray n2) :: (I, oI) :: (fl, listOf (rsVals f ps).toArray n1) :: (L' + 1, o9) :: (tb, instObj 244 td) :: (td, tbD w.params t1 t2 u root many) :: (Z1 ++ Fz) ∧ ys = ((ndq.rs.take j).filter (neF face)).map fun r => Value.ref r.x) rfl F5 N5 ?_ hrl2 ?_ ?_ ?_ ?_
      · refine .tail _ (.tail _ (.tail _ (.tail _ (.tail _ (.tail _ (List.mem_append.mpr (.inl hil)))))))
      · exact ⟨rfl, rfl⟩
      · rintro j ys nx ⟨rfl, _⟩
        refine .tail _ (.tail _ (.tail _ (.tail _ (.tail _ (.tail _ (List.mem_append.mpr (.inl hil)))))))
      · rintro j v ys nx I2 oI2 C oC D m2 h2 tk2 E2 hj hv2 hJ9 hC hx F6 N6 o1 o2 o3 q1 q2 q3
        try (k_extra "zfold")
        obtain ⟨rfl, rfl⟩ := hJ9
        clear F5 N5
        rw [List.length_map] at hj
        have hv3 : v = .ref ndq.rs[j].x := by
          rw [List.getElem?_map, List.getElem?_eq_getElem hj] at hv2
          exact (Option.some.inj hv2).symm
        subst hv3
        obtain ⟨od, c1, c2, c3, c4, c5, d1, d2, d3, d4, d5, omet, hox, hod⟩ := (hir _ (List.getElem_mem hj)).ex
        k_steps
        · unfold Hold
          refine cend_mk (by k_asm) (by k_asm) o1 o2 o3 ⟨rfl, ?_⟩
          rw [List.take_add_one, List.getElem?_eq_getElem hj, List.filter_append, List.map_append]
          have hy : neF face ndq.rs[j] = true := decide_eq_true (by assumption)
          simp [hy]
        · unfold Hold
          refine cend_mk (by k_asm) (by k_asm) o1 o2 o3 ⟨rfl, ?_⟩
          rw [List.take_add_one, List.getElem?_eq_getElem hj, List.filter_append, List.map_append]
          have hy : neF face ndq.rs[j] = false := decide_eq_false (fun h => h (by assumption))
          simp [hy]
      · rintro g9 ys nx ⟨rfl, rfl⟩
        clear F5 N5
        k_steps
        rename _ ∧ _ ∧ _ ∧ _ ∧ _ ∧ _ ∧ _ => oD
        obtain ⟨oD1, oD2, oD3, oD4, oD5, oD6, oD7⟩ := oD
        rename_i Dq hq5 tq5 F5 N5
        rw [List.length_map, List.take_length] at N5
        have zD := off1_mem oD7
        have hrx2 : (r.x, instObj 113 rd) ∈ repl ndq.d (brD w.params s1 s2 s3 (vOf (f1 (bitsOf r.net ii ++ [false]))) (vOf (f1 (bitsOf r.net ii ++ [true]))) Dq) Z1 := mem_repl_ne hrx (nd_ne (nd_left ndz) hrx hid brD_ne_inst2)
        have hrd2 : (rd, rtD w.params a1 a2 a3 a4 a5 b1 b2 b3 b4 b5 r.net (k : Int) r.gw r.face met) ∈ repl ndq.d (brD w.params s1 s2 s3 (vOf (f1 (bitsOf r.net ii ++ [false]))) (vOf (f1 (bitsOf r.net ii ++ [true]))) Dq) Z1 := mem_repl_ne hrd (nd_ne (nd_left ndz) hrd hid fun e => brD_ne5 e.symm)
        k_steps
        rename News g' _ _ _ => N6
        have hneD : ∀ p ∈ [(pl, listOf (pathVals f1 r.net ii).toArray n2), (I, oI), (fl, listOf (rsVals f ps).toArray n1), (L' + 1, o9), (tb, instObj 244 td), (td, tbD w.params t1 t2 u root many)] ++ (Z1 ++ Fz), p.1 ≠ Dq := fun p hp => by
          simp only [List.mem_cons, List.cons_append, List.nil_append] at hp
          rcases hp with rfl | rfl | rfl | rfl | rfl | rfl | hp
          · exact oD1
          · exact oD2
          · exact oD3
          · exact oD4
          · exact oD5
          · exact oD6
          · exact zD p hp
        have lf : Dq ∉ keys Z1 := fun hm => by
          obtain ⟨p, hp, e⟩ := List.mem_map.mp hm
          exact zD p (List.mem_append.mpr (.inl hp)) e
        have Tr2 := Tree.newL (rs := ndq.rs.filter (neF face)) (k := ((ndq.rs.filter (neF face)).map fun r => Value.ref r.x).length) (l' := Dq) (s1 := s1) (s2 := s2) (s3 := s3) Tr1 (nd_left ndz) hq (fun r h => hir r (List.mem_filter.mp h).1) lf rfl rfl
        have N7 := news_inA (l := (Dq, rtL (ndq.rs.filter (neF face)) ((ndq.rs.filter (neF face)).map fun r => Value.ref r.x).length)) (A := [_, _, _, _, _, _]) N6
        have nd7 := nd_inA (o := rtL (ndq.rs.filter (neF face)) ((ndq.rs.filter (neF face)).map fun r => Value.ref r.x).length) (d := ndq.d) (x := brD w.params s1 s2 s3 (vOf (f1 (bitsOf r.net ii ++ [false]))) (vOf (f1 (bitsOf r.net ii ++ [true]))) Dq) (A := [_, _, _, _, _, _]) nd1 hneD
        clear N6
        rw [← pathVals_grow (nd' := ⟨ndq.x, ndq.d, Dq, ndq.rs.filter (neF face)⟩) hq rfl] at N7 nd7
        have hall : ∀ j, j ≤ ii → Mine.grow f1 (bitsOf r.net ii) ⟨ndq.x, ndq.d, Dq, ndq.rs.filter (neF face)⟩ (bitsOf r.net j) ≠ none := fun j hj => by
          by_cases e : bitsOf r.net j = bitsOf r.net ii
          · rw [e, grow_self]; exact fun x => nomatch x
          · rw [grow_ne _ _ e]; exact e2.all j hj
        (unfold Hold; w_strict (k_dflt (refine' prune_specA (Aa := [_, _, _, _, _, _]) ?k1 ?k2 ?k3 ?k4 ?k5 ?kK ?u0 ?u1 ?u2 ?u3 ?u4 ?kd ?ku ?_; (case k1 => k_asm); (case k2 => k_asm); (case k3 => k_asm); (case k4 => k_asm); (case k5 => k_asm); (case kK => first | exact rfl | assumption); (case u0 => exact nd7); (case u1 => exact Tr2); (case u2 => exact .head _); (case u3 => exact hall); (case u4 => omega); (case kd => ktr_room); (case ku => ktr_units))); intro Z4 f4 a4 h4 tk4 hP4 hend4 F4 N4 nd4 Tr4 hkp4; (try dsimp only); (try k_sweep); (try (k_extra "zfold")))
        simp only [List.cons_append, List.nil_append] at N4 nd4
        k_steps
        have hrq1 : rsOf f1 (bitsOf r.net ii) = ndq.rs := by unfold rsOf; rw [hq]
        have hqq : bitsOf r.net r.pre.toNat = bitsOf r.net ii ∨ rsOf f1 (bitsOf r.net r.pre.toNat) = [] := by
          rw [hpre, Int.toNat_natCast]
          by_cases e : ii = k
          · left; rw [e]
          · right
            rcases hik with h | h
            · exact absurd h e
            · unfold rsOf; rw [none_below Tr1.pre h (by omega)]
        refine lend_mk ((fl, listOf (rsVals f ps).toArray n1) :: (L' + 1, o9) :: (tb, instObj 244 td) :: (td, tbD w.params t1 t2 u root many) :: (Z4 ++ Fz)) (by assumption) (by assumption) (fun p hp => .tail _ (.tail _ hp)) (.tail _ (.head _)) (fun p hp => nd_head (nd_tail nd4) p hp) ⟨(fun z hz => by obtain ⟨z1, z2, z3⟩ := not3 hz; simp [z1, z2, z3, List.contains_cons]), _, rfl, Z4, f4, _, congrArg (fun x => Value.int x _) ?_, rfl, nd_tail (nd_tail nd4), Tr4, ?_, Prn.lean2 hL' hq hP4 e2.all hend4, hF.step hri ?_ hqq, fun r hr => hkp4 _ ((RtIn.replD Tr1 (nd_left ndz) hq (hkp _ hr)).mono fun p hp => .tail _ hp)⟩
        · rw [countP_take hri, if_pos (by unfold eqF; simpa using hfc)]; omega
        · rw [hP4.root]; exact (vOf_grow (nd' := ⟨ndq.x, ndq.d, Dq, ndq.rs.filter (neF face)⟩) hq rfl).trans hr'
        · rw [hP4.rs, rsOf_grow, hrq1]
    · rename_i hfc
      refine lend_mk _ (by assumption) (by assumption) (fun p hp => .tail _ hp) (.head _) hI ⟨(fun z hz => by obtain ⟨z1, z2, z3⟩ := not3 hz; simp [z1, z2, z3, List.contains_cons]), _, rfl, Z', f', tk9, ?_, rfl, ndx, Tr', hr', hL', hF.no hri (by assumption), hkp⟩
      rw [countP_take hri, if_neg (by unfold eqF; simpa using hfc)]; rfl
  · rintro v uu nx h tk hJ9 F3 N3
    try (k_extra "zfold")
    obtain ⟨Z', f', tk9, rfl, rfl, ndx, Tr', hr', hL', hF, hkp⟩ := hJ9
    clear F1 N2 nd0
    have hlen : (rsVals f ps).length = (ps.flatMap (rsOf f)).length := by unfold rsVals; rw [List.length_map]
    rw [hlen] at hF
    rw [hlen, List.take_length] at F3
    have m1 : @Ne Nat td fl := nd_head ndx _ (.tail _ (.tail _ (.head _)))
    have m2 : @Ne Nat td (L' + 1) := nd_head (nd_tail ndx) _ (.tail _ (.head _))
    have m3 : @Ne Nat td tb := nd_head (nd_tail (nd_tail ndx)) _ (.head _)
    have htd : ∀ p ∈ Z' ++ Fz, p.1 ≠ td := fun p hp => nd_head (nd_tail (nd_tail (nd_tail ndx))) _ hp
    k_steps
    rename News h₀ _ _ _ => kN
    rename Fr h₀ _ _ _ => kF
    exact hret Z' f' _ _ _ _ _ ps _ hL' (hF.fin (fun q r h => by
      obtain ⟨k, e1, _, e3⟩ := hown q r h
      rw [e1, Int.toNat_natCast]; exact e3) hps2) hps1 hps2 rfl rfl hr' kF (news_tail (news_tail kN)) (nd_keys rfl (nd_tail (nd_tail ndx))) Tr' hkp
end
end Mine

-- part W2
namespace Mine
set_option maxRecDepth 100000
set_option maxHeartbeats 8000000
set_option pp.deepTerms false
set_option pp.deepTerms.threshold 4
set_option pp.maxSteps 100000

section
variable {prog : Program} {w : World} {A : Around} {E : Value → Shared → Prop} {s : Shared} {h₀ : Heap} {L : Addr} {m : Str → Option Value} {news : List (Addr × Obj)}
theorem cut2_applied {sl : Addr} {u : Tok} {Q : Int × Int × Nat → Shared → Prop} (hs : s.heap.IsSliceOf sl .none (.int 2 u) .none) (h : Q ((0 : Int), 1, 2) s) :
    wpAny (model prog w) A (Builtin.Slice.sliceApplied (.ref sl) (pure (4 : Int))) Q E s := by
  obtain ⟨os, hos, hcs, hds⟩ := id hs
  unfold Builtin.Slice.sliceApplied Builtin.Slice.sliceFields
  refine wpAny_bind (wpAny_bind (wpAny_field hos hds (x := .none) rfl (wpAny_bind (wpAny_field hos hds (x := .int 2 u) rfl (wpAny_bind (wpAny_field hos hds (x := .none) rfl (wpAny_pure ?_)))))))
  refine wpAny_bind (slicePart_none ?_)
  show wpAny _ _ (if ((1 : Int) == 0) = true then _ else _) _ _ s
  rw [if_neg (by decide)]
  refine wpAny_bind (slicePart_none (wpAny_bind (slicePart_int (wpAny_bind (wpAny_pure ?_)))))
  exact wpAny_pure h
theorem cut2_get {t sl : Addr} {v0 v1 v2 v3 : Value} {u : Tok} {Q : Value → Shared → Prop} (ht : IsTup s.heap t #[v0, v1, v2, v3]) (hs : s.heap.IsSliceOf sl .none (.int 2 u) .none)
    (h : Q (.ref s.heap.objs.size) { s with heap := s.heap.push { cls := .type "tuple", data := .seq #[v0, v1] } }) : wpAny (model prog w) A (getItem (.ref t) (.ref sl)) Q E s := by
  have hdrop : sizeOk (.seq #[v0, v1]) := by
    show (#[v0, v1] : Array Value).size ≤ sizeLine
    rw [sizeLine_eq]; show 2 ≤ 16777216; decide
  obtain ⟨os, hos, hcs, hds⟩ := id hs
  have hTs : s.TypeIs (.ref sl) "slice" := ⟨os, hos, hcs⟩
  unfold getItem
  try with_reducible refine wpAny_holding ?_
  first | refine wpAny_bind (wpAny_pure ?_) | skip
  refine wpAny_bind (wpAny_sequenceKey ht.typeIs (by decide) ?_)
  refine wpAny_bind (wpAny_callSpecial?_slot (name := Str.ofString "__getitem__") ht.typeIs slot_tuple_getitem
    (wpAny_call_entry slot_tuple_getitem ht.typeIs entry_tuple_getitem ?_ (args_tuple_getitem _ _)))
  show wpAny _ _ (Builtin.Tuple.tupleItemsOf (.ref t) >>= _) _ _ s
  refine wpAny_bind (tupleItemsOf_ ht ?_)
  refine wpAny_bind (wpAny_typeOf hTs ?_)
  rw [if_pos (by decide)]
  refine wpAny_bind (cut2_applied hs ?_)
  first
    | exact wpAny_bind (m := Builtin.Tuple.tupleExact _) (wpAny_newObj_type (wpAny_pure ⟨_, rfl, wpAny_pure h⟩) hdrop)
    | exact wpAny_bind (m := Builtin.Tuple.tupleExact _) (wpAny_newObj_type (wpAny_bind (wpAny_pure (wpAny_pure ⟨_, rfl, wpAny_pure h⟩))) hdrop)
    | exact wpAny_bind (wpAny_bind (m := Builtin.Tuple.tupleExact _) (wpAny_newObj_type (wpAny_pure (wpAny_pure ⟨_, rfl, wpAny_pure h⟩)) hdrop))
    | exact wpAny_bind (wpAny_bind (m := Builtin.Tuple.tupleExact _) (wpAny_newObj_type (wpAny_pure ⟨_, rfl, wpAny_pure h⟩) hdrop))
theorem my_cut2 {value slice : Expr} {t : Addr} {v0 v1 v2 v3 : Value} {u : Tok} {Q : Value → Shared → Prop}
    (F : Fr h₀ L s.heap m) (N : News h₀ L s.heap news) (hm : (t, tupO [v0, v1, v2, v3]) ∈ news)
    (h : ∀ D h', Fr h₀ L h' m → News h₀ L h' ((D, tupO [v0, v1]) :: news) → (∀ p ∈ news, p.1 < D) → Q (.ref D) { s with heap := h' })
    (hs : subscripted slice false (.ref t) (.ref s.heap.objs.size) = operate [.ref s.heap.objs.size, .ref t] (getItem (.ref t) (.ref s.heap.objs.size)) := by with_unfolding_all rfl)
    (hg : ∀ r, letTemporaryGo value (.ref t) r = pure () := by intro _; with_unfolding_all rfl) :
    wpAny (model prog w) A (subscriptTail value slice (.ref t) (.ref s.heap.objs.size)) Q E { s with heap := s.heap.push { cls := .type "slice", data := .fields #[.none, .int 2 u, .none] } } := by
  have ht : IsTup s.heap t #[v0, v1, v2, v3] := News.isTup N hm
  have ht' : IsTup (s.heap.push { cls := .type "slice", data := .fields #[.none, .int 2 u, .none] }) t #[v0, v1, v2, v3] := ht.keeps fun _ _ e => Heap.get?_push_of_some _ e
  refine subscriptTail_ops (s := { s with heap := s.heap.push { cls := .type "slice", data := .fields #[.none, .int 2 u, .none] } }) ht'.typeIs slot_tuple_getitem.lookup
    (cut2_get ht' (Heap.IsSliceOf.new ..) ?_) hs hg
  have N1 := News.push (F.push { cls := .type "slice", data := .fields #[.none, .int 2 u, .none] }) (N.grown fun _ _ e => Heap.get?_push_of_some _ e) { cls := .type "tuple", data := .seq #[v0, v1] }
  rw [Heap.size_push] at N1
  show Q (.ref (s.heap.push _).objs.size) _
  rw [Heap.size_push]
  exact h _ _ ((F.push _).push _) N1 fun p hp => Nat.lt_succ_of_lt (Heap.lt_size (N p hp).1)
end
end Mine

-- part A2
namespace Mine
set_option maxRecDepth 100000
set_option maxHeartbeats 8000000
set_option pp.deepTerms false
set_option pp.deepTerms.threshold 4
set_option pp.maxSteps 100000


theorem news_in2 {h₀ h : Heap} {L : Addr} {M Z W : Led} {b d : Addr × Obj} (N : News h₀ L h (M ++ (b :: d :: (Z ++ W)))) : News h₀ L h (b :: d :: (Z ++ (M ++ W))) := news_sub N fun p hp => by
  simp only [List.mem_cons, List.mem_append] at hp ⊢
  rcases hp with e | e | e | e | e
  · exact .inr (.inl e)
  · exact .inr (.inr (.inl e))
  · exact .inr (.inr (.inr (.inl e)))
  · exact .inl e
  · exact .inr (.inr (.inr (.inr e)))
theorem nd_in2 {M Z W : Led} {b d : Addr × Obj} (h : ND (M ++ (b :: d :: (Z ++ W)))) : ND (b :: d :: (Z ++ (M ++ W))) := by
  refine nd_perm ?_ h
  unfold keys
  simp only [List.map_cons, List.map_append]
  refine List.perm_iff_count.mpr fun x => ?_
  simp only [List.count_cons, List.count_append]; omega
theorem Inv.rsl {f : Fm} {rows : List Row} (I : Inv f rows) (hlen : rows.length ≤ 1000) : ∀ q nd, f q = some nd → nd.rs.length ≤ 1000 := fun q nd h => by
  have h1 := (I.cor q).length_eq
  have h2 : rsOf f q = nd.rs := by unfold rsOf; rw [h]
  rw [List.length_map, h2] at h1
  rw [h1]
  exact Nat.le_trans (List.length_filter_le _ _) hlen
theorem due_mem {f : Fm} {rows : List Row} {ss : List Str} {q : Path} (hW : Wants f rows) (p : ss.Perm (metK (txt [] :: rows.flatMap prefs))) : ss.contains (txt q) = decide (f q ≠ none) := by
  rw [Bool.eq_iff_iff, List.contains_iff_mem, decide_eq_true_eq, p.mem_iff, metK_mem, List.mem_cons, List.mem_flatMap, hW q]
  constructor
  · rintro (e | ⟨row, hr, hz⟩)
    · exact .inl (txt_inj e)
    · obtain ⟨j, hj, e⟩ := mem_prefs.mp hz
      exact .inr ⟨row, hr, j, hj, txt_inj e⟩
  · rintro (rfl | ⟨row, hr, j, hj, rfl⟩)
    · exact .inl rfl
    · exact .inr ⟨row, hr, mem_prefs.mpr ⟨j, hj, rfl⟩⟩
theorem nd_cells3 {L : Addr} {o1 o2 o3 : Obj} {Z : Led} (h : AllLt L Z) (nd : ND Z) : ND ((L + 1 + 1 + 1, o3) :: (L + 1 + 1, o2) :: (L + 1, o1) :: Z) := nd_tail (nd_cells (o4 := o3) h nd)
theorem abs3 {h₀ h : Heap} {L : Addr} {T Z W : Led} {c3 c2 c1 s b d : Addr × Obj} (N : News h₀ L h (T ++ (c3 :: c2 :: c1 :: s :: b :: d :: (Z ++ W)))) (nd : ND (c3 :: c2 :: c1 :: s :: b :: d :: (Z ++ W))) :
    ∃ W9, News h₀ L h (s :: b :: d :: (Z ++ W9)) ∧ ND (s :: b :: d :: (Z ++ W9)) ∧ (∀ p ∈ W, p ∈ W9) ∧ c3 ∈ W9 ∧ c2 ∈ W9 ∧ c1 ∈ W9 :=
  ⟨[c3, c2, c1] ++ W, news_out (M := [c3, c2, c1]) (news_sub N fun p hp => mem_appR hp), nd_out (M := [c3, c2, c1]) nd, fun p hp => mem_appR hp, .head _, .tail _ (.head _), .tail _ (.tail _ (.head _))⟩
section
open PyProof.Rows.LCg PyProof.Rows.LCt


variable {prog : Program} {w : World} {p : Program} {loose : List Str} {mean : ExcName → Option Value} {mg mb : Str → Option Value}
    {dp un : Nat} {gd : Option (List Code)} {cn : Str} {cs : Scope} {a : Addr} {ccd : Value} {cl : List (Str × Addr)} {outer : List Env} {A₀ : Around} {base h₀ : Heap} {L : Addr} {m : Str → Option Value} {news : List (Addr × Obj)} {s : Shared} {Q E : Value → Shared → Prop}

theorem zsetA21 : True := by
  k_with_none
  k_with "z_ch" => first | with_reducible assumption | (refine' And.right ?_; rotate_left; first | with_reducible assumption | (refine' And.right ?_; rotate_left; first | with_reducible assumption | (refine' And.right ?_; rotate_left; first | with_reducible assumption | (refine' And.right ?_; rotate_left; first | with_reducible assumption | (refine' And.right ?_; rotate_left; first | with_reducible assumption | (refine' And.right ?_; rotate_left; first | with_reducible assumption | (refine' And.right ?_; rotate_left; with_reducible assumption)))))))
  k_with "z_lt" => first | with_reducible assumption | (refine' And.left ?_; rotate_left; k_extra "z_ch") | (refine' And.right ?_; rotate_left; k_extra "z_ch")
  k_with "k_ne" => (refine neN ?_; (try dsimp only); first | (refine' Nat.ne_of_gt ?_; k_extra "z_lt") | (refine' Nat.ne_of_lt ?_; k_extra "z_lt") | (refine' Nat.ne_of_gt (Nat.lt_trans ?_ (by with_reducible assumption)); k_extra "z_lt") | (refine' Nat.ne_of_lt (Nat.lt_trans ?_ (by with_reducible assumption)); k_extra "z_lt"))
  k_with "zfold" => ((fail_if_success (fail_if_success k_fold)); refine zfold_q ?_; intro qk)
  k_with "k_env" => (refine zfold_env (f := fun en9 => execs _ en9) ?_; intro en9; refine zfold_A ?_; intro ak9; (rename Fr _ _ _ _ => fr9); refine zfold_F fr9 ?_; clear fr9; intro fm9 fr9; try (refine zgen_t ?_; intro tk9))
  k_with "ktr_room" => first | exact fits (c := 1) hdp rfl rfl | exact fits0 (c := 1) hdp rfl rfl | exact fits (c := 2) hdp rfl rfl | exact fits0 (c := 2) hdp rfl rfl | exact fits (c := 0) hdp rfl rfl | exact fits0 (c := 0) hdp rfl rfl | exact fits (c := 3) hdp rfl rfl | exact fits0 (c := 3) hdp rfl rfl | exact Nat.le_of_ble_eq_true rfl
  k_with "ktr_units" => first | exact fits (c := 3) hun rfl rfl | exact fits0 (c := 3) hun rfl rfl | exact fits (c := 6) hun rfl rfl | exact fits0 (c := 6) hun rfl rfl | exact fits (c := 0) hun rfl rfl | exact fits0 (c := 0) hun rfl rfl | exact fits (c := 9) hun rfl rfl | exact fits0 (c := 9) hun rfl rfl | exact Nat.le_of_ble_eq_true rfl
  k_with "k_steps" => repeat' (first | (k_unfold; (try dsimp only); (try clear qk)) | (k_end; wrow_close) | walk1 | (dsimp only; walk1) | (leave1; try dsimp only) | fail "no step")
  k_with "execs cons" => (k_extra "zfold"; walk1)
  k_with "exec If" => (k_extra "zfold"; walk1)
  k_with "exec Assign" => (k_extra "zfold"; walk1)
  k_with "exec Expr" => (k_extra "zfold"; walk1)
  k_with "exec Return" => (k_extra "zfold"; walk1)
  k_with "isTrue" => (k_extra "zfold"; walk1)
  k_with "eval BinOp" => (k_extra "zfold"; walk1)
  k_with "eval BoolOp" => (k_extra "zfold"; walk1)
  k_with "eval UnaryOp" => (k_extra "zfold"; walk1)
  k_with "eval Call" => (k_extra "zfold"; walk1)
  k_with "eval Compare" => (k_extra "zfold"; walk1)
  k_with "eval Subscript" => (k_extra "zfold"; walk1)
  k_with "eval Attribute" => (k_extra "zfold"; walk1)
  k_with "eval Tuple" => (k_extra "zfold"; walk1)
  k_with "eval List nil" => (k_extra "zfold"; walk1)
  k_with "eval List cons" => (k_extra "zfold"; walk1)
  k_with "k_mem" => first | assumption | (with_reducible refine mem_appL ?_; assumption) | (with_reducible refine mem_appR ?_; assumption) | (with_reducible refine List.mem_append.mpr (Or.inl ?_); assumption) | (with_reducible refine List.mem_append.mpr (Or.inr ?_); assumption)
  k_with "k_ne" => (first | (refine' ne_neA ?zqh ?zqm; (case zqm => assumption); (case zqh => assumption)) | (refine' ne_between ?zqm ?zqh ?zqle; (case zqm => assumption); (case zqh => tbn_find); (case zqle => omega)))
  k_with "k_room" => ktr_room
  k_with "k_all" => first | assumption | (refine all_repl ?_; first | assumption | (refine tbn_neAll ?_; tbn_find))
  k_with "k_upd" => exact upd_repl (by assumption) (by assumption)
  k_with "ktr_rel" => (repeat (first | exact Same.refl | exact Same.of2 | exact Same.of | refine Same.set ?_ (by rfl)))
  k_with "tb_start" => (intro _ hp9; (repeat (refine List.Mem.tail _ ?_)); first | exact hp9 | exact List.mem_append.mpr (Or.inl hp9) | exact List.mem_append.mpr (Or.inr hp9))
  k_with "LPost" => (dsimp only [LPost])
  k_with "pyIter ref" => (refine Hold.mk ?_)
  k_with "call builtin:list.append" => (k_here; (with_reducible show wpAny _ _ (call (Value.builtin _) [Value.ref _, _]) _ _ _); k_dflt (refine' my_append ?zqk1 ?zqk2 ?zqk3 ?zqz ?_; (case zqk1 => k_asm); (case zqk2 => k_asm); (case zqk3 => k_upd); (case zqz => assumption); k_whole); intro _ _ _; (try k_sweep))
  k_with "call builtin:len" => (k_here; k_dflt (refine' my_len ?zqN ?zqm ?zqf ?_; (case zqN => k_asm); (case zqm => k_mem); (case zqf => assumption); k_whole))
  k_with "subscriptTail" => (k_here; k_dflt (refine' my_itemE ?zqN ?zqm ?zqv ?zqa ?zqf ?_ ?zqhs; (case zqN => k_asm); (case zqm => k_mem); (case zqv => with_reducible assumption); (case zqa => omega); (case zqf => assumption); (case zqhs => with_unfolding_all rfl); k_whole))
  k_with "subscriptTail Name UnaryOp ref int" => (k_here; k_dflt (refine' my_itemE ?zqN ?zqm ?zqv ?zqa ?zqf ?_ ?zqhs; (case zqN => k_asm); (case zqm => k_mem); (case zqv => with_reducible assumption); (case zqa => omega); (case zqf => assumption); (case zqhs => with_unfolding_all rfl); k_whole))
  k_with "subscriptTail" => (k_here; (with_reducible show wpAny _ _ (subscriptTail _ _ (Value.ref _) (Value.int (-1) _)) _ _ _); k_dflt (refine' my_last ?zqN ?zqm ?zqv ?zqf ?_ ?zqhs; (case zqN => k_asm); (case zqm => k_mem); (case zqv => with_reducible assumption); (case zqf => assumption); (case zqhs => with_unfolding_all rfl); k_whole))
  k_with "subscriptTail Name UnaryOp ref int" => (k_here; (with_reducible show wpAny _ _ (subscriptTail _ _ (Value.ref _) (Value.int (-1) _)) _ _ _); k_dflt (refine' my_last ?zqN ?zqm ?zqv ?zqf ?_ ?zqhs; (case zqN => k_asm); (case zqm => k_mem); (case zqv => with_reducible assumption); (case zqf => assumption); (case zqhs => with_unfolding_all rfl); k_whole))
  k_with "exec For Name Call cons nil" => (k_here; (rename Fr _ _ _ _ => lF'); (with_unfolding_all refine' For_invVF lF' ?zqk1 ?zqk2 ?_; (case zqk1 => exact rfl); (case zqk2 => exact rfl); k_whole))
  k_with "k_mem" => ((repeat (first | with_reducible assumption | with_reducible exact List.Mem.head _ | (with_reducible refine List.Mem.tail _ ?_) | (with_reducible refine mem_appL ?_; with_reducible assumption) | with_reducible refine mem_appR ?_)); done)
  k_with "binaryOp Pow int int" => (with_reducible refine pow_int_small ?zqkb1 ?zqkb2 ?zqkb3 ?_; (case zqkb1 => omega); (case zqkb2 => omega); (case zqkb3 => decide))
  k_with "binaryOp Pow int int" => (with_reducible refine pow_lit (k := 24) (z := 16777216) (by decide +kernel) (by decide) (by decide) ?_)
  k_with "binaryOp Pow int int" => (with_reducible refine pow_lit (k := 28) (z := 268435456) (by decide +kernel) (by decide) (by decide) ?_)
  k_with "binaryOp Pow int int" => (with_reducible refine pow_lit (k := 31) (z := 2147483648) (by decide +kernel) (by decide) (by decide) ?_)
  k_with "binaryOp Pow int int" => (with_reducible refine pow_lit (k := 32) (z := 4294967296) (by decide +kernel) (by decide) (by decide) ?_)
  k_with "binaryOp Mult int int" => (with_reducible refine mul_lit (x := 127) (y := 16777216) (z := 2130706432) (by decide) (by decide) (by decide) ?_)
  k_with "binaryOp Mult int int" => (with_reducible refine mul_lit (x := 128) (y := 16777216) (z := 2147483648) (by decide) (by decide) (by decide) ?_)
  k_with "binaryOp Mult int int" => (with_reducible refine mul_lit (x := 160) (y := 16777216) (z := 2684354560) (by decide) (by decide) (by decide) ?_)
  k_with "binaryOp Mult int int" => (with_reducible refine mul_lit (x := 163) (y := 16777216) (z := 2734686208) (by decide) (by decide) (by decide) ?_)
  k_with "binaryOp Mult int int" => (with_reducible refine mul_lit (x := 224) (y := 16777216) (z := 3758096384) (by decide) (by decide) (by decide) ?_)
  k_with "call ref" => (k_here; k_dflt (refine' bits_spec ?zqk1 ?zqk2 ?zqk3 ?zqk4 ?zqk5 ?zqkK  ?zqkd ?zqku ?_; (case zqk1 => k_asm); (case zqk2 => k_asm); (case zqk3 => k_asm); (case zqk4 => k_asm); (case zqk5 => k_asm); (case zqkK => first | exact rfl | assumption);  (case zqkd => ktr_room); (case zqku => ktr_units); k_whole; intro _ _ _ _ _; (try dsimp only); (try k_sweep); (try (k_extra "zfold"))))
  k_with "call ref" => (k_here; (with_reducible show wpAny _ _ (call (Value.ref 288) _) _ _ _); refine Hold.mk ?_)
  k_with "call ref" => (k_here; (with_reducible show wpAny _ _ (call (Value.ref 262) _) _ _ _); refine Hold.mk ?_)
  k_with "call ref" => (k_here; (with_reducible show wpAny _ _ (call (Value.ref 220) _) _ _ _); refine Hold.mk ?_)
  k_with "call ref" => (k_here; (with_reducible show wpAny _ _ (call (Value.ref 215) _) _ _ _); refine Hold.mk ?_)
  k_with "call ref" => (k_here; (with_reducible show wpAny _ _ (call (Value.ref 201) _) _ _ _); refine Hold.mk ?_)
  k_with "call ref" => (k_here; (with_reducible show wpAny _ _ (call (Value.ref 300) _) _ _ _); refine Hold.mk ?_)
  k_with "call ref" => (k_here; (with_reducible show wpAny _ _ (call (Value.ref 152) _) _ _ _); refine Hold.mk ?_)
  k_with "call ref" => (k_here; (with_reducible show wpAny _ _ (call (Value.ref 227) _) _ _ _); refine Hold.mk ?_)
  k_with "subscriptTail" => (k_here; (with_reducible show wpAny _ _ (subscriptTail _ _ (Value.ref _) (Value.ref _)) _ _ _); k_dflt (refine' my_cut2 ?zqF ?zqN ?zqm ?_ ?zqhs ?zqhg; (case zqF => k_asm); (case zqN => k_asm); (case zqm => repeat (first | assumption | refine List.Mem.tail _ ?_)); (case zqhs => with_unfolding_all rfl); (case zqhg => (intro _; with_unfolding_all rfl)); k_whole); intro _ _ _ _ l1; (try k_lt l1); (try k_sweep))
  k_with "subscriptTail Name UnaryOp ref int" => (k_here; (with_reducible show wpAny _ _ (subscriptTail _ _ (Value.ref _) (Value.ref _)) _ _ _); k_dflt (refine' my_cut2 ?zqF ?zqN ?zqm ?_ ?zqhs ?zqhg; (case zqF => k_asm); (case zqN => k_asm); (case zqm => repeat (first | assumption | refine List.Mem.tail _ ?_)); (case zqhs => with_unfolding_all rfl); (case zqhg => (intro _; with_unfolding_all rfl)); k_whole); intro _ _ _ _ l1; (try k_lt l1); (try k_sweep))
  k_with "compareOp NotEq ref ref" => (refine Hold.mk ?_)
  k_with "compareOp In str ref" => (refine Hold.mk ?_)
  k_with "CompSrcT" => (refine Hold.mk ?_)
  k_with "CEnd" => (refine Hold.mk ?_)
  exact trivial
theorem changed_spec {Z W : Led} {f : Fm} {src tb td root rl : Addr} {os : Obj} {many : Int} {t1 t2 u : Tok} {vs : List Value} {n : Nat} {rows : List Row}
    (B : Below A₀ base outer h₀) (F : Fr h₀ L s.heap m) (X : (KK w.params).In h₀) (N : News h₀ L s.heap ((src, os) :: (tb, instObj 244 td) :: (td, tbD w.params t1 t2 u root many) :: (Z ++ W))) (T : Top p loose mean mg mb h₀) (hk : cs.kind = .function)
    (nd : ND ((src, os) :: (tb, instObj 244 td) :: (td, tbD w.params t1 t2 u root many) :: (Z ++ W))) (hS : Src os) (Tr : Tree w.params Z f) (hr : vOf (f []) = .ref root)
    (I : Inv f rows) (hl : (rl, listOf vs.toArray n) ∈ W) (hR : RowsAre W vs rows) (hlen : rows.length ≤ 5) (hmany : many = (rows.length : Int))
    (hdp : dp + 60 < recursionLimit) (hun : un + 1200 < cLine)
    (hret : ∀ rl' (vs' : List Value) n' (rows' : List Row) os' Z' W' f' many' u' h' tk' d, Src os' → Inv f' rows' → rows'.length ≤ rows.length → many' = (rows'.length : Int) → Tree w.params Z' f' → vOf (f' []) = .ref root → (rl', listOf vs'.toArray n') ∈ W' → RowsAre W' vs' rows' → (∀ p ∈ W, p ∈ W') →
      Fr h₀ L h' m → News h₀ L h' ((src, os') :: (tb, instObj 244 td) :: (td, tbD w.params t1 t2 u' root many') :: (Z' ++ W')) → ND ((src, os') :: (tb, instObj 244 td) :: (td, tbD w.params t1 t2 u' root many') :: (Z' ++ W')) → Q (.ref rl') { s with heap := h', toks := tk', drawn := d }) :
    wpAny (model prog w) (ktrTop dp un gd cn cs L a ccd cl outer) (call (.ref 317) [.ref src, .ref tb, .ref rl]) Q E s := by
  have ns1 : @Ne Nat tb src := nd_head nd _ (.head _)
  have ns2 : @Ne Nat td src := nd_head nd _ (.tail _ (.head _))
  have ns3 : @Ne Nat td tb := nd_head (nd_tail nd) _ (.head _)
  have zs : ∀ p ∈ Z ++ W, p.1 ≠ src := fun p hp => nd_head nd _ (.tail _ (.tail _ hp))
  have zb : ∀ p ∈ Z ++ W, p.1 ≠ tb := fun p hp => nd_head (nd_tail nd) _ (.tail _ hp)
  have zd : ∀ p ∈ Z ++ W, p.1 ≠ td := fun p hp => nd_head (nd_tail (nd_tail nd)) _ hp
  have hvl : vs.length = rows.length := hR.1
  have hvz : vs.length ≤ 16777216 := by omega
  (refine wpAny_call ?_; k_dflt (refine' code_defC ?k1 ?k2 ?k3 ?k4 ?k5 ?kA ?kF ?kK ?k6 ?k7 ?k8 ?k9 ?kB ?kD ?_ ?c2 ?c3 ?c4; (case kA => exact rfl); (case kF => exact rfl); (case kK => assumption); (case k1 => k_asm); (case k2 => k_asm); (case k3 => k_asm); (case k4 => k_asm); (case k5 => k_asm); (case k6 => k_is); (case k7 => k_is); (case k8 => ktr_room); (case k9 => exact BindsTo.of_eq rfl); (case kB => exact rfl); (case kD => decide +kernel); (case c2 => exact rfl); (case c3 => exact rfl); (case c4 => exact rfl); k_whole; intro g' L' h' tk' cells' FG' F' N' Y' B' X' T' l1; (try k_lt l1); k_cells Y'; (try simp only [List.cons_append, List.nil_append] at N'); (try dsimp only); (try k_fold)); try (w_strict (k_extra "k_env")); (refine zfold_e ?_; intro ek))
  obtain ⟨zc1, zc2, zc3, zc4⟩ := cells_off l1.2.2.2
  have ndc := nd_cells3 (o1 := os) (o2 := os) (o3 := os) (L := L') (Z := (src, os) :: (tb, instObj 244 td) :: (td, tbD w.params t1 t2 u root many) :: (Z ++ W)) l1 nd
  k_steps
  (unfold Hold; w_strict (k_dflt (refine' take_S ?k1 ?k2 ?k3 ?k4 ?k5 ?kK ?u0 ?u1 ?u2 ?u3 ?kd ?ku ?_; (case k1 => k_asm); (case k2 => k_asm); (case k3 => k_asm); (case k4 => k_asm); (case k5 => k_asm); (case kK => first | exact rfl | assumption); (case u0 => k_updF); (case u1 => assumption); (case u2 => decide); (case u3 => decide); (case kd => ktr_room); (case ku => ktr_units))); intro way tw os1 h1 tk1 hw0 hw1 hS1 F1 N1; (try dsimp only); (try k_sweep); (try (k_extra "zfold")))
  obtain rfl | rfl | rfl : way = 0 ∨ way = 1 ∨ way = 2 := by omega
  · clear hw0 hw1
    k_steps
    (unfold Hold; w_strict (k_dflt (refine' take_S ?k1 ?k2 ?k3 ?k4 ?k5 ?kK ?u0 ?u1 ?u2 ?u3 ?kd ?ku ?_; (case k1 => k_asm); (case k2 => k_asm); (case k3 => k_asm); (case k4 => k_asm); (case k5 => k_asm); (case kK => first | exact rfl | assumption); (case u0 => k_updF); (case u1 => assumption); (case u2 => decide); (case u3 => decide); (case kd => ktr_room); (case ku => ktr_units))); intro face tf os2 h2 tk2 hf0 hf1 hS2 F2 N2; (try dsimp only); (try k_sweep); (try (k_extra "zfold")))
    k_steps
    rename News g' _ _ _ => N5a
    obtain ⟨W9, N5, nd9, hsub, mc3, mc2, mc1⟩ := abs3 (T := []) N5a (nd_keys rfl ndc)
    clear N5a ndc ns1 ns2 ns3 zs zb zd zc1 zc2 zc3 zc4 nd
    replace hl := hsub _ hl
    replace hR := hR.mono hsub
    rename Fr g' _ _ _ => F5
    unfold Hold
    try dsimp only
    have hl1 : (rl, listOf vs.toArray n) ∈ Z ++ W9 := List.mem_append.mpr (.inr hl)
    refine compT_list (vs := vs) (k := n) (fun j ys nx => nx = (_ :: _ :: _ :: (Z ++ W9)) ∧ RowsAre W9 ys ((rows.take j).filter (fun row => decide (row.face ≠ face)))) rfl F5 N5 (by repeat (first | exact hl1 | refine List.Mem.tail _ ?_)) (by omega) ⟨rfl, RowsAre.nil⟩ ?_ ?_ ?_
    · rintro j ys nx ⟨rfl, _⟩
      repeat (first | exact hl1 | refine List.Mem.tail _ ?_)
    · rintro j v ys nx I2 oI2 C oC D9 m2 h2' tk2' E2 hj hv2 hJ9 hC hx F6 N6 o1 o2 o3 r1 r2 r3
      try (k_extra "zfold")
      obtain ⟨rfl, hy⟩ := hJ9
      clear F5 N5
      have hj' : j < rows.length := by omega
      obtain ⟨ra, t0, t1', t2', t3, rfl, hra⟩ := hR.2 j v rows[j] hv2 (List.getElem?_eq_getElem hj')
      have hra1 : (ra, rowO t0 t1' t2' t3 rows[j]) ∈ Z ++ W9 := List.mem_append.mpr (.inr hra)
      k_steps
      · unfold Hold
        exact cend_mk (by k_asm) (by k_asm) o1 o2 o3 ⟨rfl, RowsAre.filt _ hj' hy ⟨ra, t0, t1', t2', t3, rfl, hra⟩ (decide_eq_true (by assumption))⟩
      · unfold Hold
        exact cend_mk (by k_asm) (by k_asm) o1 o2 o3 ⟨rfl, RowsAre.skip _ hj' hy (decide_eq_false (fun h => h (by assumption)))⟩
    · rintro g9 ys nx ⟨rfl, hy⟩
      clear F5 N5
      rw [hvl, List.take_length] at hy
      have hyl : ys.length ≤ rows.length := by rw [hy.1]; exact List.length_filter_le _ _
      have hyz : ys.length ≤ 16777216 := by omega
      k_steps
      rename _ ∧ _ ∧ _ ∧  Off1 _ _ => af
      rename News g' _ _ _ => N6
      have nd6 : ND ([(_, os), (src, os2)] ++ ((tb, instObj 244 td) :: (td, tbD w.params t1 t2 u root many) :: (Z ++ W9))) := nd_off1 (o := os) nd9 af
      have N7 : News _ _ _ ([(_, _), (src, os2)] ++ ((tb, instObj 244 td) :: (td, tbD w.params t1 t2 u root many) :: (Z ++ W9))) := N6
      have N8 := news_in2 N7
      clear N6 N7
      (unfold Hold; w_strict (k_dflt (refine' face_spec (ds := ownPrefs rows) (Z := Z) (f := f) ?k1 ?k2 ?k3 ?k4 ?k5 ?kK ?u0 ?u1 ?u2 ?u3 ?u4 ?u5 ?u6 ?u7 ?kd ?ku ?_; (case k1 => k_asm); (case k2 => k_asm); (case k3 => k_asm); (case k4 => k_asm); (case k5 => k_asm); (case kK => first | exact rfl | assumption); (case u0 => exact nd_keys (by unfold keys; simp only [List.map_cons, List.map_append, List.map_nil]) (nd_in2 nd6)); (case u1 => exact Tr); (case u2 => exact hr); (case u3 => exact I.lean); (case u4 => exact I.rsl (by omega)); (case u5 => exact (I.wants Tr.pre Tr.root Tr.fin).ds); (case u6 => exact Nat.le_trans (ownPrefs_len fun row h => (I.net row h).1) (by omega)); (case u7 => exact I.own'); (case kd => ktr_room); (case ku => ktr_units))); intro Z1 f1 many1 u1 tv1 h3 tk3 ps c hL1 hrs1 hn1 hps1 hc hm1 hr1 F9 N9 nd9 Tr1 hkp1; (try dsimp only); (try k_sweep); (try (k_extra "zfold")))
      have N10 := news_back N9
      have nd10 := nd_back nd9
      clear N9 nd9
      simp only [List.cons_append, List.nil_append] at N10
      have hl2 : (rl, listOf vs.toArray n) ∈ Z1 ++ W9 := List.mem_append.mpr (.inr hl)
      obtain ⟨I1, hct⟩ := I.face hL1 hrs1 hn1 hps1
      have hyl2 : ys.length = (rows.filter fun row => decide (row.face ≠ face)).length := hy.1
      k_steps
      · rename News h₀ _ _ _ => kN
        rename Fr h₀ _ _ _ => kF
        have kN2 : News h₀ L _ ([(_, _)] ++ ((src, os2) :: (tb, instObj 244 td) :: (td, tbD w.params t1 t2 u1 root many1) :: (Z1 ++ W9))) := kN
        have kN3 := news_out kN2
        have e5 : ND ([(_, os)] ++ ((src, os2) :: (tb, instObj 244 td) :: (td, tbD w.params t1 t2 u1 root many1) :: (Z1 ++ W9))) := nd_keys (by unfold keys; simp only [List.map_cons, List.map_append, List.map_nil, List.cons_append, List.nil_append]; try rfl) nd10
        have e6 := nd_out e5
        refine hret _ ys _ _ os2 Z1 _ f1 many1 u1 _ _ _ hS2 I1 (List.length_filter_le _ _) (by omega) Tr1 hr1 (.head _) (hy.mono fun p hp => by repeat (first | exact hp | refine List.Mem.tail _ ?_)) (fun p hp => .tail _ (hsub _ hp)) kF kN3 (nd_keys ?_ e6)
        unfold keys; simp only [List.map_cons, List.map_append, List.cons_append, List.nil_append]; try rfl
      · exfalso
        omega
  · clear hw0 hw1
    k_steps
    (unfold Hold; w_strict (k_dflt (refine' net_drawU ?k1 ?k2 ?k3 ?k4 ?k5 ?kK ?u0 ?u1 ?kd ?ku ?_; (case k1 => k_asm); (case k2 => k_asm); (case k3 => k_asm); (case k4 => k_asm); (case k5 => k_asm); (case kK => first | exact rfl | assumption); (case u0 => k_updF); (case u1 => assumption); (case kd => ktr_room); (case ku => ktr_units))); intro k net q0 q1 D os2 h2 tk2 hN hS2 F2 N2 lt1; (try dsimp only); (try k_sweep); (try (k_extra "zfold")))
    k_lt lt1
    k_steps
    rename News g' _ _ _ => N5a
    obtain ⟨W9, N5, nd9, hsub, mc3, mc2, mc1⟩ := abs3 (T := [_]) N5a (nd_keys rfl ndc)
    clear N5a ndc ns1 ns2 ns3 zs zb zd zc1 zc2 zc3 zc4 nd
    replace hl := hsub _ hl
    replace hR := hR.mono hsub
    rename Fr g' _ _ _ => F5
    unfold Hold
    try dsimp only
    have hl1 : (rl, listOf vs.toArray n) ∈ Z ++ W9 := List.mem_append.mpr (.inr hl)
    refine compT_list (vs := vs) (k := n) (fun j ys nx => nx = (_ :: _ :: _ :: (Z ++ W9)) ∧ RowsAre W9 ys ((rows.take j).filter (fun row => !(decide (row.net = net) && decide (row.k = k))))) rfl F5 N5 (by repeat (first | exact hl1 | refine List.Mem.tail _ ?_)) (by omega) ⟨rfl, RowsAre.nil⟩ ?_ ?_ ?_
    · rintro j ys nx ⟨rfl, _⟩
      repeat (first | exact hl1 | refine List.Mem.tail _ ?_)
    · rintro j v ys nx I2 oI2 C oC D9 m2 h2' tk2' E2 hj hv2 hJ9 hC hx F6 N6 o1 o2 o3 r1 r2 r3
      try (k_extra "zfold")
      obtain ⟨rfl, hy⟩ := hJ9
      clear F5 N5
      have hj' : j < rows.length := by omega
      obtain ⟨ra, t0, t1', t2', t3, rfl, hra⟩ := hR.2 j v rows[j] hv2 (List.getElem?_eq_getElem hj')
      have hra1 : (ra, rowO t0 t1' t2' t3 rows[j]) ∈ Z ++ W9 := List.mem_append.mpr (.inr hra)
      k_steps
      rename News g' _ _ _ => N7
      unfold Hold
      refine my_ne_tup2 N7 (.tail _ (.head _)) rfl rfl (.head _) (by ktr_units) ?_
      by_cases hrw : rows[j].net = net ∧ rows[j].k = k
      · rw [show (!(decide (rows[j].net = net ∧ (rows[j].k : Int) = (k : Int)))) = false by rw [hrw.1, hrw.2]; simp]
        k_steps
        unfold Hold
        rename News g' _ _ _ => N8
        exact cend_mk (by k_asm) (news_tail (news_tail N8)) o1 o2 o3 ⟨rfl, RowsAre.skip _ hj' hy (by simp [hrw.1, hrw.2])⟩
      · rw [show (!(decide (rows[j].net = net ∧ (rows[j].k : Int) = (k : Int)))) = true by rw [Bool.not_eq_true', decide_eq_false_iff_not]; rintro ⟨e1, e2⟩; exact hrw ⟨e1, by omega⟩]
        k_steps
        unfold Hold
        rename News g' _ _ _ => N8
        exact cend_mk (by k_asm) (news_tail (news_tail N8)) o1 o2 o3 ⟨rfl, RowsAre.filt _ hj' hy ⟨ra, t0, t1', t2', t3, rfl, hra⟩ (by
          rw [Bool.not_eq_true', Bool.and_eq_false_iff, decide_eq_false_iff_not, decide_eq_false_iff_not]
          exact Decidable.not_and_iff_not_or_not.mp hrw)⟩
    · rintro g9 ys nx ⟨rfl, hy⟩
      clear F5 N5
      rw [hvl, List.take_length] at hy
      have hyl : ys.length ≤ rows.length := by rw [hy.1]; exact List.length_filter_le _ _
      have hyz : ys.length ≤ 16777216 := by omega
      k_steps
      rename _ ∧ _ ∧ _ ∧  Off1 _ _ => af
      rename News g' _ _ _ => N6
      have nd6 : ND ([(_, os), (src, os2)] ++ ((tb, instObj 244 td) :: (td, tbD w.params t1 t2 u root many) :: (Z ++ W9))) := nd_off1 (o := os) nd9 af
      have N7 : News _ _ _ ([(_, _), (src, os2)] ++ ((tb, instObj 244 td) :: (td, tbD w.params t1 t2 u root many) :: (Z ++ W9))) := N6
      have N8 := news_in2 N7
      clear N6 N7
      (unfold Hold; w_strict (k_dflt (refine' remove_spec (Z := Z) (f := f) (k := k) (net := net) ?k1 ?k2 ?k3 ?k4 ?k5 ?kK ?u0 ?u1 ?u2 ?u3 ?u4 ?u5 ?u6 ?u7 ?u8 ?kd ?ku ?_; (case k1 => k_asm); (case k2 => k_asm); (case k3 => k_asm); (case k4 => k_asm); (case k5 => k_asm); (case kK => first | exact rfl | assumption); (case u0 => exact nd_keys (by unfold keys; simp only [List.map_cons, List.map_append, List.map_nil]) (nd_in2 nd6)); (case u1 => exact Tr); (case u2 => exact hr); (case u3 => (have := hN.1; omega)); (case u4 => exact hN.2.1); (case u5 => exact hN.2.2.1); (case u6 => exact hN.2.2.2); (case u7 => exact I.lean); (case u8 => exact I.rsl (by omega)); (case kd => ktr_room); (case ku => ktr_units))); intro Z1 f1 many1 u1 tv1 h3 tk3 hL1 hrs1 hm1 hr1 F9 N9 nd9 Tr1 hkp1; (try dsimp only); (try k_sweep); (try (k_extra "zfold")))
      have N10 := news_back N9
      have nd10 := nd_back nd9
      clear N9 nd9
      simp only [List.cons_append, List.nil_append] at N10
      have hl2 : (rl, listOf vs.toArray n) ∈ Z1 ++ W9 := List.mem_append.mpr (.inr hl)
      obtain ⟨I1, hct⟩ := I.cut hN hL1 hrs1
      have hyl2 : ys.length = (rows.filter fun row => !(decide (row.net = net) && decide (row.k = k))).length := hy.1
      k_steps
      · rename News h₀ _ _ _ => kN
        rename Fr h₀ _ _ _ => kF
        have kN2 : News h₀ L _ ([(_, _)] ++ ((src, os2) :: (tb, instObj 244 td) :: (td, tbD w.params t1 t2 u1 root many1) :: (Z1 ++ W9))) := kN
        have kN3 := news_out kN2
        have e5 : ND ([(_, os)] ++ ((src, os2) :: (tb, instObj 244 td) :: (td, tbD w.params t1 t2 u1 root many1) :: (Z1 ++ W9))) := nd_keys (by unfold keys; simp only [List.map_cons, List.map_append, List.map_nil, List.cons_append, List.nil_append]; try rfl) nd10
        have e6 := nd_out e5
        refine hret _ ys _ _ os2 Z1 _ f1 many1 u1 _ _ _ hS2 I1 (List.length_filter_le _ _) (by omega) Tr1 hr1 (.head _) (hy.mono fun p hp => by repeat (first | exact hp | refine List.Mem.tail _ ?_)) (fun p hp => .tail _ (hsub _ hp)) kF kN3 (nd_keys ?_ e6)
        unfold keys; simp only [List.map_cons, List.map_append, List.cons_append, List.nil_append]; try rfl
      · exfalso
        omega
  · clear hw0 hw1
    k_steps
    (unfold Hold; w_strict (k_dflt (refine' net_drawU ?k1 ?k2 ?k3 ?k4 ?k5 ?kK ?u0 ?u1 ?kd ?ku ?_; (case k1 => k_asm); (case k2 => k_asm); (case k3 => k_asm); (case k4 => k_asm); (case k5 => k_asm); (case kK => first | exact rfl | assumption); (case u0 => k_updF); (case u1 => assumption); (case kd => ktr_room); (case ku => ktr_units))); intro k net q0 q1 D os2 h2 tk2 hN hS2 F2 N2 lt1; (try dsimp only); (try k_sweep); (try (k_extra "zfold")))
    k_lt lt1
    k_steps
    rename News g' _ _ _ => N5a
    obtain ⟨W9, N6, nd9, hsub, mc3, mc2, mc1⟩ := abs3 (T := [_]) N5a (nd_keys rfl ndc)
    clear N5a ndc ns1 ns2 ns3 zs zb zd zc1 zc2 zc3 zc4 nd
    replace hl := hsub _ hl
    replace hR := hR.mono hsub
    have N7 : News _ _ _ ([(src, os2), (tb, instObj 244 td), (td, tbD w.params t1 t2 u root many)] ++ (Z ++ W9)) := N6
    have nd6 : ND ([(src, os2), (tb, instObj 244 td), (td, tbD w.params t1 t2 u root many)] ++ (Z ++ W9)) := nd9
    clear N6
    (unfold Hold; w_strict (k_dflt (refine' path_specA (Aa := [_, _, _]) (mk := true) (k := k) (net := net) ?k1 ?k2 ?k3 ?k4 ?k5 ?kK ?u0 ?u1 ?u2 ?u3 ?u4 ?u5 ?kd ?ku ?_; (case k1 => k_asm); (case k2 => k_asm); (case k3 => k_asm); (case k4 => k_asm); (case k5 => k_asm); (case kK => first | exact rfl | assumption); (case u0 => exact nd6); (case u1 => exact Tr); (case u2 => exact hr); (case u3 => exact .tail _ (.head _)); (case u4 => exact .tail _ (.tail _ (.head _))); (case u5 => (have := hN.1; omega)); (case kd => ktr_room); (case ku => ktr_units))); intro fl Z1 f1 i n1 h3 tk3 e1 e2 e3 e4 F1 N1 nd1 Tr1 hkp1; (try dsimp only); (try k_sweep); (try (k_extra "zfold")))
    obtain rfl : i = k := e3 rfl
    clear e3 e4
    simp only [List.cons_append, List.nil_append] at N1
    have hk12 : i ≤ 12 := hN.1
    have hlenp : (pathVals f1 net i).length ≤ 16777216 := by rw [pathVals_length]; omega
    have hpl : (pathVals f1 net i).length = i + 1 := pathVals_length _ _ _
    have hl1 : (rl, listOf vs.toArray n) ∈ Z1 ++ W9 := List.mem_append.mpr (.inr hl)
    have hW := I.wants Tr.pre Tr.root Tr.fin
    k_steps
    rename News g' _ _ _ => N8
    unfold Hold
    refine my_ne_nil N8 (by repeat (first | exact hl1 | refine List.Mem.tail _ ?_)) (.head _) (by ktr_units) ?_
    by_cases he : rows = []
    · have hve : vs = [] := List.eq_nil_of_length_eq_zero (by rw [hvl, he]; rfl)
      rw [show (!vs.isEmpty) = false by rw [hve]; rfl]
      obtain ⟨ndq, hq⟩ : ∃ ndq, f1 (bitsOf net i) = some ndq := by
        cases e : f1 (bitsOf net i) with
        | none => exact absurd e (e2.all _ (Nat.le_refl _))
        | some q => exact ⟨q, rfl⟩
      have hlast := pathVals_last f1 net i
      rw [hq] at hlast
      simp only [vOf] at hlast
      have hbare : bareB f1 (bitsOf net i) ndq = true := by
        rw [I.bare Tr.pre hW e2 hq]
        rw [he]; rfl
      obtain ⟨hix, ⟨s1, s2x, s3, hid⟩, ⟨nl, hil⟩, hir⟩ := Tr1.nod _ _ hq
      k_steps
      all_goals (try (exfalso; omega))
      (unfold Hold; w_strict (k_dflt (refine' bare_spec (q := bitsOf net i) (f := f1) (nd := ndq) (Z := Z1) ?k1 ?k2 ?k3 ?k4 ?k5 ?kK ?u0 ?u1 ?u2 ?u3 ?kd ?ku ?_; (case k1 => k_asm); (case k2 => k_asm); (case k3 => k_asm); (case k4 => k_asm); (case k5 => k_asm); (case kK => first | exact rfl | assumption); (case u0 => exact Tr1); (case u1 => exact hq); (case u2 => exact hbare); (case u3 => (intro p hp; have hp2 : p ∈ Z1 ++ W9 := List.mem_append.mpr (.inl hp); repeat (first | exact hp2 | refine List.Mem.tail _ ?_))); (case kd => ktr_room); (case ku => ktr_units))); intro h9 tk9 F9 N9; (try dsimp only); (try k_sweep); (try (k_extra "zfold")))
      k_steps
      rename News g' _ _ _ => N10
      have N11 : News _ _ _ ([(fl, listOf (pathVals f1 net i).toArray n1), (src, os2), (tb, instObj 244 td), (td, tbD w.params t1 t2 u root many)] ++ (Z1 ++ W9)) := news_sub N10 (fun p hp => by repeat (first | exact hp | refine List.Mem.tail _ ?_))
      clear N10
      (unfold Hold; w_strict (k_dflt (refine' prune_specA (Aa := [_, _, _, _]) (f := f1) (net := net) (i := i) ?k1 ?k2 ?k3 ?k4 ?k5 ?kK ?u0 ?u1 ?u2 ?u3 ?u4 ?kd ?ku ?_; (case k1 => k_asm); (case k2 => k_asm); (case k3 => k_asm); (case k4 => k_asm); (case k5 => k_asm); (case kK => first | exact rfl | assumption); (case u0 => exact nd_keys (by unfold keys; simp only [List.map_cons, List.map_append, List.cons_append, List.nil_append]; try rfl) nd1); (case u1 => exact Tr1); (case u2 => exact .head _); (case u3 => exact e2.all); (case u4 => omega); (case kd => ktr_room); (case ku => ktr_units))); intro Z4 f4 a4 h4 tk4 hP4 hend4 F4 N4 nd4 Tr4 hkp4; (try dsimp only); (try k_sweep); (try (k_extra "zfold")))
      simp only [List.cons_append, List.nil_append] at N4
      k_steps
      rename News h₀ _ _ _ => kN
      rename Fr h₀ _ _ _ => kF
      have kN2 : News h₀ L _ ([(_, _)] ++ ((src, os2) :: (tb, instObj 244 td) :: (td, tbD w.params t1 t2 u root many) :: (Z4 ++ W9))) := kN
      have kN3 := news_out kN2
      have e5 : ND ([(_, os)] ++ ((src, os2) :: (tb, instObj 244 td) :: (td, tbD w.params t1 t2 u root many) :: (Z4 ++ W9))) := nd_keys (by unfold keys; simp only [List.map_cons, List.map_append, List.cons_append, List.nil_append]; try rfl) nd4
      have e6 := nd_out e5
      refine hret _ vs _ rows os2 Z4 _ f4 many u _ _ _ hS2 (I.pruned e2 hP4 hend4) (Nat.le_refl _) hmany Tr4 ?_ (by repeat (first | exact hl | refine List.Mem.tail _ ?_)) (hR.mono fun p hp => by repeat (first | exact hp | refine List.Mem.tail _ ?_)) (fun p hp => .tail _ (hsub _ hp)) kF kN3 (nd_keys ?_ e6)
      · rw [hP4.root, e2.keep [] Tr.root]; exact hr
      · unfold keys; simp only [List.map_cons, List.map_append, List.cons_append, List.nil_append]; try rfl
    · have hve : vs.isEmpty = false := by
        cases vs with
        | nil => exact absurd (List.eq_nil_of_length_eq_zero (by rw [← hvl]; rfl)) he
        | cons _ _ => rfl
      rw [show (!vs.isEmpty) = true by rw [hve]; rfl]
      have hre : rows.isEmpty = false := by
        cases rows with
        | nil => exact absurd rfl he
        | cons _ _ => rfl
      k_steps
      (unfold Hold; w_strict (k_dflt (refine' due_spec (vs := vs) (n := n) (rows := rows) ?k1 ?k2 ?k3 ?k4 ?k5 ?kK ?u0 ?u1 ?u2 ?u3 ?kd ?ku ?_; (case k1 => k_asm); (case k2 => k_asm); (case k3 => k_asm); (case k4 => k_asm); (case k5 => k_asm); (case kK => first | exact rfl | assumption); (case u0 => (repeat (first | exact hl1 | refine List.Mem.tail _ ?_))); (case u1 => (exact hR.mono fun p hp => by repeat (first | exact List.mem_append.mpr (.inr hp) | refine List.Mem.tail _ ?_))); (case u2 => exact hlen); (case u3 => (exact fun row h => (I.net row h).1)); (case kd => ktr_room); (case ku => ktr_units))); intro D2 v2 s2 n2 h5 tk5 d5 F5 N5 off5 p5 o5 q5; (try dsimp only); (try k_sweep); (try (k_extra "zfold")))
      k_steps
      unfold Hold
      refine my_in_strs N5 (.head _) p5 ?_
      rw [slice_txt _ _ (by rw [bitsOf_length]; omega), bitsOf_take _ (by omega), due_mem hW o5]
      cases hb : decide (f (bitsOf net i) ≠ none) with
      | true =>
        obtain ⟨ndq, hq⟩ : ∃ ndq, f1 (bitsOf net i) = some ndq := by
          cases e : f1 (bitsOf net i) with
          | none => exact absurd e (e2.all _ (Nat.le_refl _))
          | some q => exact ⟨q, rfl⟩
        have hlast := pathVals_last f1 net i
        rw [hq] at hlast
        simp only [vOf] at hlast
        have hbare : bareB f1 (bitsOf net i) ndq = false := by
          rw [I.bare Tr.pre hW e2 hq]
          rw [hre, hb]; rfl
        obtain ⟨hix, ⟨s1, s2x, s3, hid⟩, ⟨nl, hil⟩, hir⟩ := Tr1.nod _ _ hq
        k_steps
        all_goals (try (exfalso; omega))
        (unfold Hold; w_strict (k_dflt (refine' bare_spec (q := bitsOf net i) (f := f1) (nd := ndq) (Z := Z1) ?k1 ?k2 ?k3 ?k4 ?k5 ?kK ?u0 ?u1 ?u2 ?u3 ?kd ?ku ?_; (case k1 => k_asm); (case k2 => k_asm); (case k3 => k_asm); (case k4 => k_asm); (case k5 => k_asm); (case kK => first | exact rfl | assumption); (case u0 => exact Tr1); (case u1 => exact hq); (case u2 => exact hbare); (case u3 => (intro p hp; have hp2 : p ∈ Z1 ++ W9 := List.mem_append.mpr (.inl hp); repeat (first | exact hp2 | refine List.Mem.tail _ ?_))); (case kd => ktr_room); (case ku => ktr_units))); intro h9 tk9 F9 N9; (try dsimp only); (try k_sweep); (try (k_extra "zfold")))
        k_steps
        rename News g' _ _ _ => N10
        have N11 : News _ _ _ ([(fl, listOf (pathVals f1 net i).toArray n1), (src, os2), (tb, instObj 244 td), (td, tbD w.params t1 t2 u root many)] ++ (Z1 ++ W9)) := news_sub N10 (fun p hp => by repeat (first | exact hp | refine List.Mem.tail _ ?_))
        clear N10
        (unfold Hold; w_strict (k_dflt (refine' prune_specA (Aa := [_, _, _, _]) (f := f1) (net := net) (i := i) ?k1 ?k2 ?k3 ?k4 ?k5 ?kK ?u0 ?u1 ?u2 ?u3 ?u4 ?kd ?ku ?_; (case k1 => k_asm); (case k2 => k_asm); (case k3 => k_asm); (case k4 => k_asm); (case k5 => k_asm); (case kK => first | exact rfl | assumption); (case u0 => exact nd_keys (by unfold keys; simp only [List.map_cons, List.map_append, List.cons_append, List.nil_append]; try rfl) nd1); (case u1 => exact Tr1); (case u2 => exact .head _); (case u3 => exact e2.all); (case u4 => omega); (case kd => ktr_room); (case ku => ktr_units))); intro Z4 f4 a4 h4 tk4 hP4 hend4 F4 N4 nd4 Tr4 hkp4; (try dsimp only); (try k_sweep); (try (k_extra "zfold")))
        simp only [List.cons_append, List.nil_append] at N4
        k_steps
        rename News h₀ _ _ _ => kN
        rename Fr h₀ _ _ _ => kF
        have kN2 : News h₀ L _ ([(_, _)] ++ ((src, os2) :: (tb, instObj 244 td) :: (td, tbD w.params t1 t2 u root many) :: (Z4 ++ W9))) := kN
        have kN3 := news_out kN2
        have e5 : ND ([(_, os)] ++ ((src, os2) :: (tb, instObj 244 td) :: (td, tbD w.params t1 t2 u root many) :: (Z4 ++ W9))) := nd_keys (by unfold keys; simp only [List.map_cons, List.map_append, List.cons_append, List.nil_append]; try rfl) nd4
        have e6 := nd_out e5
        refine hret _ vs _ rows os2 Z4 _ f4 many u _ _ _ hS2 (I.pruned e2 hP4 hend4) (Nat.le_refl _) hmany Tr4 ?_ (by repeat (first | exact hl | refine List.Mem.tail _ ?_)) (hR.mono fun p hp => by repeat (first | exact hp | refine List.Mem.tail _ ?_)) (fun p hp => .tail _ (hsub _ hp)) kF kN3 (nd_keys ?_ e6)
        · rw [hP4.root, e2.keep [] Tr.root]; exact hr
        · unfold keys; simp only [List.map_cons, List.map_append, List.cons_append, List.nil_append]; try rfl
      | false =>
        obtain ⟨ndq, hq⟩ : ∃ ndq, f1 (bitsOf net i) = some ndq := by
          cases e : f1 (bitsOf net i) with
          | none => exact absurd e (e2.all _ (Nat.le_refl _))
          | some q => exact ⟨q, rfl⟩
        have hlast := pathVals_last f1 net i
        rw [hq] at hlast
        simp only [vOf] at hlast
        have hbare : bareB f1 (bitsOf net i) ndq = true := by
          rw [I.bare Tr.pre hW e2 hq]
          rw [hre, hb]; rfl
        obtain ⟨hix, ⟨s1, s2x, s3, hid⟩, ⟨nl, hil⟩, hir⟩ := Tr1.nod _ _ hq
        k_steps
        all_goals (try (exfalso; omega))
        (unfold Hold; w_strict (k_dflt (refine' bare_spec (q := bitsOf net i) (f := f1) (nd := ndq) (Z := Z1) ?k1 ?k2 ?k3 ?k4 ?k5 ?kK ?u0 ?u1 ?u2 ?u3 ?kd ?ku ?_; (case k1 => k_asm); (case k2 => k_asm); (case k3 => k_asm); (case k4 => k_asm); (case k5 => k_asm); (case kK => first | exact rfl | assumption); (case u0 => exact Tr1); (case u1 => exact hq); (case u2 => exact hbare); (case u3 => (intro p hp; have hp2 : p ∈ Z1 ++ W9 := List.mem_append.mpr (.inl hp); repeat (first | exact hp2 | refine List.Mem.tail _ ?_))); (case kd => ktr_room); (case ku => ktr_units))); intro h9 tk9 F9 N9; (try dsimp only); (try k_sweep); (try (k_extra "zfold")))
        k_steps
        rename News g' _ _ _ => N10
        have N11 : News _ _ _ ([(fl, listOf (pathVals f1 net i).toArray n1), (src, os2), (tb, instObj 244 td), (td, tbD w.params t1 t2 u root many)] ++ (Z1 ++ W9)) := news_sub N10 (fun p hp => by repeat (first | exact hp | refine List.Mem.tail _ ?_))
        clear N10
        (unfold Hold; w_strict (k_dflt (refine' prune_specA (Aa := [_, _, _, _]) (f := f1) (net := net) (i := i) ?k1 ?k2 ?k3 ?k4 ?k5 ?kK ?u0 ?u1 ?u2 ?u3 ?u4 ?kd ?ku ?_; (case k1 => k_asm); (case k2 => k_asm); (case k3 => k_asm); (case k4 => k_asm); (case k5 => k_asm); (case kK => first | exact rfl | assumption); (case u0 => exact nd_keys (by unfold keys; simp only [List.map_cons, List.map_append, List.cons_append, List.nil_append]; try rfl) nd1); (case u1 => exact Tr1); (case u2 => exact .head _); (case u3 => exact e2.all); (case u4 => omega); (case kd => ktr_room); (case ku => ktr_units))); intro Z4 f4 a4 h4 tk4 hP4 hend4 F4 N4 nd4 Tr4 hkp4; (try dsimp only); (try k_sweep); (try (k_extra "zfold")))
        simp only [List.cons_append, List.nil_append] at N4
        k_steps
        rename News h₀ _ _ _ => kN
        rename Fr h₀ _ _ _ => kF
        have kN2 : News h₀ L _ ([(_, _)] ++ ((src, os2) :: (tb, instObj 244 td) :: (td, tbD w.params t1 t2 u root many) :: (Z4 ++ W9))) := kN
        have kN3 := news_out kN2
        have e5 : ND ([(_, os)] ++ ((src, os2) :: (tb, instObj 244 td) :: (td, tbD w.params t1 t2 u root many) :: (Z4 ++ W9))) := nd_keys (by unfold keys; simp only [List.map_cons, List.map_append, List.cons_append, List.nil_append]; try rfl) nd4
        have e6 := nd_out e5
        refine hret _ vs _ rows os2 Z4 _ f4 many u _ _ _ hS2 (I.pruned e2 hP4 hend4) (Nat.le_refl _) hmany Tr4 ?_ (by repeat (first | exact hl | refine List.Mem.tail _ ?_)) (hR.mono fun p hp => by repeat (first | exact hp | refine List.Mem.tail _ ?_)) (fun p hp => .tail _ (hsub _ hp)) kF kN3 (nd_keys ?_ e6)
        · rw [hP4.root, e2.keep [] Tr.root]; exact hr
        · unfold keys; simp only [List.map_cons, List.map_append, List.cons_append, List.nil_append]; try rfl
end
end Mine

-- part Q1
namespace Mine
set_option maxRecDepth 100000
set_option maxHeartbeats 8000000
set_option pp.deepTerms false
set_option pp.deepTerms.threshold 4
set_option pp.maxSteps 100000


def FirstMin (ms : List Int) (n j : Nat) : Prop := j < n ∧ ∃ mj, ms[j]? = some mj ∧ (∀ a x, a < j → ms[a]? = some x → mj < x) ∧ (∀ a x, a < n → ms[a]? = some x → mj ≤ x)
structure RtAt (P : Params) (Z : Led) (v : Value) (at' met : Int) : Prop where
  ex : ∃ x d t1 t2 t3 t4 t5 u1 u2 u3 u4 u5 net k face, v = .ref x ∧ (x, instObj 113 d) ∈ Z ∧ (d, rtD P t1 t2 t3 t4 t5 u1 u2 u3 u4 u5 net k at' face met) ∈ Z
def RtsAre (P : Params) (Z : Led) (vs : List Value) (ms : List Int) : Prop := vs.length = ms.length ∧ ∀ (i : Nat) v mt, vs[i]? = some v → ms[i]? = some mt → RtAt P Z v (i : Int) mt
theorem first_one {ms : List Int} {m0 : Int} (h : ms[0]? = some m0) : FirstMin ms 1 0 := ⟨by omega, m0, h, fun a x ha => absurd ha (by omega), fun a x ha hx => by
  obtain rfl : a = 0 := by omega
  rw [h] at hx; cases hx; omega⟩
theorem first_new {ms : List Int} {i : Nat} {mi mj : Int} (h : ms[i]? = some mi) (h3 : ∀ a x, a < i → ms[a]? = some x → mj ≤ x) (hlt : mi < mj) : FirstMin ms (i + 1) i := ⟨by omega, mi, h, fun a x ha hx => by
  have := h3 a x ha hx; omega, fun a x ha hx => by
  by_cases e : a = i
  · subst e; rw [h] at hx; cases hx; omega
  · have := h3 a x (by omega) hx; omega⟩
theorem first_keep {ms : List Int} {i j : Nat} {mi mj : Int} (hj : j < i) (e1 : ms[j]? = some mj) (e2 : ∀ a x, a < j → ms[a]? = some x → mj < x) (e3 : ∀ a x, a < i → ms[a]? = some x → mj ≤ x) (h : ms[i]? = some mi) (hlt : mj ≤ mi) : FirstMin ms (i + 1) j := ⟨by omega, mj, e1, e2, fun a x ha hx => by
  by_cases e : a = i
  · subst e; rw [h] at hx; cases hx; omega
  · exact e3 a x (by omega) hx⟩
theorem not2 {a b z : Str} (h : [a, b].contains z = false) : z ≠ a ∧ z ≠ b := by simpa [List.contains_cons] using h
section

variable {prog : Program} {w : World} {p : Program} {loose : List Str} {mean : ExcName → Option Value} {mg mb : Str → Option Value}
    {dp un : Nat} {gd : Option (List Code)} {cn : Str} {cs : Scope} {a : Addr} {ccd : Value} {cl : List (Str × Addr)} {outer : List Env} {A₀ : Around} {base h₀ : Heap} {L : Addr} {m : Str → Option Value} {news : List (Addr × Obj)} {s : Shared} {Q E : Value → Shared → Prop}

theorem zsetQ11 : True := by
  k_with_none
  k_with "z_ch" => first | with_reducible assumption | (refine' And.right ?_; rotate_left; first | with_reducible assumption | (refine' And.right ?_; rotate_left; first | with_reducible assumption | (refine' And.right ?_; rotate_left; first | with_reducible assumption | (refine' And.right ?_; rotate_left; first | with_reducible assumption | (refine' And.right ?_; rotate_left; first | with_reducible assumption | (refine' And.right ?_; rotate_left; first | with_reducible assumption | (refine' And.right ?_; rotate_left; with_reducible assumption)))))))
  k_with "z_lt" => first | with_reducible assumption | (refine' And.left ?_; rotate_left; k_extra "z_ch") | (refine' And.right ?_; rotate_left; k_extra "z_ch")
  k_with "k_ne" => (refine neN ?_; (try dsimp only); first | (refine' Nat.ne_of_gt ?_; k_extra "z_lt") | (refine' Nat.ne_of_lt ?_; k_extra "z_lt") | (refine' Nat.ne_of_gt (Nat.lt_trans ?_ (by with_reducible assumption)); k_extra "z_lt") | (refine' Nat.ne_of_lt (Nat.lt_trans ?_ (by with_reducible assumption)); k_extra "z_lt"))
  k_with "zfold" => ((fail_if_success (fail_if_success k_fold)); refine zfold_q ?_; intro qk)
  k_with "k_env" => (refine zfold_env (f := fun en9 => execs _ en9) ?_; intro en9; refine zfold_A ?_; intro ak9; (rename Fr _ _ _ _ => fr9); refine zfold_F fr9 ?_; clear fr9; intro fm9 fr9; try (refine zgen_t ?_; intro tk9))
  k_with "ktr_room" => first | exact fits (c := 1) hdp rfl rfl | exact fits0 (c := 1) hdp rfl rfl | exact fits (c := 2) hdp rfl rfl | exact fits0 (c := 2) hdp rfl rfl | exact fits (c := 0) hdp rfl rfl | exact fits0 (c := 0) hdp rfl rfl | exact fits (c := 3) hdp rfl rfl | exact fits0 (c := 3) hdp rfl rfl | exact Nat.le_of_ble_eq_true rfl
  k_with "ktr_units" => first | exact fits (c := 3) hun rfl rfl | exact fits0 (c := 3) hun rfl rfl | exact fits (c := 6) hun rfl rfl | exact fits0 (c := 6) hun rfl rfl | exact fits (c := 0) hun rfl rfl | exact fits0 (c := 0) hun rfl rfl | exact fits (c := 9) hun rfl rfl | exact fits0 (c := 9) hun rfl rfl | exact Nat.le_of_ble_eq_true rfl
  k_with "k_steps" => repeat' (first | (k_unfold; (try dsimp only); (try clear qk)) | (k_end; wrow_close) | walk1 | (dsimp only; walk1) | (leave1; try dsimp only) | fail "no step")
  k_with "execs cons" => (k_extra "zfold"; walk1)
  k_with "exec If" => (k_extra "zfold"; walk1)
  k_with "exec Assign" => (k_extra "zfold"; walk1)
  k_with "exec Expr" => (k_extra "zfold"; walk1)
  k_with "exec Return" => (k_extra "zfold"; walk1)
  k_with "isTrue" => (k_extra "zfold"; walk1)
  k_with "eval BinOp" => (k_extra "zfold"; walk1)
  k_with "eval BoolOp" => (k_extra "zfold"; walk1)
  k_with "eval UnaryOp" => (k_extra "zfold"; walk1)
  k_with "eval Call" => (k_extra "zfold"; walk1)
  k_with "eval Compare" => (k_extra "zfold"; walk1)
  k_with "eval Subscript" => (k_extra "zfold"; walk1)
  k_with "eval Attribute" => (k_extra "zfold"; walk1)
  k_with "eval Tuple" => (k_extra "zfold"; walk1)
  k_with "eval List nil" => (k_extra "zfold"; walk1)
  k_with "eval List cons" => (k_extra "zfold"; walk1)
  k_with "k_mem" => first | assumption | (with_reducible refine mem_appL ?_; assumption) | (with_reducible refine mem_appR ?_; assumption) | (with_reducible refine List.mem_append.mpr (Or.inl ?_); assumption) | (with_reducible refine List.mem_append.mpr (Or.inr ?_); assumption)
  k_with "k_ne" => (first | (refine' ne_neA ?zqh ?zqm; (case zqm => assumption); (case zqh => assumption)) | (refine' ne_between ?zqm ?zqh ?zqle; (case zqm => assumption); (case zqh => tbn_find); (case zqle => omega)))
  k_with "k_room" => ktr_room
  k_with "k_all" => first | assumption | (refine all_repl ?_; first | assumption | (refine tbn_neAll ?_; tbn_find))
  k_with "k_upd" => exact upd_repl (by assumption) (by assumption)
  k_with "ktr_rel" => (repeat (first | exact Same.refl | exact Same.of2 | exact Same.of | refine Same.set ?_ (by rfl)))
  k_with "tb_start" => (intro _ hp9; (repeat (refine List.Mem.tail _ ?_)); first | exact hp9 | exact List.mem_append.mpr (Or.inl hp9) | exact List.mem_append.mpr (Or.inr hp9))
  k_with "LPost" => (dsimp only [LPost])
  k_with "pyIter ref" => (refine Hold.mk ?_)
  k_with "call builtin:list.append" => (k_here; (with_reducible show wpAny _ _ (call (Value.builtin _) [Value.ref _, _]) _ _ _); k_dflt (refine' my_append ?zqk1 ?zqk2 ?zqk3 ?zqz ?_; (case zqk1 => k_asm); (case zqk2 => k_asm); (case zqk3 => k_upd); (case zqz => assumption); k_whole); intro _ _ _; (try k_sweep))
  k_with "call builtin:len" => (k_here; k_dflt (refine' my_len ?zqN ?zqm ?zqf ?_; (case zqN => k_asm); (case zqm => k_mem); (case zqf => assumption); k_whole))
  k_with "subscriptTail" => (k_here; k_dflt (refine' my_itemE ?zqN ?zqm ?zqv ?zqa ?zqf ?_ ?zqhs; (case zqN => k_asm); (case zqm => k_mem); (case zqv => with_reducible assumption); (case zqa => omega); (case zqf => assumption); (case zqhs => with_unfolding_all rfl); k_whole))
  k_with "subscriptTail Name UnaryOp ref int" => (k_here; k_dflt (refine' my_itemE ?zqN ?zqm ?zqv ?zqa ?zqf ?_ ?zqhs; (case zqN => k_asm); (case zqm => k_mem); (case zqv => with_reducible assumption); (case zqa => omega); (case zqf => assumption); (case zqhs => with_unfolding_all rfl); k_whole))
  k_with "subscriptTail" => (k_here; (with_reducible show wpAny _ _ (subscriptTail _ _ (Value.ref _) (Value.int (-1) _)) _ _ _); k_dflt (refine' my_last ?zqN ?zqm ?zqv ?zqf ?_ ?zqhs; (case zqN => k_asm); (case zqm => k_mem); (case zqv => with_reducible assumption); (case zqf => assumption); (case zqhs => with_unfolding_all rfl); k_whole))
  k_with "subscriptTail Name UnaryOp ref int" => (k_here; (with_reducible show wpAny _ _ (subscriptTail _ _ (Value.ref _) (Value.int (-1) _)) _ _ _); k_dflt (refine' my_last ?zqN ?zqm ?zqv ?zqf ?_ ?zqhs; (case zqN => k_asm); (case zqm => k_mem); (case zqv => with_reducible assumption); (case zqf => assumption); (case zqhs => with_unfolding_all rfl); k_whole))
  k_with "exec For Name Call cons nil" => (k_here; (rename Fr _ _ _ _ => lF'); (with_unfolding_all refine' For_invVF lF' ?zqk1 ?zqk2 ?_; (case zqk1 => exact rfl); (case zqk2 => exact rfl); k_whole))
  exact trivial
theorem best_spec {bx bd bl : Addr} {v0 v1 : Value} {s1 s2 s3 : Tok} {vs : List Value} {ms : List Int} {n : Nat}
    (B : Below A₀ base outer h₀) (F : Fr h₀ L s.heap m) (X : (KK w.params).In h₀) (N : News h₀ L s.heap (news)) (T : Top p loose mean mg mb h₀) (hk : cs.kind = .function) (h1 : (bx, instObj 162 bd) ∈ news) (h2 : (bd, brD w.params s1 s2 s3 v0 v1 bl) ∈ news) (h3 : (bl, listOf vs.toArray n) ∈ news) (hR : RtsAre w.params news vs ms) (hlen : vs.length ≤ 100) (hdp : dp + 10 < recursionLimit) (hun : un + 200 < cLine)
    (hret : ∀ v h' tk', (ms = [] → v = .none) → (ms ≠ [] → ∃ j, FirstMin ms ms.length j ∧ vs[j]? = some v) → Fr h₀ L h' m → News h₀ L h' news → Q v { s with heap := h', toks := tk' }) :
    wpAny (model prog w) (ktrTop dp un gd cn cs L a ccd cl outer) (call (.ref 159) [.ref bx]) Q E s := by
  (refine wpAny_call ?_; k_dflt ktr_enter; try (w_strict (k_extra "k_env")))
  k_steps
  rename News _ _ _ _ => N1
  rename Fr _ _ _ _ => F1
  unfold Hold
  refine list_loop1 (Str.ofString "found") [] (fun i v nx => nx = news ∧ ((i = 0 ∧ v = .none) ∨ ∃ j, FirstMin ms i j ∧ vs[j]? = some v)) rfl F1 N1 h3 rfl ⟨rfl, .inl ⟨rfl, rfl⟩⟩ ?_ ?_ ?_
  · rintro i v nx ⟨rfl, _⟩; exact h3
  · rintro i iv v u nx h tk I oI hi hI hJ9 F2 N2
    try (k_extra "zfold")
    obtain ⟨rfl, hv⟩ := hJ9
    clear F1 N1
    have hi' : i < ms.length := by
      have := (List.getElem?_eq_some_iff.mp hi).1
      rw [hR.1] at this; exact this
    obtain ⟨x, d, t1, t2, t3, t4, t5, u1, u2, u3, u4, u5, net, k, face, rfl, hx, hd⟩ := (hR.2 i iv ms[i] hi (List.getElem?_eq_getElem hi')).ex
    rcases hv with ⟨rfl, rfl⟩ | ⟨j, hj, hvj⟩
    · k_steps
      refine lend_mk _ (by assumption) (by assumption) (fun p hp => .tail _ hp) (.head _) hI ⟨(fun z hz => by obtain ⟨z1, z2⟩ := not2 hz; simp [z1, z2, List.contains_cons]), _, rfl, rfl, .inr ⟨0, first_one (List.getElem?_eq_getElem hi'), hi⟩⟩
    · obtain ⟨hji, mj, e1, e2, e3⟩ := hj
      obtain ⟨x', d', t1', t2', t3', t4', t5', u1', u2', u3', u4', u5', net', k', face', rfl, hx', hd'⟩ := (hR.2 j v mj hvj e1).ex
      k_steps
      · refine lend_mk _ (by assumption) (by assumption) (fun p hp => .tail _ hp) (.head _) hI ⟨(fun z hz => by obtain ⟨z1, z2⟩ := not2 hz; simp [z1, z2, List.contains_cons]), _, rfl, rfl, .inr ⟨i, first_new (List.getElem?_eq_getElem hi') e3 (by assumption), hi⟩⟩
      · refine lend_mk _ (by assumption) (by assumption) (fun p hp => .tail _ hp) (.head _) hI ⟨(fun z hz => by obtain ⟨z1, z2⟩ := not2 hz; simp [z1, z2, List.contains_cons]), _, rfl, rfl, .inr ⟨j, first_keep hji e1 e2 e3 (List.getElem?_eq_getElem hi') (by omega), hvj⟩⟩
  · rintro v u nx h tk hJ9 F2 N2
    try (k_extra "zfold")
    obtain ⟨rfl, hv⟩ := hJ9
    clear F1 N1
    k_steps
    rename News h₀ _ _ _ => kN
    rename Fr h₀ _ _ _ => kF
    refine hret _ _ _ ?_ ?_ kF (news_sub kN fun p hp => by repeat (first | exact hp | refine List.Mem.tail _ ?_))
    · intro e
      rcases hv with ⟨_, h⟩ | ⟨j, hj, _⟩
      · exact h
      · have := hj.1; rw [hR.1, e] at this; exact absurd this (by simp)
    · intro e
      rcases hv with ⟨h, _⟩ | ⟨j, hj, hvj⟩
      · rw [hR.1] at h; exact absurd (List.eq_nil_of_length_eq_zero h) e
      · rw [hR.1] at hj; exact ⟨j, hj, hvj⟩
end
end Mine

-- part W3
namespace Mine
set_option maxRecDepth 100000
set_option maxHeartbeats 8000000
set_option pp.deepTerms false
set_option pp.deepTerms.threshold 4
set_option pp.maxSteps 100000


theorem cls162 {P : Params} {h : Heap} (X : (KK P).In h) : ∃ nm q bs sn sub ab col dd k0 k1 k2 k3 k5 newId, h.get? 162 = some (excClassObj nm q 162 161 bs [.type "object"] true sn sub ab col dd k0 k1 k2 k3 k5 newId) :=
  ⟨_, _, _, _, _, _, _, _, _, _, _, _, _, _, X 162 _ (by k_is)⟩
theorem strKeys_of {es : Array DictEntry} (h : (es.toList.all fun e => match e.key with | .str _ _ => true | _ => false) = true) : StrKeys es := fun e he => by
  have h2 := List.all_eq_true.mp h e (Array.mem_toList_iff.mpr he)
  cases hk : e.key with
  | str n t => exact ⟨n, t, rfl⟩
  | _ => rw [hk] at h2; cases h2
theorem ns162 {P : Params} {h : Heap} (X : (KK P).In h) : ∃ o es ep, h.get? 161 = some o ∧ o.data = .dict es ep ∧ StrKeys es ∧ nsFind es "__eq__" = none ∧ nsFind es "__ne__" = none :=
  ⟨_, _, _, X 161 _ (by k_is), rfl, strKeys_of rfl, by kernel_rfl, by kernel_rfl⟩
section
variable {prog : Program} {w : World} {A : Around} {E : Value → Shared → Prop} {Q : Value → Shared → Prop} {s : Shared} {h₀ : Heap} {L : Addr} {m : Str → Option Value} {news : Led}
theorem my_ne_same {x d : Addr} (F : Fr h₀ L s.heap m) (X : (KK w.params).In h₀) (N : News h₀ L s.heap news) (hx : (x, instObj 162 d) ∈ news) (hu : A.units + 1 < cLine) (h : Q (.bool false) s) :
    wpAny (model prog w) A (compareOp .NotEq (.ref x) (.ref x)) Q E s := by
  obtain ⟨hh, g, dd, t, os⟩ := s
  have X' := X.keeps F.keep
  obtain ⟨nm, q, bs, sn, sub, ab, col, dd', k0, k1, k2, k3, k5, newId, hC⟩ := cls162 X'
  obtain ⟨o, es, ep, ho, hd', hk, e1, e2⟩ := ns162 X'
  exact compareOp_ne_same PySem.F.cmp_object ⟨_, nm, q, 161, bs, true, sn, sub, ab, col, dd', k0, k1, k2, k3, k5, newId, nsFind es, (N _ hx).1, rfl, hC, ⟨o, es, ep, ho, hd', hk, fun _ => rfl⟩, e1, e2⟩ hu h
end
end Mine

-- part Y1
namespace Mine
set_option maxRecDepth 100000
set_option maxHeartbeats 8000000
set_option pp.deepTerms false
set_option pp.deepTerms.threshold 4
set_option pp.maxSteps 100000

open PyProof.Rows.LCg PyProof.Rows.LCt
/- a comprehension over enumerate(list): own turn rule, both the enumerate object and the list's iterator stand in the ledger -/
def EEnd (h₀ : Heap) (L : Addr) (m : Str → Option Value) (s₁ : Shared) (I : Addr) (oI : Obj) (R : Addr) (oR : Obj) (C : Addr) (oC : Obj) (D : Addr) (oD : Obj) (J : Value → Led → Prop) (y : Value) (s₂ : Shared) : Prop :=
  ∃ h' tk nx, s₂ = { s₁ with heap := h', toks := tk } ∧ Fr h₀ L h' m ∧ News h₀ L h' ((I, oI) :: (R, oR) :: (C, oC) :: (D, oD) :: nx) ∧ (∀ p ∈ nx, @Ne Nat p.1 I ∧ @Ne Nat p.1 R ∧ @Ne Nat p.1 C ∧ @Ne Nat p.1 D) ∧ J y nx
inductive EnumAt (prog : Program) (w : World) (A : Around) (h₀ : Heap) (L : Addr) (m : Str → Option Value) (env : Env) (elt : PySem.Expr) (x x₂ : Str) (scope : Scope) (cl : List (Str × Addr)) (Fin : Shared → List Value → Led → Prop) (s₁ : Shared) : Value → Prop
  | mk (e it l : Addr) (vs : List Value) (k : Nat) (news : Led) (J : Nat → List Value → Led → Prop) (hh : A.handled = none) (F : Fr h₀ L s₁.heap m) (N : News h₀ L s₁.heap news) (hl : (l, listOf vs.toArray k) ∈ news)
    (he : ∃ old, IsEnum s₁.heap e it 0 old) (hit : s₁.heap.IsListIter it l 0) (hne : @Ne Nat e it ∧ @Ne Nat e L ∧ @Ne Nat it L) (he0 : h₀.get? e = none) (hi0 : h₀.get? it = none) (off : ∀ p ∈ news, @Ne Nat p.1 e ∧ @Ne Nat p.1 it) (hsz : vs.length ≤ sizeLine) (hJ0 : J 0 [] news) (hJl : ∀ i ys nx, J i ys nx → (l, listOf vs.toArray k) ∈ nx)
    (turn : ∀ (i : Nat) (t : Tok) v ys nx I oI R oR C oC D m₂ h tk (E' : Value → Shared → Prop), vs[i]? = some v → J i ys nx → NsObj oC m₂ → m₂ x = some (.int i t) → m₂ x₂ = some v → Fr h₀ L h m → News h₀ L h ((I, oI) :: (R, oR) :: (C, oC) :: (D, lst ys) :: nx) →
      (∀ p ∈ nx, @Ne Nat p.1 I ∧ @Ne Nat p.1 R ∧ @Ne Nat p.1 C ∧ @Ne Nat p.1 D) → (@Ne Nat I R ∧ @Ne Nat I C ∧ @Ne Nat I D ∧ @Ne Nat R C ∧ @Ne Nat R D ∧ @Ne Nat C D) →
      wpAny (model prog w) A (eval elt (compEnvC scope cl C env)) (EEnd h₀ L m { s₁ with heap := h, toks := tk } I oI R oR C oC D (lst ys) (fun y nx' => J (i + 1) (ys ++ [y]) nx')) E' { s₁ with heap := h, toks := tk })
    (fin : ∀ g ys nx, J vs.length ys nx → Fin { s₁ with heap := g } ys nx) : EnumAt prog w A h₀ L m env elt x x₂ scope cl Fin s₁ (.ref e)
inductive EnumJ (s₁ : Shared) (h₀ : Heap) (L : Addr) (m : Str → Option Value) (e it l : Addr) (vs : List Value) (C D : Addr) (J : Nat → List Value → Led → Prop) : Nat → Shared → Prop
  | mk (h' : Heap) (tk i : Nat) (ys : List Value) (m' : Str → Option Value) (nx : Led) (hi : i ≤ vs.length) (hyl : ys.length = i) (he : ∃ old, IsEnum h' e it (i : Nat) old) (hit : h'.IsListIter it l i) (F : Fr h₀ L h' m) (hn : h'.Ns C m')
    (N : News h₀ L h' ((D, lst ys) :: nx)) (off : ∀ p ∈ nx, @Ne Nat p.1 e ∧ @Ne Nat p.1 it ∧ @Ne Nat p.1 C ∧ @Ne Nat p.1 D) (hJ : J i ys nx) : EnumJ s₁ h₀ L m e it l vs C D J (vs.length + 1 - i) { s₁ with heap := h', toks := tk }
section
variable {prog : Program} {w : World} {A : Around} {E : Value → Shared → Prop} {s : Shared} {h₀ : Heap} {L : Addr} {m : Str → Option Value} {env : Env}
theorem comp_enum {elt iter : PySem.Expr} {x x₂ : Str} {px px₂ tp : Pos} {kk : Nat} {scope : Scope} {cl : List (Str × Addr)} {pos : Pos} {Q : Value → Shared → Prop} (_F₀ : Fr h₀ L s.heap m)
    (hclos : closureFor scope env = pure cl) (hcell : ∀ y ∈ scope.names, y.2 ≠ .cell) (hkind : scope.kind = .function)
    (hnames : ∀ y ∈ scope.names, y.2 = .local → scope.names.lookup y.1 = some .local) (hx : scope.names.lookup x = some .local) (hx₂ : scope.names.lookup x₂ = some .local) (hxx : ¬ x = x₂)
    (h : wpAny (model prog w) A (eval iter env) (fun xv s₂ => EnumAt prog w A h₀ L m env elt x x₂ scope cl (fun s₂ => FinE h₀ L m s₂ Q) s₂ xv) E s)
    (hs : ∀ x, foldedSetIterable iter env x = pure x := by intro _; rfl) :
    wpAny (model prog w) A (eval (.ListComp elt [⟨.Tuple [.Name x px, .Name x₂ px₂] kk tp, iter, [], 0⟩] scope pos) env) Q E s := by
  rw [eval_ListComp]
  refine wpAny_comprehension_free (use := none) rfl hs hclos hkind hnames (wpAny_mono h (fun xv s₁ h₁ => ?_) fun _ _ e => e)
  obtain ⟨e, it, l, vs, k, news, J, hh, F, N, hl, ⟨old, he⟩, hit, ⟨hei, heL, hiL⟩, he0, hi0, off, hsz, hJ0, hJl, turn, fin⟩ := h₁
  refine wpAny_pyIter_enum he ?_
  refine wpAny_newObj_type (wpAny_newFunctionEnv hcell (by intro y hy; simp at hy) (fun h₁ hns₁ hsb₁ => ?_) hkind)
  dsimp only at hns₁ hsb₁ ⊢
  generalize hH2 : s₁.heap.push { cls := .type "list", dict := none, data := .seq ([] : List Value).toArray } = H2 at hns₁ hsb₁ ⊢
  have hC : H2.objs.size = s₁.heap.objs.size + 1 := by rw [← hH2, Heap.size_push]
  have hDC : @Ne Nat s₁.heap.objs.size H2.objs.size := by rw [hC]; exact Nat.ne_of_lt (Nat.lt_succ_self _)
  have below : ∀ b : Nat, b < s₁.heap.objs.size → @Ne Nat b H2.objs.size ∧ @Ne Nat b s₁.heap.objs.size := fun b hb => ⟨by rw [hC]; exact Nat.ne_of_lt (Nat.lt_succ_of_lt hb), Nat.ne_of_lt hb⟩
  have bE := below e (Heap.lt_size he)
  have bI := below it (by obtain ⟨o, ho, _⟩ := hit; exact Heap.lt_size ho)
  have bL := below L F.ns.lt
  have up₁ : ∀ b o, s₁.heap.get? b = some o → h₁.get? b = some o := fun b o e => hsb₁.extBut b o (below b (Heap.lt_size e)).1 (Heap.get?_push_of_some _ (hH2 ▸ Heap.get?_push_of_some _ e))
  have hacc : h₁.get? s₁.heap.objs.size = some (lst []) := hsb₁.extBut _ _ hDC (Heap.get?_push_of_some _ (hH2 ▸ Heap.get?_push_size _ rfl))
  have fresh₀ : ∀ a : Nat, s₁.heap.objs.size ≤ a → h₀.get? a = none := fun a ha => by
    cases e9 : h₀.get? a with
    | none => rfl
    | some o' => exact absurd (Heap.lt_size (F.keep a o' e9)) (Nat.not_lt.mpr ha)
  have hD₀ : h₀.get? s₁.heap.objs.size = none := fresh₀ _ (Nat.le_refl _)
  have hC₀ : h₀.get? H2.objs.size = none := fresh₀ _ (by rw [hC]; exact Nat.le_succ _)
  have loop : ∀ s₃ : Shared, s₃ = { s₁ with heap := h₁, toks := s₁.toks + ([] : List (Str × Value)).length } →
      codeAny (model prog w) A (.compLoop (.ListComp elt [⟨.Tuple [.Name x px, .Name x₂ px₂] kk tp, iter, [], 0⟩] scope pos) 0 (.ref e) (.ref s₁.heap.objs.size) (compEnvC scope cl H2.objs.size env))
        (compPost (model prog w) A E none Q (.ref s₁.heap.objs.size) H2.objs.size) s₃ := by
    rintro s₃ rfl
    refine PySem.W.kcp_loop
      (EnumJ s₁ h₀ L m e it l vs H2.objs.size s₁.heap.objs.size J) ?_ (vs.length + 1)
      (.mk h₁ _ 0 [] _ news (Nat.zero_le _) rfl ⟨old, by simpa using up₁ _ _ he⟩ (hit.at fun o q => up₁ _ o q) (F.keeps up₁) hns₁ (fun p hp => ?_) (fun p hp => ?_) hJ0)
    · rintro n s' ⟨h', tk, i, ys, m', nx, hi, hyl, ⟨old', he'⟩, hit', F', hn', N', off', hJ⟩
      have hll : h'.IsList l vs.toArray := ⟨_, (N' _ (List.mem_cons_of_mem _ (hJl _ _ _ hJ))).1, rfl, _, rfl⟩
      by_cases hlt : i < vs.length
      · have hv : vs[i]? = some vs[i] := List.getElem?_eq_getElem hlt
        refine wpAny_pyNext_enum_item he' hit' hll (x := vs[i]) (by simpa using hv) hei fun h₂ ho₂ hit₂ hT₂ hsz₂ hk₂ => ?_
        have hTe : @Ne Nat e h'.objs.size := Nat.ne_of_lt (Heap.lt_size he')
        refine wpAny_letOwnedTupleGo_enum ho₂ fun h₃ he₃ hs₃ => ?_
        have up₃ : ∀ c o, @Ne Nat c e → @Ne Nat c it → h'.get? c = some o → h₃.get? c = some o := fun c o h1 h2 q => hs₃.extBut c o h1 (hk₂ c o h1 h2 q)
        have hit₃ : h₃.IsListIter it l (i + 1) := hit₂.extBut hs₃.extBut (Ne.symm hei)
        have hT₃ : h₃.IsTuple h'.objs.size #[.int (i : Int) tk, vs[i]] := ⟨_, hs₃.extBut _ _ (Ne.symm hTe) hT₂, rfl, _, rfl⟩
        refine PySem.W.kcp_assign (env := compEnvC scope cl H2.objs.size env) hh hT₃ (lookup_relabel_local hx) (lookup_relabel_local hx₂) (by simp [compEnvC, relabel, hkind]) (hn'.at' fun o q => up₃ _ o (Ne.symm bE.1) (Ne.symm bI.1) q) fun h₄ tk₄ hn₄ hs₄ => ?_
        have hs₄' : ∀ c o, @Ne Nat c H2.objs.size → h₃.get? c = some o → h₄.get? c = some o := hs₄
        have up : ∀ c o, @Ne Nat c e → @Ne Nat c it → @Ne Nat c H2.objs.size → h'.get? c = some o → h₄.get? c = some o := fun c o h1 h2 h3 q => hs₄' c o h3 (up₃ c o h1 h2 q)
        have he₄ : IsEnum h₄ e it ((i : Int) + 1) vs[i] := hs₄' e _ bE.1 he₃
        have hit₄ : h₄.IsListIter it l (i + 1) := hit₃.at fun o q => hs₄' it o bI.1 q
        obtain ⟨oI, heI, hoI⟩ : ∃ oI : Obj, h₄.get? e = some oI ∧ ∀ h : Heap, h.get? e = some oI → IsEnum h e it ((i : Int) + 1) vs[i] := ⟨_, he₄, fun _ q => q⟩
        obtain ⟨oR, heR, hoR⟩ : ∃ oR : Obj, h₄.get? it = some oR ∧ ∀ h : Heap, h.get? it = some oR → h.IsListIter it l (i + 1) := by
          obtain ⟨o, ho, r⟩ := hit₄
          exact ⟨o, ho, fun _ q => ⟨o, q, r⟩⟩
        obtain ⟨oC, heC, hoC⟩ := ns_obj hn₄
        have F₄ : Fr h₀ L h₄ m := ⟨F'.ns.at' fun o q => up _ o (Ne.symm heL) (Ne.symm hiL) bL.1 q, fun c o q => up c o (fun z => by rw [show c = e from z, he0] at q; cases q) (fun z => by rw [show c = it from z, hi0] at q; cases q) (fun z => by rw [show c = H2.objs.size from z, hC₀] at q; cases q) (F'.keep c o q), F'.above⟩
        have N₄ : News h₀ L h₄ ((e, oI) :: (it, oR) :: (H2.objs.size, oC) :: (s₁.heap.objs.size, lst ys) :: nx) := fun q hq => by
          rcases List.mem_cons.mp hq with rfl | hq
          · exact ⟨heI, heL, he0⟩
          · rcases List.mem_cons.mp hq with rfl | hq
            · exact ⟨heR, hiL, hi0⟩
            · rcases List.mem_cons.mp hq with rfl | hq
              · exact ⟨heC, Ne.symm bL.1, hC₀⟩
              · have z := N' q hq
                rcases List.mem_cons.mp hq with rfl | hq
                · exact ⟨up _ _ (Ne.symm bE.2) (Ne.symm bI.2) hDC z.1, z.2⟩
                · have o4 := off' q hq
                  exact ⟨up _ _ o4.1 o4.2.1 o4.2.2.1 z.1, z.2⟩
        refine wpAny_mono (turn i tk vs[i] ys nx e oI it oR H2.objs.size oC s₁.heap.objs.size _ h₄ tk₄ _ hv hJ hoC (by simp [hxx]) (by simp) F₄ N₄ off' ⟨hei, bE.1, bE.2, bI.1, bI.2, Ne.symm hDC⟩) (fun y s₅ h₅ => ?_) fun _ _ q => q
        obtain ⟨h₅, tk₅, nx₅, rfl, F₅, N₅, off₅, hJ₅⟩ := h₅
        have zI := (N₅ (e, oI) (.head _)).1
        have zR := (N₅ (it, oR) (.tail _ (.head _))).1
        have zC := (N₅ (H2.objs.size, oC) (.tail _ (.tail _ (.head _)))).1
        have zD := (N₅ (s₁.heap.objs.size, lst ys) (.tail _ (.tail _ (.tail _ (.head _))))).1
        refine append_at (hsz := by show ys.toArray.size ≤ sizeLine; rw [List.size_toArray, hyl]; exact Nat.le_trans hi hsz) zD fun h₆ hs₆ hD₆ => ?_
        have hs₆' : ∀ c o, @Ne Nat c s₁.heap.objs.size → h₅.get? c = some o → h₆.get? c = some o := fun c o h1 q => hs₆.extBut c o h1 q
        refine ⟨vs.length + 1 - (i + 1), by omega, .mk h₆ tk₅ (i + 1) (ys ++ [y]) _ nx₅ hlt (by rw [List.length_append, List.length_singleton, hyl]) ⟨_, by simpa using hoI h₆ (hs₆' _ _ bE.2 zI)⟩ (hoR h₆ (hs₆' _ _ bI.2 zR)) (F₅.change hs₆ (Ne.symm bL.2) hD₀)
          ((hoC.ns zC).sameBut hs₆ (Ne.symm hDC)) (fun q hq => ?_) off₅ hJ₅⟩
        rcases List.mem_cons.mp hq with rfl | hq
        · exact ⟨hD₆.trans (congrArg some (lst_snoc ys y)), Ne.symm bL.2, hD₀⟩
        · have z := N₅ q (.tail _ (.tail _ (.tail _ (.tail _ hq))))
          exact ⟨hs₆' _ _ (off₅ q hq).2.2.2 z.1, z.2⟩
      · obtain rfl : i = vs.length := Nat.le_antisymm hi (Nat.not_lt.mp hlt)
        refine wpAny_pyNext_enum_end hh he' hit' hll (by simp) fun h₂ hk₂ => ?_
        have hk₂' : ∀ c o, @Ne Nat c it → h'.get? c = some o → h₂.get? c = some o := fun c o h1 q => hk₂ c o h1 q
        have F₂ : Fr h₀ L h₂ m := ⟨F'.ns.at' fun o q => hk₂' _ o (Ne.symm hiL) q, fun c o q => hk₂' c o (fun z => by rw [show c = it from z, hi0] at q; cases q) (F'.keep c o q), F'.above⟩
        refine ⟨_, hn'.at' fun o q => hk₂' _ o (Ne.symm bI.1) q, fun h'' hs'' => fin h₂ ys nx hJ s₁.heap.objs.size h'' tk (F₂.change hs'' (Ne.symm bL.1) hC₀) (fun p hp => ?_) ?_⟩
        · rcases List.mem_cons.mp hp with rfl | hp
          · exact ⟨hs''.extBut _ _ hDC (hk₂' _ _ (Ne.symm bI.2) (N' _ (.head _)).1), Ne.symm bL.2, hD₀⟩
          · have z := N' p (.tail _ hp)
            have o4 := off' p hp
            exact ⟨hs''.extBut _ _ o4.2.2.1 (hk₂' _ _ o4.2.1 z.1), z.2⟩
        · clear turn fin hJl hJ N'
          induction nx with
          | nil => exact trivial
          | cons p r ih => exact ⟨(off' p (.head _)).2.2.2, ih fun q hq => off' q (.tail _ hq)⟩
    · rcases List.mem_cons.mp hp with rfl | hp
      · exact ⟨hacc, Ne.symm bL.2, hD₀⟩
      · exact ⟨up₁ _ _ (N p hp).1, (N p hp).2⟩
    · have z := below p.1 (Heap.lt_size (N p hp).1)
      exact ⟨(off p hp).1, (off p hp).2, z.1, z.2⟩
  exact codeAny_compStart_list (loop _ rfl) (wpAny_pyIter_enum (up₁ _ _ he) (loop _ rfl))
theorem enum_call {elt : PySem.Expr} {x x₂ : Str} {scope : Scope} {cl : List (Str × Addr)} {Fin : Shared → List Value → Led → Prop} {l : Addr} {vs : List Value} {k : Nat} {news : Led} (J : Nat → List Value → Led → Prop)
    (hh : A.handled = none) (F : Fr h₀ L s.heap m) (N : News h₀ L s.heap news) (hl : (l, listOf vs.toArray k) ∈ news) (hsz : vs.length ≤ 16777216) (h0 : J 0 [] news) (hJl : ∀ i ys nx, J i ys nx → (l, listOf vs.toArray k) ∈ nx)
    (turn : ∀ (i : Nat) (t : Tok) v ys nx I oI R oR C oC D m₂ h tk (E' : Value → Shared → Prop), vs[i]? = some v → J i ys nx → NsObj oC m₂ → m₂ x = some (.int i t) → m₂ x₂ = some v → Fr h₀ L h m → News h₀ L h ((I, oI) :: (R, oR) :: (C, oC) :: (D, lst ys) :: nx) →
      (∀ p ∈ nx, @Ne Nat p.1 I ∧ @Ne Nat p.1 R ∧ @Ne Nat p.1 C ∧ @Ne Nat p.1 D) → (@Ne Nat I R ∧ @Ne Nat I C ∧ @Ne Nat I D ∧ @Ne Nat R C ∧ @Ne Nat R D ∧ @Ne Nat C D) →
      wpAny (model prog w) A (eval elt (compEnvC scope cl C env)) (EEnd h₀ L m { s with heap := h, toks := tk } I oI R oR C oC D (lst ys) (fun y nx' => J (i + 1) (ys ++ [y]) nx')) E' { s with heap := h, toks := tk })
    (fin : ∀ g ys nx, J vs.length ys nx → Fin { s with heap := g } ys nx) :
    wpAny (model prog w) A (call (.type "enumerate") [.ref l]) (fun xv s₂ => EnumAt prog w A h₀ L m env elt x x₂ scope cl Fin s₂ xv) E s := by
  have hls : s.heap.IsList l vs.toArray := ⟨_, (N _ hl).1, rfl, _, rfl⟩
  refine call_enumerate_list hls fun h' he hit hsz' hk => ?_
  have e0 : ∀ b : Nat, s.heap.objs.size ≤ b → h₀.get? b = none := fun b hb => by
    cases e9 : h₀.get? b with
    | none => rfl
    | some o => exact absurd (Heap.lt_size (F.keep b o e9)) (Nat.not_lt.mpr hb)
  have hL : @LT.lt Nat _ L s.heap.objs.size := F.ns.lt
  refine ⟨s.heap.objs.size + 1, s.heap.objs.size, l, vs, k, news, J, hh, F.keeps hk, fun p hp => ⟨hk _ _ (N p hp).1, (N p hp).2⟩, hl, ⟨_, he⟩, hit, ⟨Nat.succ_ne_self _, Nat.ne_of_gt (Nat.lt_succ_of_lt hL), Nat.ne_of_gt hL⟩, e0 _ (Nat.le_succ _), e0 _ (Nat.le_refl _), fun p hp => ?_, by rw [sizeLine_eq]; exact hsz, h0, hJl, turn, fin⟩
  have z : @LT.lt Nat _ p.1 s.heap.objs.size := Heap.lt_size (N p hp).1
  exact ⟨Nat.ne_of_lt (Nat.lt_succ_of_lt z), Nat.ne_of_lt z⟩
end
end Mine

-- part Y2
namespace Mine
set_option maxRecDepth 100000
set_option maxHeartbeats 8000000
set_option pp.deepTerms false
set_option pp.deepTerms.threshold 4
set_option pp.maxSteps 100000

open PyProof.Rows.LCg PyProof.Rows.LCt
/- comprehensions over a range whose element (or test) draws from the source -/
def SEnd (h₀ : Heap) (L : Addr) (m : Str → Option Value) (s₁ : Shared) (I : Addr) (oI : Obj) (C : Addr) (oC : Obj) (D : Addr) (oD : Obj) (PRE : Led) (src : Addr) (news : Led) (J : Value → Prop) (y : Value) (s₂ : Shared) : Prop :=
  ∃ h' tk os', s₂ = { s₁ with heap := h', toks := tk } ∧ Fr h₀ L h' m ∧ News h₀ L h' ((I, oI) :: (C, oC) :: (D, oD) :: (PRE ++ ((src, os') :: news))) ∧ Src os' ∧ J y
theorem send_mk {h₀ h' : Heap} {L : Addr} {m : Str → Option Value} {s₁ : Shared} {I C D src : Addr} {oI oC oD os' : Obj} {PRE news : Led} {J : Value → Prop} {y : Value} {tk : Nat} (F : Fr h₀ L h' m) (N : News h₀ L h' ((I, oI) :: (C, oC) :: (D, oD) :: (PRE ++ ((src, os') :: news)))) (hS : Src os') (hJ : J y) :
    SEnd h₀ L m s₁ I oI C oC D oD PRE src news J y { s₁ with heap := h', toks := tk } := ⟨h', tk, os', rfl, F, N, hS, hJ⟩
theorem off_src {PRE news : Led} {src a : Addr} {o o' : Obj} (h : ∀ p ∈ PRE ++ ((src, o) :: news), p.1 ≠ a) : ∀ p ∈ PRE ++ ((src, o') :: news), p.1 ≠ a := fun p hp => by
  rcases List.mem_append.mp hp with hp | hp
  · exact h p (List.mem_append.mpr (.inl hp))
  · rcases List.mem_cons.mp hp with rfl | hp
    · exact h (src, o) (List.mem_append.mpr (.inr (.head _)))
    · exact h p (List.mem_append.mpr (.inr (.tail _ hp)))
section
variable {prog : Program} {w : World} {A : Around} {h₀ : Heap} {L : Addr} {m : Str → Option Value} {env : Env} {ct elt : PySem.Expr} {x : Str} {scope : Scope} {cl : List (Str × Addr)} {s₁ : Shared} {Fin : Shared → List Value → Led → Prop} {news : Led}
theorem comp_draw (PRE : Led) {src : Addr} {os : Obj} {r : Addr} {a b : Int} {t u v : Tok} {n : Nat} (J : Nat → List Value → Prop)
    (hh : A.handled = none) (F : Fr h₀ L s₁.heap m) (N : News h₀ L s₁.heap (PRE ++ ((src, os) :: news))) (hr : IsRange s₁.heap r a b 1 t u v) (hsm : Builtin.Range.small a b 1 = true) (hn : Builtin.Range.rangeSize a b 1 = ((n : Nat) : Int)) (hsz : n ≤ 16777216) (h0 : J 0 []) (hS : Src os)
    (turn : ∀ i t ys os' I oI C oC D m₂ h tk (E' : Value → Shared → Prop), i < n → J i ys → Src os' → NsObj oC m₂ → m₂ x = some (.int (a + (i : Int)) t) → Fr h₀ L h m → News h₀ L h ((I, oI) :: (C, oC) :: (D, lst ys) :: (PRE ++ ((src, os') :: news))) →
      (@Ne Nat src I ∧ @Ne Nat src C ∧ @Ne Nat src D) → (∀ p ∈ PRE ++ ((src, os') :: news), p.1 ≠ I) → (∀ p ∈ PRE ++ ((src, os') :: news), p.1 ≠ C) → (∀ p ∈ PRE ++ ((src, os') :: news), p.1 ≠ D) → @Ne Nat I C → @Ne Nat I D → @Ne Nat C D →
      wpAny (model prog w) A (eval elt (compEnvC scope cl C env)) (SEnd h₀ L m { s₁ with heap := h, toks := tk } I oI C oC D (lst ys) PRE src news (fun y => J (i + 1) (ys ++ [y]))) E' { s₁ with heap := h, toks := tk })
    (fin : ∀ g ys os', J n ys → Src os' → Fin { s₁ with heap := g } ys (PRE ++ ((src, os') :: news))) : CompSrc prog w A h₀ L m env elt x scope cl Fin (.ref r) s₁ := by
  refine comp_range (n := n) (fun i ys nx => ∃ os', nx = PRE ++ ((src, os') :: news) ∧ Src os' ∧ J i ys) hh F N hr hsm hn hsz ⟨os, rfl, hS, h0⟩ ?_ ?_
  · rintro i t ys nx I oI C oC D m₂ h tk E' hi ⟨os', rfl, hS', hJ⟩ hC hx F' N' o1 o2 o3 r1 r2 r3
    have hm : ((src, os') : Addr × Obj) ∈ PRE ++ ((src, os') :: news) := List.mem_append.mpr (.inr (.head _))
    refine wpAny_mono (turn i t ys os' I oI C oC D m₂ h tk E' hi hJ hS' hC hx F' N' ⟨o1 _ hm, o2 _ hm, o3 _ hm⟩ o1 o2 o3 r1 r2 r3) (fun y s₂ hq => ?_) fun _ _ e => e
    obtain ⟨h', tk', os2, rfl, F2, N2, hS2, hJ2⟩ := hq
    exact ⟨h', tk', _, rfl, F2, N2, off_src o1, off_src o2, off_src o3, os2, rfl, hS2, hJ2⟩
  · rintro g ys nx ⟨os', rfl, hS', hJ⟩
    exact fin g ys os' hJ hS'
theorem compT_draw (PRE : Led) {src : Addr} {os : Obj} {r : Addr} {a b : Int} {t u v : Tok} {n : Nat} (J : Nat → List Value → Prop)
    (hh : A.handled = none) (F : Fr h₀ L s₁.heap m) (N : News h₀ L s₁.heap (PRE ++ ((src, os) :: news))) (hr : IsRange s₁.heap r a b 1 t u v) (hsm : Builtin.Range.small a b 1 = true) (hn : Builtin.Range.rangeSize a b 1 = ((n : Nat) : Int)) (hsz : n ≤ 16777216) (h0 : J 0 []) (hS : Src os)
    (turn : ∀ i t ys os' I oI C oC D m₂ h tk (E' : Value → Shared → Prop), i < n → J i ys → Src os' → NsObj oC m₂ → m₂ x = some (.int (a + (i : Int)) t) → Fr h₀ L h m → News h₀ L h ((I, oI) :: (C, oC) :: (D, lst ys) :: (PRE ++ ((src, os') :: news))) →
      (@Ne Nat src I ∧ @Ne Nat src C ∧ @Ne Nat src D) → (∀ p ∈ PRE ++ ((src, os') :: news), p.1 ≠ I) → (∀ p ∈ PRE ++ ((src, os') :: news), p.1 ≠ C) → (∀ p ∈ PRE ++ ((src, os') :: news), p.1 ≠ D) → @Ne Nat I C → @Ne Nat I D → @Ne Nat C D →
      wpAny (model prog w) A (isTrue ct (compEnvC scope cl C env) (eval ct (compEnvC scope cl C env))) (fun ok s' => if ok = true then
        wpAny (model prog w) A (eval elt (compEnvC scope cl C env)) (SEnd h₀ L m { s₁ with heap := h, toks := tk } I oI C oC D (lst ys) PRE src news (fun y => J (i + 1) (ys ++ [y]))) E' s'
        else SEnd h₀ L m { s₁ with heap := h, toks := tk } I oI C oC D (lst ys) PRE src news (fun _ => J (i + 1) ys) Value.none s') E' { s₁ with heap := h, toks := tk })
    (fin : ∀ g ys os', J n ys → Src os' → Fin { s₁ with heap := g } ys (PRE ++ ((src, os') :: news))) : CompSrcT prog w A h₀ L m env ct elt x scope cl Fin (.ref r) s₁ := by
  refine compT_range (n := n) (fun i ys nx => ∃ os', nx = PRE ++ ((src, os') :: news) ∧ Src os' ∧ J i ys) hh F N hr hsm hn hsz ⟨os, rfl, hS, h0⟩ ?_ ?_
  · rintro i t ys nx I oI C oC D m₂ h tk E' hi ⟨os', rfl, hS', hJ⟩ hC hx F' N' o1 o2 o3 r1 r2 r3
    have hm : ((src, os') : Addr × Obj) ∈ PRE ++ ((src, os') :: news) := List.mem_append.mpr (.inr (.head _))
    have conv : ∀ (J' : Value → Prop) y s₂, SEnd h₀ L m { s₁ with heap := h, toks := tk } I oI C oC D (lst ys) PRE src news J' y s₂ → CEnd h₀ L m { s₁ with heap := h, toks := tk } I oI C oC D (lst ys) (fun y nx' => ∃ os', nx' = PRE ++ ((src, os') :: news) ∧ Src os' ∧ J' y) y s₂ := by
      rintro J' y s₂ ⟨h', tk', os2, rfl, F2, N2, hS2, hJ2⟩
      exact ⟨h', tk', _, rfl, F2, N2, off_src o1, off_src o2, off_src o3, os2, rfl, hS2, hJ2⟩
    refine wpAny_mono (turn i t ys os' I oI C oC D m₂ h tk E' hi hJ hS' hC hx F' N' ⟨o1 _ hm, o2 _ hm, o3 _ hm⟩ o1 o2 o3 r1 r2 r3) (fun ok s₂ hq => ?_) fun _ _ e => e
    cases ok with
    | true =>
      simp only [if_true] at hq ⊢
      exact wpAny_mono hq (fun y s₃ hq => conv _ y s₃ hq) fun _ _ e => e
    | false =>
      simp only [Bool.false_eq_true, if_false] at hq ⊢
      exact conv _ _ _ hq
  · rintro g ys nx ⟨os', rfl, hS', hJ⟩
    exact fin g ys os' hJ hS'
end
end Mine

-- part Y3
namespace Mine
set_option maxRecDepth 100000
set_option maxHeartbeats 8000000
set_option pp.deepTerms false
set_option pp.deepTerms.threshold 4
set_option pp.maxSteps 100000

open PyProof.Rows.LCg PyProof.Rows.LCt
theorem led_of {h₀ h : Heap} {L : Addr} {W : Led} (N : News h₀ L h W) : ∃ W0, W0 = W ∧ News h₀ L h W0 := ⟨W, rfl, N⟩
/-- every object of the first ledger lies above every object of the second -/
def Over (M W : Led) : Prop := ∀ p ∈ M, ∀ q ∈ W, @LT.lt Nat _ q.1 p.1
theorem Over.nil {W : Led} : Over [] W := fun _ h => nomatch h
theorem Over.cons {M W : Led} {a : Addr} {o : Obj} (h : Over M W) (ha : AllLt a W) : Over ((a, o) :: M) W := fun p hp q hq => by
  rcases List.mem_cons.mp hp with rfl | hp
  · exact tb_ltOf ha q hq
  · exact h p hp q hq
theorem all_made {M W news : Led} {a : Addr} {o : Obj} (h : Over M W) (hm : (a, o) ∈ W) (hl : AllLt a news) : ∀ p ∈ M ++ news, p.1 ≠ a := fun p hp => by
  rcases List.mem_append.mp hp with hp | hp
  · exact Nat.ne_of_gt (h p hp _ hm)
  · exact Nat.ne_of_lt (tb_ltOf hl p hp)
theorem allLt_right {a : Addr} {M W : Led} (h : AllLt a (M ++ W)) : AllLt a W := allLt_of fun p hp => tb_ltOf h p (List.mem_append.mpr (.inr hp))
theorem allLt_le' {a b : Addr} {Z : Led} (h : AllLt a Z) (hab : @LT.lt Nat _ a b) : AllLt b Z := allLt_of fun p hp => Nat.lt_trans (tb_ltOf h p hp) hab
theorem news_mv {h₀ h : Heap} {L : Addr} {M PRE news : Led} {d : Addr × Obj} (N : News h₀ L h (d :: (M ++ (PRE ++ news)))) : News h₀ L h (d :: (PRE ++ (M ++ news))) := news_sub N fun p hp => by
  simp only [List.mem_cons, List.mem_append] at hp ⊢
  rcases hp with e | e | e | e
  · exact .inl e
  · exact .inr (.inr (.inl e))
  · exact .inr (.inl e)
  · exact .inr (.inr (.inr e))
theorem off_mv {D : Addr} {M PRE news : Led} (h : Off1 D (M ++ (PRE ++ news))) : Off1 D (PRE ++ (M ++ news)) := by
  have key : ∀ (l : Led), Off1 D l ↔ ∀ p ∈ l, @Ne Nat p.1 D := fun l => by
    induction l with
    | nil => exact ⟨fun _ => (fun _ h => nomatch h), fun _ => trivial⟩
    | cons a r ih => exact ⟨fun h p hp => (List.mem_cons.mp hp).elim (fun e => e ▸ h.1) fun h9 => ih.mp h.2 p h9, fun h => ⟨h _ (.head _), ih.mpr fun p hp => h p (.tail _ hp)⟩⟩
  refine (key _).mpr fun p hp => (key _).mp h p ?_
  simp only [List.mem_append] at hp ⊢
  rcases hp with e | e | e
  · exact .inr (.inl e)
  · exact .inl e
  · exact .inr (.inr e)
theorem RtAt.mono {P : Params} {Z Z' : Led} {v : Value} {a b : Int} (h : RtAt P Z v a b) (hs : ∀ p ∈ Z, p ∈ Z') : RtAt P Z' v a b := by
  obtain ⟨x, d, t1, t2, t3, t4, t5, u1, u2, u3, u4, u5, net, k, face, e, h1, h2⟩ := h.ex
  exact ⟨x, d, t1, t2, t3, t4, t5, u1, u2, u3, u4, u5, net, k, face, e, hs _ h1, hs _ h2⟩
theorem RtsAre.mono {P : Params} {Z Z' : Led} {vs : List Value} {ms : List Int} (h : RtsAre P Z vs ms) (hs : ∀ p ∈ Z, p ∈ Z') : RtsAre P Z' vs ms := ⟨h.1, fun i v mt h1 h2 => (h.2 i v mt h1 h2).mono hs⟩
theorem RtsAre.snoc {P : Params} {Z : Led} {vs : List Value} {ms : List Int} {v : Value} {mt : Int} {i : Nat} (h : RtsAre P Z vs ms) (hi : vs.length = i) (hr : RtAt P Z v (i : Int) mt) : RtsAre P Z (vs ++ [v]) (ms ++ [mt]) := by
  refine ⟨by simp [h.1], fun j x y h1 h2 => ?_⟩
  by_cases e : j < vs.length
  · rw [List.getElem?_append_left e] at h1
    rw [List.getElem?_append_left (by rw [← h.1]; exact e)] at h2
    exact h.2 j x y h1 h2
  · rw [List.getElem?_append_right (by omega)] at h1
    rw [List.getElem?_append_right (by rw [← h.1]; omega), ← h.1] at h2
    cases e2 : j - vs.length with
    | zero =>
      rw [e2] at h1 h2
      cases h1; cases h2
      have : j = i := by omega
      rw [this]
      exact hr
    | succ k => rw [e2] at h1; cases h1
theorem eend_made {h₀ h' : Heap} {L : Addr} {m : Str → Option Value} {s₁ s₂ : Shared} {I R C D x d : Addr} {oI oR oC oD ox od : Obj} {MADE W0 : Led} {K : Value → Led → Prop} {y : Value} {tk : Nat}
    (e : s₂ = { s₁ with heap := h', toks := tk }) (F : Fr h₀ L h' m) (N : News h₀ L h' ((x, ox) :: (d, od) :: (I, oI) :: (R, oR) :: (C, oC) :: (D, oD) :: (MADE ++ W0)))
    (l1 : @LT.lt Nat _ I d ∧ @LT.lt Nat _ R d ∧ @LT.lt Nat _ C d ∧ @LT.lt Nat _ D d ∧ AllLt d (MADE ++ W0)) (l2 : @LT.lt Nat _ d x) (off : ∀ p ∈ MADE ++ W0, @Ne Nat p.1 I ∧ @Ne Nat p.1 R ∧ @Ne Nat p.1 C ∧ @Ne Nat p.1 D) (hM : Over MADE W0)
    (hK : K y ((x, ox) :: (d, od) :: MADE)) : EEnd h₀ L m s₁ I oI R oR C oC D oD (fun y nx => ∃ M, nx = M ++ W0 ∧ K y M ∧ Over M W0) y s₂ := by
  obtain ⟨a1, a2, a3, a4, al⟩ := l1
  refine ⟨h', tk, (x, ox) :: (d, od) :: (MADE ++ W0), e, F, news_sub N (fun p hp => ?_), fun p hp => ?_, (x, ox) :: (d, od) :: MADE, rfl, hK, (hM.cons (allLt_right al)).cons (allLt_le' (allLt_right al) l2)⟩
  · simp only [List.mem_cons, List.mem_append] at hp ⊢
    rcases hp with e | e | e | e | e | e | e
    · exact .inr (.inr (.inl e))
    · exact .inr (.inr (.inr (.inl e)))
    · exact .inr (.inr (.inr (.inr (.inl e))))
    · exact .inr (.inr (.inr (.inr (.inr (.inl e)))))
    · exact .inl e
    · exact .inr (.inl e)
    · exact .inr (.inr (.inr (.inr (.inr (.inr e)))))
  · rcases List.mem_cons.mp hp with rfl | hp
    · exact ⟨Nat.ne_of_gt (Nat.lt_trans a1 l2), Nat.ne_of_gt (Nat.lt_trans a2 l2), Nat.ne_of_gt (Nat.lt_trans a3 l2), Nat.ne_of_gt (Nat.lt_trans a4 l2)⟩
    · rcases List.mem_cons.mp hp with rfl | hp
      · exact ⟨Nat.ne_of_gt a1, Nat.ne_of_gt a2, Nat.ne_of_gt a3, Nat.ne_of_gt a4⟩
      · exact off p hp
theorem take_one {ms : List Int} {i : Nat} (hi : i < ms.length) : ms.take (i + 1) = ms.take i ++ [ms[i]] := by
  rw [List.take_add_one, List.getElem?_eq_getElem hi, Option.toList_some]
theorem ints_snoc {zs : List Value} {ms : List Int} {i : Nat} {t : Tok} (hi : i < ms.length) (h : IntsAre zs (ms.take i)) : IntsAre (zs ++ [.int ms[i] t]) (ms.take (i + 1)) := by
  rw [take_one hi]; exact h.append (.cons _ _ .nil)
theorem first_idx {ms : List Int} {j : Nat} {M : Int} (h : FirstMin ms ms.length j) (hM : M ∈ ms) (hle : ∀ a, a ∈ ms → M ≤ a) : (j : Int) = ((ms.idxOf M : Nat) : Int) := by
  obtain ⟨hj, mj, e1, e2, e3⟩ := h
  have hi : ms.idxOf M < ms.length := List.idxOf_lt_length_iff.mpr hM
  have hg : ms[ms.idxOf M]'hi = M := List.getElem_idxOf hi
  have hg' : ms[ms.idxOf M]? = some M := by rw [List.getElem?_eq_getElem hi, hg]
  have hmj : mj ∈ ms := List.mem_of_getElem? e1
  have h1 := hle mj hmj
  have h2 := e3 _ _ hi hg'
  have hM2 : M = mj := by omega
  have h3 : ¬ ms.idxOf M < j := fun hlt => by have := e2 _ _ hlt hg'; omega
  have h4 : ¬ j < ms.idxOf M := fun hlt => by
    have h5 := ne_of_lt_idxOf hlt hj
    rw [List.getElem?_eq_getElem hj] at e1
    rw [Option.some.inj e1, hM2] at h5
    simp at h5
  omega
section
variable {prog : Program} {w : World} {A : Around} {E : Value → Shared → Prop} {Q : Value → Shared → Prop} {s : Shared} {h₀ : Heap} {L : Addr} {m : Str → Option Value} {news : Led}
theorem my_index {l : Addr} {vs : List Value} {ns : List Int} {k : Int} {t : Tok} {n : Nat} (N : News h₀ L s.heap news) (hl : (l, listOf vs.toArray n) ∈ news) (hi : IntsAre vs ns) (hsz : vs.length ≤ 1000) (hk : k ∈ ns)
    (h : Q (.int (ns.idxOf k : Nat) s.toks) { s with toks := s.toks + 1 }) : wpAny (model prog w) A (call (.builtin "list.index") [.ref l, .int k t]) Q E s := by
  have ho := (N _ hl).1
  have hlen : vs.length = ns.length := hi.length
  have hj : ns.idxOf k < ns.length := List.idxOf_lt_length_iff.mpr hk
  refine call_meets PySem.F.slot_list_index ⟨_, ho, rfl⟩ PySem.F.entry_list_index (PySem.F.args_list_index_2 _ _)
    (SeqAt.list_indexAt l vs.toArray n none #[] (.int k t) (isInt k) (ns.idxOf k) (by rw [List.size_toArray, hlen]; exact hj) (by omega) ?_ ?_) ⟨ho, fun y hy => (eq_isInt k t hi y (List.mem_toArray.mp hy)).at _ _, h⟩
  · show isInt k (vs[ns.idxOf k]'(by omega)) = true
    rw [isInt_at k hi _ (by omega) hj, List.getElem_idxOf hj, beq_self_eq_true]
  · intro j hjs hlt
    have hjs' : j < vs.length := by rw [List.size_toArray] at hjs; exact hjs
    show isInt k vs[j] = false
    rw [isInt_at k hi j hjs' (by omega)]
    exact ne_of_lt_idxOf hlt _
end
end Mine

-- part B2
namespace Mine
set_option maxRecDepth 100000
set_option maxHeartbeats 8000000
set_option pp.deepTerms false
set_option pp.deepTerms.threshold 4
set_option pp.maxSteps 100000


/- one branch by itself, the bit a letter -/

section

variable {prog : Program} {w : World} {p : Program} {loose : List Str} {mean : ExcName → Option Value} {mg mb : Str → Option Value}
    {dp un : Nat} {gd : Option (List Code)} {cn : Str} {cs : Scope} {a : Addr} {ccd : Value} {cl : List (Str × Addr)} {outer : List Env} {A₀ : Around} {base h₀ : Heap} {L : Addr} {m : Str → Option Value} {news : List (Addr × Obj)} {s : Shared} {Q E : Value → Shared → Prop}

theorem zsetB21 : True := by
  k_with_none
  k_with "z_ch" => first | with_reducible assumption | (refine' And.right ?_; rotate_left; first | with_reducible assumption | (refine' And.right ?_; rotate_left; first | with_reducible assumption | (refine' And.right ?_; rotate_left; first | with_reducible assumption | (refine' And.right ?_; rotate_left; first | with_reducible assumption | (refine' And.right ?_; rotate_left; first | with_reducible assumption | (refine' And.right ?_; rotate_left; first | with_reducible assumption | (refine' And.right ?_; rotate_left; with_reducible assumption)))))))
  k_with "z_lt" => first | with_reducible assumption | (refine' And.left ?_; rotate_left; k_extra "z_ch") | (refine' And.right ?_; rotate_left; k_extra "z_ch")
  k_with "k_ne" => (refine neN ?_; (try dsimp only); first | (refine' Nat.ne_of_gt ?_; k_extra "z_lt") | (refine' Nat.ne_of_lt ?_; k_extra "z_lt") | (refine' Nat.ne_of_gt (Nat.lt_trans ?_ (by with_reducible assumption)); k_extra "z_lt") | (refine' Nat.ne_of_lt (Nat.lt_trans ?_ (by with_reducible assumption)); k_extra "z_lt"))
  k_with "zfold" => ((fail_if_success (fail_if_success k_fold)); refine zfold_q ?_; intro qk)
  k_with "k_env" => (refine zfold_env (f := fun en9 => execs _ en9) ?_; intro en9; refine zfold_A ?_; intro ak9; (rename Fr _ _ _ _ => fr9); refine zfold_F fr9 ?_; clear fr9; intro fm9 fr9; try (refine zgen_t ?_; intro tk9))
  k_with "ktr_room" => first | exact fits (c := 1) hdp rfl rfl | exact fits0 (c := 1) hdp rfl rfl | exact fits (c := 2) hdp rfl rfl | exact fits0 (c := 2) hdp rfl rfl | exact fits (c := 0) hdp rfl rfl | exact fits0 (c := 0) hdp rfl rfl | exact fits (c := 3) hdp rfl rfl | exact fits0 (c := 3) hdp rfl rfl | exact Nat.le_of_ble_eq_true rfl
  k_with "ktr_units" => first | exact fits (c := 3) hun rfl rfl | exact fits0 (c := 3) hun rfl rfl | exact fits (c := 6) hun rfl rfl | exact fits0 (c := 6) hun rfl rfl | exact fits (c := 0) hun rfl rfl | exact fits0 (c := 0) hun rfl rfl | exact fits (c := 9) hun rfl rfl | exact fits0 (c := 9) hun rfl rfl | exact Nat.le_of_ble_eq_true rfl
  k_with "k_steps" => repeat' (first | (k_unfold; (try dsimp only); (try clear qk)) | (k_end; wrow_close) | walk1 | (dsimp only; walk1) | (leave1; try dsimp only) | fail "no step")
  k_with "execs cons" => (k_extra "zfold"; walk1)
  k_with "exec If" => (k_extra "zfold"; walk1)
  k_with "exec Assign" => (k_extra "zfold"; walk1)
  k_with "exec Expr" => (k_extra "zfold"; walk1)
  k_with "exec Return" => (k_extra "zfold"; walk1)
  k_with "isTrue" => (k_extra "zfold"; walk1)
  k_with "eval BinOp" => (k_extra "zfold"; walk1)
  k_with "eval BoolOp" => (k_extra "zfold"; walk1)
  k_with "eval UnaryOp" => (k_extra "zfold"; walk1)
  k_with "eval Call" => (k_extra "zfold"; walk1)
  k_with "eval Compare" => (k_extra "zfold"; walk1)
  k_with "eval Subscript" => (k_extra "zfold"; walk1)
  k_with "eval Attribute" => (k_extra "zfold"; walk1)
  k_with "eval Tuple" => (k_extra "zfold"; walk1)
  k_with "eval List nil" => (k_extra "zfold"; walk1)
  k_with "eval List cons" => (k_extra "zfold"; walk1)
  k_with "k_mem" => first | assumption | (with_reducible refine mem_appL ?_; assumption) | (with_reducible refine mem_appR ?_; assumption) | (with_reducible refine List.mem_append.mpr (Or.inl ?_); assumption) | (with_reducible refine List.mem_append.mpr (Or.inr ?_); assumption)
  k_with "k_ne" => (first | (refine' ne_neA ?zqh ?zqm; (case zqm => assumption); (case zqh => assumption)) | (refine' ne_between ?zqm ?zqh ?zqle; (case zqm => assumption); (case zqh => tbn_find); (case zqle => omega)))
  k_with "k_room" => ktr_room
  k_with "k_all" => first | assumption | (refine all_repl ?_; first | assumption | (refine tbn_neAll ?_; tbn_find))
  k_with "k_upd" => exact upd_repl (by assumption) (by assumption)
  k_with "ktr_rel" => (repeat (first | exact Same.refl | exact Same.of2 | exact Same.of | refine Same.set ?_ (by rfl)))
  k_with "tb_start" => (intro _ hp9; (repeat (refine List.Mem.tail _ ?_)); first | exact hp9 | exact List.mem_append.mpr (Or.inl hp9) | exact List.mem_append.mpr (Or.inr hp9))
  k_with "LPost" => (dsimp only [LPost])
  k_with "pyIter ref" => (refine Hold.mk ?_)
  k_with "call builtin:list.append" => (k_here; (with_reducible show wpAny _ _ (call (Value.builtin _) [Value.ref _, _]) _ _ _); k_dflt (refine' my_append ?zqk1 ?zqk2 ?zqk3 ?zqz ?_; (case zqk1 => k_asm); (case zqk2 => k_asm); (case zqk3 => k_upd); (case zqz => assumption); k_whole); intro _ _ _; (try k_sweep))
  k_with "call builtin:len" => (k_here; k_dflt (refine' my_len ?zqN ?zqm ?zqf ?_; (case zqN => k_asm); (case zqm => k_mem); (case zqf => assumption); k_whole))
  k_with "subscriptTail" => (k_here; k_dflt (refine' my_itemE ?zqN ?zqm ?zqv ?zqa ?zqf ?_ ?zqhs; (case zqN => k_asm); (case zqm => k_mem); (case zqv => with_reducible assumption); (case zqa => omega); (case zqf => assumption); (case zqhs => with_unfolding_all rfl); k_whole))
  k_with "subscriptTail Name UnaryOp ref int" => (k_here; k_dflt (refine' my_itemE ?zqN ?zqm ?zqv ?zqa ?zqf ?_ ?zqhs; (case zqN => k_asm); (case zqm => k_mem); (case zqv => with_reducible assumption); (case zqa => omega); (case zqf => assumption); (case zqhs => with_unfolding_all rfl); k_whole))
  k_with "subscriptTail" => (k_here; (with_reducible show wpAny _ _ (subscriptTail _ _ (Value.ref _) (Value.int (-1) _)) _ _ _); k_dflt (refine' my_last ?zqN ?zqm ?zqv ?zqf ?_ ?zqhs; (case zqN => k_asm); (case zqm => k_mem); (case zqv => with_reducible assumption); (case zqf => assumption); (case zqhs => with_unfolding_all rfl); k_whole))
  k_with "subscriptTail Name UnaryOp ref int" => (k_here; (with_reducible show wpAny _ _ (subscriptTail _ _ (Value.ref _) (Value.int (-1) _)) _ _ _); k_dflt (refine' my_last ?zqN ?zqm ?zqv ?zqf ?_ ?zqhs; (case zqN => k_asm); (case zqm => k_mem); (case zqv => with_reducible assumption); (case zqf => assumption); (case zqhs => with_unfolding_all rfl); k_whole))
  k_with "exec For Name Call cons nil" => (k_here; (rename Fr _ _ _ _ => lF'); (with_unfolding_all refine' For_invVF lF' ?zqk1 ?zqk2 ?_; (case zqk1 => exact rfl); (case zqk2 => exact rfl); k_whole))
  k_with "k_upd" => first | (refine' Upd.head ?zqa; (case zqa => k_all)) | (refine' Upd.tail ?zqa ?zqb; (case zqa => k_ne); (case zqb => k_upd))
  k_with "k_all" => assumption
  k_with "k_mem" => first | assumption | exact List.Mem.head _ | (with_reducible refine List.Mem.tail _ ?_; assumption)
  k_with "compareOp Eq ref ref" => (k_here; k_dflt (refine' my_eq_nil ?zqN ?zqa ?zqb ?zqu ?_; (case zqN => k_asm); (case zqa => (repeat (first | assumption | exact List.Mem.head _ | refine List.Mem.tail _ ?_))); (case zqb => (repeat (first | assumption | exact List.Mem.head _ | refine List.Mem.tail _ ?_))); (case zqu => ktr_units); k_whole); (try simp only [List.map_nil, List.map_cons, List.isEmpty_nil, List.isEmpty_cons]))
  exact trivial
theorem child_same {bx bd bl o : Addr} {s1 s2 s3 u : Tok} {b : Bool}
    (B : Below A₀ base outer h₀) (F : Fr h₀ L s.heap m) (X : (KK w.params).In h₀) (N : News h₀ L s.heap (news)) (T : Top p loose mean mg mb h₀) (hk : cs.kind = .function) (h1 : (bx, instObj 162 bd) ∈ news) (h2 : (bd, brD w.params s1 s2 s3 (cond b .none (.ref o)) (cond b (.ref o) .none) bl) ∈ news) (hdp : dp + 10 < recursionLimit) (hun : un + 200 < cLine)
    (hret : ∀ h' tk', Fr h₀ L h' m → News h₀ L h' news → Q (.ref o) { s with heap := h', toks := tk' }) :
    wpAny (model prog w) (ktrTop dp un gd cn cs L a ccd cl outer) (call (.ref 138) [.ref bx, .int (bI b) u]) Q E s := by
  cases b with
  | false =>
    rw [show bI false = 0 from rfl]
    simp only [cond_false] at h2
    (refine wpAny_call ?_; k_dflt ktr_enter; try (w_strict (k_extra "k_env")))
    k_steps
    all_goals (rename News h₀ _ _ _ => kN; rename Fr h₀ _ _ _ => kF; exact hret _ _ kF kN)
  | true =>
    rw [show bI true = 1 from rfl]
    simp only [cond_true] at h2
    (refine wpAny_call ?_; k_dflt ktr_enter; try (w_strict (k_extra "k_env")))
    k_steps
    all_goals (rename News h₀ _ _ _ => kN; rename Fr h₀ _ _ _ => kF; exact hret _ _ kF kN)
theorem child_other {bx bd bl o : Addr} {s1 s2 s3 u : Tok} {b : Bool}
    (B : Below A₀ base outer h₀) (F : Fr h₀ L s.heap m) (X : (KK w.params).In h₀) (N : News h₀ L s.heap (news)) (T : Top p loose mean mg mb h₀) (hk : cs.kind = .function) (h1 : (bx, instObj 162 bd) ∈ news) (h2 : (bd, brD w.params s1 s2 s3 (cond b .none (.ref o)) (cond b (.ref o) .none) bl) ∈ news) (hdp : dp + 10 < recursionLimit) (hun : un + 200 < cLine)
    (hret : ∀ h' tk', Fr h₀ L h' m → News h₀ L h' news → Q .none { s with heap := h', toks := tk' }) :
    wpAny (model prog w) (ktrTop dp un gd cn cs L a ccd cl outer) (call (.ref 138) [.ref bx, .int (1 - bI b) u]) Q E s := by
  cases b with
  | false =>
    rw [show 1 - bI false = 1 from rfl]
    simp only [cond_false] at h2
    (refine wpAny_call ?_; k_dflt ktr_enter; try (w_strict (k_extra "k_env")))
    k_steps
    all_goals (rename News h₀ _ _ _ => kN; rename Fr h₀ _ _ _ => kF; exact hret _ _ kF kN)
  | true =>
    rw [show 1 - bI true = 0 from rfl]
    simp only [cond_true] at h2
    (refine wpAny_call ?_; k_dflt ktr_enter; try (w_strict (k_extra "k_env")))
    k_steps
    all_goals (rename News h₀ _ _ _ => kN; rename Fr h₀ _ _ _ => kF; exact hret _ _ kF kN)
theorem child_none {bx bd bl : Addr} {s1 s2 s3 u : Tok} {b : Bool} {z : Int}
    (B : Below A₀ base outer h₀) (F : Fr h₀ L s.heap m) (X : (KK w.params).In h₀) (N : News h₀ L s.heap (news)) (T : Top p loose mean mg mb h₀) (hk : cs.kind = .function) (h1 : (bx, instObj 162 bd) ∈ news) (h2 : (bd, brD w.params s1 s2 s3 .none .none bl) ∈ news) (hz : z = bI b) (hdp : dp + 10 < recursionLimit) (hun : un + 200 < cLine)
    (hret : ∀ h' tk', Fr h₀ L h' m → News h₀ L h' news → Q .none { s with heap := h', toks := tk' }) :
    wpAny (model prog w) (ktrTop dp un gd cn cs L a ccd cl outer) (call (.ref 138) [.ref bx, .int z u]) Q E s := by
  cases b with
  | false =>
    obtain rfl : z = 0 := hz
    (refine wpAny_call ?_; k_dflt ktr_enter; try (w_strict (k_extra "k_env")))
    k_steps
    all_goals (rename News h₀ _ _ _ => kN; rename Fr h₀ _ _ _ => kF; exact hret _ _ kF kN)
  | true =>
    obtain rfl : z = 1 := hz
    (refine wpAny_call ?_; k_dflt ktr_enter; try (w_strict (k_extra "k_env")))
    k_steps
    all_goals (rename News h₀ _ _ _ => kN; rename Fr h₀ _ _ _ => kF; exact hret _ _ kF kN)
theorem set_v {bx bd bl : Addr} {v0 v1 v : Value} {s1 s2 s3 u : Tok} {b : Bool}
    (B : Below A₀ base outer h₀) (F : Fr h₀ L s.heap m) (X : (KK w.params).In h₀) (N : News h₀ L s.heap ((bd, brD w.params s1 s2 s3 v0 v1 bl) :: news)) (T : Top p loose mean mg mb h₀) (hk : cs.kind = .function) (h1 : (bx, instObj 162 bd) ∈ news) (hs : ∀ p ∈ news, p.1 ≠ bd) (hdp : dp + 10 < recursionLimit) (hun : un + 200 < cLine)
    (hret : ∀ h' tk', Fr h₀ L h' m → News h₀ L h' ((bd, brD w.params s1 s2 s3 (cond b v0 v) (cond b v v1) bl) :: news) → Q .none { s with heap := h', toks := tk' }) :
    wpAny (model prog w) (ktrTop dp un gd cn cs L a ccd cl outer) (call (.ref 145) [.ref bx, .int (bI b) u, v]) Q E s := by
  cases b with
  | false =>
    rw [show bI false = 0 from rfl]
    (refine wpAny_call ?_; k_dflt ktr_enter; try (w_strict (k_extra "k_env")))
    k_steps
    all_goals (rename News h₀ _ _ _ => kN; rename Fr h₀ _ _ _ => kF; exact hret _ _ kF kN)
  | true =>
    rw [show bI true = 1 from rfl]
    (refine wpAny_call ?_; k_dflt ktr_enter; try (w_strict (k_extra "k_env")))
    k_steps
    all_goals (rename News h₀ _ _ _ => kN; rename Fr h₀ _ _ _ => kF; exact hret _ _ kF kN)
theorem set_first {bx bd bl : Addr} {v : Value} {s1 s2 s3 u : Tok} {b : Bool} {g : Obj → List (Addr × Obj)}
    (B : Below A₀ base outer h₀) (F : Fr h₀ L s.heap m) (X : (KK w.params).In h₀) (N : News h₀ L s.heap (news)) (T : Top p loose mean mg mb h₀) (hk : cs.kind = .function) (h1 : (bx, instObj 162 bd) ∈ news) (U : UpdF bd (brD w.params s1 s2 s3 .none .none bl) news g) (hne : @Ne Nat bx bd) (hdp : dp + 10 < recursionLimit) (hun : un + 200 < cLine)
    (hret : ∀ h' tk', Fr h₀ L h' m → News h₀ L h' (g (brD w.params s1 s2 s3 (cond b .none v) (cond b v .none) bl)) → Q .none { s with heap := h', toks := tk' }) :
    wpAny (model prog w) (ktrTop dp un gd cn cs L a ccd cl outer) (call (.ref 145) [.ref bx, .int (bI b) u, v]) Q E s := by
  obtain ⟨rest, N1, hs, hsub, hg⟩ := updF_head U N
  have h1' : (bx, instObj 162 bd) ∈ rest := (List.mem_cons.mp (hsub _ h1)).elim (fun e => absurd (congrArg Prod.fst e) hne) id
  exact set_v B F X N1 T hk h1' hs hdp hun fun h' tk' F' N' => hret h' tk' F' (hg _ _ N')
theorem set_back {bx bd bl : Addr} {x : Value} {s1 s2 s3 u : Tok} {b : Bool} {g : Obj → List (Addr × Obj)}
    (B : Below A₀ base outer h₀) (F : Fr h₀ L s.heap m) (X : (KK w.params).In h₀) (N : News h₀ L s.heap (news)) (T : Top p loose mean mg mb h₀) (hk : cs.kind = .function) (h1 : (bx, instObj 162 bd) ∈ news) (U : UpdF bd (brD w.params s1 s2 s3 (cond b .none x) (cond b x .none) bl) news g) (hne : @Ne Nat bx bd) (hdp : dp + 10 < recursionLimit) (hun : un + 200 < cLine)
    (hret : ∀ h' tk', Fr h₀ L h' m → News h₀ L h' (g (brD w.params s1 s2 s3 .none .none bl)) → Q .none { s with heap := h', toks := tk' }) :
    wpAny (model prog w) (ktrTop dp un gd cn cs L a ccd cl outer) (call (.ref 145) [.ref bx, .int (bI b) u, .none]) Q E s := by
  obtain ⟨rest, N1, hs, hsub, hg⟩ := updF_head U N
  have h1' : (bx, instObj 162 bd) ∈ rest := (List.mem_cons.mp (hsub _ h1)).elim (fun e => absurd (congrArg Prod.fst e) hne) id
  refine set_v B F X N1 T hk h1' hs hdp hun fun h' tk' F' N' => hret h' tk' F' (hg _ _ ?_)
  have e0 : cond b (cond b Value.none x) Value.none = .none := by cases b <;> rfl
  have e1 : cond b Value.none (cond b x Value.none) = .none := by cases b <;> rfl
  rw [e0, e1] at N'
  exact N'
theorem lone_bare {bx bd bl : Addr} {s1 s2 s3 : Tok} {n : Nat}
    (B : Below A₀ base outer h₀) (F : Fr h₀ L s.heap m) (X : (KK w.params).In h₀) (N : News h₀ L s.heap (news)) (T : Top p loose mean mg mb h₀) (hk : cs.kind = .function) (h1 : (bx, instObj 162 bd) ∈ news) (h2 : (bd, brD w.params s1 s2 s3 .none .none bl) ∈ news) (h3 : (bl, listOf ([] : List Value).toArray n) ∈ news) (hdp : dp + 10 < recursionLimit) (hun : un + 200 < cLine)
    (hret : ∀ h' tk', Fr h₀ L h' m → News h₀ L h' news → Q (.bool true) { s with heap := h', toks := tk' }) :
    wpAny (model prog w) (ktrTop dp un gd cn cs L a ccd cl outer) (call (.ref 152) [.ref bx]) Q E s := by
  (refine wpAny_call ?_; k_dflt ktr_enter; try (w_strict (k_extra "k_env")))
  k_steps
  all_goals exact hret _ _ (by k_asm) (news_sub (by assumption) (by tb_start))
theorem lone_child {bx bd bl x : Addr} {s1 s2 s3 : Tok} {n : Nat} {b : Bool}
    (B : Below A₀ base outer h₀) (F : Fr h₀ L s.heap m) (X : (KK w.params).In h₀) (N : News h₀ L s.heap (news)) (T : Top p loose mean mg mb h₀) (hk : cs.kind = .function) (h1 : (bx, instObj 162 bd) ∈ news) (h2 : (bd, brD w.params s1 s2 s3 (cond b .none (.ref x)) (cond b (.ref x) .none) bl) ∈ news) (h3 : (bl, listOf ([] : List Value).toArray n) ∈ news) (hdp : dp + 10 < recursionLimit) (hun : un + 200 < cLine)
    (hret : ∀ h' tk', Fr h₀ L h' m → News h₀ L h' news → Q (.bool false) { s with heap := h', toks := tk' }) :
    wpAny (model prog w) (ktrTop dp un gd cn cs L a ccd cl outer) (call (.ref 152) [.ref bx]) Q E s := by
  cases b with
  | false =>
    simp only [cond_false] at h2
    (refine wpAny_call ?_; k_dflt ktr_enter; try (w_strict (k_extra "k_env")))
    k_steps
    all_goals exact hret _ _ (by k_asm) (news_sub (by assumption) (by tb_start))
  | true =>
    simp only [cond_true] at h2
    (refine wpAny_call ?_; k_dflt ktr_enter; try (w_strict (k_extra "k_env")))
    k_steps
    all_goals exact hret _ _ (by k_asm) (news_sub (by assumption) (by tb_start))
theorem lone_full {bx bd bl : Addr} {s1 s2 s3 : Tok} {v0 v1 v : Value} {vs : List Value} {n : Nat}
    (B : Below A₀ base outer h₀) (F : Fr h₀ L s.heap m) (X : (KK w.params).In h₀) (N : News h₀ L s.heap (news)) (T : Top p loose mean mg mb h₀) (hk : cs.kind = .function) (h1 : (bx, instObj 162 bd) ∈ news) (h2 : (bd, brD w.params s1 s2 s3 v0 v1 bl) ∈ news) (h3 : (bl, listOf (v :: vs).toArray n) ∈ news) (hdp : dp + 10 < recursionLimit) (hun : un + 200 < cLine)
    (hret : ∀ h' tk', Fr h₀ L h' m → News h₀ L h' news → Q (.bool false) { s with heap := h', toks := tk' }) :
    wpAny (model prog w) (ktrTop dp un gd cn cs L a ccd cl outer) (call (.ref 152) [.ref bx]) Q E s := by
  (refine wpAny_call ?_; k_dflt ktr_enter; try (w_strict (k_extra "k_env")))
  k_steps
  all_goals exact hret _ _ (by k_asm) (news_sub (by assumption) (by tb_start))
end
end Mine

-- part A5
namespace Mine
set_option maxRecDepth 100000
set_option maxHeartbeats 8000000
set_option pp.deepTerms false
set_option pp.deepTerms.threshold 4
set_option pp.maxSteps 100000


theorem two_br {h₀ h : Heap} {L D x1 d1 l1 x2 d2 l2 c src : Addr} {oD o1 o2 o3 o4 o5 o6 oc os : Obj} {news : Led}
    (N : News h₀ L h ((D, oD) :: (l2, o1) :: (x2, o2) :: (d2, o3) :: (l1, o4) :: (x1, o5) :: (d1, o6) :: (c, oc) :: (src, os) :: news))
    (q1 : ∀ p ∈ (c, oc) :: (src, os) :: news, p.1 < d1) (q2 : @LT.lt Nat _ d1 x1) (q3 : @LT.lt Nat _ x1 l1) (r1 : ∀ p ∈ (l1, o4) :: (x1, o5) :: (d1, o6) :: (c, oc) :: (src, os) :: news, p.1 < d2) (r2 : @LT.lt Nat _ d2 x2)
    (hs : ∀ p ∈ news, p.1 ≠ src) (hc : @Ne Nat c src) :
    ∃ Z : Led, News h₀ L h ((src, os) :: (d1, o6) :: Z) ∧ (c, oc) ∈ Z ∧ (x1, o5) ∈ Z ∧ (l1, o4) ∈ Z ∧ (x2, o2) ∈ Z ∧ (∀ p ∈ Z, p.1 ≠ src) ∧ (∀ p ∈ Z, p.1 ≠ d1) ∧ @Ne Nat d1 src ∧ (∀ p ∈ news, p ∈ Z) := by
  have a1 : @LT.lt Nat _ c d1 := q1 _ (.head _)
  have a2 : @LT.lt Nat _ src d1 := q1 _ (.tail _ (.head _))
  have a3 : @LT.lt Nat _ d1 d2 := r1 _ (.tail _ (.tail _ (.head _)))
  have e1 : @LT.lt Nat _ d1 l1 := Nat.lt_trans q2 q3
  have e2 : @LT.lt Nat _ d1 x2 := Nat.lt_trans a3 r2
  refine ⟨(c, oc) :: (x1, o5) :: (l1, o4) :: (x2, o2) :: news, news_sub N fun p hp => ?_, .head _, .tail _ (.head _), .tail _ (.tail _ (.head _)), .tail _ (.tail _ (.tail _ (.head _))), fun p hp => ?_, fun p hp => ?_, Nat.ne_of_gt a2, fun p hp => .tail _ (.tail _ (.tail _ (.tail _ hp)))⟩
  · simp only [List.mem_cons] at hp ⊢
    rcases hp with e | e | e | e | e | e | e <;> simp [e]
  · simp only [List.mem_cons] at hp
    rcases hp with rfl | rfl | rfl | rfl | hp
    · exact hc
    · exact Nat.ne_of_gt (Nat.lt_trans a2 q2)
    · exact Nat.ne_of_gt (Nat.lt_trans a2 e1)
    · exact Nat.ne_of_gt (Nat.lt_trans a2 e2)
    · exact hs p hp
  · simp only [List.mem_cons] at hp
    rcases hp with rfl | rfl | rfl | rfl | hp
    · exact Nat.ne_of_lt a1
    · exact Nat.ne_of_gt q2
    · exact Nat.ne_of_gt e1
    · exact Nat.ne_of_gt e2
    · exact Nat.ne_of_lt (q1 p (.tail _ (.tail _ hp)))
theorem all_made2 {M W Z : Led} {a : Addr} {o : Obj} (h : Over M W) (hm : (a, o) ∈ W) (hl : ∀ p ∈ Z, p.1 ≠ a) : ∀ p ∈ M ++ Z, p.1 ≠ a := fun p hp => by
  rcases List.mem_append.mp hp with hp | hp
  · exact Nat.ne_of_gt (h p hp _ hm)
  · exact hl p hp
section


variable {prog : Program} {w : World} {p : Program} {loose : List Str} {mean : ExcName → Option Value} {mg mb : Str → Option Value}
    {dp un : Nat} {gd : Option (List Code)} {cn : Str} {cs : Scope} {a : Addr} {ccd : Value} {cl : List (Str × Addr)} {outer : List Env} {A₀ : Around} {base h₀ : Heap} {L : Addr} {m : Str → Option Value} {news : List (Addr × Obj)} {s : Shared} {Q E : Value → Shared → Prop}

theorem zsetA51 : True := by
  k_with_none
  k_with "z_ch" => first | with_reducible assumption | (refine' And.right ?_; rotate_left; first | with_reducible assumption | (refine' And.right ?_; rotate_left; first | with_reducible assumption | (refine' And.right ?_; rotate_left; first | with_reducible assumption | (refine' And.right ?_; rotate_left; first | with_reducible assumption | (refine' And.right ?_; rotate_left; first | with_reducible assumption | (refine' And.right ?_; rotate_left; first | with_reducible assumption | (refine' And.right ?_; rotate_left; with_reducible assumption)))))))
  k_with "z_lt" => first | with_reducible assumption | (refine' And.left ?_; rotate_left; k_extra "z_ch") | (refine' And.right ?_; rotate_left; k_extra "z_ch")
  k_with "k_ne" => (refine neN ?_; (try dsimp only); first | (refine' Nat.ne_of_gt ?_; k_extra "z_lt") | (refine' Nat.ne_of_lt ?_; k_extra "z_lt") | (refine' Nat.ne_of_gt (Nat.lt_trans ?_ (by with_reducible assumption)); k_extra "z_lt") | (refine' Nat.ne_of_lt (Nat.lt_trans ?_ (by with_reducible assumption)); k_extra "z_lt"))
  k_with "zfold" => ((fail_if_success (fail_if_success k_fold)); refine zfold_q ?_; intro qk)
  k_with "k_env" => (refine zfold_env (f := fun en9 => execs _ en9) ?_; intro en9; refine zfold_A ?_; intro ak9; (rename Fr _ _ _ _ => fr9); refine zfold_F fr9 ?_; clear fr9; intro fm9 fr9; try (refine zgen_t ?_; intro tk9))
  k_with "ktr_room" => first | exact fits (c := 1) hdp rfl rfl | exact fits0 (c := 1) hdp rfl rfl | exact fits (c := 2) hdp rfl rfl | exact fits0 (c := 2) hdp rfl rfl | exact fits (c := 0) hdp rfl rfl | exact fits0 (c := 0) hdp rfl rfl | exact fits (c := 3) hdp rfl rfl | exact fits0 (c := 3) hdp rfl rfl | exact Nat.le_of_ble_eq_true rfl
  k_with "ktr_units" => first | exact fits (c := 3) hun rfl rfl | exact fits0 (c := 3) hun rfl rfl | exact fits (c := 6) hun rfl rfl | exact fits0 (c := 6) hun rfl rfl | exact fits (c := 0) hun rfl rfl | exact fits0 (c := 0) hun rfl rfl | exact fits (c := 9) hun rfl rfl | exact fits0 (c := 9) hun rfl rfl | exact Nat.le_of_ble_eq_true rfl
  k_with "k_steps" => repeat' (first | (k_unfold; (try dsimp only); (try clear qk)) | (k_end; wrow_close) | walk1 | (dsimp only; walk1) | (leave1; try dsimp only) | fail "no step")
  k_with "execs cons" => (k_extra "zfold"; walk1)
  k_with "exec If" => (k_extra "zfold"; walk1)
  k_with "exec Assign" => (k_extra "zfold"; walk1)
  k_with "exec Expr" => (k_extra "zfold"; walk1)
  k_with "exec Return" => (k_extra "zfold"; walk1)
  k_with "isTrue" => (k_extra "zfold"; walk1)
  k_with "eval BinOp" => (k_extra "zfold"; walk1)
  k_with "eval BoolOp" => (k_extra "zfold"; walk1)
  k_with "eval UnaryOp" => (k_extra "zfold"; walk1)
  k_with "eval Call" => (k_extra "zfold"; walk1)
  k_with "eval Compare" => (k_extra "zfold"; walk1)
  k_with "eval Subscript" => (k_extra "zfold"; walk1)
  k_with "eval Attribute" => (k_extra "zfold"; walk1)
  k_with "eval Tuple" => (k_extra "zfold"; walk1)
  k_with "eval List nil" => (k_extra "zfold"; walk1)
  k_with "eval List cons" => (k_extra "zfold"; walk1)
  k_with "k_mem" => first | assumption | (with_reducible refine mem_appL ?_; assumption) | (with_reducible refine mem_appR ?_; assumption) | (with_reducible refine List.mem_append.mpr (Or.inl ?_); assumption) | (with_reducible refine List.mem_append.mpr (Or.inr ?_); assumption)
  k_with "k_ne" => (first | (refine' ne_neA ?zqh ?zqm; (case zqm => assumption); (case zqh => assumption)) | (refine' ne_between ?zqm ?zqh ?zqle; (case zqm => assumption); (case zqh => tbn_find); (case zqle => omega)))
  k_with "k_room" => ktr_room
  k_with "k_all" => first | assumption | (refine all_repl ?_; first | assumption | (refine tbn_neAll ?_; tbn_find))
  k_with "k_upd" => exact upd_repl (by assumption) (by assumption)
  k_with "ktr_rel" => (repeat (first | exact Same.refl | exact Same.of2 | exact Same.of | refine Same.set ?_ (by rfl)))
  k_with "tb_start" => (intro _ hp9; (repeat (refine List.Mem.tail _ ?_)); first | exact hp9 | exact List.mem_append.mpr (Or.inl hp9) | exact List.mem_append.mpr (Or.inr hp9))
  k_with "LPost" => (dsimp only [LPost])
  k_with "pyIter ref" => (refine Hold.mk ?_)
  k_with "call builtin:list.append" => (k_here; (with_reducible show wpAny _ _ (call (Value.builtin _) [Value.ref _, _]) _ _ _); k_dflt (refine' my_append ?zqk1 ?zqk2 ?zqk3 ?zqz ?_; (case zqk1 => k_asm); (case zqk2 => k_asm); (case zqk3 => k_upd); (case zqz => assumption); k_whole); intro _ _ _; (try k_sweep))
  k_with "call builtin:len" => (k_here; k_dflt (refine' my_len ?zqN ?zqm ?zqf ?_; (case zqN => k_asm); (case zqm => k_mem); (case zqf => assumption); k_whole))
  k_with "subscriptTail" => (k_here; k_dflt (refine' my_itemE ?zqN ?zqm ?zqv ?zqa ?zqf ?_ ?zqhs; (case zqN => k_asm); (case zqm => k_mem); (case zqv => with_reducible assumption); (case zqa => omega); (case zqf => assumption); (case zqhs => with_unfolding_all rfl); k_whole))
  k_with "subscriptTail Name UnaryOp ref int" => (k_here; k_dflt (refine' my_itemE ?zqN ?zqm ?zqv ?zqa ?zqf ?_ ?zqhs; (case zqN => k_asm); (case zqm => k_mem); (case zqv => with_reducible assumption); (case zqa => omega); (case zqf => assumption); (case zqhs => with_unfolding_all rfl); k_whole))
  k_with "subscriptTail" => (k_here; (with_reducible show wpAny _ _ (subscriptTail _ _ (Value.ref _) (Value.int (-1) _)) _ _ _); k_dflt (refine' my_last ?zqN ?zqm ?zqv ?zqf ?_ ?zqhs; (case zqN => k_asm); (case zqm => k_mem); (case zqv => with_reducible assumption); (case zqf => assumption); (case zqhs => with_unfolding_all rfl); k_whole))
  k_with "subscriptTail Name UnaryOp ref int" => (k_here; (with_reducible show wpAny _ _ (subscriptTail _ _ (Value.ref _) (Value.int (-1) _)) _ _ _); k_dflt (refine' my_last ?zqN ?zqm ?zqv ?zqf ?_ ?zqhs; (case zqN => k_asm); (case zqm => k_mem); (case zqv => with_reducible assumption); (case zqf => assumption); (case zqhs => with_unfolding_all rfl); k_whole))
  k_with "exec For Name Call cons nil" => (k_here; (rename Fr _ _ _ _ => lF'); (with_unfolding_all refine' For_invVF lF' ?zqk1 ?zqk2 ?_; (case zqk1 => exact rfl); (case zqk2 => exact rfl); k_whole))
  k_with "exec Assign cons ListComp" => (walk_at "exec Assign")
  k_with "binaryOp Pow int int" => (with_reducible refine pow_int_small ?zqkb1 ?zqkb2 ?zqkb3 ?_; (case zqkb1 => omega); (case zqkb2 => omega); (case zqkb3 => decide))
  k_with "binaryOp Pow int int" => (with_reducible refine pow_lit (k := 24) (z := 16777216) (by decide +kernel) (by decide) (by decide) ?_)
  k_with "binaryOp Pow int int" => (with_reducible refine pow_lit (k := 28) (z := 268435456) (by decide +kernel) (by decide) (by decide) ?_)
  k_with "binaryOp Pow int int" => (with_reducible refine pow_lit (k := 31) (z := 2147483648) (by decide +kernel) (by decide) (by decide) ?_)
  k_with "binaryOp Pow int int" => (with_reducible refine pow_lit (k := 32) (z := 4294967296) (by decide +kernel) (by decide) (by decide) ?_)
  k_with "binaryOp Mult int int" => (with_reducible refine mul_lit (x := 127) (y := 16777216) (z := 2130706432) (by decide) (by decide) (by decide) ?_)
  k_with "binaryOp Mult int int" => (with_reducible refine mul_lit (x := 128) (y := 16777216) (z := 2147483648) (by decide) (by decide) (by decide) ?_)
  k_with "binaryOp Mult int int" => (with_reducible refine mul_lit (x := 160) (y := 16777216) (z := 2684354560) (by decide) (by decide) (by decide) ?_)
  k_with "binaryOp Mult int int" => (with_reducible refine mul_lit (x := 163) (y := 16777216) (z := 2734686208) (by decide) (by decide) (by decide) ?_)
  k_with "binaryOp Mult int int" => (with_reducible refine mul_lit (x := 224) (y := 16777216) (z := 3758096384) (by decide) (by decide) (by decide) ?_)
  k_with "k_mem" => ((repeat (first | with_reducible assumption | exact List.Mem.head _ | (with_reducible refine List.Mem.tail _ ?_))); done)
  k_with "call ref" => (k_here; (with_reducible show wpAny _ _ (call (Value.ref 162) _) _ _ _); refine Hold.mk ?_)
  k_with "call ref" => (k_here; (with_reducible show wpAny _ _ (call (Value.ref 113) _) _ _ _); refine Hold.mk ?_)
  k_with "call ref" => (k_here; (with_reducible show wpAny _ _ (call (Value.ref 262) _) _ _ _); refine Hold.mk ?_)
  k_with "call ref" => (k_here; (with_reducible show wpAny _ _ (call (Value.ref 269) _) _ _ _); refine Hold.mk ?_)
  k_with "call ref" => (k_here; (with_reducible show wpAny _ _ (call (Value.ref 159) _) _ _ _); refine Hold.mk ?_)
  k_with "call ref" => (k_here; (with_reducible show wpAny _ _ (call (Value.ref 138) _) _ _ _); refine Hold.mk ?_)
  k_with "call ref" => (k_here; (with_reducible show wpAny _ _ (call (Value.ref 145) _) _ _ _); refine Hold.mk ?_)
  k_with "call ref" => (k_here; (with_reducible show wpAny _ _ (call (Value.ref 152) _) _ _ _); refine Hold.mk ?_)
  k_with "k_upd" => first | (refine' Upd.head ?zqa; (case zqa => k_all)) | (refine' Upd.tail ?zqa ?zqb; (case zqa => k_ne); (case zqb => k_upd))
  k_with "compareOp NotEq ref ref" => (k_here; (with_reducible show wpAny _ _ (compareOp _ (Value.ref _) (Value.ref _)) _ _ _); k_dflt (refine' my_ne_same ?zqF ?zqX ?zqN ?zqm ?zqu ?_; (case zqF => k_asm); (case zqX => k_asm); (case zqN => k_asm); (case zqm => (repeat (first | assumption | exact List.Mem.head _ | refine List.Mem.tail _ ?_))); (case zqu => ktr_units); k_whole))
  k_with "CompSrc" => (refine Hold.mk ?_)
  k_with "SEnd" => (refine Hold.mk ?_)
  k_with "EEnd" => (refine Hold.mk ?_)
  k_with "eval ListComp" => (k_here; (with_reducible show wpAny _ _ (eval (Expr.ListComp _ [⟨Expr.Tuple _ _ _, _, _, _⟩] _ _) _) _ _ _); k_dflt (refine comp_enum (by k_asm) (by with_unfolding_all rfl) (by decide) (by rfl) (by decide) (by rfl) (by rfl) (by decide) ?_))
  k_with "call type:enumerate" => (refine Hold.mk ?_)
  k_with "CEnd" => (refine Hold.mk ?_)
  k_with "call builtin:min" => (refine Hold.mk ?_)
  k_with "call builtin:list.index" => (refine Hold.mk ?_)
  exact trivial
theorem branch_draw {src : Addr} {os : Obj}
    (B : Below A₀ base outer h₀) (F : Fr h₀ L s.heap m) (X : (KK w.params).In h₀) (N : News h₀ L s.heap ((src, os) :: news)) (T : Top p loose mean mg mb h₀) (hk : cs.kind = .function) (hS : Src os) (hs : ∀ p ∈ news, p.1 ≠ src) (hdp : dp + 40 < recursionLimit) (hun : un + 800 < cLine)
    (hret : ∀ os' h' tk', Src os' → Fr h₀ L h' m → News h₀ L h' ((src, os') :: news) → Q (.bool true) { s with heap := h', toks := tk' }) :
    wpAny (model prog w) (ktrTop dp un gd cn cs L a ccd cl outer) (call (.ref 322) [.ref src]) Q E s := by
  (refine wpAny_call ?_; k_dflt (refine' code_defC ?k1 ?k2 ?k3 ?k4 ?k5 ?kA ?kF ?kK ?k6 ?k7 ?k8 ?k9 ?kB ?kD ?_ ?c2 ?c3 ?c4; (case kA => exact rfl); (case kF => exact rfl); (case kK => assumption); (case k1 => k_asm); (case k2 => k_asm); (case k3 => k_asm); (case k4 => k_asm); (case k5 => k_asm); (case k6 => k_is); (case k7 => k_is); (case k8 => ktr_room); (case k9 => exact BindsTo.of_eq rfl); (case kB => exact rfl); (case kD => decide +kernel); (case c2 => exact rfl); (case c3 => exact rfl); (case c4 => exact rfl); k_whole; intro g' L' h' tk' cells' FG' F' N' Y' B' X' T' l1; (try k_lt l1); k_cells Y'; (try simp only [List.cons_append, List.nil_append] at N'); (try dsimp only); (try k_fold)); try (w_strict (k_extra "k_env")); (refine zfold_e ?_; intro ek))
  k_steps
  (unfold Hold; w_strict (k_dflt (refine' new_branch ?k1 ?k2 ?k3 ?k4 ?k5 ?kK  ?kd ?ku ?_; (case k1 => k_asm); (case k2 => k_asm); (case k3 => k_asm); (case k4 => k_asm); (case k5 => k_asm); (case kK => first | exact rfl | assumption);  (case kd => ktr_room); (case ku => ktr_units))); intro x1 d1 y1 ta tb tc h1 tk1 q1 q2 q3 F1 N1; (try dsimp only); (try k_sweep))
  k_steps
  (unfold Hold; w_strict (k_dflt (refine' new_branch ?k1 ?k2 ?k3 ?k4 ?k5 ?kK  ?kd ?ku ?_; (case k1 => k_asm); (case k2 => k_asm); (case k3 => k_asm); (case k4 => k_asm); (case k5 => k_asm); (case kK => first | exact rfl | assumption);  (case kd => ktr_room); (case ku => ktr_units))); intro x2 d2 y2 td te tf h2 tk2 r1 r2 r3 F2 N2; (try dsimp only); (try k_sweep))
  k_steps
  rename News _ _ _ _ => kN9
  rename _ = Data.cell _ => hcd
  obtain ⟨Z, N9, mc, mx, ml, my, zs, zd, nd1, hsub⟩ := two_br kN9 q1 q2 q3 r1 r2 hs (by have := l1.1; omega)
  have hxd : @Ne Nat x1 d1 := Nat.ne_of_gt q2
  clear kN9 q1 q2 q3 r1 r2 r3 N hs
  (unfold Hold; w_strict (k_dflt (refine' lone_bare ?k1 ?k2 ?k3 ?k4 ?k5 ?kK ?u0 ?u1 ?u2 ?kd ?ku ?_; (case k1 => k_asm); (case k2 => k_asm); (case k3 => k_asm); (case k4 => k_asm); (case k5 => k_asm); (case kK => first | exact rfl | assumption); (case u0 => repeat (first | assumption | exact .head _ | refine .tail _ ?_)); (case u1 => repeat (first | assumption | exact .head _ | refine .tail _ ?_)); (case u2 => repeat (first | assumption | exact .head _ | refine .tail _ ?_)); (case kd => ktr_room); (case ku => ktr_units))); intro h0 tk0 F0 N0; (try dsimp only); (try k_sweep); (try (k_extra "zfold")))
  k_steps
  (unfold Hold; w_strict (k_dflt (refine' best_spec (vs := []) (ms := []) (n := 0) ?k1 ?k2 ?k3 ?k4 ?k5 ?kK ?u0 ?u1 ?u2 ?u3 ?u4 ?kd ?ku ?_; (case k1 => k_asm); (case k2 => k_asm); (case k3 => k_asm); (case k4 => k_asm); (case k5 => k_asm); (case kK => first | exact rfl | assumption); (case u0 => repeat (first | assumption | exact .head _ | refine .tail _ ?_)); (case u1 => repeat (first | assumption | exact .head _ | refine .tail _ ?_)); (case u2 => repeat (first | assumption | exact .head _ | refine .tail _ ?_)); (case u3 => exact ⟨rfl, fun _ _ _ h => nomatch h⟩); (case u4 => decide); (case kd => ktr_room); (case ku => ktr_units))); intro bv hb tkb hb0 hb1 Fb Nb; (try dsimp only); (try k_sweep); (try (k_extra "zfold")))
  obtain rfl : bv = .none := hb0 rfl
  clear hb0 hb1
  k_steps
  (unfold Hold; w_strict (k_dflt (refine' child_none (b := false) ?k1 ?k2 ?k3 ?k4 ?k5 ?kK ?u0 ?u1 ?u2 ?kd ?ku ?_; (case k1 => k_asm); (case k2 => k_asm); (case k3 => k_asm); (case k4 => k_asm); (case k5 => k_asm); (case kK => first | exact rfl | assumption); (case u0 => repeat (first | assumption | exact .head _ | refine .tail _ ?_)); (case u1 => repeat (first | assumption | exact .head _ | refine .tail _ ?_)); (case u2 => exact rfl); (case kd => ktr_room); (case ku => ktr_units))); intro h1 tk1 F1 N1; (try dsimp only); (try k_sweep); (try (k_extra "zfold")))
  k_steps
  (unfold Hold; w_strict (k_dflt (refine' child_none (b := true) ?k1 ?k2 ?k3 ?k4 ?k5 ?kK ?u0 ?u1 ?u2 ?kd ?ku ?_; (case k1 => k_asm); (case k2 => k_asm); (case k3 => k_asm); (case k4 => k_asm); (case k5 => k_asm); (case kK => first | exact rfl | assumption); (case u0 => repeat (first | assumption | exact .head _ | refine .tail _ ?_)); (case u1 => repeat (first | assumption | exact .head _ | refine .tail _ ?_)); (case u2 => exact rfl); (case kd => ktr_room); (case ku => ktr_units))); intro h2 tk2 F2 N2; (try dsimp only); (try k_sweep); (try (k_extra "zfold")))
  k_steps
  (unfold Hold; w_strict (k_dflt (refine' take_S ?k1 ?k2 ?k3 ?k4 ?k5 ?kK ?u0 ?u1 ?u2 ?u3 ?kd ?ku ?_; (case k1 => k_asm); (case k2 => k_asm); (case k3 => k_asm); (case k4 => k_asm); (case k5 => k_asm); (case kK => first | exact rfl | assumption); (case u0 => k_updF); (case u1 => assumption); (case u2 => decide); (case u3 => decide); (case kd => ktr_room); (case ku => ktr_units))); intro bit tbit os1 h1 tk1 hbt0 hbt1 hS1 F1 N1; (try dsimp only); (try k_sweep); (try (k_extra "zfold")))
  obtain ⟨b, rfl⟩ := bI_of hbt0 hbt1
  clear hbt0 hbt1
  k_steps
  (unfold Hold; w_strict (k_dflt (refine' set_first ?k1 ?k2 ?k3 ?k4 ?k5 ?kK ?u0 ?u1 ?u2 ?kd ?ku ?_; (case k1 => k_asm); (case k2 => k_asm); (case k3 => k_asm); (case k4 => k_asm); (case k5 => k_asm); (case kK => first | exact rfl | assumption); (case u0 => repeat (first | assumption | exact .head _ | refine .tail _ ?_)); (case u1 => k_updF); (case u2 => exact hxd); (case kd => ktr_room); (case ku => ktr_units))); intro h3 tk3 F3 N3; (try dsimp only); (try k_sweep); (try (k_extra "zfold")))
  k_steps
  (unfold Hold; w_strict (k_dflt (refine' child_same ?k1 ?k2 ?k3 ?k4 ?k5 ?kK ?u0 ?u1 ?kd ?ku ?_; (case k1 => k_asm); (case k2 => k_asm); (case k3 => k_asm); (case k4 => k_asm); (case k5 => k_asm); (case kK => first | exact rfl | assumption); (case u0 => repeat (first | assumption | exact .head _ | refine .tail _ ?_)); (case u1 => repeat (first | assumption | exact .head _ | refine .tail _ ?_)); (case kd => ktr_room); (case ku => ktr_units))); intro h4 tk4 F4 N4; (try dsimp only); (try k_sweep); (try (k_extra "zfold")))
  k_steps
  (unfold Hold; w_strict (k_dflt (refine' child_other ?k1 ?k2 ?k3 ?k4 ?k5 ?kK ?u0 ?u1 ?kd ?ku ?_; (case k1 => k_asm); (case k2 => k_asm); (case k3 => k_asm); (case k4 => k_asm); (case k5 => k_asm); (case kK => first | exact rfl | assumption); (case u0 => repeat (first | assumption | exact .head _ | refine .tail _ ?_)); (case u1 => repeat (first | assumption | exact .head _ | refine .tail _ ?_)); (case kd => ktr_room); (case ku => ktr_units))); intro h5 tk5 F5 N5; (try dsimp only); (try k_sweep); (try (k_extra "zfold")))
  k_steps
  (unfold Hold; w_strict (k_dflt (refine' lone_child ?k1 ?k2 ?k3 ?k4 ?k5 ?kK ?u0 ?u1 ?u2 ?kd ?ku ?_; (case k1 => k_asm); (case k2 => k_asm); (case k3 => k_asm); (case k4 => k_asm); (case k5 => k_asm); (case kK => first | exact rfl | assumption); (case u0 => repeat (first | assumption | exact .head _ | refine .tail _ ?_)); (case u1 => repeat (first | assumption | exact .head _ | refine .tail _ ?_)); (case u2 => repeat (first | assumption | exact .head _ | refine .tail _ ?_)); (case kd => ktr_room); (case ku => ktr_units))); intro h6 tk6 F6 N6; (try dsimp only); (try k_sweep); (try (k_extra "zfold")))
  k_steps
  (unfold Hold; w_strict (k_dflt (refine' set_back ?k1 ?k2 ?k3 ?k4 ?k5 ?kK ?u0 ?u1 ?u2 ?kd ?ku ?_; (case k1 => k_asm); (case k2 => k_asm); (case k3 => k_asm); (case k4 => k_asm); (case k5 => k_asm); (case kK => first | exact rfl | assumption); (case u0 => repeat (first | assumption | exact .head _ | refine .tail _ ?_)); (case u1 => k_updF); (case u2 => exact hxd); (case kd => ktr_room); (case ku => ktr_units))); intro h7 tk7 F7 N7; (try dsimp only); (try k_sweep); (try (k_extra "zfold")))
  k_steps
  (unfold Hold; w_strict (k_dflt (refine' lone_bare ?k1 ?k2 ?k3 ?k4 ?k5 ?kK ?u0 ?u1 ?u2 ?kd ?ku ?_; (case k1 => k_asm); (case k2 => k_asm); (case k3 => k_asm); (case k4 => k_asm); (case k5 => k_asm); (case kK => first | exact rfl | assumption); (case u0 => repeat (first | assumption | exact .head _ | refine .tail _ ?_)); (case u1 => repeat (first | assumption | exact .head _ | refine .tail _ ?_)); (case u2 => repeat (first | assumption | exact .head _ | refine .tail _ ?_)); (case kd => ktr_room); (case ku => ktr_units))); intro h8 tk8 F8 N8; (try dsimp only); (try k_sweep); (try (k_extra "zfold")))
  k_steps
  (unfold Hold; w_strict (k_dflt (refine' take_S ?k1 ?k2 ?k3 ?k4 ?k5 ?kK ?u0 ?u1 ?u2 ?u3 ?kd ?ku ?_; (case k1 => k_asm); (case k2 => k_asm); (case k3 => k_asm); (case k4 => k_asm); (case k5 => k_asm); (case kK => first | exact rfl | assumption); (case u0 => k_updF); (case u1 => assumption); (case u2 => decide); (case u3 => decide); (case kd => ktr_room); (case ku => ktr_units))); intro cnt tcnt os2 h9 tk9 hc0 hc1 hS2 F9 N9; (try dsimp only); (try k_sweep); (try (k_extra "zfold")))
  obtain ⟨c, rfl⟩ : ∃ c : Nat, cnt = (c : Int) := ⟨cnt.toNat, by omega⟩
  k_steps
  rename IsRange _ _ _ _ _ _ _ _ => hR9
  rename News g' _ _ _ => N9
  rename Fr g' _ _ _ => F9
  unfold Hold
  refine comp_draw (n := c + 1) [] (fun i ys => ∃ ms, IntsAre ys ms ∧ ms.length = i ∧ (∀ x ∈ ms, 0 ≤ x ∧ x ≤ 2)) rfl F9 N9 hR9 ?_ ?_ ?_ ⟨[], .nil, rfl, fun x hx => nomatch hx⟩ hS2 ?_ ?_
  · exact (rng1 (Int.lt_trans hc1 (by decide))).1
  · exact (rng1 (Int.lt_trans hc1 (by decide))).2
  · omega
  · rintro i ti ys os' I oI C oC D m3 h3 tk3 E3 hi hJ9 hS3 hC hx F3 N3 hsn o1 o2 o3 r1 r2 r3
    try (k_extra "zfold")
    obtain ⟨ms, hys, hml, hms⟩ := hJ9
    clear F9 N9
    simp only [List.nil_append] at N3
    k_steps
    (unfold Hold; w_strict (k_dflt (refine' one_S (ns := [0, 1, 1, 2]) ?k1 ?k2 ?k3 ?k4 ?k5 ?kK ?u0 ?u1 ?u2 ?u3 ?u4 ?u5 ?u6 ?kd ?ku ?_; (case k1 => k_asm); (case k2 => k_asm); (case k3 => k_asm); (case k4 => k_asm); (case k5 => k_asm); (case kK => first | exact rfl | assumption); (case u0 => k_updF); (case u1 => assumption); (case u2 => k_mem); (case u3 => (repeat (first | exact .nil | refine .cons _ _ ?_))); (case u4 => omega); (case u5 => decide); (case u6 => decide); (case kd => ktr_room); (case ku => ktr_units))); intro v tv os5 h5 tk5 hv hS5 F5 N5; (try dsimp only); (try k_sweep); (try (k_extra "zfold")))
    k_steps
    rename News g' _ _ _ => N9
    unfold Hold
    refine send_mk (by k_asm) (news_tail N9) hS5 ⟨ms ++ [v], hys.append (.cons _ _ .nil), by rw [List.length_append, hml]; rfl, fun x hx => ?_⟩
    rcases List.mem_append.mp hx with hx | hx
    · exact hms x hx
    · simp only [List.mem_cons, List.not_mem_nil, or_false] at hx hv
      omega
  · rintro g9 ys os' hJ9 hS3
    try (k_extra "zfold")
    obtain ⟨ms, hys, hml, hms⟩ := hJ9
    clear F9 N9
    simp only [List.nil_append]
    have hyl : ys.length = c + 1 := by rw [← hml]; exact hys.length
    k_steps
    rename News g' _ _ _ => N10
    rename Fr g' _ _ _ => F10
    obtain ⟨W0, hW0, N11⟩ := led_of N10
    unfold Hold
    refine enum_call (vs := ys) (k := ys.length) (news := W0) (fun i zs nx => ∃ MADE, nx = MADE ++ W0 ∧ RtsAre w.params MADE zs (ms.take i) ∧ Over MADE W0) rfl F10 N11 (by rw [hW0]; exact .head _) (by omega) ⟨[], rfl, ⟨rfl, fun _ _ _ h => nomatch h⟩, Over.nil⟩ ?_ ?_ ?_
    · rintro i zs nx ⟨MADE, rfl, _, _⟩
      exact List.mem_append.mpr (.inr (by rw [hW0]; exact .head _))
    · rintro i t v zs nx I oI R oR C oC D3 m3 h3 tk3 E3 hv hJ9 hC hx hx2 F3 N3 off hne
      try (k_extra "zfold")
      obtain ⟨MADE, rfl, hR, hM⟩ := hJ9
      clear N10 F10 N11
      have hi : i < ms.length := by rw [hml, ← hyl]; exact (List.getElem?_eq_some_iff.mp hv).1
      obtain ⟨tv, htv⟩ := ints_at hys hi
      rw [hv] at htv
      obtain rfl := Option.some.inj htv
      have hzl : zs.length = i := by rw [hR.1, List.length_take]; omega
      k_steps
      (unfold Hold; w_strict (k_dflt (refine' new_route5 ?k1 ?k2 ?k3 ?k4 ?k5 ?kK  ?kd ?ku ?_; (case k1 => k_asm); (case k2 => k_asm); (case k3 => k_asm); (case k4 => k_asm); (case k5 => k_asm); (case kK => first | exact rfl | assumption);  (case kd => ktr_room); (case ku => ktr_units))); intro rx rd s1 s2 s3 s4 s5 h5 tk5 al ax F5 N5; (try dsimp only); (try k_sweep))
      k_lt al
      k_steps
      rename News g' _ _ _ => kN
      rename Fr g' _ _ _ => kF
      unfold Hold
      refine eend_made (K := fun y M => RtsAre w.params M (zs ++ [y]) (ms.take (i + 1))) rfl kF kN al ax off hM ?_
      rw [take_one hi]
      exact RtsAre.snoc (hR.mono fun p hp => .tail _ (.tail _ hp)) hzl ⟨_, _, _, _, _, _, _, _, _, _, _, _, _, _, _, rfl, .head _, .tail _ (.head _)⟩
    · rintro g zs nx ⟨MADE, rfl, hR, hM⟩
      clear N10 F10 N11
      rw [hyl, ← hml, List.take_length] at hR
      obtain ⟨z0, zr, rfl⟩ : ∃ z0 zr, zs = z0 :: zr := by
        cases zs with
        | nil => have := hR.1; rw [hml] at this; exact absurd this (by simp)
        | cons z0 zr => exact ⟨z0, zr, rfl⟩
      have hrl : (z0 :: zr).length ≤ 100 := by rw [hR.1, hml]; omega
      subst hW0
      have mx9 : (_, _) ∈ MADE ++ Z := mem_appR mx
      have hall := all_made2 hM (.tail _ (.tail _ (.head _))) zd
      unfold LCg.FinE
      intro D4 h4 tk4 F4 N4 o4
      have N5 := news_mv (PRE := [_, _, _]) N4
      have o5 := off_mv (PRE := [_, _, _]) o4
      clear N4 o4
      simp only [List.cons_append, List.nil_append, LCg.Off1] at N5 o5
      k_steps
      (unfold Hold; w_strict (k_dflt (refine' lone_full ?k1 ?k2 ?k3 ?k4 ?k5 ?kK ?u0 ?u1 ?u2 ?kd ?ku ?_; (case k1 => k_asm); (case k2 => k_asm); (case k3 => k_asm); (case k4 => k_asm); (case k5 => k_asm); (case kK => first | exact rfl | assumption); (case u0 => repeat (first | assumption | exact .head _ | refine .tail _ ?_)); (case u1 => repeat (first | assumption | exact .head _ | refine .tail _ ?_)); (case u2 => repeat (first | assumption | exact .head _ | refine .tail _ ?_)); (case kd => ktr_room); (case ku => ktr_units))); intro h6 tk6 F6 N6; (try dsimp only); (try k_sweep); (try (k_extra "zfold")))
      k_steps
      (unfold Hold; w_strict (k_dflt (refine' best_spec (vs := z0 :: zr) (ms := ms) ?k1 ?k2 ?k3 ?k4 ?k5 ?kK ?u0 ?u1 ?u2 ?u3 ?u4 ?kd ?ku ?_; (case k1 => k_asm); (case k2 => k_asm); (case k3 => k_asm); (case k4 => k_asm); (case k5 => k_asm); (case kK => first | exact rfl | assumption); (case u0 => repeat (first | assumption | exact .head _ | refine .tail _ ?_)); (case u1 => repeat (first | assumption | exact .head _ | refine .tail _ ?_)); (case u2 => repeat (first | assumption | exact .head _ | refine .tail _ ?_)); (case u3 => exact hR.mono (fun p hp => by repeat (first | exact mem_appL hp | refine .tail _ ?_))); (case u4 => exact hrl); (case kd => ktr_room); (case ku => ktr_units))); intro bv hb tkb hb0 hb1 Fb Nb; (try dsimp only); (try k_sweep); (try (k_extra "zfold")))
      clear hb0
      obtain ⟨j, hfm, hjv⟩ := hb1 (fun e => by rw [e] at hml; simp at hml)
      obtain ⟨rx, rd, r1, r2, r3, r4, r5, q1, q2, q3, q4, q5, rnet, rk, rface, rfl, hrx, hrd⟩ := (hR.2 j bv (ms[j]'hfm.1) hjv (List.getElem?_eq_getElem hfm.1)).ex
      k_steps
      rename News g' _ _ _ => N12
      rename Fr g' _ _ _ => F12
      obtain ⟨W1, hW1, N13⟩ := led_of N12
      unfold Hold
      refine comp_list (vs := ys) (k := ys.length) (fun i qs nx => nx = W1 ∧ IntsAre qs (ms.take i)) rfl F12 N13 (by rw [hW1]; exact .tail _ (.head _)) (by omega) ⟨rfl, .nil⟩ (by rintro i qs nx ⟨rfl, _⟩; rw [hW1]; exact .tail _ (.head _)) ?_ ?_
      · rintro i v qs nx I oI C oC D6 m6 h6 tk6 E6 hi hv hJ9 hC hx F6 N6 o1 o2 o3 r1 r2 r3
        try (k_extra "zfold")
        obtain ⟨rfl, hq⟩ := hJ9
        clear N12 F12 N13
        have hi' : i < ms.length := by rw [hml, ← hyl]; exact hi
        obtain ⟨tv, htv⟩ := ints_at hys hi'
        rw [hv] at htv
        obtain rfl := Option.some.inj htv
        k_steps
        unfold Hold
        exact cend_mk (by k_asm) (by k_asm) o1 o2 o3 ⟨rfl, ints_snoc hi' hq⟩
      · rintro g9 qs nx ⟨rfl, hq⟩
        clear N12 F12 N13
        subst hW1
        rw [hyl, ← hml, List.take_length] at hq
        k_steps
        rename News g' _ _ _ => N14
        rename Fr g' _ _ _ => F14
        unfold Hold
        refine min_list_N rfl F14 N14 ⟨_, (N14 _ (.head _)).1, rfl, _, rfl⟩ hq (by omega) fun h9 M tM tk9 F9 N9 hMm hMl => ?_
        clear N14 F14
        have hidx := first_idx hfm hMm hMl
        k_steps
        unfold Hold
        refine my_index N9 (.tail _ (.tail _ (.head _))) hys (by omega) hMm ?_
        rw [← hidx]
        k_steps
        rename News h₀ _ _ _ => kN
        rename Fr h₀ _ _ _ => kF
        exact q_bool (beq_self_eq_true _) (hret os' _ _ hS3 kF (news_sub kN fun p hp => (List.mem_cons.mp hp).elim (fun e => by subst e; repeat (first | exact List.Mem.head _ | refine List.Mem.tail _ ?_)) (fun hp => by have hp := hsub _ hp; repeat (first | exact mem_appR hp | refine List.Mem.tail _ ?_))))
theorem branch_spec {src : Addr} {os : Obj} {g : Obj → List (Addr × Obj)}
    (B : Below A₀ base outer h₀) (F : Fr h₀ L s.heap m) (X : (KK w.params).In h₀) (N : News h₀ L s.heap (news)) (T : Top p loose mean mg mb h₀) (hk : cs.kind = .function) (U : UpdF src os news g) (hS : Src os) (hdp : dp + 40 < recursionLimit) (hun : un + 800 < cLine)
    (hret : ∀ os' h' tk', Src os' → Fr h₀ L h' m → News h₀ L h' (g os') → Q (.bool true) { s with heap := h', toks := tk' }) :
    wpAny (model prog w) (ktrTop dp un gd cn cs L a ccd cl outer) (call (.ref 322) [.ref src]) Q E s := by
  obtain ⟨rest, N1, hs, hsub, hg⟩ := updF_head U N
  exact branch_draw B F X N1 T hk hS hs hdp hun fun os' h' tk' h2 F' N' => hret os' h' tk' h2 F' (hg _ os' N')
end
end Mine

-- part V6
namespace Mine
set_option maxRecDepth 100000
set_option maxHeartbeats 8000000
set_option pp.deepTerms false
set_option pp.deepTerms.threshold 4
set_option pp.maxSteps 100000

/- the law's start: a tree of one bare branch -/
def fm0 (bx bd bl : Addr) : Fm := fun q => if q = [] then some ⟨bx, bd, bl, []⟩ else none
theorem fm0_nil {bx bd bl : Addr} : fm0 bx bd bl [] = some ⟨bx, bd, bl, []⟩ := if_pos rfl
theorem fm0_snoc {bx bd bl : Addr} {q : Path} {b : Bool} : fm0 bx bd bl (q ++ [b]) = none := if_neg (by simp)
theorem fm0_some {bx bd bl : Addr} {q : Path} {nd : Nd} (h : fm0 bx bd bl q = some nd) : q = [] ∧ nd = ⟨bx, bd, bl, []⟩ := by
  unfold fm0 at h
  by_cases e : q = []
  · rw [if_pos e] at h; exact ⟨e, (Option.some.inj h).symm⟩
  · rw [if_neg e] at h; cases h
theorem fm0_ne {bx bd bl : Addr} {q : Path} (h : fm0 bx bd bl q ≠ none) : q = [] := by
  cases e : fm0 bx bd bl q with
  | none => exact absurd e h
  | some nd => exact (fm0_some e).1
theorem tree0 {P : Params} {Z : Led} {bx bd bl : Addr} {t1 t2 t3 : Tok} {n : Nat} (h1 : (bx, instObj 162 bd) ∈ Z) (h2 : (bd, brD P t1 t2 t3 .none .none bl) ∈ Z) (h3 : (bl, listOf ([] : List Value).toArray n) ∈ Z) : Tree P Z (fm0 bx bd bl) where
  nod := fun q nd h => by
    obtain ⟨rfl, rfl⟩ := fm0_some h
    exact ⟨h1, ⟨t1, t2, t3, by rw [fm0_snoc, fm0_snoc]; exact h2⟩, ⟨n, h3⟩, fun r hr => nomatch hr⟩
  inj := fun q q' nd nd' h h' _ => by rw [(fm0_some h).1, (fm0_some h').1]
  pre := fun q b h => absurd fm0_snoc h
  fin := fun q h => by rw [fm0_ne h]; exact Nat.zero_le _
  root := by rw [fm0_nil]; exact fun h => nomatch h
theorem rsOf0 {bx bd bl : Addr} {q : Path} : rsOf (fm0 bx bd bl) q = [] := by
  unfold rsOf
  cases e : fm0 bx bd bl q with
  | none => rfl
  | some nd => rw [(fm0_some e).2]
theorem inv0 {bx bd bl : Addr} : Inv (fm0 bx bd bl) [] where
  lean := fun q nd h hq => absurd (fm0_some h).1 hq
  own := fun q r hr => by rw [rsOf0] at hr; cases hr
  net := fun _ h => nomatch h
  nd := List.nodup_nil
  cor := fun q => by rw [rsOf0]; exact .refl _
theorem only_root {f : Fm} {ps : List Path} {ss : List Str} (hW : Wants f []) (hn : ps.Nodup) (hps : ∀ q, q ∈ ps ↔ f q ≠ none) (p1 : ss.Perm (ps.map txt)) : ss = [Str.ofString ""] := by
  have e1 : ∀ q, q ∈ ps ↔ q = [] := fun q => by
    rw [hps, hW q]
    constructor
    · rintro (h | ⟨row, hr, _⟩)
      · exact h
      · exact nomatch hr
    · exact .inl
  have e2 : ps.Perm [[]] := (List.perm_ext_iff_of_nodup hn (by simp)).mpr fun q => by rw [e1]; simp
  have e3 : ps = [[]] := List.perm_singleton.mp e2
  rw [e3] at p1
  rw [List.map_cons, List.map_nil, txt_nil] at p1
  exact List.perm_singleton.mp p1
/-- keys that fall are all unlike -/
def Desc : Led → Prop
  | [] => True
  | p :: r => AllLt p.1 r ∧ Desc r
def Dn : List Nat → Prop
  | [] => True
  | [_] => True
  | a :: b :: r => b < a ∧ Dn (b :: r)
theorem allLt_mono : ∀ {a b : Nat} {Z : Led}, a < b → AllLt a Z → AllLt b Z
  | _, _, [], _, _ => trivial
  | _, _, _ :: _, h, ⟨h1, h2⟩ => ⟨Nat.lt_trans h1 h, allLt_mono h h2⟩
theorem allLt_dn : ∀ {a : Nat} {Z : Led}, Dn (a :: Z.map (·.1)) → AllLt a Z
  | _, [], _ => trivial
  | _, _ :: _, ⟨h1, h2⟩ => ⟨h1, allLt_mono h1 (allLt_dn h2)⟩
theorem desc_of : ∀ {Z : Led}, Dn (Z.map (·.1)) → Desc Z
  | [], _ => trivial
  | [_], _ => ⟨trivial, trivial⟩
  | _ :: _ :: _, h => ⟨allLt_dn h, desc_of h.2⟩
theorem desc8 {a b c d e f g h : Addr} {o1 o2 o3 o4 o5 o6 o7 o8 : Obj} (h1 : @LT.lt Nat _ b a) (h2 : @LT.lt Nat _ c b) (h3 : @LT.lt Nat _ d c) (h4 : @LT.lt Nat _ e d) (h5 : @LT.lt Nat _ f e) (h6 : @LT.lt Nat _ g f) (h7 : @LT.lt Nat _ h g) :
    Desc ((a, o1) :: (b, o2) :: (c, o3) :: (d, o4) :: (e, o5) :: (f, o6) :: (g, o7) :: (h, o8) :: []) := desc_of ⟨h1, h2, h3, h4, h5, h6, h7, trivial⟩
theorem nd_desc : ∀ {Z : Led}, Desc Z → ND Z
  | [], _ => List.nodup_nil
  | (_, _) :: _, h => nd_lt h.1 (nd_desc h.2)
section
variable {prog : Program} {w : World} {A : Around} {E : Value → Shared → Prop} {Q : Value → Shared → Prop} {s : Shared} {h₀ : Heap} {L : Addr} {news : Led}
theorem my_ne_strs {la lb : Addr} {v1 v2 : List Value} {k1 k2 : Nat} {ss : List Str} (N : News h₀ L s.heap news) (ha : (la, listOf v1.toArray k1) ∈ news) (hb : (lb, listOf v2.toArray k2) ∈ news) (h1 : StrsAre v1 ss) (h2 : StrsAre v2 ss) (hu : A.units < cLine)
    (h : Q (.bool false) s) : wpAny (model prog w) A (compareOp .NotEq (.ref la) (.ref lb)) Q E s := by
  have la' : s.heap.IsList la v1.toArray := ⟨_, (N _ ha).1, rfl, _, rfl⟩
  have lb' : s.heap.IsList lb v2.toArray := ⟨_, (N _ hb).1, rfl, _, rfl⟩
  refine SeqAt.RcNeAt.lists (e := fun _ => true) la' lb' (by rw [List.size_toArray, List.size_toArray, h1.len_eq, h2.len_eq]) hu (fun j q1 q2 => ?_) prog w E Q (by
    have : ((List.range v1.toArray.size).all fun _ => true) = true := by simp
    rw [this]; exact h)
  rw [List.size_toArray] at q1 q2
  obtain ⟨x, t, e1, e2⟩ := h1.item j _ (List.getElem?_eq_getElem q1)
  obtain ⟨y, u, e3, e4⟩ := h2.item j _ (List.getElem?_eq_getElem q2)
  rw [e2] at e4
  cases e4
  have := SeqAt.EqAt.str_str (A := A.in1) (s := s) x t x u
  rw [beq_self_eq_true] at this
  simp only [List.getElem_toArray]
  rw [e1, e3]
  exact this
end
end Mine

-- part A3
namespace Mine
set_option maxRecDepth 100000
set_option maxHeartbeats 8000000
set_option pp.deepTerms false
set_option pp.deepTerms.threshold 4
set_option pp.maxSteps 100000


section


variable {prog : Program} {w : World} {p : Program} {loose : List Str} {mean : ExcName → Option Value} {mg mb : Str → Option Value}
    {dp un : Nat} {gd : Option (List Code)} {cn : Str} {cs : Scope} {a : Addr} {ccd : Value} {cl : List (Str × Addr)} {outer : List Env} {A₀ : Around} {base h₀ : Heap} {L : Addr} {m : Str → Option Value} {news : List (Addr × Obj)} {s : Shared} {Q E : Value → Shared → Prop}

theorem zsetA31 : True := by
  k_with_none
  k_with "z_ch" => first | with_reducible assumption | (refine' And.right ?_; rotate_left; first | with_reducible assumption | (refine' And.right ?_; rotate_left; first | with_reducible assumption | (refine' And.right ?_; rotate_left; first | with_reducible assumption | (refine' And.right ?_; rotate_left; first | with_reducible assumption | (refine' And.right ?_; rotate_left; first | with_reducible assumption | (refine' And.right ?_; rotate_left; first | with_reducible assumption | (refine' And.right ?_; rotate_left; with_reducible assumption)))))))
  k_with "z_lt" => first | with_reducible assumption | (refine' And.left ?_; rotate_left; k_extra "z_ch") | (refine' And.right ?_; rotate_left; k_extra "z_ch")
  k_with "k_ne" => (refine neN ?_; (try dsimp only); first | (refine' Nat.ne_of_gt ?_; k_extra "z_lt") | (refine' Nat.ne_of_lt ?_; k_extra "z_lt") | (refine' Nat.ne_of_gt (Nat.lt_trans ?_ (by with_reducible assumption)); k_extra "z_lt") | (refine' Nat.ne_of_lt (Nat.lt_trans ?_ (by with_reducible assumption)); k_extra "z_lt"))
  k_with "zfold" => ((fail_if_success (fail_if_success k_fold)); refine zfold_q ?_; intro qk)
  k_with "k_env" => (refine zfold_env (f := fun en9 => execs _ en9) ?_; intro en9; refine zfold_A ?_; intro ak9; (rename Fr _ _ _ _ => fr9); refine zfold_F fr9 ?_; clear fr9; intro fm9 fr9; try (refine zgen_t ?_; intro tk9))
  k_with "ktr_room" => first | exact fits (c := 1) hdp rfl rfl | exact fits0 (c := 1) hdp rfl rfl | exact fits (c := 2) hdp rfl rfl | exact fits0 (c := 2) hdp rfl rfl | exact fits (c := 0) hdp rfl rfl | exact fits0 (c := 0) hdp rfl rfl | exact fits (c := 3) hdp rfl rfl | exact fits0 (c := 3) hdp rfl rfl | exact Nat.le_of_ble_eq_true rfl
  k_with "ktr_units" => first | exact fits (c := 3) hun rfl rfl | exact fits0 (c := 3) hun rfl rfl | exact fits (c := 6) hun rfl rfl | exact fits0 (c := 6) hun rfl rfl | exact fits (c := 0) hun rfl rfl | exact fits0 (c := 0) hun rfl rfl | exact fits (c := 9) hun rfl rfl | exact fits0 (c := 9) hun rfl rfl | exact Nat.le_of_ble_eq_true rfl
  k_with "k_steps" => repeat' (first | (k_unfold; (try dsimp only); (try clear qk)) | (k_end; wrow_close) | walk1 | (dsimp only; walk1) | (leave1; try dsimp only) | fail "no step")
  k_with "execs cons" => (k_extra "zfold"; walk1)
  k_with "exec If" => (k_extra "zfold"; walk1)
  k_with "exec Assign" => (k_extra "zfold"; walk1)
  k_with "exec Expr" => (k_extra "zfold"; walk1)
  k_with "exec Return" => (k_extra "zfold"; walk1)
  k_with "isTrue" => (k_extra "zfold"; walk1)
  k_with "eval BinOp" => (k_extra "zfold"; walk1)
  k_with "eval BoolOp" => (k_extra "zfold"; walk1)
  k_with "eval UnaryOp" => (k_extra "zfold"; walk1)
  k_with "eval Call" => (k_extra "zfold"; walk1)
  k_with "eval Compare" => (k_extra "zfold"; walk1)
  k_with "eval Subscript" => (k_extra "zfold"; walk1)
  k_with "eval Attribute" => (k_extra "zfold"; walk1)
  k_with "eval Tuple" => (k_extra "zfold"; walk1)
  k_with "eval List nil" => (k_extra "zfold"; walk1)
  k_with "eval List cons" => (k_extra "zfold"; walk1)
  k_with "k_mem" => first | assumption | (with_reducible refine mem_appL ?_; assumption) | (with_reducible refine mem_appR ?_; assumption) | (with_reducible refine List.mem_append.mpr (Or.inl ?_); assumption) | (with_reducible refine List.mem_append.mpr (Or.inr ?_); assumption)
  k_with "k_ne" => (first | (refine' ne_neA ?zqh ?zqm; (case zqm => assumption); (case zqh => assumption)) | (refine' ne_between ?zqm ?zqh ?zqle; (case zqm => assumption); (case zqh => tbn_find); (case zqle => omega)))
  k_with "k_room" => ktr_room
  k_with "k_all" => first | assumption | (refine all_repl ?_; first | assumption | (refine tbn_neAll ?_; tbn_find))
  k_with "k_upd" => exact upd_repl (by assumption) (by assumption)
  k_with "ktr_rel" => (repeat (first | exact Same.refl | exact Same.of2 | exact Same.of | refine Same.set ?_ (by rfl)))
  k_with "tb_start" => (intro _ hp9; (repeat (refine List.Mem.tail _ ?_)); first | exact hp9 | exact List.mem_append.mpr (Or.inl hp9) | exact List.mem_append.mpr (Or.inr hp9))
  k_with "LPost" => (dsimp only [LPost])
  k_with "pyIter ref" => (refine Hold.mk ?_)
  k_with "call builtin:list.append" => (k_here; (with_reducible show wpAny _ _ (call (Value.builtin _) [Value.ref _, _]) _ _ _); k_dflt (refine' my_append ?zqk1 ?zqk2 ?zqk3 ?zqz ?_; (case zqk1 => k_asm); (case zqk2 => k_asm); (case zqk3 => k_upd); (case zqz => assumption); k_whole); intro _ _ _; (try k_sweep))
  k_with "call builtin:len" => (k_here; k_dflt (refine' my_len ?zqN ?zqm ?zqf ?_; (case zqN => k_asm); (case zqm => k_mem); (case zqf => assumption); k_whole))
  k_with "subscriptTail" => (k_here; k_dflt (refine' my_itemE ?zqN ?zqm ?zqv ?zqa ?zqf ?_ ?zqhs; (case zqN => k_asm); (case zqm => k_mem); (case zqv => with_reducible assumption); (case zqa => omega); (case zqf => assumption); (case zqhs => with_unfolding_all rfl); k_whole))
  k_with "subscriptTail Name UnaryOp ref int" => (k_here; k_dflt (refine' my_itemE ?zqN ?zqm ?zqv ?zqa ?zqf ?_ ?zqhs; (case zqN => k_asm); (case zqm => k_mem); (case zqv => with_reducible assumption); (case zqa => omega); (case zqf => assumption); (case zqhs => with_unfolding_all rfl); k_whole))
  k_with "subscriptTail" => (k_here; (with_reducible show wpAny _ _ (subscriptTail _ _ (Value.ref _) (Value.int (-1) _)) _ _ _); k_dflt (refine' my_last ?zqN ?zqm ?zqv ?zqf ?_ ?zqhs; (case zqN => k_asm); (case zqm => k_mem); (case zqv => with_reducible assumption); (case zqf => assumption); (case zqhs => with_unfolding_all rfl); k_whole))
  k_with "subscriptTail Name UnaryOp ref int" => (k_here; (with_reducible show wpAny _ _ (subscriptTail _ _ (Value.ref _) (Value.int (-1) _)) _ _ _); k_dflt (refine' my_last ?zqN ?zqm ?zqv ?zqf ?_ ?zqhs; (case zqN => k_asm); (case zqm => k_mem); (case zqv => with_reducible assumption); (case zqf => assumption); (case zqhs => with_unfolding_all rfl); k_whole))
  k_with "exec For Name Call cons nil" => (k_here; (rename Fr _ _ _ _ => lF'); (with_unfolding_all refine' For_invVF lF' ?zqk1 ?zqk2 ?_; (case zqk1 => exact rfl); (case zqk2 => exact rfl); k_whole))
  k_with "binaryOp Pow int int" => (with_reducible refine pow_int_small ?zqkb1 ?zqkb2 ?zqkb3 ?_; (case zqkb1 => omega); (case zqkb2 => omega); (case zqkb3 => decide))
  k_with "binaryOp Pow int int" => (with_reducible refine pow_lit (k := 24) (z := 16777216) (by decide +kernel) (by decide) (by decide) ?_)
  k_with "binaryOp Pow int int" => (with_reducible refine pow_lit (k := 28) (z := 268435456) (by decide +kernel) (by decide) (by decide) ?_)
  k_with "binaryOp Pow int int" => (with_reducible refine pow_lit (k := 31) (z := 2147483648) (by decide +kernel) (by decide) (by decide) ?_)
  k_with "binaryOp Pow int int" => (with_reducible refine pow_lit (k := 32) (z := 4294967296) (by decide +kernel) (by decide) (by decide) ?_)
  k_with "binaryOp Mult int int" => (with_reducible refine mul_lit (x := 127) (y := 16777216) (z := 2130706432) (by decide) (by decide) (by decide) ?_)
  k_with "binaryOp Mult int int" => (with_reducible refine mul_lit (x := 128) (y := 16777216) (z := 2147483648) (by decide) (by decide) (by decide) ?_)
  k_with "binaryOp Mult int int" => (with_reducible refine mul_lit (x := 160) (y := 16777216) (z := 2684354560) (by decide) (by decide) (by decide) ?_)
  k_with "binaryOp Mult int int" => (with_reducible refine mul_lit (x := 163) (y := 16777216) (z := 2734686208) (by decide) (by decide) (by decide) ?_)
  k_with "binaryOp Mult int int" => (with_reducible refine mul_lit (x := 224) (y := 16777216) (z := 3758096384) (by decide) (by decide) (by decide) ?_)
  k_with "call ref" => (k_here; (with_reducible show wpAny _ _ (call (Value.ref 262) _) _ _ _); refine Hold.mk ?_)
  k_with "call ref" => (k_here; (with_reducible show wpAny _ _ (call (Value.ref 269) _) _ _ _); refine Hold.mk ?_)
  exact trivial
theorem address_draw {src : Addr} {os : Obj}
    (B : Below A₀ base outer h₀) (F : Fr h₀ L s.heap m) (X : (KK w.params).In h₀) (N : News h₀ L s.heap ((src, os) :: news)) (T : Top p loose mean mg mb h₀) (hk : cs.kind = .function) (hS : Src os) (hs : ∀ p ∈ news, p.1 ≠ src) (hdp : dp + 30 < recursionLimit) (hun : un + 600 < cLine)
    (hret : ∀ (v : Int) (tv : Tok) os' h' tk', 0 ≤ v → v ≤ 4294967295 → Src os' → Fr h₀ L h' m → News h₀ L h' ((src, os') :: news) → Q (.int v tv) { s with heap := h', toks := tk' }) :
    wpAny (model prog w) (ktrTop dp un gd cn cs L a ccd cl outer) (call (.ref 281) [.ref src]) Q E s := by
  (refine wpAny_call ?_; k_dflt ktr_enter; try (w_strict (k_extra "k_env")))
  k_steps
  (unfold Hold; w_strict (k_dflt (refine' take_S ?k1 ?k2 ?k3 ?k4 ?k5 ?kK ?u0 ?u1 ?u2 ?u3 ?kd ?ku ?_; (case k1 => k_asm); (case k2 => k_asm); (case k3 => k_asm); (case k4 => k_asm); (case k5 => k_asm); (case kK => first | exact rfl | assumption); (case u0 => k_updF); (case u1 => assumption); (case u2 => decide); (case u3 => decide); (case kd => ktr_room); (case ku => ktr_units))); intro v0 tv0 os1 h1 tk1 hv0 hv1 hS1 F1 N1; (try dsimp only); (try k_sweep); (try (k_extra "zfold")))
  k_steps
  (unfold Hold; w_strict (k_dflt (refine' one_S (ns := [0, 4294967296 - 1, 2130706432 + 1, 2147483648, 3758096384, 3758096384 - 1, v0]) ?k1 ?k2 ?k3 ?k4 ?k5 ?kK ?u0 ?u1 ?u2 ?u3 ?u4 ?u5 ?u6 ?kd ?ku ?_; (case k1 => k_asm); (case k2 => k_asm); (case k3 => k_asm); (case k4 => k_asm); (case k5 => k_asm); (case kK => first | exact rfl | assumption); (case u0 => k_updF); (case u1 => assumption); (case u2 => k_mem); (case u3 => (repeat (first | exact .nil | refine .cons _ _ ?_))); (case u4 => omega); (case u5 => (show 0 < 7; decide)); (case u6 => (show 7 < 100; decide)); (case kd => ktr_room); (case ku => ktr_units))); intro v tv os2 h2 tk2 hv hS2 F2 N2; (try dsimp only); (try k_sweep); (try (k_extra "zfold")))
  have hv9 : 0 ≤ v ∧ v ≤ 4294967295 := by
    simp only [List.mem_cons, List.not_mem_nil, or_false] at hv
    omega
  obtain ⟨hv2, hv3⟩ := hv9
  clear hv
  k_steps
  rename News h₀ _ _ _ => kN
  rename Fr h₀ _ _ _ => kF
  exact hret _ _ _ _ _ hv2 hv3 hS2 kF (news_tail kN)
theorem address_spec {src : Addr} {os : Obj} {g : Obj → List (Addr × Obj)}
    (B : Below A₀ base outer h₀) (F : Fr h₀ L s.heap m) (X : (KK w.params).In h₀) (N : News h₀ L s.heap (news)) (T : Top p loose mean mg mb h₀) (hk : cs.kind = .function) (U : UpdF src os news g) (hS : Src os) (hdp : dp + 30 < recursionLimit) (hun : un + 600 < cLine)
    (hret : ∀ (v : Int) (tv : Tok) os' h' tk', 0 ≤ v → v ≤ 4294967295 → Src os' → Fr h₀ L h' m → News h₀ L h' (g os') → Q (.int v tv) { s with heap := h', toks := tk' }) :
    wpAny (model prog w) (ktrTop dp un gd cn cs L a ccd cl outer) (call (.ref 281) [.ref src]) Q E s := by
  obtain ⟨rest, N1, hs, hsub, hg⟩ := updF_head U N
  exact address_draw B F X N1 T hk hS hs hdp hun fun v tv os' h' tk' e1 e2 h2 F' N' => hret v tv os' h' tk' e1 e2 h2 F' (hg _ os' N')
end
end Mine

-- part V5
namespace Mine
set_option maxRecDepth 100000
set_option maxHeartbeats 8000000
set_option pp.deepTerms false
set_option pp.deepTerms.threshold 4
set_option pp.maxSteps 100000

theorem pow_pos2 (n : Nat) : (0 : Int) < 2 ^ n := Int.pow_pos (by decide)
theorem bit_cut (ad : Int) {k i : Nat} (hk : k ≤ 32) (hi : i < 32) : bitB (ad - ad % 2 ^ (32 - k)) i = if i < k then bitB ad i else false := by
  have e0 : ad - ad % 2 ^ (32 - k) = 2 ^ (32 - k) * (ad / 2 ^ (32 - k)) := by have := Int.emod_add_mul_ediv ad (2 ^ (32 - k)); omega
  rw [e0]
  unfold bitB
  by_cases h : i < k
  · rw [if_pos h]
    have e1 : (2 : Int) ^ (31 - i) = 2 ^ (32 - k) * 2 ^ (k - 1 - i) := by rw [← Int.pow_add]; congr 1; omega
    rw [e1, Int.mul_ediv_mul_of_pos _ _ (pow_pos2 _), Int.ediv_ediv_of_nonneg (Int.le_of_lt (pow_pos2 _))]
  · rw [if_neg h]
    have e1 : (2 : Int) ^ (32 - k) = 2 ^ (31 - i) * (2 * 2 ^ (i - k)) := by
      rw [show (2 : Int) * 2 ^ (i - k) = 2 ^ (i - k + 1) by rw [Int.pow_succ]; omega, ← Int.pow_add]; congr 1; omega
    refine decide_eq_false ?_
    generalize ad / 2 ^ (32 - k) = q
    rw [e1, Int.mul_assoc, Int.mul_ediv_cancel_left _ (Int.ne_of_gt (pow_pos2 _)), Int.mul_assoc, Int.mul_emod_right]
    decide
theorem bits_cut (ad : Int) {k : Nat} (hk : k ≤ 32) : bitsOf (ad - ad % 2 ^ (32 - k)) 32 = bitsOf ad k ++ List.replicate (32 - k) false := by
  refine List.ext_getElem (by rw [bitsOf_length, List.length_append, bitsOf_length, List.length_replicate]; omega) fun i h1 h2 => ?_
  rw [bitsOf_length] at h1
  have e1 : (bitsOf (ad - ad % 2 ^ (32 - k)) 32)[i]'(by rw [bitsOf_length]; exact h1) = bitB (ad - ad % 2 ^ (32 - k)) i := by unfold bitsOf; simp
  rw [e1, bit_cut ad hk h1]
  by_cases h : i < k
  · rw [if_pos h, List.getElem_append_left (by rw [bitsOf_length]; exact h)]
    unfold bitsOf; simp
  · rw [if_neg h, List.getElem_append_right (by rw [bitsOf_length]; omega), List.getElem_replicate]
theorem zeros_txt (n : Nat) : Txt.mul (Str.ofString "0") (n : Int) = txt (List.replicate n false) := by
  have e : Str.ofString "0" = ⟨#[48]⟩ := by decide +kernel
  have h := mul_one_list 48 (n : Int)
  rw [← e, Int.toNat_natCast] at h
  have h2 : (txt (List.replicate n false)).cps.toList = List.replicate n 48 := by
    unfold txt
    simp [sgn]
  cases hh : Txt.mul (Str.ofString "0") (n : Int) with
  | mk c =>
    rw [hh] at h
    cases hz : txt (List.replicate n false) with
    | mk d =>
      rw [hz] at h2
      congr 1
      exact Array.toList_inj.mp (h.trans h2.symm)
theorem text_net (ad : Int) {k : Nat} (hk : k ≤ 32) : (txt (bitsOf (ad - ad % 2 ^ (32 - (k : Int)).toNat) 32) != Txt.slice (txt (bitsOf ad 32)) none (some (k : Int)) ++ Txt.mul (Str.ofString "0") (32 - (k : Int))) = false := by
  have e1 : (32 - (k : Int)).toNat = 32 - k := by omega
  have e2 : 32 - (k : Int) = ((32 - k : Nat) : Int) := by omega
  rw [e1, e2, bits_cut ad hk, slice_txt _ _ (by rw [bitsOf_length]; exact hk), bitsOf_take _ hk, zeros_txt, ← txt_append, bne_self_eq_false]
end Mine

-- part A4
namespace Mine
set_option maxRecDepth 100000
set_option maxHeartbeats 8000000
set_option pp.deepTerms false
set_option pp.deepTerms.threshold 4
set_option pp.maxSteps 100000


section

variable {prog : Program} {w : World} {p : Program} {loose : List Str} {mean : ExcName → Option Value} {mg mb : Str → Option Value}
    {dp un : Nat} {gd : Option (List Code)} {cn : Str} {cs : Scope} {a : Addr} {ccd : Value} {cl : List (Str × Addr)} {outer : List Env} {A₀ : Around} {base h₀ : Heap} {L : Addr} {m : Str → Option Value} {news : List (Addr × Obj)} {s : Shared} {Q E : Value → Shared → Prop}

theorem zsetA41 : True := by
  k_with_none
  k_with "z_ch" => first | with_reducible assumption | (refine' And.right ?_; rotate_left; first | with_reducible assumption | (refine' And.right ?_; rotate_left; first | with_reducible assumption | (refine' And.right ?_; rotate_left; first | with_reducible assumption | (refine' And.right ?_; rotate_left; first | with_reducible assumption | (refine' And.right ?_; rotate_left; first | with_reducible assumption | (refine' And.right ?_; rotate_left; first | with_reducible assumption | (refine' And.right ?_; rotate_left; with_reducible assumption)))))))
  k_with "z_lt" => first | with_reducible assumption | (refine' And.left ?_; rotate_left; k_extra "z_ch") | (refine' And.right ?_; rotate_left; k_extra "z_ch")
  k_with "k_ne" => (refine neN ?_; (try dsimp only); first | (refine' Nat.ne_of_gt ?_; k_extra "z_lt") | (refine' Nat.ne_of_lt ?_; k_extra "z_lt") | (refine' Nat.ne_of_gt (Nat.lt_trans ?_ (by with_reducible assumption)); k_extra "z_lt") | (refine' Nat.ne_of_lt (Nat.lt_trans ?_ (by with_reducible assumption)); k_extra "z_lt"))
  k_with "zfold" => ((fail_if_success (fail_if_success k_fold)); refine zfold_q ?_; intro qk)
  k_with "k_env" => (refine zfold_env (f := fun en9 => execs _ en9) ?_; intro en9; refine zfold_A ?_; intro ak9; (rename Fr _ _ _ _ => fr9); refine zfold_F fr9 ?_; clear fr9; intro fm9 fr9; try (refine zgen_t ?_; intro tk9))
  k_with "ktr_room" => first | exact fits (c := 1) hdp rfl rfl | exact fits0 (c := 1) hdp rfl rfl | exact fits (c := 2) hdp rfl rfl | exact fits0 (c := 2) hdp rfl rfl | exact fits (c := 0) hdp rfl rfl | exact fits0 (c := 0) hdp rfl rfl | exact fits (c := 3) hdp rfl rfl | exact fits0 (c := 3) hdp rfl rfl | exact Nat.le_of_ble_eq_true rfl
  k_with "ktr_units" => first | exact fits (c := 3) hun rfl rfl | exact fits0 (c := 3) hun rfl rfl | exact fits (c := 6) hun rfl rfl | exact fits0 (c := 6) hun rfl rfl | exact fits (c := 0) hun rfl rfl | exact fits0 (c := 0) hun rfl rfl | exact fits (c := 9) hun rfl rfl | exact fits0 (c := 9) hun rfl rfl | exact Nat.le_of_ble_eq_true rfl
  k_with "k_steps" => repeat' (first | (k_unfold; (try dsimp only); (try clear qk)) | (k_end; wrow_close) | walk1 | (dsimp only; walk1) | (leave1; try dsimp only) | fail "no step")
  k_with "execs cons" => (k_extra "zfold"; walk1)
  k_with "exec If" => (k_extra "zfold"; walk1)
  k_with "exec Assign" => (k_extra "zfold"; walk1)
  k_with "exec Expr" => (k_extra "zfold"; walk1)
  k_with "exec Return" => (k_extra "zfold"; walk1)
  k_with "isTrue" => (k_extra "zfold"; walk1)
  k_with "eval BinOp" => (k_extra "zfold"; walk1)
  k_with "eval BoolOp" => (k_extra "zfold"; walk1)
  k_with "eval UnaryOp" => (k_extra "zfold"; walk1)
  k_with "eval Call" => (k_extra "zfold"; walk1)
  k_with "eval Compare" => (k_extra "zfold"; walk1)
  k_with "eval Subscript" => (k_extra "zfold"; walk1)
  k_with "eval Attribute" => (k_extra "zfold"; walk1)
  k_with "eval Tuple" => (k_extra "zfold"; walk1)
  k_with "eval List nil" => (k_extra "zfold"; walk1)
  k_with "eval List cons" => (k_extra "zfold"; walk1)
  k_with "k_mem" => first | assumption | (with_reducible refine mem_appL ?_; assumption) | (with_reducible refine mem_appR ?_; assumption) | (with_reducible refine List.mem_append.mpr (Or.inl ?_); assumption) | (with_reducible refine List.mem_append.mpr (Or.inr ?_); assumption)
  k_with "k_ne" => (first | (refine' ne_neA ?zqh ?zqm; (case zqm => assumption); (case zqh => assumption)) | (refine' ne_between ?zqm ?zqh ?zqle; (case zqm => assumption); (case zqh => tbn_find); (case zqle => omega)))
  k_with "k_room" => ktr_room
  k_with "k_all" => first | assumption | (refine all_repl ?_; first | assumption | (refine tbn_neAll ?_; tbn_find))
  k_with "k_upd" => exact upd_repl (by assumption) (by assumption)
  k_with "ktr_rel" => (repeat (first | exact Same.refl | exact Same.of2 | exact Same.of | refine Same.set ?_ (by rfl)))
  k_with "tb_start" => (intro _ hp9; (repeat (refine List.Mem.tail _ ?_)); first | exact hp9 | exact List.mem_append.mpr (Or.inl hp9) | exact List.mem_append.mpr (Or.inr hp9))
  k_with "LPost" => (dsimp only [LPost])
  k_with "pyIter ref" => (refine Hold.mk ?_)
  k_with "call builtin:list.append" => (k_here; (with_reducible show wpAny _ _ (call (Value.builtin _) [Value.ref _, _]) _ _ _); k_dflt (refine' my_append ?zqk1 ?zqk2 ?zqk3 ?zqz ?_; (case zqk1 => k_asm); (case zqk2 => k_asm); (case zqk3 => k_upd); (case zqz => assumption); k_whole); intro _ _ _; (try k_sweep))
  k_with "call builtin:len" => (k_here; k_dflt (refine' my_len ?zqN ?zqm ?zqf ?_; (case zqN => k_asm); (case zqm => k_mem); (case zqf => assumption); k_whole))
  k_with "subscriptTail" => (k_here; k_dflt (refine' my_itemE ?zqN ?zqm ?zqv ?zqa ?zqf ?_ ?zqhs; (case zqN => k_asm); (case zqm => k_mem); (case zqv => with_reducible assumption); (case zqa => omega); (case zqf => assumption); (case zqhs => with_unfolding_all rfl); k_whole))
  k_with "subscriptTail Name UnaryOp ref int" => (k_here; k_dflt (refine' my_itemE ?zqN ?zqm ?zqv ?zqa ?zqf ?_ ?zqhs; (case zqN => k_asm); (case zqm => k_mem); (case zqv => with_reducible assumption); (case zqa => omega); (case zqf => assumption); (case zqhs => with_unfolding_all rfl); k_whole))
  k_with "subscriptTail" => (k_here; (with_reducible show wpAny _ _ (subscriptTail _ _ (Value.ref _) (Value.int (-1) _)) _ _ _); k_dflt (refine' my_last ?zqN ?zqm ?zqv ?zqf ?_ ?zqhs; (case zqN => k_asm); (case zqm => k_mem); (case zqv => with_reducible assumption); (case zqf => assumption); (case zqhs => with_unfolding_all rfl); k_whole))
  k_with "subscriptTail Name UnaryOp ref int" => (k_here; (with_reducible show wpAny _ _ (subscriptTail _ _ (Value.ref _) (Value.int (-1) _)) _ _ _); k_dflt (refine' my_last ?zqN ?zqm ?zqv ?zqf ?_ ?zqhs; (case zqN => k_asm); (case zqm => k_mem); (case zqv => with_reducible assumption); (case zqf => assumption); (case zqhs => with_unfolding_all rfl); k_whole))
  k_with "exec For Name Call cons nil" => (k_here; (rename Fr _ _ _ _ => lF'); (with_unfolding_all refine' For_invVF lF' ?zqk1 ?zqk2 ?_; (case zqk1 => exact rfl); (case zqk2 => exact rfl); k_whole))
  exact trivial
theorem next_spec {rx rd : Addr} {net k gw face met ad v : Int} {a1 a2 a3 a4 a5 b1 b2 b3 b4 b5 u : Tok}
    (B : Below A₀ base outer h₀) (F : Fr h₀ L s.heap m) (X : (KK w.params).In h₀) (N : News h₀ L s.heap (news)) (T : Top p loose mean mg mb h₀) (hk : cs.kind = .function) (h1 : (rx, instObj 113 rd) ∈ news) (h2 : (rd, rtD w.params a1 a2 a3 a4 a5 b1 b2 b3 b4 b5 net k gw face met) ∈ news) (hv : (if gw = 0 then ad else gw) = v) (hdp : dp + 10 < recursionLimit) (hun : un + 200 < cLine)
    (hret : ∀ (tv : Tok) h' tk', Fr h₀ L h' m → News h₀ L h' news → Q (.int v tv) { s with heap := h', toks := tk' }) :
    wpAny (model prog w) (ktrTop dp un gd cn cs L a ccd cl outer) (call (.ref 103) [.ref rx, .int ad u]) Q E s := by
  (refine wpAny_call ?_; k_dflt ktr_enter; try (w_strict (k_extra "k_env")))
  k_steps
  all_goals (rename News h₀ _ _ _ => kN; rename Fr h₀ _ _ _ => kF)
  · obtain rfl : ad = v := by rw [if_pos (by assumption)] at hv; exact hv
    exact hret _ _ _ kF kN
  · obtain rfl : gw = v := by rw [if_neg (by assumption)] at hv; exact hv
    exact hret _ _ _ kF kN
end
theorem item_txt {q : Path} {j : Nat} {b : Bool} (h : q[j]? = some b) : Txt.item (txt q) (j : Int) = txt [b] := by
  have hj : j < q.length := (List.getElem?_eq_some_iff.mp h).1
  unfold Txt.item Txt.charAt seqIndex?
  rw [txt_length]
  have e : (txt q).cps[j]? = some (sgn b) := by unfold txt; simp [h]
  simp only [if_neg (show ¬ ((j : Int) < 0) by omega)]
  rw [if_pos (by simp; omega)]
  simp only [Option.bind_some, Int.toNat_natCast]
  rw [e]
  rfl
theorem int_item (ad : Int) {j : Nat} (hj : j < 32) : PySem.intText? (Txt.item (txt (bitsOf ad 32)) (j : Int)) = some (ad / 2 ^ (31 - j) % 2) := by
  rw [item_txt (b := bitB ad j) (by unfold bitsOf; simp [hj]), ← txt_int]
  rcases Int.emod_two_eq (ad / 2 ^ (31 - j)) with h | h <;> rw [h] <;> exact KIN.num_reads (by decide) (by decide)
theorem clash {b : Bool} (h1 : b = true) (h2 : b = false) : False := by rw [h1] at h2; cases h2
theorem div_split {ad : Int} {x : Nat} (n k m : Nat) (hx : ad / (n : Int) = (x : Int)) (hm : m = n * k) : ad / (m : Int) % 2 = ((x / k % 2 : Nat) : Int) := by
  subst hm
  have e : ad / ((n * k : Nat) : Int) = ad / (n : Int) / (k : Int) := by
    rw [Int.natCast_mul]
    exact (Int.ediv_ediv_of_nonneg (Int.natCast_nonneg n)).symm
  rw [e, hx]
  rfl
theorem tl8 : ∀ x : Fin 256, (x.val = 127) ↔ (¬ x.val / 128 % 2 = 1 ∧ x.val / 64 % 2 = 1 ∧ x.val / 32 % 2 = 1 ∧ x.val / 16 % 2 = 1 ∧ x.val / 8 % 2 = 1 ∧ x.val / 4 % 2 = 1 ∧ x.val / 2 % 2 = 1 ∧ x.val / 1 % 2 = 1) := by decide +kernel
theorem cast1 (a : Nat) : ((a : Int) = 1) = (a = 1) := propext ⟨fun h => Int.ofNat.inj h, fun h => h ▸ rfl⟩
theorem cast127 (a : Nat) : ((a : Int) = 127) = (a = 127) := propext ⟨fun h => Int.ofNat.inj h, fun h => h ▸ rfl⟩
theorem bits127 {ad : Int} (h0 : 0 ≤ ad) (h1 : ad ≤ 4294967295) : ad / 16777216 = 127 ↔ (¬ ad / 2147483648 % 2 = 1 ∧ ad / 1073741824 % 2 = 1 ∧ ad / 536870912 % 2 = 1 ∧ ad / 268435456 % 2 = 1 ∧ ad / 134217728 % 2 = 1 ∧ ad / 67108864 % 2 = 1 ∧ ad / 33554432 % 2 = 1 ∧ ad / 16777216 % 2 = 1) := by
  obtain ⟨x, hx⟩ : ∃ x : Nat, ad / ((16777216 : Nat) : Int) = x := ⟨(ad / 16777216).toNat, by omega⟩
  have hl : x < 256 := by omega
  have d0 : ad / 2147483648 % 2 = ((x / 128 % 2 : Nat) : Int) := div_split 16777216 128 2147483648 hx rfl
  have d1 : ad / 1073741824 % 2 = ((x / 64 % 2 : Nat) : Int) := div_split 16777216 64 1073741824 hx rfl
  have d2 : ad / 536870912 % 2 = ((x / 32 % 2 : Nat) : Int) := div_split 16777216 32 536870912 hx rfl
  have d3 : ad / 268435456 % 2 = ((x / 16 % 2 : Nat) : Int) := div_split 16777216 16 268435456 hx rfl
  have d4 : ad / 134217728 % 2 = ((x / 8 % 2 : Nat) : Int) := div_split 16777216 8 134217728 hx rfl
  have d5 : ad / 67108864 % 2 = ((x / 4 % 2 : Nat) : Int) := div_split 16777216 4 67108864 hx rfl
  have d6 : ad / 33554432 % 2 = ((x / 2 % 2 : Nat) : Int) := div_split 16777216 2 33554432 hx rfl
  have d7 : ad / 16777216 % 2 = ((x / 1 % 2 : Nat) : Int) := div_split 16777216 1 16777216 hx rfl
  have d8 : ad / 16777216 = (x : Int) := hx
  rw [d0, d1, d2, d3, d4, d5, d6, d7, d8, cast1, cast1, cast1, cast1, cast1, cast1, cast1, cast1, cast127]
  exact tl8 ⟨x, hl⟩
theorem tl3 : ∀ x : Fin 16, (14 ≤ x.val) ↔ (x.val / 8 % 2 = 1 ∧ x.val / 4 % 2 = 1 ∧ x.val / 2 % 2 = 1) := by decide +kernel
theorem cast14 (a : Nat) : ((14 : Int) ≤ (a : Int)) = (14 ≤ a) := propext ⟨fun h => by omega, fun h => by omega⟩
theorem bits14 {ad : Int} (h0 : 0 ≤ ad) (h1 : ad ≤ 4294967295) : 14 ≤ ad / 268435456 ↔ (ad / 2147483648 % 2 = 1 ∧ ad / 1073741824 % 2 = 1 ∧ ad / 536870912 % 2 = 1) := by
  obtain ⟨x, hx⟩ : ∃ x : Nat, ad / ((268435456 : Nat) : Int) = x := ⟨(ad / 268435456).toNat, by omega⟩
  have hl : x < 16 := by omega
  have d0 : ad / 2147483648 % 2 = ((x / 8 % 2 : Nat) : Int) := div_split 268435456 8 2147483648 hx rfl
  have d1 : ad / 1073741824 % 2 = ((x / 4 % 2 : Nat) : Int) := div_split 268435456 4 1073741824 hx rfl
  have d2 : ad / 536870912 % 2 = ((x / 2 % 2 : Nat) : Int) := div_split 268435456 2 536870912 hx rfl
  have d8 : ad / 268435456 = (x : Int) := hx
  rw [d0, d1, d2, d8, cast1, cast1, cast1, cast14]
  exact tl3 ⟨x, hl⟩
theorem text_group {ad : Int} (h0 : 0 ≤ ad) (h1 : ad ≤ 4294967295) : (decide (14 ≤ ad / 268435456) != (Txt.slice (txt (bitsOf ad 32)) none (some 3) == Str.ofString "111")) = false := by
  have e := slice_txt (bitsOf ad 32) 3 (by rw [bitsOf_length]; omega)
  rw [bitsOf_take _ (by omega)] at e
  have e2 : Txt.slice (txt (bitsOf ad 32)) none (some 3) = txt (bitsOf ad 3) := e
  have e3 : Str.ofString "111" = txt [true, true, true] := by decide +kernel
  rw [e2, e3, bne_eq_false_iff_eq, Bool.eq_iff_iff, decide_eq_true_eq, beq_iff_eq]
  have e4 : (txt (bitsOf ad 3) = txt [true, true, true]) ↔ (ad / 2147483648 % 2 = 1 ∧ ad / 1073741824 % 2 = 1 ∧ ad / 536870912 % 2 = 1) := by
    constructor
    · intro h
      have h := txt_inj h
      have h2 : [bitB ad 0, bitB ad 1, bitB ad 2] = [true, true, true] := h
      simp only [List.cons.injEq, and_true] at h2
      exact ⟨of_decide_eq_true h2.1, of_decide_eq_true h2.2.1, of_decide_eq_true h2.2.2⟩
    · rintro ⟨a, b, c⟩
      have h2 : [bitB ad 0, bitB ad 1, bitB ad 2] = [true, true, true] := by
        rw [show bitB ad 0 = true from decide_eq_true a, show bitB ad 1 = true from decide_eq_true b, show bitB ad 2 = true from decide_eq_true c]
      exact congrArg txt h2
  rw [e4]
  exact bits14 h0 h1
theorem text_loop {ad : Int} (h0 : 0 ≤ ad) (h1 : ad ≤ 4294967295) : (decide (ad / 16777216 = 127) != (Txt.slice (txt (bitsOf ad 32)) none (some 8) == Str.ofString "01111111")) = false := by
  have e := slice_txt (bitsOf ad 32) 8 (by rw [bitsOf_length]; omega)
  rw [bitsOf_take _ (by omega)] at e
  have e2 : Txt.slice (txt (bitsOf ad 32)) none (some 8) = txt (bitsOf ad 8) := e
  have e3 : Str.ofString "01111111" = txt [false, true, true, true, true, true, true, true] := by decide +kernel
  rw [e2, e3, bne_eq_false_iff_eq, Bool.eq_iff_iff, decide_eq_true_eq, beq_iff_eq]
  have e4 : (txt (bitsOf ad 8) = txt [false, true, true, true, true, true, true, true]) ↔ (¬ ad / 2147483648 % 2 = 1 ∧ ad / 1073741824 % 2 = 1 ∧ ad / 536870912 % 2 = 1 ∧ ad / 268435456 % 2 = 1 ∧ ad / 134217728 % 2 = 1 ∧ ad / 67108864 % 2 = 1 ∧ ad / 33554432 % 2 = 1 ∧ ad / 16777216 % 2 = 1) := by
    constructor
    · intro h
      have h := txt_inj h
      have h2 : [bitB ad 0, bitB ad 1, bitB ad 2, bitB ad 3, bitB ad 4, bitB ad 5, bitB ad 6, bitB ad 7] = [false, true, true, true, true, true, true, true] := h
      simp only [List.cons.injEq, and_true] at h2
      obtain ⟨a0, a1, a2, a3, a4, a5, a6, a7⟩ := h2
      exact ⟨of_decide_eq_false a0, of_decide_eq_true a1, of_decide_eq_true a2, of_decide_eq_true a3, of_decide_eq_true a4, of_decide_eq_true a5, of_decide_eq_true a6, of_decide_eq_true a7⟩
    · rintro ⟨a0, a1, a2, a3, a4, a5, a6, a7⟩
      have h2 : [bitB ad 0, bitB ad 1, bitB ad 2, bitB ad 3, bitB ad 4, bitB ad 5, bitB ad 6, bitB ad 7] = [false, true, true, true, true, true, true, true] := by
        rw [show bitB ad 0 = false from decide_eq_false a0, show bitB ad 1 = true from decide_eq_true a1, show bitB ad 2 = true from decide_eq_true a2, show bitB ad 3 = true from decide_eq_true a3,
          show bitB ad 4 = true from decide_eq_true a4, show bitB ad 5 = true from decide_eq_true a5, show bitB ad 6 = true from decide_eq_true a6, show bitB ad 7 = true from decide_eq_true a7]
      exact congrArg txt h2
  rw [e4]
  exact bits127 h0 h1
section


variable {prog : Program} {w : World} {p : Program} {loose : List Str} {mean : ExcName → Option Value} {mg mb : Str → Option Value}
    {dp un : Nat} {gd : Option (List Code)} {cn : Str} {cs : Scope} {a : Addr} {ccd : Value} {cl : List (Str × Addr)} {outer : List Env} {A₀ : Around} {base h₀ : Heap} {L : Addr} {m : Str → Option Value} {news : List (Addr × Obj)} {s : Shared} {Q E : Value → Shared → Prop}

theorem zsetA42 : True := by
  k_with "binaryOp Pow int int" => (with_reducible refine pow_int_small ?zqkb1 ?zqkb2 ?zqkb3 ?_; (case zqkb1 => omega); (case zqkb2 => omega); (case zqkb3 => decide))
  k_with "binaryOp Pow int int" => (with_reducible refine pow_lit (k := 24) (z := 16777216) (by decide +kernel) (by decide) (by decide) ?_)
  k_with "binaryOp Pow int int" => (with_reducible refine pow_lit (k := 28) (z := 268435456) (by decide +kernel) (by decide) (by decide) ?_)
  k_with "binaryOp Pow int int" => (with_reducible refine pow_lit (k := 31) (z := 2147483648) (by decide +kernel) (by decide) (by decide) ?_)
  k_with "binaryOp Pow int int" => (with_reducible refine pow_lit (k := 32) (z := 4294967296) (by decide +kernel) (by decide) (by decide) ?_)
  k_with "binaryOp Mult int int" => (with_reducible refine mul_lit (x := 127) (y := 16777216) (z := 2130706432) (by decide) (by decide) (by decide) ?_)
  k_with "binaryOp Mult int int" => (with_reducible refine mul_lit (x := 128) (y := 16777216) (z := 2147483648) (by decide) (by decide) (by decide) ?_)
  k_with "binaryOp Mult int int" => (with_reducible refine mul_lit (x := 160) (y := 16777216) (z := 2684354560) (by decide) (by decide) (by decide) ?_)
  k_with "binaryOp Mult int int" => (with_reducible refine mul_lit (x := 163) (y := 16777216) (z := 2734686208) (by decide) (by decide) (by decide) ?_)
  k_with "binaryOp Mult int int" => (with_reducible refine mul_lit (x := 224) (y := 16777216) (z := 3758096384) (by decide) (by decide) (by decide) ?_)
  k_with "call ref" => (k_here; (with_reducible show wpAny _ _ (call (Value.ref 262) _) _ _ _); refine Hold.mk ?_)
  k_with "call ref" => (k_here; (with_reducible show wpAny _ _ (call (Value.ref 269) _) _ _ _); refine Hold.mk ?_)
  k_with "call ref" => (k_here; (with_reducible show wpAny _ _ (call (Value.ref 281) _) _ _ _); refine Hold.mk ?_)
  k_with "call ref" => (k_here; (with_reducible show wpAny _ _ (call (Value.ref 103) _) _ _ _); refine Hold.mk ?_)
  k_with "call ref" => (k_here; (with_reducible show wpAny _ _ (call (Value.ref 113) _) _ _ _); refine Hold.mk ?_)
  k_with "call ref" => (k_here; (with_reducible show wpAny _ _ (call (Value.ref 67) _) _ _ _); refine Hold.mk ?_)
  k_with "call ref" => (k_here; (with_reducible show wpAny _ _ (call (Value.ref 173) _) _ _ _); refine Hold.mk ?_)
  k_with "call type:int" => (k_here; (with_reducible show wpAny _ _ (call (Value.type "int") [Value.str _ _]) _ _ _); refine KIN.call_text (by with_reducible assumption) (by show 1 ≤ 640; decide) ?_)
  k_with "call ref" => (k_here; k_dflt (refine' group_spec ?zqk1 ?zqk2 ?zqk3 ?zqk4 ?zqk5 ?zqkK  ?zqkd ?zqku ?_; (case zqk1 => k_asm); (case zqk2 => k_asm); (case zqk3 => k_asm); (case zqk4 => k_asm); (case zqk5 => k_asm); (case zqkK => first | exact rfl | assumption);  (case zqkd => ktr_room); (case zqku => ktr_units); k_whole; intro _ _ _ _; (try dsimp only); (try k_sweep); (try (k_extra "zfold"))))
  k_with "call ref" => (k_here; k_dflt (refine' loop_spec ?zqk1 ?zqk2 ?zqk3 ?zqk4 ?zqk5 ?zqkK  ?zqkd ?zqku ?_; (case zqk1 => k_asm); (case zqk2 => k_asm); (case zqk3 => k_asm); (case zqk4 => k_asm); (case zqk5 => k_asm); (case zqkK => first | exact rfl | assumption);  (case zqkd => ktr_room); (case zqku => ktr_units); k_whole; intro _ _ _ _; (try dsimp only); (try k_sweep); (try (k_extra "zfold"))))
  k_with "call ref" => (k_here; k_dflt (refine' bits_spec ?zqk1 ?zqk2 ?zqk3 ?zqk4 ?zqk5 ?zqkK  ?zqkd ?zqku ?_; (case zqk1 => k_asm); (case zqk2 => k_asm); (case zqk3 => k_asm); (case zqk4 => k_asm); (case zqk5 => k_asm); (case zqkK => first | exact rfl | assumption);  (case zqkd => ktr_room); (case zqku => ktr_units); k_whole; intro _ _ _ _ _; (try dsimp only); (try k_sweep); (try (k_extra "zfold"))))
  exact trivial
theorem right_draw {src : Addr} {os : Obj}
    (B : Below A₀ base outer h₀) (F : Fr h₀ L s.heap m) (X : (KK w.params).In h₀) (N : News h₀ L s.heap ((src, os) :: news)) (T : Top p loose mean mg mb h₀) (hk : cs.kind = .function) (hS : Src os) (hs : ∀ p ∈ news, p.1 ≠ src) (hdp : dp + 40 < recursionLimit) (hun : un + 800 < cLine)
    (hret : ∀ os' h' tk', Src os' → Fr h₀ L h' m → News h₀ L h' ((src, os') :: news) → Q (.bool true) { s with heap := h', toks := tk' }) :
    wpAny (model prog w) (ktrTop dp un gd cn cs L a ccd cl outer) (call (.ref 329) [.ref src]) Q E s := by
  (refine wpAny_call ?_; k_dflt ktr_enter; try (w_strict (k_extra "k_env")))
  k_steps
  (unfold Hold; w_strict (k_dflt (refine' address_spec ?k1 ?k2 ?k3 ?k4 ?k5 ?kK ?u0 ?u1 ?kd ?ku ?_; (case k1 => k_asm); (case k2 => k_asm); (case k3 => k_asm); (case k4 => k_asm); (case k5 => k_asm); (case kK => first | exact rfl | assumption); (case u0 => k_updF); (case u1 => assumption); (case kd => ktr_room); (case ku => ktr_units))); intro ad ta os1 h1 tk1 ha0 ha1 hS1 F1 N1; (try dsimp only); (try k_sweep); (try (k_extra "zfold")))
  k_steps
  (unfold Hold; w_strict (k_dflt (refine' take_S ?k1 ?k2 ?k3 ?k4 ?k5 ?kK ?u0 ?u1 ?u2 ?u3 ?kd ?ku ?_; (case k1 => k_asm); (case k2 => k_asm); (case k3 => k_asm); (case k4 => k_asm); (case k5 => k_asm); (case kK => first | exact rfl | assumption); (case u0 => k_updF); (case u1 => assumption); (case u2 => decide); (case u3 => decide); (case kd => ktr_room); (case ku => ktr_units))); intro pre tp os2 h2 tk2 hp0 hp1 hS2 F2 N2; (try dsimp only); (try k_sweep); (try (k_extra "zfold")))
  obtain ⟨k, rfl⟩ : ∃ k : Nat, pre = (k : Int) := ⟨pre.toNat, by omega⟩
  have hgf := text_group ha0 ha1
  have hlf := text_loop ha0 ha1
  k_steps
  all_goals (try exact (clash (by assumption) hgf).elim)
  all_goals (try exact (clash (by assumption) hlf).elim)
  (unfold Hold; w_strict (k_dflt (refine' net_spec ?k1 ?k2 ?k3 ?k4 ?k5 ?kK ?u0 ?u1 ?u2 ?u3 ?u4 ?kd ?ku ?_; (case k1 => k_asm); (case k2 => k_asm); (case k3 => k_asm); (case k4 => k_asm); (case k5 => k_asm); (case kK => first | exact rfl | assumption); (case u0 => exact rfl); (case u1 => exact ha0); (case u2 => exact ha1); (case u3 => omega); (case u4 => omega); (case kd => ktr_room); (case ku => ktr_units))); intro tn h3 tk3 F3 N3; (try dsimp only); (try k_sweep); (try (k_extra "zfold")))
  have htn := text_net ad (k := k) (by omega)
  k_steps
  all_goals (try exact (clash (by assumption) htn).elim)
  (unfold Hold; w_strict (k_dflt (refine' take_S ?k1 ?k2 ?k3 ?k4 ?k5 ?kK ?u0 ?u1 ?u2 ?u3 ?kd ?ku ?_; (case k1 => k_asm); (case k2 => k_asm); (case k3 => k_asm); (case k4 => k_asm); (case k5 => k_asm); (case kK => first | exact rfl | assumption); (case u0 => k_updF); (case u1 => assumption); (case u2 => decide); (case u3 => decide); (case kd => ktr_room); (case ku => ktr_units))); intro pl tq os3 h4 tk4 hl0 hl1 hS3 F4 N4; (try dsimp only); (try k_sweep); (try (k_extra "zfold")))
  obtain ⟨j, rfl⟩ : ∃ j : Nat, pl = (j : Int) := ⟨pl.toNat, by omega⟩
  k_steps
  (unfold Hold; w_strict (k_dflt (refine' one_S (ns := [0, 77]) ?k1 ?k2 ?k3 ?k4 ?k5 ?kK ?u0 ?u1 ?u2 ?u3 ?u4 ?u5 ?u6 ?kd ?ku ?_; (case k1 => k_asm); (case k2 => k_asm); (case k3 => k_asm); (case k4 => k_asm); (case k5 => k_asm); (case kK => first | exact rfl | assumption); (case u0 => k_updF); (case u1 => assumption); (case u2 => k_mem); (case u3 => (repeat (first | exact .nil | refine .cons _ _ ?_))); (case u4 => omega); (case u5 => decide); (case u6 => decide); (case kd => ktr_room); (case ku => ktr_units))); intro gw tg os4 h5 tk5 hgw hS4 F5 N5; (try dsimp only); (try k_sweep); (try (k_extra "zfold")))
  have hgv : gw = 0 ∨ gw = 77 := by
    simp only [List.mem_cons, List.not_mem_nil, or_false] at hgw
    exact hgw
  clear hgw
  k_steps
  (unfold Hold; w_strict (k_dflt (refine' bit_spec3 (n := j) ?k1 ?k2 ?k3 ?k4 ?k5 ?kK ?u0 ?u1 ?u2 ?kd ?ku ?_; (case k1 => k_asm); (case k2 => k_asm); (case k3 => k_asm); (case k4 => k_asm); (case k5 => k_asm); (case kK => first | exact rfl | assumption); (case u0 => exact rfl); (case u1 => exact rfl); (case u2 => omega); (case kd => ktr_room); (case ku => ktr_units))); intro tb h6 tk6 F6 N6; (try dsimp only); (try k_sweep); (try (k_extra "zfold")))
  have hit := int_item ad (j := j) (by omega)
  have hln : (txt (bitsOf ad 32)).length = 32 := by rw [txt_length, bitsOf_length]
  have hb0 := Int.emod_two_eq (ad / 2 ^ (31 - j))
  k_steps
  all_goals (try (exfalso; omega))
  rcases hgv with rfl | rfl
  · (unfold Hold; w_strict (k_dflt (refine' new_route4 ?k1 ?k2 ?k3 ?k4 ?k5 ?kK  ?kd ?ku ?_; (case k1 => k_asm); (case k2 => k_asm); (case k3 => k_asm); (case k4 => k_asm); (case k5 => k_asm); (case kK => first | exact rfl | assumption);  (case kd => ktr_room); (case ku => ktr_units))); intro rx rd s1 s2 s3 s4 s5 s6 h8 tk8 al ax F8 N8; (try dsimp only); (try k_sweep))
    k_lt al
    k_steps
    (unfold Hold; w_strict (k_dflt (refine' next_spec ?k1 ?k2 ?k3 ?k4 ?k5 ?kK ?u0 ?u1 ?u2 ?kd ?ku ?_; (case k1 => k_asm); (case k2 => k_asm); (case k3 => k_asm); (case k4 => k_asm); (case k5 => k_asm); (case kK => first | exact rfl | assumption); (case u0 => exact .head _); (case u1 => exact .tail _ (.head _)); (case u2 => exact if_pos rfl); (case kd => ktr_room); (case ku => ktr_units))); intro t9 h7 tk7 F7 N7; (try dsimp only); (try k_sweep); (try (k_extra "zfold")))
    k_steps
    rename News h₀ _ _ _ => kN
    rename Fr h₀ _ _ _ => kF
    exact q_bool (beq_self_eq_true _) (hret os4 _ _ hS4 kF (news_sub kN fun p hp => by repeat (first | exact hp | refine List.Mem.tail _ ?_)))
  · (unfold Hold; w_strict (k_dflt (refine' new_route4 ?k1 ?k2 ?k3 ?k4 ?k5 ?kK  ?kd ?ku ?_; (case k1 => k_asm); (case k2 => k_asm); (case k3 => k_asm); (case k4 => k_asm); (case k5 => k_asm); (case kK => first | exact rfl | assumption);  (case kd => ktr_room); (case ku => ktr_units))); intro rx rd s1 s2 s3 s4 s5 s6 h8 tk8 al ax F8 N8; (try dsimp only); (try k_sweep))
    k_lt al
    k_steps
    (unfold Hold; w_strict (k_dflt (refine' next_spec ?k1 ?k2 ?k3 ?k4 ?k5 ?kK ?u0 ?u1 ?u2 ?kd ?ku ?_; (case k1 => k_asm); (case k2 => k_asm); (case k3 => k_asm); (case k4 => k_asm); (case k5 => k_asm); (case kK => first | exact rfl | assumption); (case u0 => exact .head _); (case u1 => exact .tail _ (.head _)); (case u2 => exact if_neg (by decide)); (case kd => ktr_room); (case ku => ktr_units))); intro t9 h7 tk7 F7 N7; (try dsimp only); (try k_sweep); (try (k_extra "zfold")))
    k_steps
    rename News h₀ _ _ _ => kN
    rename Fr h₀ _ _ _ => kF
    exact q_bool (beq_self_eq_true _) (hret os4 _ _ hS4 kF (news_sub kN fun p hp => by repeat (first | exact hp | refine List.Mem.tail _ ?_)))
theorem right_spec {src : Addr} {os : Obj} {g : Obj → List (Addr × Obj)}
    (B : Below A₀ base outer h₀) (F : Fr h₀ L s.heap m) (X : (KK w.params).In h₀) (N : News h₀ L s.heap (news)) (T : Top p loose mean mg mb h₀) (hk : cs.kind = .function) (U : UpdF src os news g) (hS : Src os) (hdp : dp + 40 < recursionLimit) (hun : un + 800 < cLine)
    (hret : ∀ os' h' tk', Src os' → Fr h₀ L h' m → News h₀ L h' (g os') → Q (.bool true) { s with heap := h', toks := tk' }) :
    wpAny (model prog w) (ktrTop dp un gd cn cs L a ccd cl outer) (call (.ref 329) [.ref src]) Q E s := by
  obtain ⟨rest, N1, hs, hsub, hg⟩ := updF_head U N
  exact right_draw B F X N1 T hk hS hs hdp hun fun os' h' tk' h2 F' N' => hret os' h' tk' h2 F' (hg _ os' N')
end
end Mine

-- part P5
namespace Mine
set_option maxRecDepth 100000
set_option maxHeartbeats 8000000
set_option pp.deepTerms false
set_option pp.deepTerms.threshold 4
set_option pp.maxSteps 100000


section

variable {prog : Program} {w : World} {p : Program} {loose : List Str} {mean : ExcName → Option Value} {mg mb : Str → Option Value}
    {dp un : Nat} {gd : Option (List Code)} {cn : Str} {cs : Scope} {a : Addr} {ccd : Value} {cl : List (Str × Addr)} {outer : List Env} {A₀ : Around} {base h₀ : Heap} {L : Addr} {m : Str → Option Value} {news : List (Addr × Obj)} {s : Shared} {Q E : Value → Shared → Prop}

theorem zsetP51 : True := by
  k_with_none
  k_with "z_ch" => first | with_reducible assumption | (refine' And.right ?_; rotate_left; first | with_reducible assumption | (refine' And.right ?_; rotate_left; first | with_reducible assumption | (refine' And.right ?_; rotate_left; first | with_reducible assumption | (refine' And.right ?_; rotate_left; first | with_reducible assumption | (refine' And.right ?_; rotate_left; first | with_reducible assumption | (refine' And.right ?_; rotate_left; first | with_reducible assumption | (refine' And.right ?_; rotate_left; with_reducible assumption)))))))
  k_with "z_lt" => first | with_reducible assumption | (refine' And.left ?_; rotate_left; k_extra "z_ch") | (refine' And.right ?_; rotate_left; k_extra "z_ch")
  k_with "k_ne" => (refine neN ?_; (try dsimp only); first | (refine' Nat.ne_of_gt ?_; k_extra "z_lt") | (refine' Nat.ne_of_lt ?_; k_extra "z_lt") | (refine' Nat.ne_of_gt (Nat.lt_trans ?_ (by with_reducible assumption)); k_extra "z_lt") | (refine' Nat.ne_of_lt (Nat.lt_trans ?_ (by with_reducible assumption)); k_extra "z_lt"))
  k_with "zfold" => ((fail_if_success (fail_if_success k_fold)); refine zfold_q ?_; intro qk)
  k_with "k_env" => (refine zfold_env (f := fun en9 => execs _ en9) ?_; intro en9; refine zfold_A ?_; intro ak9; (rename Fr _ _ _ _ => fr9); refine zfold_F fr9 ?_; clear fr9; intro fm9 fr9; try (refine zgen_t ?_; intro tk9))
  k_with "ktr_room" => first | exact fits (c := 1) hdp rfl rfl | exact fits0 (c := 1) hdp rfl rfl | exact fits (c := 2) hdp rfl rfl | exact fits0 (c := 2) hdp rfl rfl | exact fits (c := 0) hdp rfl rfl | exact fits0 (c := 0) hdp rfl rfl | exact fits (c := 3) hdp rfl rfl | exact fits0 (c := 3) hdp rfl rfl | exact Nat.le_of_ble_eq_true rfl
  k_with "ktr_units" => first | exact fits (c := 3) hun rfl rfl | exact fits0 (c := 3) hun rfl rfl | exact fits (c := 6) hun rfl rfl | exact fits0 (c := 6) hun rfl rfl | exact fits (c := 0) hun rfl rfl | exact fits0 (c := 0) hun rfl rfl | exact fits (c := 9) hun rfl rfl | exact fits0 (c := 9) hun rfl rfl | exact Nat.le_of_ble_eq_true rfl
  k_with "k_steps" => repeat' (first | (k_unfold; (try dsimp only); (try clear qk)) | (k_end; wrow_close) | walk1 | (dsimp only; walk1) | (leave1; try dsimp only) | fail "no step")
  k_with "execs cons" => (k_extra "zfold"; walk1)
  k_with "exec If" => (k_extra "zfold"; walk1)
  k_with "exec Assign" => (k_extra "zfold"; walk1)
  k_with "exec Expr" => (k_extra "zfold"; walk1)
  k_with "exec Return" => (k_extra "zfold"; walk1)
  k_with "isTrue" => (k_extra "zfold"; walk1)
  k_with "eval BinOp" => (k_extra "zfold"; walk1)
  k_with "eval BoolOp" => (k_extra "zfold"; walk1)
  k_with "eval UnaryOp" => (k_extra "zfold"; walk1)
  k_with "eval Call" => (k_extra "zfold"; walk1)
  k_with "eval Compare" => (k_extra "zfold"; walk1)
  k_with "eval Subscript" => (k_extra "zfold"; walk1)
  k_with "eval Attribute" => (k_extra "zfold"; walk1)
  k_with "eval Tuple" => (k_extra "zfold"; walk1)
  k_with "eval List nil" => (k_extra "zfold"; walk1)
  k_with "eval List cons" => (k_extra "zfold"; walk1)
  k_with "k_room" => ktr_room
  k_with "binaryOp Pow int int" => (with_reducible refine pow_int_small ?zqkb1 ?zqkb2 ?zqkb3 ?_; (case zqkb1 => omega); (case zqkb2 => omega); (case zqkb3 => decide))
  k_with "binaryOp Pow int int" => (with_reducible refine pow_lit (k := 24) (z := 16777216) (by decide +kernel) (by decide) (by decide) ?_)
  k_with "binaryOp Pow int int" => (with_reducible refine pow_lit (k := 28) (z := 268435456) (by decide +kernel) (by decide) (by decide) ?_)
  k_with "binaryOp Pow int int" => (with_reducible refine pow_lit (k := 31) (z := 2147483648) (by decide +kernel) (by decide) (by decide) ?_)
  k_with "binaryOp Pow int int" => (with_reducible refine pow_lit (k := 32) (z := 4294967296) (by decide +kernel) (by decide) (by decide) ?_)
  k_with "binaryOp Mult int int" => (with_reducible refine mul_lit (x := 127) (y := 16777216) (z := 2130706432) (by decide) (by decide) (by decide) ?_)
  k_with "binaryOp Mult int int" => (with_reducible refine mul_lit (x := 128) (y := 16777216) (z := 2147483648) (by decide) (by decide) (by decide) ?_)
  k_with "binaryOp Mult int int" => (with_reducible refine mul_lit (x := 160) (y := 16777216) (z := 2684354560) (by decide) (by decide) (by decide) ?_)
  k_with "binaryOp Mult int int" => (with_reducible refine mul_lit (x := 163) (y := 16777216) (z := 2734686208) (by decide) (by decide) (by decide) ?_)
  k_with "binaryOp Mult int int" => (with_reducible refine mul_lit (x := 224) (y := 16777216) (z := 3758096384) (by decide) (by decide) (by decide) ?_)
  exact trivial
theorem pool_spec {sc : Addr} {vs : List Value} {ns : List Int} {u : Tok}
    (B : Below A₀ base outer h₀) (F : Fr h₀ L s.heap m) (X : (KK w.params).In h₀) (N : News h₀ L s.heap (news)) (T : Top p loose mean mg mb h₀) (hk : cs.kind = .function) (hl : h₀.IsList sc vs.toArray) (hi : IntsAre vs ns) (hlay : PyData.layable0 (.list (ns.map .int)) = true) (hlen : ns.length ≤ 63) (hdp : dp + 20 < recursionLimit) (hun : un + 400 < cLine)
    (hret : ∀ D os h' tk', Src os → Fr h₀ L h' m → News h₀ L h' ((D, os) :: news) → (∀ p ∈ news, p.1 < D) → Q (.ref D) { s with heap := h', toks := tk' }) :
    wpAny (model prog w) (ktrTop dp un gd cn cs L a ccd cl outer) (call (.ref 255) [.ref sc, .int 0 u]) Q E s := by
  (refine wpAny_call ?_; k_dflt ktr_enter; try (w_strict (k_extra "k_env")))
  rename Fr h₀ _ _ _ => FG9
  have hl9 : Heap.IsList _ sc vs.toArray := hl.at fun o e => FG9.keep sc o e
  k_steps
  all_goals (rename News h₀ _ _ _ => kN; rename Fr h₀ _ _ _ => kF)
  all_goals (refine hret _ _ _ _ ⟨_, _, _, _, _, rfl, ?_, ?_, ?_⟩ kF kN ?_)
  all_goals (first | assumption | exact fm_nonneg (by decide) | exact fm_lt (by decide) | exact Int.mul_nonneg (by split <;> omega) (by split <;> omega))
end
end Mine

-- part Y4
namespace Mine
set_option maxRecDepth 100000
set_option maxHeartbeats 8000000
set_option pp.deepTerms false
set_option pp.deepTerms.threshold 4
set_option pp.maxSteps 100000

/- a loop over a range whose turns may draw (the order of a set): own rule -/
def DEnd (h₀ : Heap) (L : Addr) (J : (Str → Option Value) → Led → Prop) (I : Addr) (oI : Obj) (s₁ s₂ : Shared) : Prop :=
  ∃ h' tk d m' nx, s₂ = { s₁ with heap := h', toks := tk, drawn := d } ∧ Fr h₀ L h' m' ∧ News h₀ L h' ((I, oI) :: nx) ∧ (∀ p ∈ nx, @Ne Nat p.1 I) ∧ J m' nx
def DPost (h₀ : Heap) (L : Addr) (J : (Str → Option Value) → Led → Prop) (I : Addr) (oI : Obj) (s₁ : Shared) (Q : Flow → Shared → Prop) (f : Flow) (s₂ : Shared) : Prop :=
  match f with
  | .ret v => Q (.ret v) s₂
  | .brk => Q .next s₂
  | _ => DEnd h₀ L J I oI s₁ s₂
inductive RangeD (prog : Program) (w : World) (A : Around) (h₀ : Heap) (env : Env) (x : Str) (body : List Stmt) (Q : Flow → Shared → Prop) (E : Value → Shared → Prop) (xv : Value) (s₁ : Shared) : Prop
  | mk (r : Addr) (a₀ b₀ : Int) (t₀ u₀ v₀ : Tok) (n : Nat) (m₀ : Str → Option Value) (news : Led) (J : Nat → (Str → Option Value) → Led → Prop) (hx : xv = .ref r) (hh : A.handled = none) (hr : IsRange s₁.heap r a₀ b₀ 1 t₀ u₀ v₀) (hs : Builtin.Range.small a₀ b₀ 1 = true) (hn : Builtin.Range.rangeSize a₀ b₀ 1 = (n : Int))
    (F : Fr h₀ env.locals s₁.heap m₀) (N : News h₀ env.locals s₁.heap news) (hj : J 0 m₀ news)
    (turn : ∀ (i : Nat) t m₁ nx h tk d I oI, i < n → (∃ fs, Obj.data oI = .fields fs) → (∀ p ∈ nx, @Ne Nat p.1 I) → J i m₁ nx → Fr h₀ env.locals h (fun y => if y = x then some (.int (a₀ + (i : Int)) t) else m₁ y) → News h₀ env.locals h ((I, oI) :: nx) →
      wpAny (model prog w) A (execs body env) (DPost h₀ env.locals (J (i + 1)) I oI { s₁ with heap := h, toks := tk, drawn := d } Q) E { s₁ with heap := h, toks := tk, drawn := d })
    (done : ∀ m₁ nx h tk d, J n m₁ nx → Fr h₀ env.locals h m₁ → News h₀ env.locals h nx → Q .next { s₁ with heap := h, toks := tk, drawn := d }) : RangeD prog w A h₀ env x body Q E xv s₁
inductive DInv (h₀ : Heap) (L : Addr) (s₁ : Shared) (n : Nat) (a₀ : Int) (I : Addr) (J : Nat → (Str → Option Value) → Led → Prop) : Nat → Shared → Prop
  | mk (i : Nat) (h' : Heap) (tk : Nat) (d : Drawn) (m' : Str → Option Value) (nx : Led) (hi : i ≤ n) (hit : IsRangeIter h' I (a₀ + (i : Int)) ((n : Int) - (i : Int)) 1) (F : Fr h₀ L h' m') (N : News h₀ L h' nx) (off : ∀ p ∈ nx, @Ne Nat p.1 I) (hJ : J i m' nx) :
    DInv h₀ L s₁ n a₀ I J (n + 1 - i) { s₁ with heap := h', toks := tk, drawn := d }
theorem dend_mk {h₀ h' : Heap} {L : Addr} {J : (Str → Option Value) → Led → Prop} {I : Addr} {oI : Obj} {s₁ : Shared} {tk : Nat} {d : Drawn} {m' : Str → Option Value} {nx : Led} (F : Fr h₀ L h' m') (N : News h₀ L h' ((I, oI) :: nx)) (off : ∀ p ∈ nx, @Ne Nat p.1 I) (hJ : J m' nx) :
    DEnd h₀ L J I oI s₁ { s₁ with heap := h', toks := tk, drawn := d } := ⟨_, _, _, _, _, rfl, F, N, off, hJ⟩
section
variable {prog : Program} {w : World} {A : Around} {E : Value → Shared → Prop} {s : Shared} {env : Env} {h₀ : Heap} {x : Str} {body : List Stmt} {Q : Flow → Shared → Prop}
theorem rangeD_mk {s₁ : Shared} {r : Addr} {a₀ b₀ : Int} {t₀ u₀ v₀ : Tok} {n : Nat} {m₀ : Str → Option Value} {news : Led} (J : Nat → (Str → Option Value) → Led → Prop) (hh : A.handled = none) (hr : IsRange s₁.heap r a₀ b₀ 1 t₀ u₀ v₀) (hs : Builtin.Range.small a₀ b₀ 1 = true) (hn : Builtin.Range.rangeSize a₀ b₀ 1 = (n : Int))
    (F : Fr h₀ env.locals s₁.heap m₀) (N : News h₀ env.locals s₁.heap news) (hj : J 0 m₀ news)
    (turn : ∀ (i : Nat) t m₁ nx h tk d I oI, i < n → (∃ fs, Obj.data oI = .fields fs) → (∀ p ∈ nx, @Ne Nat p.1 I) → J i m₁ nx → Fr h₀ env.locals h (fun y => if y = x then some (.int (a₀ + (i : Int)) t) else m₁ y) → News h₀ env.locals h ((I, oI) :: nx) →
      wpAny (model prog w) A (execs body env) (DPost h₀ env.locals (J (i + 1)) I oI { s₁ with heap := h, toks := tk, drawn := d } Q) E { s₁ with heap := h, toks := tk, drawn := d })
    (done : ∀ m₁ nx h tk d, J n m₁ nx → Fr h₀ env.locals h m₁ → News h₀ env.locals h nx → Q .next { s₁ with heap := h, toks := tk, drawn := d }) : RangeD prog w A h₀ env x body Q E (.ref r) s₁ := .mk _ _ _ _ _ _ _ _ _ J rfl hh hr hs hn F N hj turn done
theorem For_drawn {m : Str → Option Value} {px pos : Pos} {iter : PySem.Expr} (_F : Fr h₀ env.locals s.heap m) (hx : env.kindOf x = some .local)
    (hp : (env.scope.kind == .class || (env.scope.kind == .module && env.locals != env.globals)) = false)
    (h : wpAny (model prog w) A (eval iter env) (RangeD prog w A h₀ env x body Q E) E s)
    (hs : ∀ x, foldedSetIterable iter env x = pure x := by intro _; rfl)
    (hE : PassesOwn (model prog w) A env E := by passes_own) :
    wpAny (model prog w) A (exec (.For (.Name x px) iter body [] pos) env) Q E s := by
  refine wpAny_For (wpAny_mono h (fun xv s₁ h₁ => ?_) fun _ _ e => e) hs
  obtain ⟨r, a₀, b₀, t₀, u₀, v₀, n, m₀, news, J, rfl, hh, hr, hsmall, hn, F, N, hj, turn, done⟩ := h₁
  refine wpAny_pyIter_range hr hsmall ?_
  have hL : @LT.lt Nat _ env.locals s₁.heap.objs.size := F.ns.lt
  have hI0 : h₀.get? s₁.heap.objs.size = none := next_is_new F
  have hIL : @Ne Nat env.locals s₁.heap.objs.size := Nat.ne_of_lt hL
  refine codeAny_forLoop
    (DInv h₀ env.locals s₁ n a₀ s₁.heap.objs.size J) ?_ (n + 1)
    (.mk 0 _ _ _ m₀ news (Nat.zero_le _) ?_ (F.push _) (fun p hp => ⟨Heap.get?_push_of_some _ (N p hp).1, (N p hp).2⟩) (fun p hp => Nat.ne_of_lt (Heap.lt_size (N p hp).1)) hj)
  · rintro k s' ⟨i, h', tk, d, m', nx, hi, hit, F', N', off, hJ⟩
    have keeps : ∀ h₂ : Heap, (∀ b o, @Ne Nat b s₁.heap.objs.size → h'.get? b = some o → h₂.get? b = some o) → Fr h₀ env.locals h₂ m' ∧ News h₀ env.locals h₂ nx := fun h₂ hk =>
      ⟨⟨F'.ns.at' fun o e => hk _ o hIL e, fun b o e => hk b o (fun q => by rw [show b = s₁.heap.objs.size from q, hI0] at e; cases e) (F'.keep b o e), F'.above⟩, fun p hp => ⟨hk _ _ (off p hp) (N' p hp).1, (N' p hp).2⟩⟩
    by_cases hlt : i < n
    · refine wpAny_pyNext_range_item hit (by omega) fun h₂ hit₂ hs₂ => ?_
      obtain ⟨F₂, N₂⟩ := keeps h₂ fun b o hb e => hs₂.extBut b o hb e
      refine wpAny_assign_Name (wpAny_storeName_local hx F₂.ns (fun h₃ hn₃ hs₃ => ?_) hp)
      have F₃ := F₂.set hn₃ hs₃
      have hit₃ : IsRangeIter h₃ s₁.heap.objs.size (a₀ + (i : Int) + 1) ((n : Int) - (i : Int) - 1) 1 := (hs₃.2 _ (Ne.symm hIL)).trans hit₂
      obtain ⟨oI, heI, hfI, hoI⟩ : ∃ oI : Obj, h₃.get? s₁.heap.objs.size = some oI ∧ (∃ fs, Obj.data oI = .fields fs) ∧ ∀ h : Heap, h.get? s₁.heap.objs.size = some oI → IsRangeIter h s₁.heap.objs.size (a₀ + ((i + 1 : Nat) : Int)) ((n : Int) - ((i + 1 : Nat) : Int)) 1 := by
        have e1 : a₀ + ((i + 1 : Nat) : Int) = a₀ + (i : Int) + 1 := by omega
        have e2 : (n : Int) - ((i + 1 : Nat) : Int) = (n : Int) - (i : Int) - 1 := by omega
        rw [e1, e2]
        exact ⟨_, hit₃, ⟨_, rfl⟩, fun _ q => q⟩
      have N₃ : News h₀ env.locals h₃ ((s₁.heap.objs.size, oI) :: nx) := fun p hp => by
        rcases List.mem_cons.mp hp with rfl | hp
        · exact ⟨heI, Ne.symm hIL, hI0⟩
        · exact ⟨(hs₃.2 _ (N₂ p hp).2.1).trans (N₂ p hp).1, (N₂ p hp).2⟩
      refine wpAny_mono (wpAny_passesOwn hE (turn i tk m' nx h₃ _ d _ oI hlt hfI off hJ F₃ N₃)) (fun f s₃ hq => ?_) fun _ _ e => e
      have fin : ∀ tkx, DEnd h₀ env.locals (J (i + 1)) s₁.heap.objs.size oI { s₁ with heap := h₃, toks := tkx, drawn := d } s₃ → ∃ m, m < n + 1 - i ∧ DInv h₀ env.locals s₁ n a₀ s₁.heap.objs.size J m s₃ := by
        rintro tkx ⟨h₄, tk₄, d₄, m₄, nx₄, rfl, F₄, N₄, off₄, hJ₄⟩
        exact ⟨n + 1 - (i + 1), by omega, .mk (i + 1) h₄ tk₄ d₄ m₄ nx₄ hlt (hoI _ (N₄ _ (.head _)).1) F₄ (fun p hp => N₄ p (.tail _ hp)) off₄ hJ₄⟩
      cases f with
      | ret v => exact hq
      | brk => exact hq
      | next => exact fin _ hq
      | cont => exact fin _ hq
    · obtain rfl : i = n := by omega
      refine wpAny_pyNext_range_end hh hit (by omega) fun h₂ hk₂ => wpAny_execs_nil ?_
      obtain ⟨F₂, N₂⟩ := keeps h₂ fun b o hb e => hk₂ b o hb e
      exact done m' nx h₂ tk d hJ F₂ N₂
  · show IsRangeIter _ _ _ _ _
    rw [hn]; simpa using Heap.get?_push_size _ rfl
end
end Mine

-- part Y5
namespace Mine
set_option maxRecDepth 100000
set_option maxHeartbeats 8000000
set_option pp.deepTerms false
set_option pp.deepTerms.threshold 4
set_option pp.maxSteps 100000

/- the law's ledger between two turns -/
inductive LawAt (P : Params) (src tb td root : Addr) (t1 t2 : Tok) (ca : Addr) (oc : Obj) (b : Nat) (rl : Addr) : Led → Prop
  | mk (vs : List Value) (n : Nat) (rows : List Row) (os : Obj) (Z W : Led) (f : Fm) (many : Int) (u : Tok) (nd : ND ((src, os) :: (tb, instObj 244 td) :: (td, tbD P t1 t2 u root many) :: (Z ++ W))) (hS : Src os) (Tr : Tree P Z f) (hr : vOf (f []) = .ref root) (Iv : Inv f rows)
    (hl : (rl, listOf vs.toArray n) ∈ W) (hR : RowsAre W vs rows) (hlen : rows.length ≤ b) (hmany : many = (rows.length : Int)) (hc : (ca, oc) ∈ W) : LawAt P src tb td root t1 t2 ca oc b rl ((src, os) :: (tb, instObj 244 td) :: (td, tbD P t1 t2 u root many) :: (Z ++ W))
theorem law_in {h₀ h : Heap} {L : Addr} {Z W : Led} {i a b c : Addr × Obj} (N : News h₀ L h (i :: a :: b :: c :: (Z ++ W))) : News h₀ L h (a :: b :: c :: (Z ++ (i :: W))) := news_sub N fun p hp => by
  simp only [List.mem_cons, List.mem_append] at hp ⊢
  rcases hp with e | e | e | e | e | e
  · exact .inr (.inl e)
  · exact .inr (.inr (.inl e))
  · exact .inr (.inr (.inr (.inl e)))
  · exact .inr (.inr (.inr (.inr (.inl e))))
  · exact .inl e
  · exact .inr (.inr (.inr (.inr (.inr e))))
theorem law_in_nd {Z W : Led} {ia : Addr} {io : Obj} {a b c : Addr × Obj} (nd : ND (a :: b :: c :: (Z ++ W))) (off : ∀ p ∈ a :: b :: c :: (Z ++ W), @Ne Nat p.1 ia) : ND (a :: b :: c :: (Z ++ ((ia, io) :: W))) := by
  refine nd_perm ?_ (nd_cons (a := ia) (o := io) off nd)
  unfold keys
  simp only [List.map_cons, List.map_append]
  refine List.perm_iff_count.mpr fun x => ?_
  simp only [List.count_cons, List.count_append]; omega
theorem mem_drop {W R : Led} {I a : Addr} {oI o : Obj} (nd : ND R) (hs : ∀ p ∈ W, p ∈ R) (hI : (I, oI) ∈ W) (h : (a, o) ∈ W) (hne : o ≠ oI) : (a, o) ∈ W.filter (fun p => decide (p.1 ≠ I)) :=
  List.mem_filter.mpr ⟨h, decide_eq_true (nd_ne nd (hs _ h) (hs _ hI) hne)⟩
theorem law_next {P : Params} {h₀ h : Heap} {L : Addr} {src tb td root I rl ca : Addr} {os oI oc : Obj} {t1 t2 u : Tok} {many : Int} {Z W : Led} {f : Fm} {vs : List Value} {n b : Nat} {rows : List Row}
    (hI : (I, oI) ∈ W) (hfi : ∃ fs, oI.data = .fields fs) (hcc : ∃ v, oc.data = .cell v) (nd : ND ((src, os) :: (tb, instObj 244 td) :: (td, tbD P t1 t2 u root many) :: (Z ++ W)))
    (hS : Src os) (Tr : Tree P Z f) (hr : vOf (f []) = .ref root) (Iv : Inv f rows) (hl : (rl, listOf vs.toArray n) ∈ W) (hR : RowsAre W vs rows) (hlen : rows.length ≤ b) (hmany : many = (rows.length : Int)) (hc : (ca, oc) ∈ W)
    (N : News h₀ L h (Z ++ ([(src, os), (tb, instObj 244 td), (td, tbD P t1 t2 u root many)] ++ W))) :
    ∃ nx, News h₀ L h ((I, oI) :: nx) ∧ (∀ p ∈ nx, @Ne Nat p.1 I) ∧ LawAt P src tb td root t1 t2 ca oc b rl nx := by
  obtain ⟨fs, hfs⟩ := hfi
  have hs : ∀ p ∈ W, p ∈ (src, os) :: (tb, instObj 244 td) :: (td, tbD P t1 t2 u root many) :: (Z ++ W) := fun p hp => .tail _ (.tail _ (.tail _ (List.mem_append.mpr (.inr hp))))
  have hseq : ∀ (cls : Value) (xs : Array Value) (k : Nat), ({ cls := cls, data := .seq xs k } : Obj) ≠ oI := fun cls xs k e => by rw [← e] at hfs; cases hfs
  have hk : ((W.filter (fun p => decide (p.1 ≠ I))).map (·.1)).Sublist (W.map (·.1)) := List.filter_sublist.map _
  refine ⟨(src, os) :: (tb, instObj 244 td) :: (td, tbD P t1 t2 u root many) :: (Z ++ W.filter (fun p => decide (p.1 ≠ I))), fun p hp => N p ?_, fun p hp => ?_,
    .mk vs n rows os Z _ f many u ?_ hS Tr hr Iv (mem_drop nd hs hI hl (hseq _ _ _)) ⟨hR.1, fun i v row h1 h2 => ?_⟩ hlen hmany (mem_drop nd hs hI hc fun e => ?_)⟩
  · simp only [List.mem_cons, List.mem_append, List.not_mem_nil, or_false] at hp ⊢
    rcases hp with e | e | e | e | e | e
    · exact .inr (.inr (e ▸ hI))
    · exact .inr (.inl (.inl e))
    · exact .inr (.inl (.inr (.inl e)))
    · exact .inr (.inl (.inr (.inr e)))
    · exact .inl e
    · exact .inr (.inr (List.mem_filter.mp e).1)
  · have nd1 : ND (Z ++ W) := nd_tail (nd_tail (nd_tail nd))
    rcases List.mem_cons.mp hp with rfl | hp
    · exact Ne.symm (nd_head nd _ (.tail _ (.tail _ (List.mem_append.mpr (.inr hI)))))
    · rcases List.mem_cons.mp hp with rfl | hp
      · exact Ne.symm (nd_head (nd_tail nd) _ (.tail _ (List.mem_append.mpr (.inr hI))))
      · rcases List.mem_cons.mp hp with rfl | hp
        · exact Ne.symm (nd_head (nd_tail (nd_tail nd)) _ (List.mem_append.mpr (.inr hI)))
        · rcases List.mem_append.mp hp with hp | hp
          · exact fun e => nd_off nd1 (mem_keys (a := p.1) (o := p.2) hp) _ hI e.symm
          · exact of_decide_eq_true (List.mem_filter.mp hp).2
  · refine List.Nodup.sublist ?_ nd
    unfold keys
    simp only [List.map_cons, List.map_append]
    exact ((hk.append_left _).cons_cons _ |>.cons_cons _).cons_cons _
  · obtain ⟨a, t0, u1, u2, u3, e, hm⟩ := hR.2 i v row h1 h2
    exact ⟨a, t0, u1, u2, u3, e, mem_drop nd hs hI hm (hseq _ _ _)⟩
  · obtain ⟨v, hv⟩ := hcc
    rw [e, hfs] at hv; cases hv
theorem same1 {x y : Str} {xs : List Str} {m₀ m₁ : Str → Option Value} {v : Value} {a : Option Value} (hS : Same (x :: y :: xs) m₀ m₁) (hv : m₁ y = some v) :
    (fun z => if z = x then a else m₁ z) = fun z => if z = x then a else if z = y then some v else if xs.contains z then m₁ z else m₀ z := by
  funext z
  by_cases h1 : z = x
  · simp [h1]
  · simp only [if_neg h1]
    by_cases h4 : z = y
    · simp [h4, hv]
    · simp only [if_neg h4]
      cases h2 : xs.contains z with
      | true => simp
      | false =>
        have h3 : (x :: y :: xs).contains z = false := by
          rw [List.contains_cons, List.contains_cons, h2, Bool.or_false, beq_eq_false_iff_ne.mpr h1, beq_eq_false_iff_ne.mpr h4]; rfl
        simp [hS z h3]
theorem same2 {x y : Str} {xs : List Str} {m₀ m₁ : Str → Option Value} {v : Value} (hS : Same (x :: y :: xs) m₀ m₁) (hv : m₁ y = some v) :
    m₁ = fun z => if z = y then some v else if (x :: xs).contains z then m₁ z else m₀ z := by
  funext z
  by_cases h4 : z = y
  · simp [h4, hv]
  · simp only [if_neg h4]
    cases h2 : (x :: xs).contains z with
    | true => simp
    | false =>
      have h3 : (x :: y :: xs).contains z = false := by
        rw [List.contains_cons] at h2 ⊢
        rw [List.contains_cons, beq_eq_false_iff_ne.mpr h4, Bool.false_or]; exact h2
      simp [hS z h3]
theorem start_led {h₀ h : Heap} {L : Addr} {rx rd bl bx bd tb td c : Addr × Obj} (N : News h₀ L h [rx, rd, bl, bx, bd, tb, td, c]) : News h₀ L h (rx :: rd :: ([] ++ (tb :: td :: ([bl, bx, bd] ++ [c])))) := news_sub N fun p hp => by
  simp only [List.mem_cons, List.mem_append, List.not_mem_nil, or_false, false_or, List.nil_append] at hp ⊢
  rcases hp with e | e | e | e | e | e
  · exact .inl e
  · exact .inr (.inl e)
  · exact .inr (.inr (.inr (.inr (.inr (.inl e)))))
  · exact .inr (.inr (.inr (.inr (.inr (.inr (.inl e))))))
  · rcases e with e | e | e
    · exact .inr (.inr (.inl e))
    · exact .inr (.inr (.inr (.inl e)))
    · exact .inr (.inr (.inr (.inr (.inl e))))
  · exact .inr (.inr (.inr (.inr (.inr (.inr (.inr e))))))
theorem start_nd {bl bx bd tb td c : Addr × Obj} (h : Desc [bl, bx, bd, tb, td, c]) : ND ([] ++ (tb :: td :: ([bl, bx, bd] ++ [c]))) := by
  refine nd_perm ?_ (nd_desc h)
  unfold keys
  simp only [List.map_cons, List.map_append, List.nil_append, List.map_nil]
  refine List.perm_iff_count.mpr fun x => ?_
  simp only [List.count_cons, List.count_append, List.count_nil]; omega
/-- behind the first lines: the cell ahead of the tree -/
theorem second_led {h₀ h : Heap} {L : Addr} {Z : Led} {tb td c : Addr × Obj} (N : News h₀ L h (Z ++ ([tb, td] ++ ([] ++ [c])))) : News h₀ L h (tb :: td :: c :: Z) := news_sub N fun p hp => by
  simp only [List.mem_cons, List.mem_append, List.not_mem_nil, or_false, false_or] at hp ⊢
  rcases hp with e | e | e | e
  · exact .inr (.inl (.inl e))
  · exact .inr (.inl (.inr e))
  · exact .inr (.inr e)
  · exact .inl e
theorem second_nd {Z : Led} {tb td c : Addr × Obj} (h : ND (tb :: td :: (Z ++ ([] ++ [c])))) : ND (tb :: td :: c :: Z) := by
  refine nd_perm ?_ h
  unfold keys
  simp only [List.map_cons, List.map_append, List.nil_append, List.map_nil]
  refine List.perm_iff_count.mpr fun x => ?_
  simp only [List.count_cons, List.count_append, List.count_nil]; omega
theorem third_led {h₀ h : Heap} {L : Addr} {Z : Led} {t rl src tb td c : Addr × Obj} (N : News h₀ L h (t :: rl :: src :: tb :: td :: c :: Z)) : News h₀ L h (src :: tb :: td :: (Z ++ [rl, c])) := news_sub N fun p hp => by
  simp only [List.mem_cons, List.mem_append, List.not_mem_nil, or_false, false_or] at hp ⊢
  rcases hp with e | e | e | e | e | e
  · exact .inr (.inr (.inl e))
  · exact .inr (.inr (.inr (.inl e)))
  · exact .inr (.inr (.inr (.inr (.inl e))))
  · exact .inr (.inr (.inr (.inr (.inr (.inr e)))))
  · exact .inr (.inl e)
  · exact .inr (.inr (.inr (.inr (.inr (.inl e)))))
theorem third_nd {Z : Led} {rl src tb td c : Addr × Obj} (h : ND (rl :: src :: tb :: td :: c :: Z)) : ND (src :: tb :: td :: (Z ++ [rl, c])) := by
  refine nd_perm ?_ h
  unfold keys
  simp only [List.map_cons, List.map_append, List.nil_append, List.map_nil]
  refine List.perm_iff_count.mpr fun x => ?_
  simp only [List.count_cons, List.count_append, List.count_nil]; omega
end Mine

-- part V7
namespace Mine
set_option maxRecDepth 100000
set_option maxHeartbeats 8000000
set_option pp.deepTerms false
set_option pp.deepTerms.threshold 4
set_option pp.maxSteps 100000

section
variable {prog : Program} {w : World} {p : Program} {loose : List Str} {mean : ExcName → Option Value} {mg mb : Str → Option Value}
    {dp un : Nat} {gd : Option (List Code)} {cn : Str} {cs : Scope} {a : Addr} {ccd : Value} {cl : List (Str × Addr)} {outer : List Env} {A₀ : Around} {base h₀ : Heap} {L : Addr} {m : Str → Option Value} {news : List (Addr × Obj)} {s : Shared} {Q E : Value → Shared → Prop}

theorem add_first {rx rd bl bx bd tb td ca : Addr} {oc : Obj} {t1 t2 u a1 a2 a3 a4 a5 b1 b2 b3 b4 b5 s1 s2 s3 : Tok} {met : Int} {n : Nat}
    (B : Below A₀ base outer h₀) (F : Fr h₀ L s.heap m) (X : (KK w.params).In h₀) (N : News h₀ L s.heap ((rx, instObj 113 rd) :: (rd, rtD w.params a1 a2 a3 a4 a5 b1 b2 b3 b4 b5 2147483648 2 0 0 met) :: (bl, listOf ([] : List Value).toArray n) :: (bx, instObj 162 bd) :: (bd, brD w.params s1 s2 s3 .none .none bl) :: (tb, instObj 244 td) :: (td, tbD w.params t1 t2 u bx 0) :: (ca, oc) :: [])) (T : Top p loose mean mg mb h₀) (hk : cs.kind = .function)
    (hd : Desc ((rx, instObj 113 rd) :: (rd, rtD w.params a1 a2 a3 a4 a5 b1 b2 b3 b4 b5 2147483648 2 0 0 met) :: (bl, listOf ([] : List Value).toArray n) :: (bx, instObj 162 bd) :: (bd, brD w.params s1 s2 s3 .none .none bl) :: (tb, instObj 244 td) :: (td, tbD w.params t1 t2 u bx 0) :: (ca, oc) :: []))
    (hdp : dp + 40 < recursionLimit) (hun : un + 800 < cLine)
    (hret : ∀ Z f many u' h' tk', Inv f [⟨2147483648, 2, 0, 0⟩] → Tree w.params Z f → vOf (f []) = .ref bx → Fr h₀ L h' m → News h₀ L h' ((tb, instObj 244 td) :: (td, tbD w.params t1 t2 u' bx many) :: (Z ++ [(ca, oc)])) → ND ((tb, instObj 244 td) :: (td, tbD w.params t1 t2 u' bx many) :: (Z ++ [(ca, oc)])) → many = 1 → Q .none { s with heap := h', toks := tk' }) :
    wpAny (model prog w) (ktrTop dp un gd cn cs L a ccd cl outer) (call (.ref 208) [.ref tb, .ref rx]) Q E s := by
  have N1 := start_led N
  obtain ⟨⟨hx, _⟩, ⟨hd1, hd2⟩⟩ := hd
  obtain ⟨c1, c2, c3, c4, c5, c6, _⟩ := hd1
  exact add_any (M := []) (rows := []) (f := fm0 bx bd bl) (k := 2) B F X N1 T hk (start_nd hd2) ⟨c4, c5, c1, c2, c3, c6, trivial⟩ hx (tree0 (.tail _ (.head _)) (.tail _ (.tail _ (.head _))) (.head _)) rfl inv0 ⟨by decide, by decide, by decide, by decide⟩ (by decide) (by decide) (by decide) rfl hdp hun
    fun Z f many u' h' tk' I _ hm Tr hr F' N' nd' => hret Z f many u' h' tk' I Tr hr F' N' nd' hm
end
theorem cut_first {f f' : Fm} (I : Inv f [⟨2147483648, 2, 0, 0⟩]) (hL : Lean' f') (hrs : rsOf f' = fun p => if p = bitsOf 2147483648 2 then [] else rsOf f p) : Inv f' [] ∧ ((rsOf f (bitsOf 2147483648 2)).length : Int) = 1 := by
  obtain ⟨I2, hct⟩ := I.cut (net := 2147483648) (k := 2) ⟨by decide, by decide, by decide, by decide⟩ hL hrs
  have e : ([⟨2147483648, 2, 0, 0⟩] : List Row).filter (fun row => !(decide (row.net = 2147483648) && decide (row.k = 2))) = [] := by decide
  rw [e] at I2 hct
  refine ⟨I2, ?_⟩
  simp only [List.length_nil, List.length_cons] at hct
  omega
section
variable {prog : Program} {w : World} {p : Program} {loose : List Str} {mean : ExcName → Option Value} {mg mb : Str → Option Value}
    {dp un : Nat} {gd : Option (List Code)} {cn : Str} {cs : Scope} {a : Addr} {ccd : Value} {cl : List (Str × Addr)} {outer : List Env} {A₀ : Around} {base h₀ : Heap} {L : Addr} {m : Str → Option Value} {news : List (Addr × Obj)} {s : Shared} {Q E : Value → Shared → Prop}

theorem remove_first {Z : Led} {f : Fm} {tb td root ca : Addr} {oc : Obj} {many : Int} {t1 t2 u tn tp : Tok}
    (B : Below A₀ base outer h₀) (F : Fr h₀ L s.heap m) (X : (KK w.params).In h₀) (N : News h₀ L s.heap ((tb, instObj 244 td) :: (td, tbD w.params t1 t2 u root many) :: (Z ++ [(ca, oc)]))) (T : Top p loose mean mg mb h₀) (hk : cs.kind = .function) (nd : ND ((tb, instObj 244 td) :: (td, tbD w.params t1 t2 u root many) :: (Z ++ [(ca, oc)]))) (Tr : Tree w.params Z f) (hr : vOf (f []) = .ref root)
    (I : Inv f [⟨2147483648, 2, 0, 0⟩]) (hmany : many = 1)
    (hdp : dp + 40 < recursionLimit) (hun : un + 800 < cLine)
    (hret : ∀ Z' f' u' tv h' tk', Inv f' [] → Tree w.params Z' f' → vOf (f' []) = .ref root → Fr h₀ L h' m → News h₀ L h' (Z' ++ ([(tb, instObj 244 td), (td, tbD w.params t1 t2 u' root 0)] ++ [(ca, oc)])) → ND ((tb, instObj 244 td) :: (td, tbD w.params t1 t2 u' root 0) :: (Z' ++ [(ca, oc)])) → Q (.int 1 tv) { s with heap := h', toks := tk' }) :
    wpAny (model prog w) (ktrTop dp un gd cn cs L a ccd cl outer) (call (.ref 215) [.ref tb, .int 2147483648 tn, .int 2 tp]) Q E s := by
  refine remove_spec (k := 2) B F X N T hk nd Tr hr (by decide) (by decide) (by decide) (by decide) I.lean (I.rsl (by decide)) hdp hun fun Z' f' many' u' tv h' tk' hL hrs hm hr' F' N' nd' Tr' _ => ?_
  obtain ⟨I2, hone⟩ := cut_first I hL hrs
  rw [hone] at hm ⊢
  obtain rfl : many' = 0 := by omega
  exact hret Z' f' u' tv h' tk' I2 Tr' hr' F' (news_rot (A := [_, _]) N') nd'
theorem branches_first {Z Fz : Led} {f : Fm} {tb td root : Addr} {many : Int} {t1 t2 u : Tok}
    (B : Below A₀ base outer h₀) (F : Fr h₀ L s.heap m) (X : (KK w.params).In h₀) (N : News h₀ L s.heap (Z ++ ([(tb, instObj 244 td), (td, tbD w.params t1 t2 u root many)] ++ Fz))) (T : Top p loose mean mg mb h₀) (hk : cs.kind = .function) (Tr : Tree w.params Z f) (hr : vOf (f []) = .ref root) (I : Inv f [])
    (hdp : dp + 20 < recursionLimit) (hun : un + 400 < cLine)
    (hret : ∀ fl vs n' h' tk', StrsAre vs [Str.ofString ""] → Fr h₀ L h' m → News h₀ L h' ((fl, listOf vs.toArray n') :: (Z ++ ([(tb, instObj 244 td), (td, tbD w.params t1 t2 u root many)] ++ Fz))) → (∀ p ∈ Z ++ ([(tb, instObj 244 td), (td, tbD w.params t1 t2 u root many)] ++ Fz), p.1 < fl) → Q (.ref fl) { s with heap := h', toks := tk' }) :
    wpAny (model prog w) (ktrTop dp un gd cn cs L a ccd cl outer) (call (.ref 295) [.ref tb]) Q E s := by
  have hW := I.wants Tr.pre Tr.root Tr.fin
  refine branches_spec (ds := ownPrefs []) B F X N T hk Tr hr (List.mem_append.mpr (.inr (.head _))) (List.mem_append.mpr (.inr (.tail _ (.head _)))) hW.ds (by decide) hdp hun fun fl ps vs ss n' h' tk' hn hps hst p1 o1 F' N' lt => ?_
  obtain rfl := only_root hW hn hps p1
  exact hret fl vs n' h' tk' hst F' N' lt
end
end Mine

-- part Y6
namespace Mine
set_option maxRecDepth 100000
set_option maxHeartbeats 8000000
set_option pp.deepTerms false
set_option pp.deepTerms.threshold 4
set_option pp.maxSteps 100000

inductive LoopJ (P : Params) (src tb td root : Addr) (t1 t2 : Tok) (ca : Addr) (oc : Obj) (x y : Str) (m₀ : Str → Option Value) (bd : Nat → Nat) (i : Nat) (m₁ : Str → Option Value) (nx : Led) : Prop
  | mk (hSm : Same [x, y] m₀ m₁) (rl : Addr) (hrl : m₁ y = some (.ref rl)) (hA : LawAt P src tb td root t1 t2 ca oc (bd i) rl nx) : LoopJ P src tb td root t1 t2 ca oc x y m₀ bd i m₁ nx
theorem loop_first {P : Params} {src tb td root rl ca : Addr} {os oc : Obj} {t1 t2 u : Tok} {Z : Led} {f : Fm} {n : Nat} {x y : Str} {m₀ : Str → Option Value} {bd : Nat → Nat}
    (nd : ND ((src, os) :: (tb, instObj 244 td) :: (td, tbD P t1 t2 u root 0) :: (Z ++ [(rl, listOf ([] : List Value).toArray n), (ca, oc)]))) (hS : Src os) (Tr : Tree P Z f) (hr : vOf (f []) = .ref root) (I : Inv f []) (hy : m₀ y = some (.ref rl)) :
    LoopJ P src tb td root t1 t2 ca oc x y m₀ bd 0 m₀ ((src, os) :: (tb, instObj 244 td) :: (td, tbD P t1 t2 u root 0) :: (Z ++ [(rl, listOf ([] : List Value).toArray n), (ca, oc)])) :=
  ⟨Same.refl, rl, hy, .mk [] n [] os Z _ f 0 u nd hS Tr hr I (.head _) ⟨rfl, fun _ _ _ h => nomatch h⟩ (Nat.zero_le _) rfl (.tail _ (.head _))⟩
theorem loop_second {P : Params} {src tb td root rl ca : Addr} {os oc : Obj} {t1 t2 u : Tok} {Z W : Led} {f : Fm} {n : Nat} {x y : Str} {m₀ : Str → Option Value} {bd : Nat → Nat} {vs : List Value} {rows : List Row} {many : Int}
    (nd : ND ((src, os) :: (tb, instObj 244 td) :: (td, tbD P t1 t2 u root many) :: (Z ++ W))) (hS : Src os) (Tr : Tree P Z f) (hr : vOf (f []) = .ref root) (I : Inv f rows) (hy : m₀ y = some (.ref rl)) (hl : (rl, listOf vs.toArray n) ∈ W) (hR : RowsAre W vs rows) (hlen : rows.length ≤ bd 0) (hmany : many = (rows.length : Int)) (hc : (ca, oc) ∈ W) :
    LoopJ P src tb td root t1 t2 ca oc x y m₀ bd 0 m₀ ((src, os) :: (tb, instObj 244 td) :: (td, tbD P t1 t2 u root many) :: (Z ++ W)) :=
  ⟨Same.refl, rl, hy, .mk vs n rows os Z W f many u nd hS Tr hr I hl hR hlen hmany hc⟩
theorem nd_os {a : Addr} {o o' : Obj} {Z : Led} (h : ND ((a, o) :: Z)) : ND ((a, o') :: Z) := nd_keys (by unfold keys; simp only [List.map_cons]) h
theorem third_nd' {src rl ca : Addr} {os ol oc oc' : Obj} {tb td : Addr × Obj} {Z : Led} (h : ND (tb :: td :: (ca, oc) :: Z)) (h1 : AllLt src (tb :: td :: (ca, oc) :: Z)) (h2 : AllLt rl ((src, os) :: tb :: td :: (ca, oc) :: Z)) : ND ((src, os) :: tb :: td :: (Z ++ [(rl, ol), (ca, oc')])) := by
  have a1 : ND ((rl, ol) :: (src, os) :: tb :: td :: (ca, oc) :: Z) := nd_lt h2 (nd_lt h1 h)
  have a2 : ND ((rl, ol) :: (src, os) :: tb :: td :: (ca, oc') :: Z) := nd_keys (by unfold keys; simp only [List.map_cons]) a1
  exact third_nd a2
theorem third_all {h₀ h : Heap} {L src rl ca : Addr} {os ol oc oc' : Obj} {t tb td : Addr × Obj} {Z : Led} (N : News h₀ L h (t :: (rl, ol) :: (src, os) :: tb :: td :: (ca, oc') :: Z)) (nd : ND (tb :: td :: (ca, oc) :: Z)) (h1 : AllLt src (tb :: td :: (ca, oc) :: Z)) (h2 : AllLt rl ((src, os) :: tb :: td :: (ca, oc) :: Z)) :
    News h₀ L h ((src, os) :: tb :: td :: (Z ++ [(rl, ol), (ca, oc')])) ∧ ND ((src, os) :: tb :: td :: (Z ++ [(rl, ol), (ca, oc')])) ∧ (ca, oc') ∈ Z ++ [(rl, ol), (ca, oc')] ∧ (∀ p ∈ tb :: td :: (Z ++ [(rl, ol), (ca, oc')]), p.1 ≠ src) :=
  ⟨third_led N, third_nd' nd h1 h2, List.mem_append.mpr (.inr (.tail _ (.head _))), nd_head (third_nd' nd h1 h2)⟩
end Mine

-- part LW
namespace Mine
set_option maxRecDepth 100000
set_option maxHeartbeats 8000000
set_option pp.deepTerms false
set_option pp.deepTerms.threshold 4
set_option pp.maxSteps 100000


section


theorem top_out {p : Program} {l : List Str} {mean : ExcName → Option Value} {mg mb : Str → Option Value} {h : Heap} (T : Top p l mean mg mb h) (K : Below callerA T.heap [] T.heap) : (∃ q k, Top q k mean mg mb h) ∧ Below callerA h [] h := ⟨⟨_, _, T⟩, K⟩
theorem good_end {cl : Str → Option Addr} {mean : ExcName → Option Value} {ns : List Int} {s₁ : Shared} {h' : Heap} {L : Addr} {m : Str → Option Value} {d : Drawn} {t : Nat} (F : Fr s₁.heap L h' m) (hg : s₁.gens = #[]) :
    GoodW PySem.Challenge.rw_on0341_01.row.claim cl mean [ofPy (PyData.list (List.map PyData.int ns))] s₁ (.ok (.ret (.bool true))) { heap := h', gens := s₁.gens, drawn := d, toks := t, os := s₁.os } := by
  wrow_close
theorem zsetLW1 : True := by
  k_with_none
  k_with "z_ch" => first | with_reducible assumption | (refine' And.right ?_; rotate_left; first | with_reducible assumption | (refine' And.right ?_; rotate_left; first | with_reducible assumption | (refine' And.right ?_; rotate_left; first | with_reducible assumption | (refine' And.right ?_; rotate_left; first | with_reducible assumption | (refine' And.right ?_; rotate_left; first | with_reducible assumption | (refine' And.right ?_; rotate_left; first | with_reducible assumption | (refine' And.right ?_; rotate_left; with_reducible assumption)))))))
  k_with "z_lt" => first | with_reducible assumption | (refine' And.left ?_; rotate_left; k_extra "z_ch") | (refine' And.right ?_; rotate_left; k_extra "z_ch")
  k_with "k_ne" => (refine neN ?_; (try dsimp only); first | (refine' Nat.ne_of_gt ?_; k_extra "z_lt") | (refine' Nat.ne_of_lt ?_; k_extra "z_lt") | (refine' Nat.ne_of_gt (Nat.lt_trans ?_ (by with_reducible assumption)); k_extra "z_lt") | (refine' Nat.ne_of_lt (Nat.lt_trans ?_ (by with_reducible assumption)); k_extra "z_lt"))
  k_with "zfold" => ((fail_if_success (fail_if_success k_fold)); refine zfold_q ?_; intro qk)
  k_with "k_env" => (refine zfold_env (f := fun en9 => execs _ en9) ?_; intro en9; refine zfold_A ?_; intro ak9; (rename Fr _ _ _ _ => fr9); refine zfold_F fr9 ?_; clear fr9; intro fm9 fr9; try (refine zgen_t ?_; intro tk9))
  k_with "ktr_room" => first | exact fits (c := 1) hdp rfl rfl | exact fits0 (c := 1) hdp rfl rfl | exact fits (c := 2) hdp rfl rfl | exact fits0 (c := 2) hdp rfl rfl | exact fits (c := 0) hdp rfl rfl | exact fits0 (c := 0) hdp rfl rfl | exact fits (c := 3) hdp rfl rfl | exact fits0 (c := 3) hdp rfl rfl | exact Nat.le_of_ble_eq_true rfl
  k_with "ktr_units" => first | exact fits (c := 3) hun rfl rfl | exact fits0 (c := 3) hun rfl rfl | exact fits (c := 6) hun rfl rfl | exact fits0 (c := 6) hun rfl rfl | exact fits (c := 0) hun rfl rfl | exact fits0 (c := 0) hun rfl rfl | exact fits (c := 9) hun rfl rfl | exact fits0 (c := 9) hun rfl rfl | exact Nat.le_of_ble_eq_true rfl
  k_with "k_steps" => repeat' (first | (k_unfold; (try dsimp only); (try clear qk)) | (k_end; wrow_close) | walk1 | (dsimp only; walk1) | (leave1; try dsimp only) | fail "no step")
  k_with "execs cons" => (k_extra "zfold"; walk1)
  k_with "exec If" => (k_extra "zfold"; walk1)
  k_with "exec Assign" => (k_extra "zfold"; walk1)
  k_with "exec Expr" => (k_extra "zfold"; walk1)
  k_with "exec Return" => (k_extra "zfold"; walk1)
  k_with "isTrue" => (k_extra "zfold"; walk1)
  k_with "eval BinOp" => (k_extra "zfold"; walk1)
  k_with "eval BoolOp" => (k_extra "zfold"; walk1)
  k_with "eval UnaryOp" => (k_extra "zfold"; walk1)
  k_with "eval Call" => (k_extra "zfold"; walk1)
  k_with "eval Compare" => (k_extra "zfold"; walk1)
  k_with "eval Subscript" => (k_extra "zfold"; walk1)
  k_with "eval Attribute" => (k_extra "zfold"; walk1)
  k_with "eval Tuple" => (k_extra "zfold"; walk1)
  k_with "eval List nil" => (k_extra "zfold"; walk1)
  k_with "eval List cons" => (k_extra "zfold"; walk1)
  k_with "k_mem" => first | assumption | (with_reducible refine mem_appL ?_; assumption) | (with_reducible refine mem_appR ?_; assumption) | (with_reducible refine List.mem_append.mpr (Or.inl ?_); assumption) | (with_reducible refine List.mem_append.mpr (Or.inr ?_); assumption)
  k_with "k_ne" => (first | (refine' ne_neA ?zqh ?zqm; (case zqm => assumption); (case zqh => assumption)) | (refine' ne_between ?zqm ?zqh ?zqle; (case zqm => assumption); (case zqh => tbn_find); (case zqle => omega)))
  k_with "k_room" => ktr_room
  k_with "k_all" => first | assumption | (refine all_repl ?_; first | assumption | (refine tbn_neAll ?_; tbn_find))
  k_with "k_upd" => exact upd_repl (by assumption) (by assumption)
  k_with "ktr_rel" => (repeat (first | exact Same.refl | exact Same.of2 | exact Same.of | refine Same.set ?_ (by rfl)))
  k_with "tb_start" => (intro _ hp9; (repeat (refine List.Mem.tail _ ?_)); first | exact hp9 | exact List.mem_append.mpr (Or.inl hp9) | exact List.mem_append.mpr (Or.inr hp9))
  k_with "LPost" => (dsimp only [LPost])
  k_with "pyIter ref" => (refine Hold.mk ?_)
  k_with "call builtin:list.append" => (k_here; (with_reducible show wpAny _ _ (call (Value.builtin _) [Value.ref _, _]) _ _ _); k_dflt (refine' my_append ?zqk1 ?zqk2 ?zqk3 ?zqz ?_; (case zqk1 => k_asm); (case zqk2 => k_asm); (case zqk3 => k_upd); (case zqz => assumption); k_whole); intro _ _ _; (try k_sweep))
  k_with "call builtin:len" => (k_here; k_dflt (refine' my_len ?zqN ?zqm ?zqf ?_; (case zqN => k_asm); (case zqm => k_mem); (case zqf => assumption); k_whole))
  k_with "subscriptTail" => (k_here; k_dflt (refine' my_itemE ?zqN ?zqm ?zqv ?zqa ?zqf ?_ ?zqhs; (case zqN => k_asm); (case zqm => k_mem); (case zqv => with_reducible assumption); (case zqa => omega); (case zqf => assumption); (case zqhs => with_unfolding_all rfl); k_whole))
  k_with "subscriptTail Name UnaryOp ref int" => (k_here; k_dflt (refine' my_itemE ?zqN ?zqm ?zqv ?zqa ?zqf ?_ ?zqhs; (case zqN => k_asm); (case zqm => k_mem); (case zqv => with_reducible assumption); (case zqa => omega); (case zqf => assumption); (case zqhs => with_unfolding_all rfl); k_whole))
  k_with "subscriptTail" => (k_here; (with_reducible show wpAny _ _ (subscriptTail _ _ (Value.ref _) (Value.int (-1) _)) _ _ _); k_dflt (refine' my_last ?zqN ?zqm ?zqv ?zqf ?_ ?zqhs; (case zqN => k_asm); (case zqm => k_mem); (case zqv => with_reducible assumption); (case zqf => assumption); (case zqhs => with_unfolding_all rfl); k_whole))
  k_with "subscriptTail Name UnaryOp ref int" => (k_here; (with_reducible show wpAny _ _ (subscriptTail _ _ (Value.ref _) (Value.int (-1) _)) _ _ _); k_dflt (refine' my_last ?zqN ?zqm ?zqv ?zqf ?_ ?zqhs; (case zqN => k_asm); (case zqm => k_mem); (case zqv => with_reducible assumption); (case zqf => assumption); (case zqhs => with_unfolding_all rfl); k_whole))
  k_with "exec For Name Call cons nil" => (k_here; (rename Fr _ _ _ _ => lF'); (with_unfolding_all refine' For_invVF lF' ?zqk1 ?zqk2 ?_; (case zqk1 => exact rfl); (case zqk2 => exact rfl); k_whole))
  k_with "binaryOp Pow int int" => (with_reducible refine pow_int_small ?zqkb1 ?zqkb2 ?zqkb3 ?_; (case zqkb1 => omega); (case zqkb2 => omega); (case zqkb3 => decide))
  k_with "binaryOp Pow int int" => (with_reducible refine pow_lit (k := 24) (z := 16777216) (by decide +kernel) (by decide) (by decide) ?_)
  k_with "binaryOp Pow int int" => (with_reducible refine pow_lit (k := 28) (z := 268435456) (by decide +kernel) (by decide) (by decide) ?_)
  k_with "binaryOp Pow int int" => (with_reducible refine pow_lit (k := 31) (z := 2147483648) (by decide +kernel) (by decide) (by decide) ?_)
  k_with "binaryOp Pow int int" => (with_reducible refine pow_lit (k := 32) (z := 4294967296) (by decide +kernel) (by decide) (by decide) ?_)
  k_with "binaryOp Mult int int" => (with_reducible refine mul_lit (x := 127) (y := 16777216) (z := 2130706432) (by decide) (by decide) (by decide) ?_)
  k_with "binaryOp Mult int int" => (with_reducible refine mul_lit (x := 128) (y := 16777216) (z := 2147483648) (by decide) (by decide) (by decide) ?_)
  k_with "binaryOp Mult int int" => (with_reducible refine mul_lit (x := 160) (y := 16777216) (z := 2684354560) (by decide) (by decide) (by decide) ?_)
  k_with "binaryOp Mult int int" => (with_reducible refine mul_lit (x := 163) (y := 16777216) (z := 2734686208) (by decide) (by decide) (by decide) ?_)
  k_with "binaryOp Mult int int" => (with_reducible refine mul_lit (x := 224) (y := 16777216) (z := 3758096384) (by decide) (by decide) (by decide) ?_)
  k_with "call ref" => (k_here; (with_reducible show wpAny _ _ (call (Value.ref 244) _) _ _ _); refine Hold.mk ?_)
  k_with "call ref" => (k_here; (with_reducible show wpAny _ _ (call (Value.ref 113) _) _ _ _); refine Hold.mk ?_)
  k_with "call ref" => (k_here; (with_reducible show wpAny _ _ (call (Value.ref 208) _) _ _ _); refine Hold.mk ?_)
  k_with "call ref" => (k_here; (with_reducible show wpAny _ _ (call (Value.ref 215) _) _ _ _); refine Hold.mk ?_)
  k_with "call ref" => (k_here; (with_reducible show wpAny _ _ (call (Value.ref 255) _) _ _ _); refine Hold.mk ?_)
  k_with "call ref" => (k_here; (with_reducible show wpAny _ _ (call (Value.ref 262) _) _ _ _); refine Hold.mk ?_)
  k_with "call ref" => (k_here; (with_reducible show wpAny _ _ (call (Value.ref 295) _) _ _ _); refine Hold.mk ?_)
  k_with "call ref" => (k_here; (with_reducible show wpAny _ _ (call (Value.ref 312) _) _ _ _); refine Hold.mk ?_)
  k_with "call ref" => (k_here; (with_reducible show wpAny _ _ (call (Value.ref 307) _) _ _ _); refine Hold.mk ?_)
  k_with "call ref" => (k_here; (with_reducible show wpAny _ _ (call (Value.ref 317) _) _ _ _); refine Hold.mk ?_)
  k_with "call ref" => (k_here; (with_reducible show wpAny _ _ (call (Value.ref 322) _) _ _ _); refine Hold.mk ?_)
  k_with "call ref" => (k_here; (with_reducible show wpAny _ _ (call (Value.ref 329) _) _ _ _); refine Hold.mk ?_)
  k_with "k_upd" => first | (refine' Upd.head ?zqa; (case zqa => k_all)) | (refine' Upd.tail ?zqa ?zqb; (case zqa => k_ne); (case zqb => k_upd))
  k_with "compareOp NotEq ref ref" => (refine Hold.mk ?_)
  k_with "exec For Name Call cons nil" => (refine Hold.mk ?_)
  k_with "RangeD" => (refine Hold.mk ?_)
  k_with "DPost" => (dsimp only [DPost]; refine Hold.mk ?_)
  k_with "compareOp Eq ref ref" => (refine Hold.mk ?_)
  k_with "CompSrcT" => (refine Hold.mk ?_)
  k_with "SEnd" => (refine Hold.mk ?_)
  k_with "eval Name" => (k_here; (with_reducible show wpAny _ _ (eval (Expr.Name _ _) (compEnvC _ _ _ _)) _ _ _); k_dflt (refine LCgL.ld_global (by k_asm) (by k_asm) (by k_asm) (by k_is) ?_))
  exact trivial
theorem law_walk : PySem.Challenge.rw_on0341_01.Holds := by
  w_on
  refine holds_law law_said fun said => ?_
  refine holds_open (q := vw) (loose := [Str.ofString "ALL"]) (Xt := fun s => xlAt vw Lv s && recOk PySem.Challenge.rw_on0341_01.row.records s) (XP := XL vw Lv) (Yf := Hook.obs HH) (Ya := Hook.val HH) (YP := Hook.says HH) (N := 4564) ?hl (Hook.of HH) (Hook.keeps HH) (fun s e => xl_of s (Bool.and_eq_true_iff.mp e).1) XL.keeps (by with_unfolding_all rfl) (by rfl) (by rfl) (fun s e => recFacts_of (Bool.and_eq_true_iff.mp e).2) (by rfl) (by first | assumption | decide +kernel) (by decide +kernel) (by with_unfolding_all exact ⟨rfl, rfl, rfl, rfl, rfl, by decide +kernel⟩) ?hw ?hc
  case hl => with_reducible exact hl_whole
  case hw => w_witness2
  w_strict (
    k_fill
    intro w s₀ s₁ mg mb G Y fa o pm cd doc dV kV ho hd hcd hD hmg hg args vals as hpre hlay hrd hwl hlo
    have KX := kIn_of Y
    clear Y
    refine Ground.open G ?_
    intro T B D TE TW
    clear B D TE TW G
    clear hmg
    wrow_args hpre hlay hrd hwl hlo
    all_goals (
      refine enter_call ?_
      w_top on
      refine codeAny_mono ?_ (fun _ _ g => GoodW.toG g)
      have K0 := below_caller (Top.heap T)
      w_call any ho hd hcd hD T F
      clear hd
      k_drop
      try k_fold))
  obtain ⟨⟨q9, l9, T8⟩, K8⟩ := top_out T K0
  clear K0 T
  k_steps
  (unfold Hold; w_strict (k_dflt (refine' new_routes ?k1 ?k2 ?k3 ?k4 ?k5 ?kK  ?kd ?ku ?_; (case k1 => k_asm); (case k2 => k_asm); (case k3 => k_asm); (case k4 => k_asm); (case k5 => k_asm); (case kK => first | exact rfl | assumption);  (case kd => ktr_room); (case ku => ktr_units))); intro tb td bl bx bd t1 t2 u s1 s2 s3 h8 tk8 q1 q2 q3 q4 q5 Fa Na; (try dsimp only); (try k_sweep))
  k_lt q1
  k_lt2 q2
  k_lt2 q3
  k_lt2 q4
  k_lt2 q5
  k_steps
  (unfold Hold; w_strict (k_dflt (refine' new_route4 ?k1 ?k2 ?k3 ?k4 ?k5 ?kK  ?kd ?ku ?_; (case k1 => k_asm); (case k2 => k_asm); (case k3 => k_asm); (case k4 => k_asm); (case k5 => k_asm); (case kK => first | exact rfl | assumption);  (case kd => ktr_room); (case ku => ktr_units))); intro rx rd v1 v2 v3 v4 v5 v6 h9 tk9 r1 r2 Fb Nb; (try dsimp only); (try k_sweep))
  k_lt r1
  k_lt2 r2
  k_steps
  (unfold Hold; w_strict (k_dflt (refine' add_first ?k1 ?k2 ?k3 ?k4 ?k5 ?kK ?u0 ?kd ?ku ?_; (case k1 => k_asm); (case k2 => k_asm); (case k3 => k_asm); (case k4 => k_asm); (case k5 => k_asm); (case kK => first | exact rfl | assumption); (case u0 => exact desc8 r2 r1.1 q5 q4 q3 q2 q1); (case kd => ktr_room); (case ku => ktr_units))); intro Z1 f1 many1 u1 h1 tk1 I1 Tr1 hr1 F1 N2 nd1 hm1; (try dsimp only); (try k_sweep); (try (k_extra "zfold")))
  k_steps
  (unfold Hold; w_strict (k_dflt (refine' remove_first ?k1 ?k2 ?k3 ?k4 ?k5 ?kK ?u0 ?u1 ?u2 ?u3 ?u4 ?kd ?ku ?_; (case k1 => k_asm); (case k2 => k_asm); (case k3 => k_asm); (case k4 => k_asm); (case k5 => k_asm); (case kK => first | exact rfl | assumption); (case u0 => exact nd1); (case u1 => exact Tr1); (case u2 => exact hr1); (case u3 => exact I1); (case u4 => exact hm1); (case kd => ktr_room); (case ku => ktr_units))); intro Z2 f2 u2 tv2 h2 tk2 I2 Tr2 hr2 F2 N4 nd2; (try dsimp only); (try k_sweep); (try (k_extra "zfold")))
  k_steps
  (unfold Hold; w_strict (k_dflt (refine' branches_first (Z := Z2) ?k1 ?k2 ?k3 ?k4 ?k5 ?kK ?u0 ?u1 ?u2 ?kd ?ku ?_; (case k1 => k_asm); (case k2 => k_asm); (case k3 => k_asm); (case k4 => k_asm); (case k5 => k_asm); (case kK => first | exact rfl | assumption); (case u0 => exact Tr2); (case u1 => exact hr2); (case u2 => exact I2); (case kd => ktr_room); (case ku => ktr_units))); intro fl v1 n1 h3 tk3 hst F3 N5 lt5; (try dsimp only); (try k_sweep); (try (k_extra "zfold")))
  k_steps
  rename News _ _ _ _ => N6
  unfold Hold
  refine my_ne_strs N6 (.tail _ (.head _)) (.head _) hst (.cons _ _ .nil) (by ktr_units) ?_
  have N7 := second_led (news_tail (news_tail N6))
  have nd3 := second_nd nd2
  have hz2 := nd_head (nd_tail (nd_tail nd3))
  clear N6
  k_steps
  (unfold Hold; w_strict (k_dflt (refine' pool_spec ?k1 ?k2 ?k3 ?k4 ?k5 ?kK ?u0 ?u1 ?u2 ?u3 ?kd ?ku ?_; (case k1 => k_asm); (case k2 => k_asm); (case k3 => k_asm); (case k4 => k_asm); (case k5 => k_asm); (case kK => first | exact rfl | assumption); (case u0 => assumption); (case u1 => assumption); (case u2 => assumption); (case u3 => omega); (case kd => ktr_room); (case ku => ktr_units))); intro src os h4 tk4 hS F4 N8 lt8; (try dsimp only); (try k_sweep); (try (k_extra "zfold")))
  k_lt lt8
  k_steps
  rename News _ _ _ _ => N9
  rename Fr _ _ _ _ => F9
  rename _ = Data.cell _ => hcd
  rename _ ∧ _ ∧ _ ∧ _ ∧ AllLt _ _ => al
  obtain ⟨N10, nd5, hcm, hz5⟩ := third_all N9 nd3 lt8 al
  clear N9
  unfold Hold
  refine For_drawn F9 (by rfl) (by rfl) ?_
  k_steps
  (unfold Hold; w_strict (k_dflt (refine' take_S ?k1 ?k2 ?k3 ?k4 ?k5 ?kK ?u0 ?u1 ?u2 ?u3 ?kd ?ku ?_; (case k1 => k_asm); (case k2 => k_asm); (case k3 => k_asm); (case k4 => k_asm); (case k5 => k_asm); (case kK => first | exact rfl | assumption); (case u0 => k_updF); (case u1 => assumption); (case u2 => decide); (case u3 => decide); (case kd => ktr_room); (case ku => ktr_units))); intro cnt tcnt os1 h5 tk5 hc0 hc1 hS1 F10 N11; (try dsimp only); (try k_sweep); (try (k_extra "zfold")))
  obtain ⟨c, rfl⟩ : ∃ c : Nat, cnt = (c : Int) := ⟨cnt.toNat, by omega⟩
  k_steps
  rename IsRange _ _ _ _ _ _ _ _ => hR9
  rename News _ _ _ _ => N12
  rename Fr _ _ _ _ => F12
  unfold Hold
  refine rangeD_mk (n := c + 1) (LoopJ _ src _ _ _ _ _ _ _ (Str.ofString "turn") (Str.ofString "rows") _ (fun i => i)) rfl hR9 (rng1 (Int.lt_trans hc1 (by decide))).1 (rng1 (Int.lt_trans hc1 (by decide))).2 F12 N12 (loop_first (nd_os nd5) hS1 Tr2 hr2 I2 rfl) ?_ ?_
  · clear F12 N12
    rintro i t m₁ nx h6 tk6 d6 I oI hi hfI off hJ9 F N
    try (k_extra "zfold")
    obtain ⟨hSm, rl, hrl, ⟨vs, n, rows, os2, Z, W, f, many, u, nd, hSr, Tr, hr, Iv, hl, hR, hlen, hmany, hc⟩⟩ := hJ9
    replace hlen : rows.length ≤ i := hlen
    rw [same1 hSm hrl] at F
    have N' := law_in N
    have nd' := law_in_nd (io := oI) nd off
    have hzs := nd_head nd'
    have hc' : (_, _) ∈ Z ++ ((I, oI) :: W) := List.mem_append.mpr (.inr (.tail _ hc))
    clear N
    k_steps
    (unfold Hold; w_strict (k_dflt (refine' added_spec (Z := Z) (W := (I, oI) :: W) (f := f) (rows := rows) (vs := vs) (n := n) ?k1 ?k2 ?k3 ?k4 ?k5 ?kK ?u0 ?u1 ?u2 ?u3 ?u4 ?u5 ?u6 ?u7 ?u8 ?kd ?ku ?_; (case k1 => k_asm); (case k2 => k_asm); (case k3 => k_asm); (case k4 => k_asm); (case k5 => k_asm); (case kK => first | exact rfl | assumption); (case u0 => exact nd'); (case u1 => exact hSr); (case u2 => exact Tr); (case u3 => exact hr); (case u4 => exact Iv); (case u5 => exact .tail _ hl); (case u6 => exact hR.mono (fun p hp => .tail _ hp)); (case u7 => omega); (case u8 => exact hmany); (case kd => ktr_room); (case ku => ktr_units))); intro rl2 vs2 n2 rows2 os3 Z3 W3 f3 many3 u3 h7 tk7 hS3 I3 hlen3 hm3 Tr3 hr3 hl3 hR3 hsub F3' N3' nd3'; (try dsimp only); (try k_sweep); (try (k_extra "zfold")))
    clear N'
    have hc3 : (_, _) ∈ Z3 ++ W3 := List.mem_append.mpr (.inr (hsub _ (.tail _ hc)))
    k_steps
    rename News _ _ _ _ => N4a
    have N4b := news_rot (A := [_, _, _]) N4a
    clear N4a
    (unfold Hold; w_strict (k_dflt (refine' stands_spec (Z := Z3) (f := f3) (rows := rows2) (vs := vs2) (n := n2) ?k1 ?k2 ?k3 ?k4 ?k5 ?kK ?u0 ?u1 ?u2 ?u3 ?u4 ?u5 ?u6 ?u7 ?u8 ?u9 ?kd ?ku ?_; (case k1 => k_asm); (case k2 => k_asm); (case k3 => k_asm); (case k4 => k_asm); (case k5 => k_asm); (case kK => first | exact rfl | assumption); (case u0 => exact Tr3); (case u1 => exact hr3); (case u2 => exact List.mem_append.mpr (.inr (.tail _ (.head _)))); (case u3 => exact List.mem_append.mpr (.inr (.tail _ (.tail _ (.head _))))); (case u4 => exact List.mem_append.mpr (.inr (.tail _ (.tail _ (.tail _ hl3))))); (case u5 => exact hR3.mono (fun p hp => List.mem_append.mpr (.inr (.tail _ (.tail _ (.tail _ hp)))))); (case u6 => exact I3.wants Tr3.pre Tr3.root Tr3.fin); (case u7 => omega); (case u8 => (exact fun row hrow => (I3.net row hrow).1)); (case u9 => exact hm3); (case kd => ktr_room); (case ku => ktr_units))); intro h8 tk8 d8 F8 N8; (try dsimp only); (try k_sweep); (try (k_extra "zfold")))
    k_steps
    rename News _ _ _ _ => N8z
    rename Fr _ _ _ _ => F8z
    unfold Hold
    obtain ⟨nx5, N5, off5, hA⟩ := law_next (b := i + 1) (hsub _ (.head _)) hfI ⟨_, hcd⟩ nd3' hS3 Tr3 hr3 I3 hl3 hR3 (by omega) hm3 (hsub _ (.tail _ hc)) N8z
    exact dend_mk F8z N5 off5 ⟨(fun z hz => by obtain ⟨z1, z2⟩ := not2 hz; simp [z1, z2, List.contains_cons]), rl2, rfl, hA⟩
  · clear F12 N12 hR9
    rintro m₁ nx h6 tk6 d6 hJ9 F N
    try (k_extra "zfold")
    obtain ⟨hSm, rl, hrl, ⟨vs, n, rows, os2, Z, W, f, many, u, nd, hSr, Tr, hr, Iv, hl, hR, hlen, hmany, hc⟩⟩ := hJ9
    replace hlen : rows.length ≤ c + 1 := hlen
    rw [same2 hSm hrl] at F
    have hzs := nd_head nd
    have hc' : (_, _) ∈ Z ++ W := List.mem_append.mpr (.inr hc)
    k_steps
    rename Fr _ _ _ _ => F13
    unfold Hold
    refine For_drawn F13 (by rfl) (by rfl) ?_
    k_steps
    (unfold Hold; w_strict (k_dflt (refine' take_S ?k1 ?k2 ?k3 ?k4 ?k5 ?kK ?u0 ?u1 ?u2 ?u3 ?kd ?ku ?_; (case k1 => k_asm); (case k2 => k_asm); (case k3 => k_asm); (case k4 => k_asm); (case k5 => k_asm); (case kK => first | exact rfl | assumption); (case u0 => k_updF); (case u1 => assumption); (case u2 => decide); (case u3 => decide); (case kd => ktr_room); (case ku => ktr_units))); intro cnt tcnt os3 h7 tk7 he0 he1 hS3 F14 N14; (try dsimp only); (try k_sweep); (try (k_extra "zfold")))
    obtain ⟨e, rfl⟩ : ∃ e : Nat, cnt = (e : Int) := ⟨cnt.toNat, by omega⟩
    k_steps
    rename IsRange _ _ _ _ _ _ _ _ => hR9
    rename News _ _ _ _ => N12
    rename Fr _ _ _ _ => F12
    unfold Hold
    refine rangeD_mk (n := e + 1) (LoopJ _ src _ _ _ _ _ _ _ (Str.ofString "turn") (Str.ofString "rows") _ (fun _ => 5)) rfl hR9 (rng1 (Int.lt_trans he1 (by decide))).1 (rng1 (Int.lt_trans he1 (by decide))).2 F12 N12 (loop_second (nd_os nd) hS3 Tr hr Iv rfl hl hR (by show rows.length ≤ 5; omega) hmany hc) ?_ ?_
    · clear F12 N12 nd Tr hr Iv hl hR hlen hmany hc hSr hSm hrl hzs hc'
      rintro i t m₁ nx h6 tk6 d6 I oI hi hfI off hJ9 F N
      try (k_extra "zfold")
      obtain ⟨hSm, rl, hrl, ⟨vs, n, rows, os2, Z, W, f, many, u, nd, hSr, Tr, hr, Iv, hl, hR, hlen, hmany, hc⟩⟩ := hJ9
      replace hlen : rows.length ≤ 5 := hlen
      rw [same1 hSm hrl] at F
      have N' := law_in N
      have nd' := law_in_nd (io := oI) nd off
      have hzs := nd_head nd'
      have hc' : (_, _) ∈ Z ++ ((I, oI) :: W) := List.mem_append.mpr (.inr (.tail _ hc))
      clear N
      k_steps
      (unfold Hold; w_strict (k_dflt (refine' changed_spec (Z := Z) (W := (I, oI) :: W) (f := f) (rows := rows) (vs := vs) (n := n) ?k1 ?k2 ?k3 ?k4 ?k5 ?kK ?u0 ?u1 ?u2 ?u3 ?u4 ?u5 ?u6 ?u7 ?u8 ?kd ?ku ?_; (case k1 => k_asm); (case k2 => k_asm); (case k3 => k_asm); (case k4 => k_asm); (case k5 => k_asm); (case kK => first | exact rfl | assumption); (case u0 => exact nd'); (case u1 => exact hSr); (case u2 => exact Tr); (case u3 => exact hr); (case u4 => exact Iv); (case u5 => exact .tail _ hl); (case u6 => exact hR.mono (fun p hp => .tail _ hp)); (case u7 => omega); (case u8 => exact hmany); (case kd => ktr_room); (case ku => ktr_units))); intro rl2 vs2 n2 rows2 os3 Z3 W3 f3 many3 u3 h7 tk7 d7 hS3 I3 hlen3 hm3 Tr3 hr3 hl3 hR3 hsub F3' N3' nd3'; (try dsimp only); (try k_sweep); (try (k_extra "zfold")))
      clear N'
      have hc3 : (_, _) ∈ Z3 ++ W3 := List.mem_append.mpr (.inr (hsub _ (.tail _ hc)))
      k_steps
      rename News _ _ _ _ => N4a
      have N4b := news_rot (A := [_, _, _]) N4a
      clear N4a
      (unfold Hold; w_strict (k_dflt (refine' stands_spec (Z := Z3) (f := f3) (rows := rows2) (vs := vs2) (n := n2) ?k1 ?k2 ?k3 ?k4 ?k5 ?kK ?u0 ?u1 ?u2 ?u3 ?u4 ?u5 ?u6 ?u7 ?u8 ?u9 ?kd ?ku ?_; (case k1 => k_asm); (case k2 => k_asm); (case k3 => k_asm); (case k4 => k_asm); (case k5 => k_asm); (case kK => first | exact rfl | assumption); (case u0 => exact Tr3); (case u1 => exact hr3); (case u2 => exact List.mem_append.mpr (.inr (.tail _ (.head _)))); (case u3 => exact List.mem_append.mpr (.inr (.tail _ (.tail _ (.head _))))); (case u4 => exact List.mem_append.mpr (.inr (.tail _ (.tail _ (.tail _ hl3))))); (case u5 => exact hR3.mono (fun p hp => List.mem_append.mpr (.inr (.tail _ (.tail _ (.tail _ hp)))))); (case u6 => exact I3.wants Tr3.pre Tr3.root Tr3.fin); (case u7 => omega); (case u8 => (exact fun row hrow => (I3.net row hrow).1)); (case u9 => exact hm3); (case kd => ktr_room); (case ku => ktr_units))); intro h8 tk8 d8 F8 N8; (try dsimp only); (try k_sweep); (try (k_extra "zfold")))
      k_steps
      rename News _ _ _ _ => N8z
      rename Fr _ _ _ _ => F8z
      unfold Hold
      obtain ⟨nx5, N5, off5, hA⟩ := law_next (b := 5) (hsub _ (.head _)) hfI ⟨_, hcd⟩ nd3' hS3 Tr3 hr3 I3 hl3 hR3 (by omega) hm3 (hsub _ (.tail _ hc)) N8z
      exact dend_mk F8z N5 off5 ⟨(fun z hz => by obtain ⟨z1, z2⟩ := not2 hz; simp [z1, z2, List.contains_cons]), rl2, rfl, hA⟩
    · clear F12 N12 hR9 nd Tr hr Iv hl hR hlen hmany hc hSr hSm hrl hzs hc'
      rintro m₁ nx h6 tk6 d6 hJ9 F N
      try (k_extra "zfold")
      obtain ⟨hSm, rl, hrl, ⟨vs, n, rows, os2, Z, W, f, many, u, nd, hSr, Tr, hr, Iv, hl, hR, hlen, hmany, hc⟩⟩ := hJ9
      rw [same2 hSm hrl] at F
      have hzs := nd_head nd
      have hc' : (_, _) ∈ Z ++ W := List.mem_append.mpr (.inr hc)
      k_steps
      (unfold Hold; w_strict (k_dflt (refine' branch_spec ?k1 ?k2 ?k3 ?k4 ?k5 ?kK ?u0 ?u1 ?kd ?ku ?_; (case k1 => k_asm); (case k2 => k_asm); (case k3 => k_asm); (case k4 => k_asm); (case k5 => k_asm); (case kK => first | exact rfl | assumption); (case u0 => k_updF); (case u1 => assumption); (case kd => ktr_room); (case ku => ktr_units))); intro os5 h9 tk9 hS5 F9 N9; (try dsimp only); (try k_sweep); (try (k_extra "zfold")))
      k_steps
      rename IsRange _ _ _ _ _ _ _ _ => hR9
      rename News _ _ _ _ => N12
      rename Fr _ _ _ _ => F12
      unfold Hold
      refine compT_draw (n := 4) [] (fun i ys => ys = []) rfl F12 N12 hR9 (by decide) (by decide) (by decide) rfl hS5 ?_ ?_
      · clear F12 N12
        rintro i ti ys os' I oI C oC D m3 h3 tk3 E3 hi rfl hS6 hC hx F3 N3 hsn o1 o2 o3 r1 r2 r3
        simp only [List.nil_append] at N3
        k_steps
        (unfold Hold; w_strict (k_dflt (refine' right_spec ?k1 ?k2 ?k3 ?k4 ?k5 ?kK ?u0 ?u1 ?kd ?ku ?_; (case k1 => k_asm); (case k2 => k_asm); (case k3 => k_asm); (case k4 => k_asm); (case k5 => k_asm); (case kK => first | exact rfl | assumption); (case u0 => k_updF); (case u1 => assumption); (case kd => ktr_room); (case ku => ktr_units))); intro os7 h10 tk10 hS7 F7 N7; (try dsimp only); (try k_sweep); (try (k_extra "zfold")))
        k_steps
        rename News _ _ _ _ => N8
        rename Fr _ _ _ _ => F8
        unfold Hold
        exact send_mk F8 N8 hS7 rfl
      · clear F12 N12
        rintro g9 ys os' rfl hS6
        simp only [List.nil_append]
        k_steps
        rename News _ _ _ _ => N8
        unfold Hold
        refine my_eq_nil (vs := []) N8 (.tail _ (.head _)) (.head _) (by ktr_units) ?_
        repeat' (first | (k_unfold; (try dsimp only); (try clear qk)) | (((fail_if_success k_end)); walk1) | (((fail_if_success k_end)); dsimp only; walk1) | fail "no step")
        rename Fr _ _ _ _ => F9
        exact good_end F9 hg
end
end Mine

set_option maxRecDepth 100000 in
set_option maxHeartbeats 8000000 in
theorem PySem.Challenge.cw_on0341_01_holds : PySem.Challenge.rw_on0341_01.Holds := by
  exact Mine.law_walk
