import PyProof.Rows.All
import Wide.All
import OpenK.AllK
import Wide.FinOn
import PySem.Challenge.RW_pf0255_01
open PySem PySem.W PyProof.Rows
set_option Elab.async false
set_option maxRecDepth 100000
set_option maxHeartbeats 0
set_option linter.unusedVariables false
set_option linter.unusedSimpArgs false
namespace Mine
local macro_rules | `(tactic| walk_at $s:str) => `(tactic| k_extra $s)
local macro_rules | `(tactic| k_all) => `(tactic| assumption)
local macro_rules | `(tactic| k_room) => `(tactic| ktr_room)
local macro_rules | `(tactic| k_handed) => `(tactic| assumption)
section
def stAt (l : List Stmt) (i : Nat) : Stmt := match l.drop i with | s :: _ => s | [] => .Pass ⟨0, 0, 0, 0⟩
def inAt : Stmt → List Stmt | .FunctionDef _ _ b _ _ _ _ _ _ _ => b | .ClassDef _ _ _ b _ _ _ _ _ _ _ => b | _ => []
def parAt : Stmt → Arguments | .FunctionDef _ a _ _ _ _ _ _ _ _ => a | _ => ⟨[], [], none, [], [], none, []⟩
def scpAt : Stmt → Scope | .FunctionDef _ _ _ _ _ _ c _ _ _ => c | _ => ⟨.function, [], false, false, []⟩
abbrev topB : List Stmt := PySem.Challenge.pw_pf0255_01.main.body
noncomputable def K : Params → Frag := by
  refine' (?f : (a21 : Arguments) → parAt (stAt topB 0) = a21 → 
    (b21 : List Stmt) → inAt (stAt topB 0) = b21 → 
    (c21 : Scope) → scpAt (stAt topB 0) = c21 → 
    (a28 : Arguments) → parAt (stAt topB 8) = a28 → 
    (b28 : List Stmt) → inAt (stAt topB 8) = b28 → 
    (c28 : Scope) → scpAt (stAt topB 8) = c28 → 
    (a42 : Arguments) → parAt (stAt (inAt (stAt topB 9)) 0) = a42 → 
    (b42 : List Stmt) → inAt (stAt (inAt (stAt topB 9)) 0) = b42 → 
    (c42 : Scope) → scpAt (stAt (inAt (stAt topB 9)) 0) = c42 → 
    (a49 : Arguments) → parAt (stAt (inAt (stAt topB 9)) 1) = a49 → 
    (b49 : List Stmt) → inAt (stAt (inAt (stAt topB 9)) 1) = b49 → 
    (c49 : Scope) → scpAt (stAt (inAt (stAt topB 9)) 1) = c49 → 
    (a56 : Arguments) → parAt (stAt (inAt (stAt topB 9)) 2) = a56 → 
    (b56 : List Stmt) → inAt (stAt (inAt (stAt topB 9)) 2) = b56 → 
    (c56 : Scope) → scpAt (stAt (inAt (stAt topB 9)) 2) = c56 → 
    (a63 : Arguments) → parAt (stAt (inAt (stAt topB 9)) 3) = a63 → 
    (b63 : List Stmt) → inAt (stAt (inAt (stAt topB 9)) 3) = b63 → 
    (c63 : Scope) → scpAt (stAt (inAt (stAt topB 9)) 3) = c63 → 
    (a70 : Arguments) → parAt (stAt (inAt (stAt topB 9)) 4) = a70 → 
    (b70 : List Stmt) → inAt (stAt (inAt (stAt topB 9)) 4) = b70 → 
    (c70 : Scope) → scpAt (stAt (inAt (stAt topB 9)) 4) = c70 → 
    (a77 : Arguments) → parAt (stAt (inAt (stAt topB 9)) 5) = a77 → 
    (b77 : List Stmt) → inAt (stAt (inAt (stAt topB 9)) 5) = b77 → 
    (c77 : Scope) → scpAt (stAt (inAt (stAt topB 9)) 5) = c77 → 
    (a84 : Arguments) → parAt (stAt (inAt (stAt topB 9)) 6) = a84 → 
    (b84 : List Stmt) → inAt (stAt (inAt (stAt topB 9)) 6) = b84 → 
    (c84 : Scope) → scpAt (stAt (inAt (stAt topB 9)) 6) = c84 → 
    (a91 : Arguments) → parAt (stAt (inAt (stAt topB 9)) 7) = a91 → 
    (b91 : List Stmt) → inAt (stAt (inAt (stAt topB 9)) 7) = b91 → 
    (c91 : Scope) → scpAt (stAt (inAt (stAt topB 9)) 7) = c91 → 
    (a98 : Arguments) → parAt (stAt (inAt (stAt topB 9)) 8) = a98 → 
    (b98 : List Stmt) → inAt (stAt (inAt (stAt topB 9)) 8) = b98 → 
    (c98 : Scope) → scpAt (stAt (inAt (stAt topB 9)) 8) = c98 → 
    (a112 : Arguments) → parAt (stAt topB 13) = a112 → 
    (b112 : List Stmt) → inAt (stAt topB 13) = b112 → 
    (c112 : Scope) → scpAt (stAt topB 13) = c112 → 
    (a119 : Arguments) → parAt (stAt topB 14) = a119 → 
    (b119 : List Stmt) → inAt (stAt topB 14) = b119 → 
    (c119 : Scope) → scpAt (stAt topB 14) = c119 → 
    (a124 : Arguments) → parAt (stAt topB 17) = a124 → 
    (b124 : List Stmt) → inAt (stAt topB 17) = b124 → 
    (c124 : Scope) → scpAt (stAt topB 17) = c124 → 
    (a138 : Arguments) → parAt (stAt (inAt (stAt topB 18)) 0) = a138 → 
    (b138 : List Stmt) → inAt (stAt (inAt (stAt topB 18)) 0) = b138 → 
    (c138 : Scope) → scpAt (stAt (inAt (stAt topB 18)) 0) = c138 → 
    (a145 : Arguments) → parAt (stAt (inAt (stAt topB 18)) 1) = a145 → 
    (b145 : List Stmt) → inAt (stAt (inAt (stAt topB 18)) 1) = b145 → 
    (c145 : Scope) → scpAt (stAt (inAt (stAt topB 18)) 1) = c145 → 
    (a152 : Arguments) → parAt (stAt (inAt (stAt topB 18)) 2) = a152 → 
    (b152 : List Stmt) → inAt (stAt (inAt (stAt topB 18)) 2) = b152 → 
    (c152 : Scope) → scpAt (stAt (inAt (stAt topB 18)) 2) = c152 → 
    (a159 : Arguments) → parAt (stAt (inAt (stAt topB 18)) 3) = a159 → 
    (b159 : List Stmt) → inAt (stAt (inAt (stAt topB 18)) 3) = b159 → 
    (c159 : Scope) → scpAt (stAt (inAt (stAt topB 18)) 3) = c159 → 
    (a166 : Arguments) → parAt (stAt (inAt (stAt topB 18)) 4) = a166 → 
    (b166 : List Stmt) → inAt (stAt (inAt (stAt topB 18)) 4) = b166 → 
    (c166 : Scope) → scpAt (stAt (inAt (stAt topB 18)) 4) = c166 → 
    (a173 : Arguments) → parAt (stAt (inAt (stAt topB 18)) 5) = a173 → 
    (b173 : List Stmt) → inAt (stAt (inAt (stAt topB 18)) 5) = b173 → 
    (c173 : Scope) → scpAt (stAt (inAt (stAt topB 18)) 5) = c173 → 
    (a180 : Arguments) → parAt (stAt (inAt (stAt topB 18)) 6) = a180 → 
    (b180 : List Stmt) → inAt (stAt (inAt (stAt topB 18)) 6) = b180 → 
    (c180 : Scope) → scpAt (stAt (inAt (stAt topB 18)) 6) = c180 → 
    (a194 : Arguments) → parAt (stAt topB 20) = a194 → 
    (b194 : List Stmt) → inAt (stAt topB 20) = b194 → 
    (c194 : Scope) → scpAt (stAt topB 20) = c194 → 
    (a226 : Arguments) → parAt (stAt topB 22) = a226 → 
    (b226 : List Stmt) → inAt (stAt topB 22) = b226 → 
    (c226 : Scope) → scpAt (stAt topB 22) = c226 → 
    (a233 : Arguments) → parAt (stAt topB 23) = a233 → 
    (b233 : List Stmt) → inAt (stAt topB 23) = b233 → 
    (c233 : Scope) → scpAt (stAt topB 23) = c233 → 
    (a240 : Arguments) → parAt (stAt topB 24) = a240 → 
    (b240 : List Stmt) → inAt (stAt topB 24) = b240 → 
    (c240 : Scope) → scpAt (stAt topB 24) = c240 → 
    (a247 : Arguments) → parAt (stAt topB 25) = a247 → 
    (b247 : List Stmt) → inAt (stAt topB 25) = b247 → 
    (c247 : Scope) → scpAt (stAt topB 25) = c247 → 
    (a254 : Arguments) → parAt (stAt topB 26) = a254 → 
    (b254 : List Stmt) → inAt (stAt topB 26) = b254 → 
    (c254 : Scope) → scpAt (stAt topB 26) = c254 → 
    (a259 : Arguments) → parAt (stAt topB 27) = a259 → 
    (b259 : List Stmt) → inAt (stAt topB 27) = b259 → 
    (c259 : Scope) → scpAt (stAt topB 27) = c259 → 
    (a264 : Arguments) → parAt (stAt topB 28) = a264 → 
    (b264 : List Stmt) → inAt (stAt topB 28) = b264 → 
    (c264 : Scope) → scpAt (stAt topB 28) = c264 → Params → Frag) _ ?a21 _ ?b21 _ ?c21 _ ?a28 _ ?b28 _ ?c28 _ ?a42 _ ?b42 _ ?c42 _ ?a49 _ ?b49 _ ?c49 _ ?a56 _ ?b56 _ ?c56 _ ?a63 _ ?b63 _ ?c63 _ ?a70 _ ?b70 _ ?c70 _ ?a77 _ ?b77 _ ?c77 _ ?a84 _ ?b84 _ ?c84 _ ?a91 _ ?b91 _ ?c91 _ ?a98 _ ?b98 _ ?c98 _ ?a112 _ ?b112 _ ?c112 _ ?a119 _ ?b119 _ ?c119 _ ?a124 _ ?b124 _ ?c124 _ ?a138 _ ?b138 _ ?c138 _ ?a145 _ ?b145 _ ?c145 _ ?a152 _ ?b152 _ ?c152 _ ?a159 _ ?b159 _ ?c159 _ ?a166 _ ?b166 _ ?c166 _ ?a173 _ ?b173 _ ?c173 _ ?a180 _ ?b180 _ ?c180 _ ?a194 _ ?b194 _ ?c194 _ ?a226 _ ?b226 _ ?c226 _ ?a233 _ ?b233 _ ?c233 _ ?a240 _ ?b240 _ ?c240 _ ?a247 _ ?b247 _ ?c247 _ ?a254 _ ?b254 _ ?c254 _ ?a259 _ ?b259 _ ?c259 _ ?a264 _ ?b264 _ ?c264
  case a21 => conv => lhs; whnf
  case b21 => conv => lhs; whnf
  case c21 => conv => lhs; whnf
  case a28 => conv => lhs; whnf
  case b28 => conv => lhs; whnf
  case c28 => conv => lhs; whnf
  case a42 => conv => lhs; whnf
  case b42 => conv => lhs; whnf
  case c42 => conv => lhs; whnf
  case a49 => conv => lhs; whnf
  case b49 => conv => lhs; whnf
  case c49 => conv => lhs; whnf
  case a56 => conv => lhs; whnf
  case b56 => conv => lhs; whnf
  case c56 => conv => lhs; whnf
  case a63 => conv => lhs; whnf
  case b63 => conv => lhs; whnf
  case c63 => conv => lhs; whnf
  case a70 => conv => lhs; whnf
  case b70 => conv => lhs; whnf
  case c70 => conv => lhs; whnf
  case a77 => conv => lhs; whnf
  case b77 => conv => lhs; whnf
  case c77 => conv => lhs; whnf
  case a84 => conv => lhs; whnf
  case b84 => conv => lhs; whnf
  case c84 => conv => lhs; whnf
  case a91 => conv => lhs; whnf
  case b91 => conv => lhs; whnf
  case c91 => conv => lhs; whnf
  case a98 => conv => lhs; whnf
  case b98 => conv => lhs; whnf
  case c98 => conv => lhs; whnf
  case a112 => conv => lhs; whnf
  case b112 => conv => lhs; whnf
  case c112 => conv => lhs; whnf
  case a119 => conv => lhs; whnf
  case b119 => conv => lhs; whnf
  case c119 => conv => lhs; whnf
  case a124 => conv => lhs; whnf
  case b124 => conv => lhs; whnf
  case c124 => conv => lhs; whnf
  case a138 => conv => lhs; whnf
  case b138 => conv => lhs; whnf
  case c138 => conv => lhs; whnf
  case a145 => conv => lhs; whnf
  case b145 => conv => lhs; whnf
  case c145 => conv => lhs; whnf
  case a152 => conv => lhs; whnf
  case b152 => conv => lhs; whnf
  case c152 => conv => lhs; whnf
  case a159 => conv => lhs; whnf
  case b159 => conv => lhs; whnf
  case c159 => conv => lhs; whnf
  case a166 => conv => lhs; whnf
  case b166 => conv => lhs; whnf
  case c166 => conv => lhs; whnf
  case a173 => conv => lhs; whnf
  case b173 => conv => lhs; whnf
  case c173 => conv => lhs; whnf
  case a180 => conv => lhs; whnf
  case b180 => conv => lhs; whnf
  case c180 => conv => lhs; whnf
  case a194 => conv => lhs; whnf
  case b194 => conv => lhs; whnf
  case c194 => conv => lhs; whnf
  case a226 => conv => lhs; whnf
  case b226 => conv => lhs; whnf
  case c226 => conv => lhs; whnf
  case a233 => conv => lhs; whnf
  case b233 => conv => lhs; whnf
  case c233 => conv => lhs; whnf
  case a240 => conv => lhs; whnf
  case b240 => conv => lhs; whnf
  case c240 => conv => lhs; whnf
  case a247 => conv => lhs; whnf
  case b247 => conv => lhs; whnf
  case c247 => conv => lhs; whnf
  case a254 => conv => lhs; whnf
  case b254 => conv => lhs; whnf
  case c254 => conv => lhs; whnf
  case a259 => conv => lhs; whnf
  case b259 => conv => lhs; whnf
  case c259 => conv => lhs; whnf
  case a264 => conv => lhs; whnf
  case b264 => conv => lhs; whnf
  case c264 => conv => lhs; whnf
  case f => exact fun a21 _ b21 _ c21 _ a28 _ b28 _ c28 _ a42 _ b42 _ c42 _ a49 _ b49 _ c49 _ a56 _ b56 _ c56 _ a63 _ b63 _ c63 _ a70 _ b70 _ c70 _ a77 _ b77 _ c77 _ a84 _ b84 _ c84 _ a91 _ b91 _ c91 _ a98 _ b98 _ c98 _ a112 _ b112 _ c112 _ a119 _ b119 _ c119 _ a124 _ b124 _ c124 _ a138 _ b138 _ c138 _ a145 _ b145 _ c145 _ a152 _ b152 _ c152 _ a159 _ b159 _ c159 _ a166 _ b166 _ c166 _ a173 _ b173 _ c173 _ a180 _ b180 _ c180 _ a194 _ b194 _ c194 _ a226 _ b226 _ c226 _ a233 _ b233 _ c233 _ a240 _ b240 _ c240 _ a247 _ b247 _ c247 _ a254 _ b254 _ c254 _ a259 _ b259 _ c259 _ a264 _ b264 _ c264 _ => fun P =>
    ((nat_lit 2, Obj.mk Value.none none (Data.dict #[]) #[]) ::
    (nat_lit 3, Obj.mk (Value.type "dict") none (Data.dict #[DictEntry.mk (PyData.keyHash P (Str.ofString "__name__")) (Value.str (Str.ofString "__name__") 165) (Value.str (Str.ofString "law_pf0255_01") 435), DictEntry.mk (PyData.keyHash P (Str.ofString "__doc__")) (Value.str (Str.ofString "__doc__") 166) Value.none, DictEntry.mk (PyData.keyHash P (Str.ofString "__package__")) (Value.str (Str.ofString "__package__") 167) Value.none, DictEntry.mk (PyData.keyHash P (Str.ofString "__loader__")) (Value.str (Str.ofString "__loader__") 168) (Value.builtin "__main__.__loader__#opaque"), DictEntry.mk (PyData.keyHash P (Str.ofString "__spec__")) (Value.str (Str.ofString "__spec__") 169) Value.none, DictEntry.mk (PyData.keyHash P (Str.ofString "__annotations__")) (Value.str (Str.ofString "__annotations__") 170) (Value.ref 6), DictEntry.mk (PyData.keyHash P (Str.ofString "__builtins__")) (Value.str (Str.ofString "__builtins__") 171) (Value.ref 4), DictEntry.mk (PyData.keyHash P (Str.ofString "__file__")) (Value.str (Str.ofString "__file__") 173) (Value.str (Str.ofString "/claim/cut.py") 172), DictEntry.mk (PyData.keyHash P (Str.ofString "__cached__")) (Value.str (Str.ofString "__cached__") 174) Value.none, DictEntry.mk (PyData.keyHash P (Str.ofString "_wall")) (Value.str (Str.ofString "_wall") 193) (Value.ref 21), DictEntry.mk (PyData.keyHash P (Str.ofString "OPEN")) (Value.str (Str.ofString "OPEN") 197) (Value.str (Str.ofString "open") 196), DictEntry.mk (PyData.keyHash P (Str.ofString "CLOSING")) (Value.str (Str.ofString "CLOSING") 199) (Value.str (Str.ofString "closing") 198), DictEntry.mk (PyData.keyHash P (Str.ofString "DRAINING")) (Value.str (Str.ofString "DRAINING") 201) (Value.str (Str.ofString "draining") 200), DictEntry.mk (PyData.keyHash P (Str.ofString "CLOSED")) (Value.str (Str.ofString "CLOSED") 203) (Value.str (Str.ofString "closed") 202), DictEntry.mk (PyData.keyHash P (Str.ofString "APPLICATION_ERROR_CODE")) (Value.str (Str.ofString "APPLICATION_ERROR_CODE") 205) (Value.int 12 204), DictEntry.mk (PyData.keyHash P (Str.ofString "PERIODS")) (Value.str (Str.ofString "PERIODS") 207) (Value.int 3 206), DictEntry.mk (PyData.keyHash P (Str.ofString "close_frame_in")) (Value.str (Str.ofString "close_frame_in") 215) (Value.ref 28), DictEntry.mk (PyData.keyHash P (Str.ofString "Closing")) (Value.str (Str.ofString "Closing") 312) (Value.ref 101), DictEntry.mk (PyData.keyHash P (Str.ofString "RESET_LEAST")) (Value.str (Str.ofString "RESET_LEAST") 314) (Value.int 21 313), DictEntry.mk (PyData.keyHash P (Str.ofString "RESET_MOST")) (Value.str (Str.ofString "RESET_MOST") 316) (Value.int 42 315), DictEntry.mk (PyData.keyHash P (Str.ofString "TOKEN_SIZE")) (Value.str (Str.ofString "TOKEN_SIZE") 318) (Value.int 16 317), DictEntry.mk (PyData.keyHash P (Str.ofString "reset_for")) (Value.str (Str.ofString "reset_for") 328) (Value.ref 112), DictEntry.mk (PyData.keyHash P (Str.ofString "reset_token_in")) (Value.str (Str.ofString "reset_token_in") 335) (Value.ref 119), DictEntry.mk (PyData.keyHash P (Str.ofString "LEAST_PROBES")) (Value.str (Str.ofString "LEAST_PROBES") 339) (Value.int 3 338), DictEntry.mk (PyData.keyHash P (Str.ofString "idle_wait")) (Value.str (Str.ofString "idle_wait") 345) (Value.ref 124), DictEntry.mk (PyData.keyHash P (Str.ofString "Idle")) (Value.str (Str.ofString "Idle") 434) (Value.ref 183), DictEntry.mk (PyData.keyHash P (Str.ofString "_law_draw")) (Value.str (Str.ofString "_law_draw") 444) (Value.ref 194), DictEntry.mk (PyData.keyHash P (Str.ofString "_law_table")) (Value.str (Str.ofString "_law_table") 534) (Value.ref 195), DictEntry.mk (PyData.keyHash P (Str.ofString "_law_deed")) (Value.str (Str.ofString "_law_deed") 547) (Value.ref 226), DictEntry.mk (PyData.keyHash P (Str.ofString "_law_time")) (Value.str (Str.ofString "_law_time") 556) (Value.ref 233), DictEntry.mk (PyData.keyHash P (Str.ofString "_law_end_right")) (Value.str (Str.ofString "_law_end_right") 568) (Value.ref 240), DictEntry.mk (PyData.keyHash P (Str.ofString "_law_reset_right")) (Value.str (Str.ofString "_law_reset_right") 580) (Value.ref 247), DictEntry.mk (PyData.keyHash P (Str.ofString "_law_frames_right")) (Value.str (Str.ofString "_law_frames_right") 593) (Value.ref 254), DictEntry.mk (PyData.keyHash P (Str.ofString "_law_idle_right")) (Value.str (Str.ofString "_law_idle_right") 599) (Value.ref 259), DictEntry.mk (PyData.keyHash P (Str.ofString "law")) (Value.str (Str.ofString "law") 605) (Value.ref 264)] 35) #[]) ::
    (nat_lit 15, Obj.mk (Value.type "tuple") none (Data.seq #[]) #[]) ::
    (nat_lit 17, Obj.mk (Value.type "tuple") none (Data.seq #[Value.str (Str.ofString "k") 190]) #[]) ::
    (nat_lit 18, Obj.mk (Value.type "tuple") none (Data.seq #[]) #[]) ::
    (nat_lit 20, Obj.mk (Value.type "code") none (Data.fields #[Value.str (Str.ofString "_wall") 187, Value.str (Str.ofString "_wall") 188, Value.str (Str.ofString "/claim/cut.py") 189, Value.int 1 0, Value.int 1 0, Value.int 0 0, Value.int 0 0, Value.int 3 0, Value.ref 15, Value.bool true, Value.int 181 0, Value.ref 16, Value.none, Value.ref 17, Value.ref 18, Value.ref 19, Value.int 191 0, Value.int 1 0, Value.str (Str.ofString "/claim/cut.py") 192]) #[]) ::
    (nat_lit 21, Obj.mk (Value.type "function") none (Data.func (FuncData.mk (Str.ofString "_wall") (Str.ofString "_wall") a21 (FuncBody.stmts b21) c21 3 [] Value.none Value.none Value.none (Value.str (Str.ofString "__main__") 164) none (Value.ref 20) Value.none 0)) #[]) ::
    (nat_lit 22, Obj.mk (Value.type "tuple") none (Data.seq #[]) #[]) ::
    (nat_lit 24, Obj.mk (Value.type "tuple") none (Data.seq #[Value.str (Str.ofString "frame") 211, Value.str (Str.ofString "packet_kind") 212]) #[]) ::
    (nat_lit 25, Obj.mk (Value.type "tuple") none (Data.seq #[]) #[]) ::
    (nat_lit 27, Obj.mk (Value.type "code") none (Data.fields #[Value.str (Str.ofString "close_frame_in") 208, Value.str (Str.ofString "close_frame_in") 209, Value.str (Str.ofString "/claim/cut.py") 210, Value.int 11 0, Value.int 2 0, Value.int 0 0, Value.int 0 0, Value.int 3 0, Value.ref 22, Value.bool true, Value.int 181 0, Value.ref 23, Value.none, Value.ref 24, Value.ref 25, Value.ref 26, Value.int 213 0, Value.int 11 0, Value.str (Str.ofString "/claim/cut.py") 214]) #[]) ::
    (nat_lit 28, Obj.mk (Value.type "function") none (Data.func (FuncData.mk (Str.ofString "close_frame_in") (Str.ofString "close_frame_in") a28 (FuncBody.stmts b28) c28 3 [] Value.none Value.none Value.none (Value.str (Str.ofString "quic.closing") 194) none (Value.ref 27) Value.none 0)) #[]) ::
    (nat_lit 36, Obj.mk (Value.type "tuple") none (Data.seq #[]) #[]) ::
    (nat_lit 38, Obj.mk (Value.type "tuple") none (Data.seq #[Value.str (Str.ofString "self") 231]) #[]) ::
    (nat_lit 39, Obj.mk (Value.type "tuple") none (Data.seq #[]) #[]) ::
    (nat_lit 41, Obj.mk (Value.type "code") none (Data.fields #[Value.str (Str.ofString "__init__") 228, Value.str (Str.ofString "Closing.__init__") 229, Value.str (Str.ofString "/claim/cut.py") 230, Value.int 17 0, Value.int 1 0, Value.int 0 0, Value.int 0 0, Value.int 3 0, Value.ref 36, Value.bool true, Value.int 181 0, Value.ref 37, Value.none, Value.ref 38, Value.ref 39, Value.ref 40, Value.int 232 0, Value.int 17 0, Value.str (Str.ofString "/claim/cut.py") 233]) #[]) ::
    (nat_lit 42, Obj.mk (Value.type "function") none (Data.func (FuncData.mk (Str.ofString "__init__") (Str.ofString "Closing.__init__") a42 (FuncBody.stmts b42) c42 3 [] Value.none Value.none Value.none (Value.str (Str.ofString "quic.closing") 194) none (Value.ref 41) Value.none 0)) #[]) ::
    (nat_lit 43, Obj.mk (Value.type "tuple") none (Data.seq #[]) #[]) ::
    (nat_lit 45, Obj.mk (Value.type "tuple") none (Data.seq #[Value.str (Str.ofString "self") 238]) #[]) ::
    (nat_lit 46, Obj.mk (Value.type "tuple") none (Data.seq #[]) #[]) ::
    (nat_lit 48, Obj.mk (Value.type "code") none (Data.fields #[Value.str (Str.ofString "is_open") 235, Value.str (Str.ofString "Closing.is_open") 236, Value.str (Str.ofString "/claim/cut.py") 237, Value.int 24 0, Value.int 1 0, Value.int 0 0, Value.int 0 0, Value.int 3 0, Value.ref 43, Value.bool true, Value.int 181 0, Value.ref 44, Value.none, Value.ref 45, Value.ref 46, Value.ref 47, Value.int 239 0, Value.int 24 0, Value.str (Str.ofString "/claim/cut.py") 240]) #[]) ::
    (nat_lit 49, Obj.mk (Value.type "function") none (Data.func (FuncData.mk (Str.ofString "is_open") (Str.ofString "Closing.is_open") a49 (FuncBody.stmts b49) c49 3 [] Value.none Value.none Value.none (Value.str (Str.ofString "quic.closing") 194) none (Value.ref 48) Value.none 0)) #[]) ::
    (nat_lit 50, Obj.mk (Value.type "tuple") none (Data.seq #[]) #[]) ::
    (nat_lit 52, Obj.mk (Value.type "tuple") none (Data.seq #[Value.str (Str.ofString "self") 245, Value.str (Str.ofString "frame") 246, Value.str (Str.ofString "now") 247, Value.str (Str.ofString "probe_wait") 248]) #[]) ::
    (nat_lit 53, Obj.mk (Value.type "tuple") none (Data.seq #[]) #[]) ::
    (nat_lit 55, Obj.mk (Value.type "code") none (Data.fields #[Value.str (Str.ofString "close_now") 242, Value.str (Str.ofString "Closing.close_now") 243, Value.str (Str.ofString "/claim/cut.py") 244, Value.int 27 0, Value.int 4 0, Value.int 0 0, Value.int 0 0, Value.int 3 0, Value.ref 50, Value.bool true, Value.int 181 0, Value.ref 51, Value.none, Value.ref 52, Value.ref 53, Value.ref 54, Value.int 249 0, Value.int 27 0, Value.str (Str.ofString "/claim/cut.py") 250]) #[]) ::
    (nat_lit 56, Obj.mk (Value.type "function") none (Data.func (FuncData.mk (Str.ofString "close_now") (Str.ofString "Closing.close_now") a56 (FuncBody.stmts b56) c56 3 [] Value.none Value.none Value.none (Value.str (Str.ofString "quic.closing") 194) none (Value.ref 55) Value.none 0)) #[]) ::
    (nat_lit 57, Obj.mk (Value.type "tuple") none (Data.seq #[]) #[]) ::
    (nat_lit 59, Obj.mk (Value.type "tuple") none (Data.seq #[Value.str (Str.ofString "self") 255, Value.str (Str.ofString "now") 256, Value.str (Str.ofString "probe_wait") 257, Value.str (Str.ofString "was_open") 258]) #[]) ::
    (nat_lit 60, Obj.mk (Value.type "tuple") none (Data.seq #[]) #[]) ::
    (nat_lit 62, Obj.mk (Value.type "code") none (Data.fields #[Value.str (Str.ofString "on_close") 252, Value.str (Str.ofString "Closing.on_close") 253, Value.str (Str.ofString "/claim/cut.py") 254, Value.int 35 0, Value.int 3 0, Value.int 0 0, Value.int 0 0, Value.int 3 0, Value.ref 57, Value.bool true, Value.int 181 0, Value.ref 58, Value.none, Value.ref 59, Value.ref 60, Value.ref 61, Value.int 259 0, Value.int 35 0, Value.str (Str.ofString "/claim/cut.py") 260]) #[]) ::
    (nat_lit 63, Obj.mk (Value.type "function") none (Data.func (FuncData.mk (Str.ofString "on_close") (Str.ofString "Closing.on_close") a63 (FuncBody.stmts b63) c63 3 [] Value.none Value.none Value.none (Value.str (Str.ofString "quic.closing") 194) none (Value.ref 62) Value.none 0)) #[]) ::
    (nat_lit 64, Obj.mk (Value.type "tuple") none (Data.seq #[]) #[]) ::
    (nat_lit 66, Obj.mk (Value.type "tuple") none (Data.seq #[Value.str (Str.ofString "self") 265, Value.str (Str.ofString "now") 266, Value.str (Str.ofString "probe_wait") 267]) #[]) ::
    (nat_lit 67, Obj.mk (Value.type "tuple") none (Data.seq #[]) #[]) ::
    (nat_lit 69, Obj.mk (Value.type "code") none (Data.fields #[Value.str (Str.ofString "on_reset") 262, Value.str (Str.ofString "Closing.on_reset") 263, Value.str (Str.ofString "/claim/cut.py") 264, Value.int 44 0, Value.int 3 0, Value.int 0 0, Value.int 0 0, Value.int 3 0, Value.ref 64, Value.bool true, Value.int 181 0, Value.ref 65, Value.none, Value.ref 66, Value.ref 67, Value.ref 68, Value.int 268 0, Value.int 44 0, Value.str (Str.ofString "/claim/cut.py") 269]) #[]) ::
    (nat_lit 70, Obj.mk (Value.type "function") none (Data.func (FuncData.mk (Str.ofString "on_reset") (Str.ofString "Closing.on_reset") a70 (FuncBody.stmts b70) c70 3 [] Value.none Value.none Value.none (Value.str (Str.ofString "quic.closing") 194) none (Value.ref 69) Value.none 0)) #[]) ::
    (nat_lit 71, Obj.mk (Value.type "tuple") none (Data.seq #[]) #[]) ::
    (nat_lit 73, Obj.mk (Value.type "tuple") none (Data.seq #[Value.str (Str.ofString "self") 274]) #[]) ::
    (nat_lit 74, Obj.mk (Value.type "tuple") none (Data.seq #[]) #[]) ::
    (nat_lit 76, Obj.mk (Value.type "code") none (Data.fields #[Value.str (Str.ofString "on_packet") 271, Value.str (Str.ofString "Closing.on_packet") 272, Value.str (Str.ofString "/claim/cut.py") 273, Value.int 49 0, Value.int 1 0, Value.int 0 0, Value.int 0 0, Value.int 3 0, Value.ref 71, Value.bool true, Value.int 181 0, Value.ref 72, Value.none, Value.ref 73, Value.ref 74, Value.ref 75, Value.int 275 0, Value.int 49 0, Value.str (Str.ofString "/claim/cut.py") 276]) #[]) ::
    (nat_lit 77, Obj.mk (Value.type "function") none (Data.func (FuncData.mk (Str.ofString "on_packet") (Str.ofString "Closing.on_packet") a77 (FuncBody.stmts b77) c77 3 [] Value.none Value.none Value.none (Value.str (Str.ofString "quic.closing") 194) none (Value.ref 76) Value.none 0)) #[]) ::
    (nat_lit 78, Obj.mk (Value.type "tuple") none (Data.seq #[]) #[]) ::
    (nat_lit 80, Obj.mk (Value.type "tuple") none (Data.seq #[Value.str (Str.ofString "self") 281, Value.str (Str.ofString "now") 282]) #[]) ::
    (nat_lit 81, Obj.mk (Value.type "tuple") none (Data.seq #[]) #[]) ::
    (nat_lit 83, Obj.mk (Value.type "code") none (Data.fields #[Value.str (Str.ofString "on_time") 278, Value.str (Str.ofString "Closing.on_time") 279, Value.str (Str.ofString "/claim/cut.py") 280, Value.int 58 0, Value.int 2 0, Value.int 0 0, Value.int 0 0, Value.int 3 0, Value.ref 78, Value.bool true, Value.int 181 0, Value.ref 79, Value.none, Value.ref 80, Value.ref 81, Value.ref 82, Value.int 283 0, Value.int 58 0, Value.str (Str.ofString "/claim/cut.py") 284]) #[]) ::
    (nat_lit 84, Obj.mk (Value.type "function") none (Data.func (FuncData.mk (Str.ofString "on_time") (Str.ofString "Closing.on_time") a84 (FuncBody.stmts b84) c84 3 [] Value.none Value.none Value.none (Value.str (Str.ofString "quic.closing") 194) none (Value.ref 83) Value.none 0)) #[]) ::
    (nat_lit 85, Obj.mk (Value.type "tuple") none (Data.seq #[]) #[]) ::
    (nat_lit 87, Obj.mk (Value.type "tuple") none (Data.seq #[Value.str (Str.ofString "self") 289]) #[]) ::
    (nat_lit 88, Obj.mk (Value.type "tuple") none (Data.seq #[]) #[]) ::
    (nat_lit 90, Obj.mk (Value.type "code") none (Data.fields #[Value.str (Str.ofString "give_up") 286, Value.str (Str.ofString "Closing.give_up") 287, Value.str (Str.ofString "/claim/cut.py") 288, Value.int 64 0, Value.int 1 0, Value.int 0 0, Value.int 0 0, Value.int 3 0, Value.ref 85, Value.bool true, Value.int 181 0, Value.ref 86, Value.none, Value.ref 87, Value.ref 88, Value.ref 89, Value.int 290 0, Value.int 64 0, Value.str (Str.ofString "/claim/cut.py") 291]) #[]) ::
    (nat_lit 91, Obj.mk (Value.type "function") none (Data.func (FuncData.mk (Str.ofString "give_up") (Str.ofString "Closing.give_up") a91 (FuncBody.stmts b91) c91 3 [] Value.none Value.none Value.none (Value.str (Str.ofString "quic.closing") 194) none (Value.ref 90) Value.none 0)) #[]) ::
    (nat_lit 92, Obj.mk (Value.type "tuple") none (Data.seq #[]) #[]) ::
    (nat_lit 94, Obj.mk (Value.type "tuple") none (Data.seq #[Value.str (Str.ofString "self") 296]) #[]) ::
    (nat_lit 95, Obj.mk (Value.type "tuple") none (Data.seq #[]) #[]) ::
    (nat_lit 97, Obj.mk (Value.type "code") none (Data.fields #[Value.str (Str.ofString "next_time") 293, Value.str (Str.ofString "Closing.next_time") 294, Value.str (Str.ofString "/claim/cut.py") 295, Value.int 68 0, Value.int 1 0, Value.int 0 0, Value.int 0 0, Value.int 3 0, Value.ref 92, Value.bool true, Value.int 181 0, Value.ref 93, Value.none, Value.ref 94, Value.ref 95, Value.ref 96, Value.int 297 0, Value.int 68 0, Value.str (Str.ofString "/claim/cut.py") 298]) #[]) ::
    (nat_lit 98, Obj.mk (Value.type "function") none (Data.func (FuncData.mk (Str.ofString "next_time") (Str.ofString "Closing.next_time") a98 (FuncBody.stmts b98) c98 3 [] Value.none Value.none Value.none (Value.str (Str.ofString "quic.closing") 194) none (Value.ref 97) Value.none 0)) #[]) ::
    (nat_lit 99, Obj.mk (Value.type "tuple") none (Data.seq #[Value.str (Str.ofString "came") 300, Value.str (Str.ofString "end") 301, Value.str (Str.ofString "frame") 302, Value.str (Str.ofString "next_reply") 303, Value.str (Str.ofString "state") 304]) #[]) ::
    (nat_lit 100, Obj.mk (Value.type "dict") none (Data.dict #[DictEntry.mk (PyData.keyHash P (Str.ofString "__module__")) (Value.str (Str.ofString "__module__") 223) (Value.str (Str.ofString "quic.closing") 194), DictEntry.mk (PyData.keyHash P (Str.ofString "__firstlineno__")) (Value.str (Str.ofString "__firstlineno__") 227) (Value.int 15 226), DictEntry.mk (PyData.keyHash P (Str.ofString "__init__")) (Value.str (Str.ofString "__init__") 234) (Value.ref 42), DictEntry.mk (PyData.keyHash P (Str.ofString "is_open")) (Value.str (Str.ofString "is_open") 241) (Value.ref 49), DictEntry.mk (PyData.keyHash P (Str.ofString "close_now")) (Value.str (Str.ofString "close_now") 251) (Value.ref 56), DictEntry.mk (PyData.keyHash P (Str.ofString "on_close")) (Value.str (Str.ofString "on_close") 261) (Value.ref 63), DictEntry.mk (PyData.keyHash P (Str.ofString "on_reset")) (Value.str (Str.ofString "on_reset") 270) (Value.ref 70), DictEntry.mk (PyData.keyHash P (Str.ofString "on_packet")) (Value.str (Str.ofString "on_packet") 277) (Value.ref 77), DictEntry.mk (PyData.keyHash P (Str.ofString "on_time")) (Value.str (Str.ofString "on_time") 285) (Value.ref 84), DictEntry.mk (PyData.keyHash P (Str.ofString "give_up")) (Value.str (Str.ofString "give_up") 292) (Value.ref 91), DictEntry.mk (PyData.keyHash P (Str.ofString "next_time")) (Value.str (Str.ofString "next_time") 299) (Value.ref 98), DictEntry.mk (PyData.keyHash P (Str.ofString "__static_attributes__")) (Value.str (Str.ofString "__static_attributes__") 305) (Value.ref 99), DictEntry.mk (PyData.keyHash P (Str.ofString "__dict__")) (Value.str (Str.ofString "__dict__") 307) (Value.ref 102), DictEntry.mk (PyData.keyHash P (Str.ofString "__weakref__")) (Value.str (Str.ofString "__weakref__") 309) (Value.ref 103), DictEntry.mk (PyData.keyHash P (Str.ofString "__doc__")) (Value.str (Str.ofString "__doc__") 310) Value.none] 4) #[]) ::
    (nat_lit 101, Obj.mk (Value.type "type") none (Data.cls (ClassData.mk (Str.ofString "Closing") [Value.type "object"] [Value.ref 101, Value.type "object"] 100 (Str.ofString "Closing") true [] [] false none false)) #[none, none, Option.some (Value.str (Str.ofString "Closing") 216), Option.some (Value.str (Str.ofString "Closing") 224), Option.some (Value.builtin "object.__new__"), Option.some (Value.bool true)]) ::
    (nat_lit 102, Obj.mk (Value.type "getset_descriptor") none (Data.fields #[Value.str (Str.ofString "__dict__") 306, Value.ref 101, Value.builtin "function.__dict__", Value.builtin "function.__dict__#set"]) #[]) ::
    (nat_lit 103, Obj.mk (Value.type "getset_descriptor") none (Data.fields #[Value.str (Str.ofString "__weakref__") 308, Value.ref 101, Value.builtin "ExceptionGroup.__weakref__", Value.none]) #[]) ::
    (nat_lit 106, Obj.mk (Value.type "tuple") none (Data.seq #[]) #[]) ::
    (nat_lit 108, Obj.mk (Value.type "tuple") none (Data.seq #[Value.str (Str.ofString "size") 322, Value.str (Str.ofString "token") 323, Value.str (Str.ofString "filler") 324, Value.str (Str.ofString "wanted") 325]) #[]) ::
    (nat_lit 109, Obj.mk (Value.type "tuple") none (Data.seq #[]) #[]) ::
    (nat_lit 111, Obj.mk (Value.type "code") none (Data.fields #[Value.str (Str.ofString "reset_for") 319, Value.str (Str.ofString "reset_for") 320, Value.str (Str.ofString "/claim/cut.py") 321, Value.int 73 0, Value.int 3 0, Value.int 0 0, Value.int 0 0, Value.int 3 0, Value.ref 106, Value.bool true, Value.int 181 0, Value.ref 107, Value.none, Value.ref 108, Value.ref 109, Value.ref 110, Value.int 326 0, Value.int 73 0, Value.str (Str.ofString "/claim/cut.py") 327]) #[]) ::
    (nat_lit 112, Obj.mk (Value.type "function") none (Data.func (FuncData.mk (Str.ofString "reset_for") (Str.ofString "reset_for") a112 (FuncBody.stmts b112) c112 3 [] Value.none Value.none Value.none (Value.str (Str.ofString "quic.closing") 194) none (Value.ref 111) Value.none 0)) #[]) ::
    (nat_lit 113, Obj.mk (Value.type "tuple") none (Data.seq #[]) #[]) ::
    (nat_lit 115, Obj.mk (Value.type "tuple") none (Data.seq #[Value.str (Str.ofString "datagram") 332]) #[]) ::
    (nat_lit 116, Obj.mk (Value.type "tuple") none (Data.seq #[]) #[]) ::
    (nat_lit 118, Obj.mk (Value.type "code") none (Data.fields #[Value.str (Str.ofString "reset_token_in") 329, Value.str (Str.ofString "reset_token_in") 330, Value.str (Str.ofString "/claim/cut.py") 331, Value.int 78 0, Value.int 1 0, Value.int 0 0, Value.int 0 0, Value.int 3 0, Value.ref 113, Value.bool true, Value.int 181 0, Value.ref 114, Value.none, Value.ref 115, Value.ref 116, Value.ref 117, Value.int 333 0, Value.int 78 0, Value.str (Str.ofString "/claim/cut.py") 334]) #[]) ::
    (nat_lit 119, Obj.mk (Value.type "function") none (Data.func (FuncData.mk (Str.ofString "reset_token_in") (Str.ofString "reset_token_in") a119 (FuncBody.stmts b119) c119 3 [] Value.none Value.none Value.none (Value.str (Str.ofString "quic.closing") 194) none (Value.ref 118) Value.none 0)) #[]) ::
    (nat_lit 120, Obj.mk (Value.type "tuple") none (Data.seq #[]) #[]) ::
    (nat_lit 123, Obj.mk (Value.type "code") none (Data.fields #[Value.str (Str.ofString "idle_wait") 340, Value.str (Str.ofString "idle_wait") 341, Value.str (Str.ofString "/claim/cut.py") 342, Value.int 82 0, Value.int 3 0, Value.int 0 0, Value.int 0 0, Value.int 3 0, Value.ref 120, Value.bool true, Value.int 181 0, Value.ref 121, Value.none, Value.none, Value.none, Value.ref 122, Value.int 343 0, Value.int 82 0, Value.str (Str.ofString "/claim/cut.py") 344]) #[]) ::
    (nat_lit 124, Obj.mk (Value.type "function") none (Data.func (FuncData.mk (Str.ofString "idle_wait") (Str.ofString "idle_wait") a124 (FuncBody.stmts b124) c124 3 [] Value.none Value.none Value.none (Value.str (Str.ofString "quic.idle") 336) none (Value.ref 123) Value.none 0)) #[]) ::
    (nat_lit 132, Obj.mk (Value.type "tuple") none (Data.seq #[]) #[]) ::
    (nat_lit 134, Obj.mk (Value.type "tuple") none (Data.seq #[Value.str (Str.ofString "self") 361, Value.str (Str.ofString "own") 362, Value.str (Str.ofString "peer") 363, Value.str (Str.ofString "now") 364]) #[]) ::
    (nat_lit 135, Obj.mk (Value.type "tuple") none (Data.seq #[]) #[]) ::
    (nat_lit 137, Obj.mk (Value.type "code") none (Data.fields #[Value.str (Str.ofString "__init__") 358, Value.str (Str.ofString "Idle.__init__") 359, Value.str (Str.ofString "/claim/cut.py") 360, Value.int 87 0, Value.int 4 0, Value.int 0 0, Value.int 0 0, Value.int 3 0, Value.ref 132, Value.bool true, Value.int 181 0, Value.ref 133, Value.none, Value.ref 134, Value.ref 135, Value.ref 136, Value.int 365 0, Value.int 87 0, Value.str (Str.ofString "/claim/cut.py") 366]) #[]) ::
    (nat_lit 138, Obj.mk (Value.type "function") none (Data.func (FuncData.mk (Str.ofString "__init__") (Str.ofString "Idle.__init__") a138 (FuncBody.stmts b138) c138 3 [] Value.none Value.none Value.none (Value.str (Str.ofString "quic.idle") 336) none (Value.ref 137) Value.none 0)) #[]) ::
    (nat_lit 139, Obj.mk (Value.type "tuple") none (Data.seq #[]) #[]) ::
    (nat_lit 141, Obj.mk (Value.type "tuple") none (Data.seq #[Value.str (Str.ofString "self") 371, Value.str (Str.ofString "peer") 372]) #[]) ::
    (nat_lit 142, Obj.mk (Value.type "tuple") none (Data.seq #[]) #[]) ::
    (nat_lit 144, Obj.mk (Value.type "code") none (Data.fields #[Value.str (Str.ofString "tell_peer") 368, Value.str (Str.ofString "Idle.tell_peer") 369, Value.str (Str.ofString "/claim/cut.py") 370, Value.int 93 0, Value.int 2 0, Value.int 0 0, Value.int 0 0, Value.int 3 0, Value.ref 139, Value.bool true, Value.int 181 0, Value.ref 140, Value.none, Value.ref 141, Value.ref 142, Value.ref 143, Value.int 373 0, Value.int 93 0, Value.str (Str.ofString "/claim/cut.py") 374]) #[]) ::
    (nat_lit 145, Obj.mk (Value.type "function") none (Data.func (FuncData.mk (Str.ofString "tell_peer") (Str.ofString "Idle.tell_peer") a145 (FuncBody.stmts b145) c145 3 [] Value.none Value.none Value.none (Value.str (Str.ofString "quic.idle") 336) none (Value.ref 144) Value.none 0)) #[]) ::
    (nat_lit 146, Obj.mk (Value.type "tuple") none (Data.seq #[]) #[]) ::
    (nat_lit 148, Obj.mk (Value.type "tuple") none (Data.seq #[Value.str (Str.ofString "self") 379, Value.str (Str.ofString "now") 380]) #[]) ::
    (nat_lit 149, Obj.mk (Value.type "tuple") none (Data.seq #[]) #[]) ::
    (nat_lit 151, Obj.mk (Value.type "code") none (Data.fields #[Value.str (Str.ofString "on_received") 376, Value.str (Str.ofString "Idle.on_received") 377, Value.str (Str.ofString "/claim/cut.py") 378, Value.int 96 0, Value.int 2 0, Value.int 0 0, Value.int 0 0, Value.int 3 0, Value.ref 146, Value.bool true, Value.int 181 0, Value.ref 147, Value.none, Value.ref 148, Value.ref 149, Value.ref 150, Value.int 381 0, Value.int 96 0, Value.str (Str.ofString "/claim/cut.py") 382]) #[]) ::
    (nat_lit 152, Obj.mk (Value.type "function") none (Data.func (FuncData.mk (Str.ofString "on_received") (Str.ofString "Idle.on_received") a152 (FuncBody.stmts b152) c152 3 [] Value.none Value.none Value.none (Value.str (Str.ofString "quic.idle") 336) none (Value.ref 151) Value.none 0)) #[]) ::
    (nat_lit 153, Obj.mk (Value.type "tuple") none (Data.seq #[]) #[]) ::
    (nat_lit 155, Obj.mk (Value.type "tuple") none (Data.seq #[Value.str (Str.ofString "self") 387, Value.str (Str.ofString "now") 388, Value.str (Str.ofString "is_eliciting") 389]) #[]) ::
    (nat_lit 156, Obj.mk (Value.type "tuple") none (Data.seq #[]) #[]) ::
    (nat_lit 158, Obj.mk (Value.type "code") none (Data.fields #[Value.str (Str.ofString "on_sent") 384, Value.str (Str.ofString "Idle.on_sent") 385, Value.str (Str.ofString "/claim/cut.py") 386, Value.int 100 0, Value.int 3 0, Value.int 0 0, Value.int 0 0, Value.int 3 0, Value.ref 153, Value.bool true, Value.int 181 0, Value.ref 154, Value.none, Value.ref 155, Value.ref 156, Value.ref 157, Value.int 390 0, Value.int 100 0, Value.str (Str.ofString "/claim/cut.py") 391]) #[]) ::
    (nat_lit 159, Obj.mk (Value.type "function") none (Data.func (FuncData.mk (Str.ofString "on_sent") (Str.ofString "Idle.on_sent") a159 (FuncBody.stmts b159) c159 3 [] Value.none Value.none Value.none (Value.str (Str.ofString "quic.idle") 336) none (Value.ref 158) Value.none 0)) #[]) ::
    (nat_lit 160, Obj.mk (Value.type "tuple") none (Data.seq #[]) #[]) ::
    (nat_lit 162, Obj.mk (Value.type "tuple") none (Data.seq #[Value.str (Str.ofString "self") 396, Value.str (Str.ofString "probe_wait") 397, Value.str (Str.ofString "wait") 398]) #[]) ::
    (nat_lit 163, Obj.mk (Value.type "tuple") none (Data.seq #[]) #[]) ::
    (nat_lit 165, Obj.mk (Value.type "code") none (Data.fields #[Value.str (Str.ofString "deadline") 393, Value.str (Str.ofString "Idle.deadline") 394, Value.str (Str.ofString "/claim/cut.py") 395, Value.int 105 0, Value.int 2 0, Value.int 0 0, Value.int 0 0, Value.int 3 0, Value.ref 160, Value.bool true, Value.int 181 0, Value.ref 161, Value.none, Value.ref 162, Value.ref 163, Value.ref 164, Value.int 399 0, Value.int 105 0, Value.str (Str.ofString "/claim/cut.py") 400]) #[]) ::
    (nat_lit 166, Obj.mk (Value.type "function") none (Data.func (FuncData.mk (Str.ofString "deadline") (Str.ofString "Idle.deadline") a166 (FuncBody.stmts b166) c166 3 [] Value.none Value.none Value.none (Value.str (Str.ofString "quic.idle") 336) none (Value.ref 165) Value.none 0)) #[]) ::
    (nat_lit 167, Obj.mk (Value.type "tuple") none (Data.seq #[]) #[]) ::
    (nat_lit 169, Obj.mk (Value.type "tuple") none (Data.seq #[Value.str (Str.ofString "self") 405, Value.str (Str.ofString "now") 406, Value.str (Str.ofString "probe_wait") 407, Value.str (Str.ofString "end") 408]) #[]) ::
    (nat_lit 170, Obj.mk (Value.type "tuple") none (Data.seq #[]) #[]) ::
    (nat_lit 172, Obj.mk (Value.type "code") none (Data.fields #[Value.str (Str.ofString "is_over") 402, Value.str (Str.ofString "Idle.is_over") 403, Value.str (Str.ofString "/claim/cut.py") 404, Value.int 109 0, Value.int 3 0, Value.int 0 0, Value.int 0 0, Value.int 3 0, Value.ref 167, Value.bool true, Value.int 181 0, Value.ref 168, Value.none, Value.ref 169, Value.ref 170, Value.ref 171, Value.int 409 0, Value.int 109 0, Value.str (Str.ofString "/claim/cut.py") 410]) #[]) ::
    (nat_lit 173, Obj.mk (Value.type "function") none (Data.func (FuncData.mk (Str.ofString "is_over") (Str.ofString "Idle.is_over") a173 (FuncBody.stmts b173) c173 3 [] Value.none Value.none Value.none (Value.str (Str.ofString "quic.idle") 336) none (Value.ref 172) Value.none 0)) #[]) ::
    (nat_lit 174, Obj.mk (Value.type "tuple") none (Data.seq #[]) #[]) ::
    (nat_lit 176, Obj.mk (Value.type "tuple") none (Data.seq #[Value.str (Str.ofString "self") 415, Value.str (Str.ofString "now") 416, Value.str (Str.ofString "probe_wait") 417, Value.str (Str.ofString "reserve") 418, Value.str (Str.ofString "end") 419]) #[]) ::
    (nat_lit 177, Obj.mk (Value.type "tuple") none (Data.seq #[]) #[]) ::
    (nat_lit 179, Obj.mk (Value.type "code") none (Data.fields #[Value.str (Str.ofString "wants_ping") 412, Value.str (Str.ofString "Idle.wants_ping") 413, Value.str (Str.ofString "/claim/cut.py") 414, Value.int 113 0, Value.int 4 0, Value.int 0 0, Value.int 0 0, Value.int 3 0, Value.ref 174, Value.bool true, Value.int 181 0, Value.ref 175, Value.none, Value.ref 176, Value.ref 177, Value.ref 178, Value.int 420 0, Value.int 113 0, Value.str (Str.ofString "/claim/cut.py") 421]) #[]) ::
    (nat_lit 180, Obj.mk (Value.type "function") none (Data.func (FuncData.mk (Str.ofString "wants_ping") (Str.ofString "Idle.wants_ping") a180 (FuncBody.stmts b180) c180 3 [] Value.none Value.none Value.none (Value.str (Str.ofString "quic.idle") 336) none (Value.ref 179) Value.none 0)) #[]) ::
    (nat_lit 181, Obj.mk (Value.type "tuple") none (Data.seq #[Value.str (Str.ofString "has_asked") 423, Value.str (Str.ofString "own") 424, Value.str (Str.ofString "peer") 425, Value.str (Str.ofString "since") 426]) #[]) ::
    (nat_lit 182, Obj.mk (Value.type "dict") none (Data.dict #[DictEntry.mk (PyData.keyHash P (Str.ofString "__module__")) (Value.str (Str.ofString "__module__") 353) (Value.str (Str.ofString "quic.idle") 336), DictEntry.mk (PyData.keyHash P (Str.ofString "__firstlineno__")) (Value.str (Str.ofString "__firstlineno__") 357) (Value.int 85 356), DictEntry.mk (PyData.keyHash P (Str.ofString "__init__")) (Value.str (Str.ofString "__init__") 367) (Value.ref 138), DictEntry.mk (PyData.keyHash P (Str.ofString "tell_peer")) (Value.str (Str.ofString "tell_peer") 375) (Value.ref 145), DictEntry.mk (PyData.keyHash P (Str.ofString "on_received")) (Value.str (Str.ofString "on_received") 383) (Value.ref 152), DictEntry.mk (PyData.keyHash P (Str.ofString "on_sent")) (Value.str (Str.ofString "on_sent") 392) (Value.ref 159), DictEntry.mk (PyData.keyHash P (Str.ofString "deadline")) (Value.str (Str.ofString "deadline") 401) (Value.ref 166), DictEntry.mk (PyData.keyHash P (Str.ofString "is_over")) (Value.str (Str.ofString "is_over") 411) (Value.ref 173), DictEntry.mk (PyData.keyHash P (Str.ofString "wants_ping")) (Value.str (Str.ofString "wants_ping") 422) (Value.ref 180), DictEntry.mk (PyData.keyHash P (Str.ofString "__static_attributes__")) (Value.str (Str.ofString "__static_attributes__") 427) (Value.ref 181), DictEntry.mk (PyData.keyHash P (Str.ofString "__dict__")) (Value.str (Str.ofString "__dict__") 429) (Value.ref 184), DictEntry.mk (PyData.keyHash P (Str.ofString "__weakref__")) (Value.str (Str.ofString "__weakref__") 431) (Value.ref 185), DictEntry.mk (PyData.keyHash P (Str.ofString "__doc__")) (Value.str (Str.ofString "__doc__") 432) Value.none] 4) #[]) ::
    (nat_lit 183, Obj.mk (Value.type "type") none (Data.cls (ClassData.mk (Str.ofString "Idle") [Value.type "object"] [Value.ref 183, Value.type "object"] 182 (Str.ofString "Idle") true [] [] false none false)) #[none, none, Option.some (Value.str (Str.ofString "Idle") 346), Option.some (Value.str (Str.ofString "Idle") 354), Option.some (Value.builtin "object.__new__"), Option.some (Value.bool true)]) ::
    (nat_lit 184, Obj.mk (Value.type "getset_descriptor") none (Data.fields #[Value.str (Str.ofString "__dict__") 428, Value.ref 183, Value.builtin "function.__dict__", Value.builtin "function.__dict__#set"]) #[]) ::
    (nat_lit 185, Obj.mk (Value.type "getset_descriptor") none (Data.fields #[Value.str (Str.ofString "__weakref__") 430, Value.ref 183, Value.builtin "ExceptionGroup.__weakref__", Value.none]) #[]) ::
    (nat_lit 188, Obj.mk (Value.type "tuple") none (Data.seq #[]) #[]) ::
    (nat_lit 190, Obj.mk (Value.type "tuple") none (Data.seq #[Value.str (Str.ofString "pool") 440, Value.str (Str.ofString "many") 441]) #[]) ::
    (nat_lit 191, Obj.mk (Value.type "tuple") none (Data.seq #[]) #[]) ::
    (nat_lit 193, Obj.mk (Value.type "code") none (Data.fields #[Value.str (Str.ofString "_law_draw") 437, Value.str (Str.ofString "_law_draw") 438, Value.str (Str.ofString "/claim/cut.py") 439, Value.int 117 0, Value.int 2 0, Value.int 0 0, Value.int 0 0, Value.int 3 0, Value.ref 188, Value.bool true, Value.int 181 0, Value.ref 189, Value.none, Value.ref 190, Value.ref 191, Value.ref 192, Value.int 442 0, Value.int 117 0, Value.str (Str.ofString "/claim/cut.py") 443]) #[]) ::
    (nat_lit 194, Obj.mk (Value.type "function") none (Data.func (FuncData.mk (Str.ofString "_law_draw") (Str.ofString "_law_draw") a194 (FuncBody.stmts b194) c194 3 [] Value.none Value.none Value.none (Value.str (Str.ofString "law_pf0255_01") 435) none (Value.ref 193) Value.none 0)) #[]) ::
    (nat_lit 195, Obj.mk (Value.type "dict") none (Data.dict #[DictEntry.mk (PyData.keyHash P (Str.ofString "open")) (Value.str (Str.ofString "open") 445) (Value.ref 196), DictEntry.mk (PyData.keyHash P (Str.ofString "closing")) (Value.str (Str.ofString "closing") 466) (Value.ref 202), DictEntry.mk (PyData.keyHash P (Str.ofString "draining")) (Value.str (Str.ofString "draining") 488) (Value.ref 208), DictEntry.mk (PyData.keyHash P (Str.ofString "closed")) (Value.str (Str.ofString "closed") 509) (Value.ref 214)] 4) #[]) ::
    (nat_lit 196, Obj.mk (Value.type "dict") none (Data.dict #[DictEntry.mk (PyData.keyHash P (Str.ofString "close")) (Value.str (Str.ofString "close") 446) (Value.ref 197), DictEntry.mk (PyData.keyHash P (Str.ofString "closed")) (Value.str (Str.ofString "closed") 449) (Value.ref 198), DictEntry.mk (PyData.keyHash P (Str.ofString "reset")) (Value.str (Str.ofString "reset") 452) (Value.ref 199), DictEntry.mk (PyData.keyHash P (Str.ofString "packet")) (Value.str (Str.ofString "packet") 455) (Value.ref 200), DictEntry.mk (PyData.keyHash P (Str.ofString "give up")) (Value.str (Str.ofString "give up") 458) (Value.ref 201)] 5) #[]) ::
    (nat_lit 197, Obj.mk (Value.type "tuple") none (Data.seq #[Value.str (Str.ofString "closing") 447, Value.bool true, Value.str (Str.ofString "now") 448]) #[]) ::
    (nat_lit 198, Obj.mk (Value.type "tuple") none (Data.seq #[Value.str (Str.ofString "draining") 450, Value.bool true, Value.str (Str.ofString "now") 451]) #[]) ::
    (nat_lit 199, Obj.mk (Value.type "tuple") none (Data.seq #[Value.str (Str.ofString "draining") 453, Value.none, Value.str (Str.ofString "now") 454]) #[]) ::
    (nat_lit 200, Obj.mk (Value.type "tuple") none (Data.seq #[Value.str (Str.ofString "open") 456, Value.bool false, Value.str (Str.ofString "kept") 457]) #[]) ::
    (nat_lit 201, Obj.mk (Value.type "tuple") none (Data.seq #[Value.str (Str.ofString "closed") 459, Value.none, Value.str (Str.ofString "none") 460]) #[]) ::
    (nat_lit 202, Obj.mk (Value.type "dict") none (Data.dict #[DictEntry.mk (PyData.keyHash P (Str.ofString "close")) (Value.str (Str.ofString "close") 467) (Value.ref 203), DictEntry.mk (PyData.keyHash P (Str.ofString "closed")) (Value.str (Str.ofString "closed") 470) (Value.ref 204), DictEntry.mk (PyData.keyHash P (Str.ofString "reset")) (Value.str (Str.ofString "reset") 473) (Value.ref 205), DictEntry.mk (PyData.keyHash P (Str.ofString "packet")) (Value.str (Str.ofString "packet") 476) (Value.ref 206), DictEntry.mk (PyData.keyHash P (Str.ofString "give up")) (Value.str (Str.ofString "give up") 480) (Value.ref 207)] 5) #[]) ::
    (nat_lit 203, Obj.mk (Value.type "tuple") none (Data.seq #[Value.str (Str.ofString "closing") 468, Value.bool false, Value.str (Str.ofString "kept") 469]) #[]) ::
    (nat_lit 204, Obj.mk (Value.type "tuple") none (Data.seq #[Value.str (Str.ofString "draining") 471, Value.bool false, Value.str (Str.ofString "kept") 472]) #[]) ::
    (nat_lit 205, Obj.mk (Value.type "tuple") none (Data.seq #[Value.str (Str.ofString "draining") 474, Value.none, Value.str (Str.ofString "kept") 475]) #[]) ::
    (nat_lit 206, Obj.mk (Value.type "tuple") none (Data.seq #[Value.str (Str.ofString "closing") 477, Value.str (Str.ofString "counted") 478, Value.str (Str.ofString "kept") 479]) #[]) ::
    (nat_lit 207, Obj.mk (Value.type "tuple") none (Data.seq #[Value.str (Str.ofString "closed") 481, Value.none, Value.str (Str.ofString "none") 482]) #[]) ::
    (nat_lit 208, Obj.mk (Value.type "dict") none (Data.dict #[DictEntry.mk (PyData.keyHash P (Str.ofString "close")) (Value.str (Str.ofString "close") 489) (Value.ref 209), DictEntry.mk (PyData.keyHash P (Str.ofString "closed")) (Value.str (Str.ofString "closed") 492) (Value.ref 210), DictEntry.mk (PyData.keyHash P (Str.ofString "reset")) (Value.str (Str.ofString "reset") 495) (Value.ref 211), DictEntry.mk (PyData.keyHash P (Str.ofString "packet")) (Value.str (Str.ofString "packet") 498) (Value.ref 212), DictEntry.mk (PyData.keyHash P (Str.ofString "give up")) (Value.str (Str.ofString "give up") 501) (Value.ref 213)] 5) #[]) ::
    (nat_lit 209, Obj.mk (Value.type "tuple") none (Data.seq #[Value.str (Str.ofString "draining") 490, Value.bool false, Value.str (Str.ofString "kept") 491]) #[]) ::
    (nat_lit 210, Obj.mk (Value.type "tuple") none (Data.seq #[Value.str (Str.ofString "draining") 493, Value.bool false, Value.str (Str.ofString "kept") 494]) #[]) ::
    (nat_lit 211, Obj.mk (Value.type "tuple") none (Data.seq #[Value.str (Str.ofString "draining") 496, Value.none, Value.str (Str.ofString "kept") 497]) #[]) ::
    (nat_lit 212, Obj.mk (Value.type "tuple") none (Data.seq #[Value.str (Str.ofString "draining") 499, Value.bool false, Value.str (Str.ofString "kept") 500]) #[]) ::
    (nat_lit 213, Obj.mk (Value.type "tuple") none (Data.seq #[Value.str (Str.ofString "closed") 502, Value.none, Value.str (Str.ofString "none") 503]) #[]) ::
    (nat_lit 214, Obj.mk (Value.type "dict") none (Data.dict #[DictEntry.mk (PyData.keyHash P (Str.ofString "close")) (Value.str (Str.ofString "close") 510) (Value.ref 215), DictEntry.mk (PyData.keyHash P (Str.ofString "closed")) (Value.str (Str.ofString "closed") 513) (Value.ref 216), DictEntry.mk (PyData.keyHash P (Str.ofString "reset")) (Value.str (Str.ofString "reset") 516) (Value.ref 217), DictEntry.mk (PyData.keyHash P (Str.ofString "packet")) (Value.str (Str.ofString "packet") 519) (Value.ref 218), DictEntry.mk (PyData.keyHash P (Str.ofString "give up")) (Value.str (Str.ofString "give up") 522) (Value.ref 219)] 5) #[]) ::
    (nat_lit 215, Obj.mk (Value.type "tuple") none (Data.seq #[Value.str (Str.ofString "closed") 511, Value.bool false, Value.str (Str.ofString "kept") 512]) #[]) ::
    (nat_lit 216, Obj.mk (Value.type "tuple") none (Data.seq #[Value.str (Str.ofString "closed") 514, Value.bool false, Value.str (Str.ofString "kept") 515]) #[]) ::
    (nat_lit 217, Obj.mk (Value.type "tuple") none (Data.seq #[Value.str (Str.ofString "closed") 517, Value.none, Value.str (Str.ofString "kept") 518]) #[]) ::
    (nat_lit 218, Obj.mk (Value.type "tuple") none (Data.seq #[Value.str (Str.ofString "closed") 520, Value.bool false, Value.str (Str.ofString "kept") 521]) #[]) ::
    (nat_lit 219, Obj.mk (Value.type "tuple") none (Data.seq #[Value.str (Str.ofString "closed") 523, Value.none, Value.str (Str.ofString "none") 524]) #[]) ::
    (nat_lit 220, Obj.mk (Value.type "tuple") none (Data.seq #[]) #[]) ::
    (nat_lit 222, Obj.mk (Value.type "tuple") none (Data.seq #[Value.str (Str.ofString "closing") 538, Value.str (Str.ofString "world") 539, Value.str (Str.ofString "word") 540, Value.str (Str.ofString "state") 541, Value.str (Str.ofString "is_sent") 542, Value.str (Str.ofString "how") 543, Value.str (Str.ofString "told") 544]) #[]) ::
    (nat_lit 223, Obj.mk (Value.type "tuple") none (Data.seq #[]) #[]) ::
    (nat_lit 225, Obj.mk (Value.type "code") none (Data.fields #[Value.str (Str.ofString "_law_deed") 535, Value.str (Str.ofString "_law_deed") 536, Value.str (Str.ofString "/claim/cut.py") 537, Value.int 123 0, Value.int 3 0, Value.int 0 0, Value.int 0 0, Value.int 3 0, Value.ref 220, Value.bool true, Value.int 181 0, Value.ref 221, Value.none, Value.ref 222, Value.ref 223, Value.ref 224, Value.int 545 0, Value.int 123 0, Value.str (Str.ofString "/claim/cut.py") 546]) #[]) ::
    (nat_lit 226, Obj.mk (Value.type "function") none (Data.func (FuncData.mk (Str.ofString "_law_deed") (Str.ofString "_law_deed") a226 (FuncBody.stmts b226) c226 3 [] Value.none Value.none Value.none (Value.str (Str.ofString "law_pf0255_01") 435) none (Value.ref 225) Value.none 0)) #[]) ::
    (nat_lit 227, Obj.mk (Value.type "tuple") none (Data.seq #[]) #[]) ::
    (nat_lit 229, Obj.mk (Value.type "tuple") none (Data.seq #[Value.str (Str.ofString "closing") 551, Value.str (Str.ofString "world") 552, Value.str (Str.ofString "spot") 553]) #[]) ::
    (nat_lit 230, Obj.mk (Value.type "tuple") none (Data.seq #[]) #[]) ::
    (nat_lit 232, Obj.mk (Value.type "code") none (Data.fields #[Value.str (Str.ofString "_law_time") 548, Value.str (Str.ofString "_law_time") 549, Value.str (Str.ofString "/claim/cut.py") 550, Value.int 143 0, Value.int 3 0, Value.int 0 0, Value.int 0 0, Value.int 3 0, Value.ref 227, Value.bool true, Value.int 181 0, Value.ref 228, Value.none, Value.ref 229, Value.ref 230, Value.ref 231, Value.int 554 0, Value.int 143 0, Value.str (Str.ofString "/claim/cut.py") 555]) #[]) ::
    (nat_lit 233, Obj.mk (Value.type "function") none (Data.func (FuncData.mk (Str.ofString "_law_time") (Str.ofString "_law_time") a233 (FuncBody.stmts b233) c233 3 [] Value.none Value.none Value.none (Value.str (Str.ofString "law_pf0255_01") 435) none (Value.ref 232) Value.none 0)) #[]) ::
    (nat_lit 234, Obj.mk (Value.type "tuple") none (Data.seq #[]) #[]) ::
    (nat_lit 236, Obj.mk (Value.type "tuple") none (Data.seq #[Value.str (Str.ofString "pool") 560, Value.str (Str.ofString "closing") 561, Value.str (Str.ofString "world") 562, Value.str (Str.ofString "turn") 563, Value.str (Str.ofString "form") 564, Value.str (Str.ofString "words") 565]) #[]) ::
    (nat_lit 237, Obj.mk (Value.type "tuple") none (Data.seq #[]) #[]) ::
    (nat_lit 239, Obj.mk (Value.type "code") none (Data.fields #[Value.str (Str.ofString "_law_end_right") 557, Value.str (Str.ofString "_law_end_right") 558, Value.str (Str.ofString "/claim/cut.py") 559, Value.int 148 0, Value.int 1 0, Value.int 0 0, Value.int 0 0, Value.int 3 0, Value.ref 234, Value.bool true, Value.int 181 0, Value.ref 235, Value.none, Value.ref 236, Value.ref 237, Value.ref 238, Value.int 566 0, Value.int 148 0, Value.str (Str.ofString "/claim/cut.py") 567]) #[]) ::
    (nat_lit 240, Obj.mk (Value.type "function") none (Data.func (FuncData.mk (Str.ofString "_law_end_right") (Str.ofString "_law_end_right") a240 (FuncBody.stmts b240) c240 3 [] Value.none Value.none Value.none (Value.str (Str.ofString "law_pf0255_01") 435) none (Value.ref 239) Value.none 0)) #[]) ::
    (nat_lit 241, Obj.mk (Value.type "tuple") none (Data.seq #[]) #[]) ::
    (nat_lit 243, Obj.mk (Value.type "tuple") none (Data.seq #[Value.str (Str.ofString "pool") 572, Value.str (Str.ofString "size") 573, Value.str (Str.ofString "token") 574, Value.str (Str.ofString "wide") 575, Value.str (Str.ofString "filler") 576, Value.str (Str.ofString "told") 577]) #[]) ::
    (nat_lit 244, Obj.mk (Value.type "tuple") none (Data.seq #[]) #[]) ::
    (nat_lit 246, Obj.mk (Value.type "code") none (Data.fields #[Value.str (Str.ofString "_law_reset_right") 569, Value.str (Str.ofString "_law_reset_right") 570, Value.str (Str.ofString "/claim/cut.py") 571, Value.int 163 0, Value.int 1 0, Value.int 0 0, Value.int 0 0, Value.int 3 0, Value.ref 241, Value.bool true, Value.int 181 0, Value.ref 242, Value.none, Value.ref 243, Value.ref 244, Value.ref 245, Value.int 578 0, Value.int 163 0, Value.str (Str.ofString "/claim/cut.py") 579]) #[]) ::
    (nat_lit 247, Obj.mk (Value.type "function") none (Data.func (FuncData.mk (Str.ofString "_law_reset_right") (Str.ofString "_law_reset_right") a247 (FuncBody.stmts b247) c247 3 [] Value.none Value.none Value.none (Value.str (Str.ofString "law_pf0255_01") 435) none (Value.ref 246) Value.none 0)) #[]) ::
    (nat_lit 248, Obj.mk (Value.type "tuple") none (Data.seq #[]) #[]) ::
    (nat_lit 250, Obj.mk (Value.type "tuple") none (Data.seq #[Value.str (Str.ofString "pool") 584, Value.str (Str.ofString "code") 585, Value.str (Str.ofString "kind") 586, Value.str (Str.ofString "due") 587, Value.str (Str.ofString "octets") 588, Value.str (Str.ofString "many") 589, Value.str (Str.ofString "some") 590]) #[]) ::
    (nat_lit 251, Obj.mk (Value.type "tuple") none (Data.seq #[]) #[]) ::
    (nat_lit 253, Obj.mk (Value.type "code") none (Data.fields #[Value.str (Str.ofString "_law_frames_right") 581, Value.str (Str.ofString "_law_frames_right") 582, Value.str (Str.ofString "/claim/cut.py") 583, Value.int 173 0, Value.int 1 0, Value.int 0 0, Value.int 0 0, Value.int 3 0, Value.ref 248, Value.bool true, Value.int 181 0, Value.ref 249, Value.none, Value.ref 250, Value.ref 251, Value.ref 252, Value.int 591 0, Value.int 173 0, Value.str (Str.ofString "/claim/cut.py") 592]) #[]) ::
    (nat_lit 254, Obj.mk (Value.type "function") none (Data.func (FuncData.mk (Str.ofString "_law_frames_right") (Str.ofString "_law_frames_right") a254 (FuncBody.stmts b254) c254 3 [] Value.none Value.none Value.none (Value.str (Str.ofString "law_pf0255_01") 435) none (Value.ref 253) Value.none 0)) #[]) ::
    (nat_lit 255, Obj.mk (Value.type "tuple") none (Data.seq #[]) #[]) ::
    (nat_lit 258, Obj.mk (Value.type "code") none (Data.fields #[Value.str (Str.ofString "_law_idle_right") 594, Value.str (Str.ofString "_law_idle_right") 595, Value.str (Str.ofString "/claim/cut.py") 596, Value.int 187 0, Value.int 1 0, Value.int 0 0, Value.int 0 0, Value.int 3 0, Value.ref 255, Value.bool true, Value.int 181 0, Value.ref 256, Value.none, Value.none, Value.none, Value.ref 257, Value.int 597 0, Value.int 187 0, Value.str (Str.ofString "/claim/cut.py") 598]) #[]) ::
    (nat_lit 259, Obj.mk (Value.type "function") none (Data.func (FuncData.mk (Str.ofString "_law_idle_right") (Str.ofString "_law_idle_right") a259 (FuncBody.stmts b259) c259 3 [] Value.none Value.none Value.none (Value.str (Str.ofString "law_pf0255_01") 435) none (Value.ref 258) Value.none 0)) #[]) ::
    (nat_lit 260, Obj.mk (Value.type "tuple") none (Data.seq #[]) #[]) ::
    (nat_lit 263, Obj.mk (Value.type "code") none (Data.fields #[Value.str (Str.ofString "law") 600, Value.str (Str.ofString "law") 601, Value.str (Str.ofString "/claim/cut.py") 602, Value.int 211 0, Value.int 1 0, Value.int 0 0, Value.int 0 0, Value.int 3 0, Value.ref 260, Value.bool true, Value.int 181 0, Value.ref 261, Value.none, Value.none, Value.none, Value.ref 262, Value.int 603 0, Value.int 211 0, Value.str (Str.ofString "/claim/cut.py") 604]) #[]) ::
    (nat_lit 264, Obj.mk (Value.type "function") none (Data.func (FuncData.mk (Str.ofString "law") (Str.ofString "law") a264 (FuncBody.stmts b264) c264 3 [] Value.none Value.none Value.none (Value.str (Str.ofString "law_pf0255_01") 435) none (Value.ref 263) Value.none 0)) #[]) :: [] : List (Nat × Obj))
noncomputable def view : Program := by
  refine' (?f : (s0 : Stmt) → stAt topB 0 = s0 → (s2 : Stmt) → stAt topB 2 = s2 → (s3 : Stmt) → stAt topB 3 = s3 → (s4 : Stmt) → stAt topB 4 = s4 → (s5 : Stmt) → stAt topB 5 = s5 → (s6 : Stmt) → stAt topB 6 = s6 → (s7 : Stmt) → stAt topB 7 = s7 → (s8 : Stmt) → stAt topB 8 = s8 → (s9 : Stmt) → stAt topB 9 = s9 → (s10 : Stmt) → stAt topB 10 = s10 → (s11 : Stmt) → stAt topB 11 = s11 → (s12 : Stmt) → stAt topB 12 = s12 → (s13 : Stmt) → stAt topB 13 = s13 → (s14 : Stmt) → stAt topB 14 = s14 → (s16 : Stmt) → stAt topB 16 = s16 → (s17 : Stmt) → stAt topB 17 = s17 → (s18 : Stmt) → stAt topB 18 = s18 → (s20 : Stmt) → stAt topB 20 = s20 → (s21 : Stmt) → stAt topB 21 = s21 → (s22 : Stmt) → stAt topB 22 = s22 → (s23 : Stmt) → stAt topB 23 = s23 → (s24 : Stmt) → stAt topB 24 = s24 → (s25 : Stmt) → stAt topB 25 = s25 → (s26 : Stmt) → stAt topB 26 = s26 → (s27 : Stmt) → stAt topB 27 = s27 → (s28 : Stmt) → stAt topB 28 = s28 → Program) _ ?s0 _ ?s2 _ ?s3 _ ?s4 _ ?s5 _ ?s6 _ ?s7 _ ?s8 _ ?s9 _ ?s10 _ ?s11 _ ?s12 _ ?s13 _ ?s14 _ ?s16 _ ?s17 _ ?s18 _ ?s20 _ ?s21 _ ?s22 _ ?s23 _ ?s24 _ ?s25 _ ?s26 _ ?s27 _ ?s28
  case s0 => conv => lhs; whnf
  case s2 => conv => lhs; whnf
  case s3 => conv => lhs; whnf
  case s4 => conv => lhs; whnf
  case s5 => conv => lhs; whnf
  case s6 => conv => lhs; whnf
  case s7 => conv => lhs; whnf
  case s8 => conv => lhs; whnf
  case s9 => conv => lhs; whnf
  case s10 => conv => lhs; whnf
  case s11 => conv => lhs; whnf
  case s12 => conv => lhs; whnf
  case s13 => conv => lhs; whnf
  case s14 => conv => lhs; whnf
  case s16 => conv => lhs; whnf
  case s17 => conv => lhs; whnf
  case s18 => conv => lhs; whnf
  case s20 => conv => lhs; whnf
  case s21 => conv => lhs; whnf
  case s22 => conv => lhs; whnf
  case s23 => conv => lhs; whnf
  case s24 => conv => lhs; whnf
  case s25 => conv => lhs; whnf
  case s26 => conv => lhs; whnf
  case s27 => conv => lhs; whnf
  case s28 => conv => lhs; whnf
  case f => exact fun s0 _ s2 _ s3 _ s4 _ s5 _ s6 _ s7 _ s8 _ s9 _ s10 _ s11 _ s12 _ s13 _ s14 _ s16 _ s17 _ s18 _ s20 _ s21 _ s22 _ s23 _ s24 _ s25 _ s26 _ s27 _ s28 _ => { PySem.Challenge.rw_pf0255_01.row.toRowW.1 with main := { PySem.Challenge.rw_pf0255_01.row.toRowW.1.main with body := [s0, s2, s3, s4, s5, s6, s7, s8, s9, s10, s11, s12, s13, s14, s16, s17, s18, s20, s21, s22, s23, s24, s25, s26, s27, s28] } }
abbrev asK : List Nat := nat_lit 2 :: nat_lit 3 :: nat_lit 15 :: nat_lit 17 :: nat_lit 18 :: nat_lit 20 :: nat_lit 21 :: nat_lit 22 :: nat_lit 24 :: nat_lit 25 :: nat_lit 27 :: nat_lit 28 :: nat_lit 36 :: nat_lit 38 :: nat_lit 39 :: nat_lit 41 :: nat_lit 42 :: nat_lit 43 :: nat_lit 45 :: nat_lit 46 :: nat_lit 48 :: nat_lit 49 :: nat_lit 50 :: nat_lit 52 :: nat_lit 53 :: nat_lit 55 :: nat_lit 56 :: nat_lit 57 :: nat_lit 59 :: nat_lit 60 :: nat_lit 62 :: nat_lit 63 :: nat_lit 64 :: nat_lit 66 :: nat_lit 67 :: nat_lit 69 :: nat_lit 70 :: nat_lit 71 :: nat_lit 73 :: nat_lit 74 :: nat_lit 76 :: nat_lit 77 :: nat_lit 78 :: nat_lit 80 :: nat_lit 81 :: nat_lit 83 :: nat_lit 84 :: nat_lit 85 :: nat_lit 87 :: nat_lit 88 :: nat_lit 90 :: nat_lit 91 :: nat_lit 92 :: nat_lit 94 :: nat_lit 95 :: nat_lit 97 :: nat_lit 98 :: nat_lit 99 :: nat_lit 100 :: nat_lit 101 :: nat_lit 102 :: nat_lit 103 :: nat_lit 106 :: nat_lit 108 :: nat_lit 109 :: nat_lit 111 :: nat_lit 112 :: nat_lit 113 :: nat_lit 115 :: nat_lit 116 :: nat_lit 118 :: nat_lit 119 :: nat_lit 120 :: nat_lit 123 :: nat_lit 124 :: nat_lit 132 :: nat_lit 134 :: nat_lit 135 :: nat_lit 137 :: nat_lit 138 :: nat_lit 139 :: nat_lit 141 :: nat_lit 142 :: nat_lit 144 :: nat_lit 145 :: nat_lit 146 :: nat_lit 148 :: nat_lit 149 :: nat_lit 151 :: nat_lit 152 :: nat_lit 153 :: nat_lit 155 :: nat_lit 156 :: nat_lit 158 :: nat_lit 159 :: nat_lit 160 :: nat_lit 162 :: nat_lit 163 :: nat_lit 165 :: nat_lit 166 :: nat_lit 167 :: nat_lit 169 :: nat_lit 170 :: nat_lit 172 :: nat_lit 173 :: nat_lit 174 :: nat_lit 176 :: nat_lit 177 :: nat_lit 179 :: nat_lit 180 :: nat_lit 181 :: nat_lit 182 :: nat_lit 183 :: nat_lit 184 :: nat_lit 185 :: nat_lit 188 :: nat_lit 190 :: nat_lit 191 :: nat_lit 193 :: nat_lit 194 :: nat_lit 195 :: nat_lit 196 :: nat_lit 197 :: nat_lit 198 :: nat_lit 199 :: nat_lit 200 :: nat_lit 201 :: nat_lit 202 :: nat_lit 203 :: nat_lit 204 :: nat_lit 205 :: nat_lit 206 :: nat_lit 207 :: nat_lit 208 :: nat_lit 209 :: nat_lit 210 :: nat_lit 211 :: nat_lit 212 :: nat_lit 213 :: nat_lit 214 :: nat_lit 215 :: nat_lit 216 :: nat_lit 217 :: nat_lit 218 :: nat_lit 219 :: nat_lit 220 :: nat_lit 222 :: nat_lit 223 :: nat_lit 225 :: nat_lit 226 :: nat_lit 227 :: nat_lit 229 :: nat_lit 230 :: nat_lit 232 :: nat_lit 233 :: nat_lit 234 :: nat_lit 236 :: nat_lit 237 :: nat_lit 239 :: nat_lit 240 :: nat_lit 241 :: nat_lit 243 :: nat_lit 244 :: nat_lit 246 :: nat_lit 247 :: nat_lit 248 :: nat_lit 250 :: nat_lit 251 :: nat_lit 253 :: nat_lit 254 :: nat_lit 255 :: nat_lit 258 :: nat_lit 259 :: nat_lit 260 :: nat_lit 263 :: nat_lit 264 :: []
theorem asK_is : ∀ P, asK = (K P).map (·.1) := fun _ => by kernel_rfl
noncomputable abbrev H : Hook := kHook K asK asK_is
theorem side_f : ∀ w : World, (openEnds treeTable PySem.Challenge.rw_pf0255_01.row.prog (w.withFollow "special-get-raises" false) 3840).map (fun s => (openSeen view [PySem.Str.ofString "_law_table"] (importedModules PySem.Challenge.rw_pf0255_01.row.prog.main.body) (fun s => xlAt view [] s && recOk PySem.Challenge.rw_pf0255_01.row.records s) true s, asK.map s.heap.get?)) =
    some (openGood view [PySem.Str.ofString "_law_table"], (K (w.withFollow "special-get-raises" false).params).map fun p => some p.2) := by
  intro w
  unfold openEnds
  delta topFrom
  rw [PySem.W.Fast.te4187177175401517315, PySem.W.Fast.te5923862056798008813, PySem.W.Fast.te2368527892694137696, PySem.W.R.mapR_eq, PySem.W.Fast.te14364793385576792824, PySem.W.Fast.te14082659384304107361, PySem.W.Fast.te8920871248978507458]
  kernel_rfl
theorem side_t : ∀ w : World, (openEnds treeTable PySem.Challenge.rw_pf0255_01.row.prog (w.withFollow "special-get-raises" true) 3840).map (fun s => (openSeen view [PySem.Str.ofString "_law_table"] (importedModules PySem.Challenge.rw_pf0255_01.row.prog.main.body) (fun s => xlAt view [] s && recOk PySem.Challenge.rw_pf0255_01.row.records s) true s, asK.map s.heap.get?)) =
    some (openGood view [PySem.Str.ofString "_law_table"], (K (w.withFollow "special-get-raises" true).params).map fun p => some p.2) := by
  intro w
  unfold openEnds
  delta topFrom
  rw [PySem.W.Fast.te4187177175401517315, PySem.W.Fast.te5923862056798008813, PySem.W.Fast.te2368527892694137696, PySem.W.R.mapR_eq, PySem.W.Fast.te14364793385576792824, PySem.W.Fast.te14082659384304107361, PySem.W.Fast.te8920871248978507458]
  kernel_rfl
theorem left : LeftO PySem.Challenge.rw_pf0255_01.row.prog view [PySem.Str.ofString "_law_table"] (fun s => xlAt view [] s && recOk PySem.Challenge.rw_pf0255_01.row.records s) (Hook.obs H) (Hook.val H) 3840 := fun w =>
  byRow2 "special-get-raises" (P := fun w => (openEnds treeTable PySem.Challenge.rw_pf0255_01.row.prog w 3840).map (fun s => (openSeen view [PySem.Str.ofString "_law_table"] (importedModules PySem.Challenge.rw_pf0255_01.row.prog.main.body) (fun s => xlAt view [] s && recOk PySem.Challenge.rw_pf0255_01.row.records s) true s, asK.map s.heap.get?)) =
    some (openGood view [PySem.Str.ofString "_law_table"], (K w.params).map fun p => some p.2)) side_f side_t w
theorem said : PySem.Challenge.rw_pf0255_01.wellSaid = true := by
  rw [PySem.W.Fast.te9446332074065402090]
  kernel_rfl
theorem okk : (chainsOk view && opensWell PySem.Challenge.rw_pf0255_01.row.prog && (frees PySem.Challenge.rw_pf0255_01.row.toRowW && PySem.Challenge.rw_pf0255_01.row.within.isEmpty)) = true := by
  decide +kernel
end
section
example : PySem.Challenge.rw_pf0255_01 = PySem.Challenge.rw_pf0255_01 ∧ Mine.K = Mine.K := by k_fill; exact ⟨rfl, rfl⟩
variable {prog : Program} {w : World} {p : Program} {loose : List PySem.Str} {mean : ExcName → Option Value} {mg mb : PySem.Str → Option Value}
    {dp un : Nat} {gd : Option (List Code)} {cn : PySem.Str} {cs : Scope} {a : Addr} {ccd : Value} {cl : List (PySem.Str × Addr)} {outer : List Env} {A₀ : Around} {base h₀ : Heap} {L : Addr} {m : PySem.Str → Option Value} {s : Shared} {Q E : Value → Shared → Prop}
theorem upd_of {d : Addr} {o : Obj} {l : List (Addr × Obj)} {g : Obj → List (Addr × Obj)} (U : UpdF d o l g) :
    ∃ rest : List (Addr × Obj), (∀ x ∈ rest, x.1 ≠ d) ∧ (∀ x ∈ (d, o) :: rest, x ∈ l) ∧ (∀ x ∈ l, x ≠ (d, o) → x ∈ rest) ∧ ∀ o', ∀ x ∈ g o', x ∈ (d, o') :: rest := by
  obtain ⟨pre, post, rfl, hg, a, b⟩ := U.split
  refine ⟨pre ++ post, ?_, ?_, ?_, ?_⟩
  · intro x hx
    rcases List.mem_append.mp hx with h | h
    · exact a x h
    · exact b x h
  · intro x hx
    rcases List.mem_cons.mp hx with rfl | h
    · simp
    · rcases List.mem_append.mp h with h | h <;> simp [h]
  · intro x hx hne
    rcases List.mem_append.mp hx with h | h
    · simp [h]
    · rcases List.mem_cons.mp h with rfl | h
      · exact absurd rfl hne
      · simp [h]
  · intro o' x hx
    rw [hg] at hx
    rcases List.mem_append.mp hx with h | h
    · simp [h]
    · rcases List.mem_cons.mp h with rfl | h <;> simp_all
section
theorem draw_core {P I : Addr} {k : Int} {tk : Tok} {vs : List Value} {ns : List Int} {n1 n2 : Nat} {rest : List (Addr × Obj)} {many : Int} {tm : Tok}
    (B : Below A₀ base outer h₀) (F : Fr h₀ L s.heap m) (X : (Mine.K w.params).In h₀)
    (N : News h₀ L s.heap ((P, listOf #[.ref I, .int k tk] n1) :: (I, listOf vs.toArray n2) :: rest)) (T : Top p loose mean mg mb h₀) (hk : cs.kind = .function)
    (hI : IntsAre vs ns) (hl : ns.length ≤ 63) (hPI : @Ne Nat P I) (hr : ∀ x ∈ rest, x.1 ≠ P) (hk0 : 0 ≤ k) (hk1 : k < 1000) (hm0 : 1 ≤ many) (hm1 : many < 1000)
    (hdp : dp + 1 < recursionLimit) (hu : un + 8 < cLine)
    (hret : ∀ (v : Int) (t : Tok) (tk₂ : Tok) (h' : Heap) (tk' : Nat), 0 ≤ v → v < many → Fr h₀ L h' m → News h₀ L h' ((P, listOf #[.ref I, .int (k+1) tk₂] n1) :: (I, listOf vs.toArray n2) :: rest) → Q (.int v t) { s with heap := h', toks := tk' }) :
    wpAny (model prog w) (ktrTop dp un gd cn cs L a ccd cl outer) (call (.ref 194) [.ref P, .int many tm]) Q E s := by
  refine wpAny_call ?_
  k_dflt cell_enter
  k_steps
  all_goals (refine hret _ _ _ _ _ (Int.fmod_nonneg_of_pos _ (by omega)) (Int.fmod_lt_of_pos _ (by omega)) (by k_asm) (by k_asm))
end
theorem draw_spec {P I : Addr} {k : Int} {tk : Tok} {vs : List Value} {ns : List Int} {n1 n2 : Nat} {news : List (Addr × Obj)} {g : Obj → List (Addr × Obj)} {many : Int} {tm : Tok}
    (B : Below A₀ base outer h₀) (F : Fr h₀ L s.heap m) (X : (Mine.K w.params).In h₀)
    (N : News h₀ L s.heap news) (U : UpdF P (listOf #[.ref I, .int k tk] n1) news g) (hm : (I, listOf vs.toArray n2) ∈ news) (T : Top p loose mean mg mb h₀) (hk : cs.kind = .function)
    (hI : IntsAre vs ns) (hl : ns.length ≤ 63) (hPI : @Ne Nat P I) (hk0 : 0 ≤ k) (hk1 : k < 1000) (hm0 : 1 ≤ many) (hm1 : many < 1000)
    (hdp : dp + 1 < recursionLimit) (hu : un + 8 < cLine)
    (hret : ∀ (v : Int) (t : Tok) (tk₂ : Tok) (h' : Heap) (tk' : Nat), 0 ≤ v → v < many → Fr h₀ L h' m → News h₀ L h' (g (listOf #[.ref I, .int (k+1) tk₂] n1)) → Q (.int v t) { s with heap := h', toks := tk' }) :
    wpAny (model prog w) (ktrTop dp un gd cn cs L a ccd cl outer) (call (.ref 194) [.ref P, .int many tm]) Q E s := by
  obtain ⟨rest, h1, h2, h3, h4⟩ := upd_of U
  refine draw_core (rest := rest) (n1 := n1) (n2 := n2) (tk := tk) B F X (fun x hx => ?_) T hk hI hl hPI h1 hk0 hk1 hm0 hm1 hdp hu fun v t tk₂ h' tk' a b F' N' => hret v t tk₂ h' tk' a b F' fun x hx => ?_
  · rcases List.mem_cons.mp hx with rfl | hx
    · exact N _ (h2 _ (.head _))
    · rcases List.mem_cons.mp hx with rfl | hx
      · exact N _ hm
      · exact N _ (h2 _ (.tail _ hx))
  · rcases List.mem_cons.mp (h4 _ x hx) with rfl | hx
    · exact N' _ (.head _)
    · exact N' _ (.tail _ (.tail _ hx))
end
section
section
abbrev dC (w : World) (k1 k2 k3 k4 k5 : Tok) (σ : PySem.Str) (t1 : Tok) (fv ev : Value) (c : Int) (tc : Tok) (nr : Int) (tr : Tok) : Obj :=
  dictOf [⟨PyData.keyHash w.params (Str.ofString "state"), .str (Str.ofString "state") k1, .str σ t1⟩,
    ⟨PyData.keyHash w.params (Str.ofString "frame"), .str (Str.ofString "frame") k2, fv⟩,
    ⟨PyData.keyHash w.params (Str.ofString "end"), .str (Str.ofString "end") k3, ev⟩,
    ⟨PyData.keyHash w.params (Str.ofString "came"), .str (Str.ofString "came") k4, .int c tc⟩,
    ⟨PyData.keyHash w.params (Str.ofString "next_reply"), .str (Str.ofString "next_reply") k5, .int nr tr⟩] 5
abbrev pW (σ : PySem.Str) (t : Tok) (ev : Value) (c : Int) (tc : Tok) (now : Int) (tn : Tok) : List (PySem.Str × Value) :=
  [(Str.ofString "state", .str σ t), (Str.ofString "end", ev), (Str.ofString "came", .int c tc), (Str.ofString "now", .int now tn)]
def EndR (v1 v2 : Value) : Prop := (v1 = .none ∧ v2 = .none) ∨ ∃ e t t', v1 = .int e t ∧ v2 = .int e t'
def RN (c nr : Int) : Prop := (c = 0 ∧ nr = 1) ∨ (c = 1 ∧ nr = 2) ∨ (2 ≤ c ∧ c < 4 ∧ nr = 4) ∨ (4 ≤ c ∧ c < 8 ∧ nr = 8) ∨ (8 ≤ c ∧ c < 16 ∧ nr = 16) ∨ (16 ≤ c ∧ c < 32 ∧ nr = 32)
def StateIs (σ : PySem.Str) : Prop := σ = Str.ofString "open" ∨ σ = Str.ofString "closing" ∨ σ = Str.ofString "draining" ∨ σ = Str.ofString "closed"
abbrev DeedClaim (σ word : PySem.Str) : Prop :=
  ∀ {prog : Program} {w : World} {p : Program} {loose : List PySem.Str} {mean : ExcName → Option Value} {mg mb : PySem.Str → Option Value}
    {dp un : Nat} {gd : Option (List Code)} {cn : PySem.Str} {cs : Scope} {a : Addr} {ccd : Value} {cl : List (PySem.Str × Addr)} {outer : List Env} {A₀ : Around} {base h₀ : Heap} {L : Addr} {m : PySem.Str → Option Value} {s : Shared} {Q E : Value → Shared → Prop}
    {C D W : Addr} {k1 k2 k3 k4 k5 t1 tc tr : Tok} {fv ev ev2 : Value} {c nr : Int} {t2 tc2 tn tw : Tok} {now : Int} {oW : Obj} {rest : List (Addr × Obj)}
    (_ : Below A₀ base outer h₀) (_ : Fr h₀ L s.heap m) (_ : (Mine.K w.params).In h₀)
    (_ : News h₀ L s.heap ((C, instObj 101 D) :: (D, dC w k1 k2 k3 k4 k5 σ t1 fv ev c tc nr tr) :: (W, oW) :: rest)) (_ : Top p loose mean mg mb h₀) (_ : cs.kind = .function)
    (_ : oW.IsDictOf (strKind prog w) (pW σ t2 ev2 c tc2 now tn))
    (_ : @Ne Nat C D) (_ : @Ne Nat C W) (_ : @Ne Nat D W) (_ : ∀ x ∈ rest, x.1 ≠ D) (_ : ∀ x ∈ rest, x.1 ≠ W) (_ : 0 ≤ c) (_ : c < 31) (_ : RN c nr) (_ : EndR ev ev2)
    (_ : (W == sysModules) = false)
    (_ : dp + 10 < recursionLimit) (_ : un + 80 < cLine)
    (_ : ∀ (σ' : PySem.Str) (t1' tc' tr' : Tok) (fv' ev' ev2' : Value) (c' nr' : Int) (t2' tc2' : Tok) (oW' : Obj) (h' : Heap) (tk' : Nat), Fr h₀ L h' m →
      News h₀ L h' ((C, instObj 101 D) :: (D, dC w k1 k2 k3 k4 k5 σ' t1' fv' ev' c' tc' nr' tr') :: (W, oW') :: rest) → oW'.IsDictOf (strKind prog w) (pW σ' t2' ev2' c' tc2' now tn) →
      StateIs σ' → EndR ev' ev2' → RN c' nr' → 0 ≤ c' → c' ≤ c + 1 → Q (.bool true) { s with heap := h', toks := tk' }),
    wpAny (model prog w) (ktrTop dp un gd cn cs L a ccd cl outer) (call (.ref 226) [.ref C, .ref W, .str word tw]) Q E s
theorem news_tail {h₀ h : Heap} {L : Addr} {q : Addr × Obj} {news : List (Addr × Obj)} (N : News h₀ L h (q :: news)) : News h₀ L h news := fun p hp => N p (.tail _ hp)
theorem endR_handed {v1 v2 : Value} (h : EndR v1 v2) : handedIn v1 = true := by
  rcases h with ⟨rfl, _⟩ | ⟨e, t, t', rfl, _⟩ <;> rfl
theorem pk_no {c nr : Int} (h : RN c nr) (h1 : c < 31) (h2 : c + 1 < nr) : (false == [1, 2, 4, 8, 16].any fun x => x == c + 1) = true := by
  have : ([1, 2, 4, 8, 16].any fun x => x == c + 1) = false := by
    simp only [List.any_cons, List.any_nil, Bool.or_false, Bool.or_eq_false_iff, beq_eq_false_iff_ne, ne_eq]
    unfold RN at h
    omega
  rw [this]; rfl
theorem pk_yes {c nr : Int} (h : RN c nr) (h1 : c < 31) (h2 : ¬ c + 1 < nr) : (true == [1, 2, 4, 8, 16].any fun x => x == c + 1) = true := by
  have : ([1, 2, 4, 8, 16].any fun x => x == c + 1) = true := by
    simp only [List.any_cons, List.any_nil, Bool.or_false, Bool.or_eq_true, beq_iff_eq]
    unfold RN at h
    omega
  rw [this]; rfl
theorem deed_open_close : DeedClaim (Str.ofString "open") (Str.ofString "close") := by
  unfold DeedClaim
  intros
  have hhand := endR_handed (by assumption)
  rename_i hret
  refine wpAny_call ?_
  k_dflt cell_enter
  k_steps
  all_goals (try w_report)
  all_goals (try (first | rw [pk_no (by assumption) (by assumption) (by assumption)] | rw [pk_yes (by assumption) (by assumption) (by assumption)]))
  all_goals (
    refine' hret _ _ _ _ _ _ _ _ _ _ _ _ _ _ ?e1 ?e2 ?e3 ?e4 ?e5 ?e6 ?e7 ?e8
    (case e1 => k_asm)
    (case e2 => first | assumption | exact news_tail (by assumption))
    (case e3 => assumption)
    (case e4 => (unfold StateIs; simp))
    (case e5 => first | assumption | exact .inl ⟨rfl, rfl⟩ | exact .inr ⟨_, _, _, rfl, rfl⟩)
    (case e6 => first | assumption | (unfold RN at *; omega))
    (case e7 => omega)
    (case e8 => omega))
theorem deed_open_closed : DeedClaim (Str.ofString "open") (Str.ofString "closed") := by
  unfold DeedClaim
  intros
  have hhand := endR_handed (by assumption)
  rename_i hret
  refine wpAny_call ?_
  k_dflt cell_enter
  k_steps
  all_goals (try w_report)
  all_goals (try (first | rw [pk_no (by assumption) (by assumption) (by assumption)] | rw [pk_yes (by assumption) (by assumption) (by assumption)]))
  all_goals (
    refine' hret _ _ _ _ _ _ _ _ _ _ _ _ _ _ ?e1 ?e2 ?e3 ?e4 ?e5 ?e6 ?e7 ?e8
    (case e1 => k_asm)
    (case e2 => first | assumption | exact news_tail (by assumption))
    (case e3 => assumption)
    (case e4 => (unfold StateIs; simp))
    (case e5 => first | assumption | exact .inl ⟨rfl, rfl⟩ | exact .inr ⟨_, _, _, rfl, rfl⟩)
    (case e6 => first | assumption | (unfold RN at *; omega))
    (case e7 => omega)
    (case e8 => omega))
theorem deed_open_reset : DeedClaim (Str.ofString "open") (Str.ofString "reset") := by
  unfold DeedClaim
  intros
  have hhand := endR_handed (by assumption)
  rename_i hret
  refine wpAny_call ?_
  k_dflt cell_enter
  k_steps
  all_goals (try w_report)
  all_goals (try (first | rw [pk_no (by assumption) (by assumption) (by assumption)] | rw [pk_yes (by assumption) (by assumption) (by assumption)]))
  all_goals (
    refine' hret _ _ _ _ _ _ _ _ _ _ _ _ _ _ ?e1 ?e2 ?e3 ?e4 ?e5 ?e6 ?e7 ?e8
    (case e1 => k_asm)
    (case e2 => first | assumption | exact news_tail (by assumption))
    (case e3 => assumption)
    (case e4 => (unfold StateIs; simp))
    (case e5 => first | assumption | exact .inl ⟨rfl, rfl⟩ | exact .inr ⟨_, _, _, rfl, rfl⟩)
    (case e6 => first | assumption | (unfold RN at *; omega))
    (case e7 => omega)
    (case e8 => omega))
theorem deed_open_packet : DeedClaim (Str.ofString "open") (Str.ofString "packet") := by
  unfold DeedClaim
  intros
  have hhand := endR_handed (by assumption)
  rename_i hret
  refine wpAny_call ?_
  k_dflt cell_enter
  k_steps
  all_goals (try w_report)
  all_goals (try (first | rw [pk_no (by assumption) (by assumption) (by assumption)] | rw [pk_yes (by assumption) (by assumption) (by assumption)]))
  all_goals (
    refine' hret _ _ _ _ _ _ _ _ _ _ _ _ _ _ ?e1 ?e2 ?e3 ?e4 ?e5 ?e6 ?e7 ?e8
    (case e1 => k_asm)
    (case e2 => first | assumption | exact news_tail (by assumption))
    (case e3 => assumption)
    (case e4 => (unfold StateIs; simp))
    (case e5 => first | assumption | exact .inl ⟨rfl, rfl⟩ | exact .inr ⟨_, _, _, rfl, rfl⟩)
    (case e6 => first | assumption | (unfold RN at *; omega))
    (case e7 => omega)
    (case e8 => omega))
theorem deed_open_give_up : DeedClaim (Str.ofString "open") (Str.ofString "give up") := by
  unfold DeedClaim
  intros
  have hhand := endR_handed (by assumption)
  rename_i hret
  refine wpAny_call ?_
  k_dflt cell_enter
  k_steps
  all_goals (try w_report)
  all_goals (try (first | rw [pk_no (by assumption) (by assumption) (by assumption)] | rw [pk_yes (by assumption) (by assumption) (by assumption)]))
  all_goals (
    refine' hret _ _ _ _ _ _ _ _ _ _ _ _ _ _ ?e1 ?e2 ?e3 ?e4 ?e5 ?e6 ?e7 ?e8
    (case e1 => k_asm)
    (case e2 => first | assumption | exact news_tail (by assumption))
    (case e3 => assumption)
    (case e4 => (unfold StateIs; simp))
    (case e5 => first | assumption | exact .inl ⟨rfl, rfl⟩ | exact .inr ⟨_, _, _, rfl, rfl⟩)
    (case e6 => first | assumption | (unfold RN at *; omega))
    (case e7 => omega)
    (case e8 => omega))
theorem deed_closing_close : DeedClaim (Str.ofString "closing") (Str.ofString "close") := by
  unfold DeedClaim
  intros
  have hhand := endR_handed (by assumption)
  rename_i hret
  refine wpAny_call ?_
  k_dflt cell_enter
  k_steps
  all_goals (try w_report)
  all_goals (try (first | rw [pk_no (by assumption) (by assumption) (by assumption)] | rw [pk_yes (by assumption) (by assumption) (by assumption)]))
  all_goals (
    refine' hret _ _ _ _ _ _ _ _ _ _ _ _ _ _ ?e1 ?e2 ?e3 ?e4 ?e5 ?e6 ?e7 ?e8
    (case e1 => k_asm)
    (case e2 => first | assumption | exact news_tail (by assumption))
    (case e3 => assumption)
    (case e4 => (unfold StateIs; simp))
    (case e5 => first | assumption | exact .inl ⟨rfl, rfl⟩ | exact .inr ⟨_, _, _, rfl, rfl⟩)
    (case e6 => first | assumption | (unfold RN at *; omega))
    (case e7 => omega)
    (case e8 => omega))
theorem deed_closing_closed : DeedClaim (Str.ofString "closing") (Str.ofString "closed") := by
  unfold DeedClaim
  intros
  have hhand := endR_handed (by assumption)
  rename_i hret
  refine wpAny_call ?_
  k_dflt cell_enter
  k_steps
  all_goals (try w_report)
  all_goals (try (first | rw [pk_no (by assumption) (by assumption) (by assumption)] | rw [pk_yes (by assumption) (by assumption) (by assumption)]))
  all_goals (
    refine' hret _ _ _ _ _ _ _ _ _ _ _ _ _ _ ?e1 ?e2 ?e3 ?e4 ?e5 ?e6 ?e7 ?e8
    (case e1 => k_asm)
    (case e2 => first | assumption | exact news_tail (by assumption))
    (case e3 => assumption)
    (case e4 => (unfold StateIs; simp))
    (case e5 => first | assumption | exact .inl ⟨rfl, rfl⟩ | exact .inr ⟨_, _, _, rfl, rfl⟩)
    (case e6 => first | assumption | (unfold RN at *; omega))
    (case e7 => omega)
    (case e8 => omega))
theorem deed_closing_reset : DeedClaim (Str.ofString "closing") (Str.ofString "reset") := by
  unfold DeedClaim
  intros
  have hhand := endR_handed (by assumption)
  rename_i hret
  refine wpAny_call ?_
  k_dflt cell_enter
  k_steps
  all_goals (try w_report)
  all_goals (try (first | rw [pk_no (by assumption) (by assumption) (by assumption)] | rw [pk_yes (by assumption) (by assumption) (by assumption)]))
  all_goals (
    refine' hret _ _ _ _ _ _ _ _ _ _ _ _ _ _ ?e1 ?e2 ?e3 ?e4 ?e5 ?e6 ?e7 ?e8
    (case e1 => k_asm)
    (case e2 => first | assumption | exact news_tail (by assumption))
    (case e3 => assumption)
    (case e4 => (unfold StateIs; simp))
    (case e5 => first | assumption | exact .inl ⟨rfl, rfl⟩ | exact .inr ⟨_, _, _, rfl, rfl⟩)
    (case e6 => first | assumption | (unfold RN at *; omega))
    (case e7 => omega)
    (case e8 => omega))
theorem deed_closing_packet : DeedClaim (Str.ofString "closing") (Str.ofString "packet") := by
  unfold DeedClaim
  intros
  have hhand := endR_handed (by assumption)
  rename_i hret
  refine wpAny_call ?_
  k_dflt cell_enter
  k_steps
  all_goals (try w_report)
  all_goals (try (first | rw [pk_no (by assumption) (by assumption) (by assumption)] | rw [pk_yes (by assumption) (by assumption) (by assumption)]))
  all_goals (
    refine' hret _ _ _ _ _ _ _ _ _ _ _ _ _ _ ?e1 ?e2 ?e3 ?e4 ?e5 ?e6 ?e7 ?e8
    (case e1 => k_asm)
    (case e2 => first | assumption | exact news_tail (by assumption))
    (case e3 => assumption)
    (case e4 => (unfold StateIs; simp))
    (case e5 => first | assumption | exact .inl ⟨rfl, rfl⟩ | exact .inr ⟨_, _, _, rfl, rfl⟩)
    (case e6 => first | assumption | (unfold RN at *; omega))
    (case e7 => omega)
    (case e8 => omega))
theorem deed_closing_give_up : DeedClaim (Str.ofString "closing") (Str.ofString "give up") := by
  unfold DeedClaim
  intros
  have hhand := endR_handed (by assumption)
  rename_i hret
  refine wpAny_call ?_
  k_dflt cell_enter
  k_steps
  all_goals (try w_report)
  all_goals (try (first | rw [pk_no (by assumption) (by assumption) (by assumption)] | rw [pk_yes (by assumption) (by assumption) (by assumption)]))
  all_goals (
    refine' hret _ _ _ _ _ _ _ _ _ _ _ _ _ _ ?e1 ?e2 ?e3 ?e4 ?e5 ?e6 ?e7 ?e8
    (case e1 => k_asm)
    (case e2 => first | assumption | exact news_tail (by assumption))
    (case e3 => assumption)
    (case e4 => (unfold StateIs; simp))
    (case e5 => first | assumption | exact .inl ⟨rfl, rfl⟩ | exact .inr ⟨_, _, _, rfl, rfl⟩)
    (case e6 => first | assumption | (unfold RN at *; omega))
    (case e7 => omega)
    (case e8 => omega))
theorem deed_draining_close : DeedClaim (Str.ofString "draining") (Str.ofString "close") := by
  unfold DeedClaim
  intros
  have hhand := endR_handed (by assumption)
  rename_i hret
  refine wpAny_call ?_
  k_dflt cell_enter
  k_steps
  all_goals (try w_report)
  all_goals (try (first | rw [pk_no (by assumption) (by assumption) (by assumption)] | rw [pk_yes (by assumption) (by assumption) (by assumption)]))
  all_goals (
    refine' hret _ _ _ _ _ _ _ _ _ _ _ _ _ _ ?e1 ?e2 ?e3 ?e4 ?e5 ?e6 ?e7 ?e8
    (case e1 => k_asm)
    (case e2 => first | assumption | exact news_tail (by assumption))
    (case e3 => assumption)
    (case e4 => (unfold StateIs; simp))
    (case e5 => first | assumption | exact .inl ⟨rfl, rfl⟩ | exact .inr ⟨_, _, _, rfl, rfl⟩)
    (case e6 => first | assumption | (unfold RN at *; omega))
    (case e7 => omega)
    (case e8 => omega))
theorem deed_draining_closed : DeedClaim (Str.ofString "draining") (Str.ofString "closed") := by
  unfold DeedClaim
  intros
  have hhand := endR_handed (by assumption)
  rename_i hret
  refine wpAny_call ?_
  k_dflt cell_enter
  k_steps
  all_goals (try w_report)
  all_goals (try (first | rw [pk_no (by assumption) (by assumption) (by assumption)] | rw [pk_yes (by assumption) (by assumption) (by assumption)]))
  all_goals (
    refine' hret _ _ _ _ _ _ _ _ _ _ _ _ _ _ ?e1 ?e2 ?e3 ?e4 ?e5 ?e6 ?e7 ?e8
    (case e1 => k_asm)
    (case e2 => first | assumption | exact news_tail (by assumption))
    (case e3 => assumption)
    (case e4 => (unfold StateIs; simp))
    (case e5 => first | assumption | exact .inl ⟨rfl, rfl⟩ | exact .inr ⟨_, _, _, rfl, rfl⟩)
    (case e6 => first | assumption | (unfold RN at *; omega))
    (case e7 => omega)
    (case e8 => omega))
theorem deed_draining_reset : DeedClaim (Str.ofString "draining") (Str.ofString "reset") := by
  unfold DeedClaim
  intros
  have hhand := endR_handed (by assumption)
  rename_i hret
  refine wpAny_call ?_
  k_dflt cell_enter
  k_steps
  all_goals (try w_report)
  all_goals (try (first | rw [pk_no (by assumption) (by assumption) (by assumption)] | rw [pk_yes (by assumption) (by assumption) (by assumption)]))
  all_goals (
    refine' hret _ _ _ _ _ _ _ _ _ _ _ _ _ _ ?e1 ?e2 ?e3 ?e4 ?e5 ?e6 ?e7 ?e8
    (case e1 => k_asm)
    (case e2 => first | assumption | exact news_tail (by assumption))
    (case e3 => assumption)
    (case e4 => (unfold StateIs; simp))
    (case e5 => first | assumption | exact .inl ⟨rfl, rfl⟩ | exact .inr ⟨_, _, _, rfl, rfl⟩)
    (case e6 => first | assumption | (unfold RN at *; omega))
    (case e7 => omega)
    (case e8 => omega))
theorem deed_draining_packet : DeedClaim (Str.ofString "draining") (Str.ofString "packet") := by
  unfold DeedClaim
  intros
  have hhand := endR_handed (by assumption)
  rename_i hret
  refine wpAny_call ?_
  k_dflt cell_enter
  k_steps
  all_goals (try w_report)
  all_goals (try (first | rw [pk_no (by assumption) (by assumption) (by assumption)] | rw [pk_yes (by assumption) (by assumption) (by assumption)]))
  all_goals (
    refine' hret _ _ _ _ _ _ _ _ _ _ _ _ _ _ ?e1 ?e2 ?e3 ?e4 ?e5 ?e6 ?e7 ?e8
    (case e1 => k_asm)
    (case e2 => first | assumption | exact news_tail (by assumption))
    (case e3 => assumption)
    (case e4 => (unfold StateIs; simp))
    (case e5 => first | assumption | exact .inl ⟨rfl, rfl⟩ | exact .inr ⟨_, _, _, rfl, rfl⟩)
    (case e6 => first | assumption | (unfold RN at *; omega))
    (case e7 => omega)
    (case e8 => omega))
theorem deed_draining_give_up : DeedClaim (Str.ofString "draining") (Str.ofString "give up") := by
  unfold DeedClaim
  intros
  have hhand := endR_handed (by assumption)
  rename_i hret
  refine wpAny_call ?_
  k_dflt cell_enter
  k_steps
  all_goals (try w_report)
  all_goals (try (first | rw [pk_no (by assumption) (by assumption) (by assumption)] | rw [pk_yes (by assumption) (by assumption) (by assumption)]))
  all_goals (
    refine' hret _ _ _ _ _ _ _ _ _ _ _ _ _ _ ?e1 ?e2 ?e3 ?e4 ?e5 ?e6 ?e7 ?e8
    (case e1 => k_asm)
    (case e2 => first | assumption | exact news_tail (by assumption))
    (case e3 => assumption)
    (case e4 => (unfold StateIs; simp))
    (case e5 => first | assumption | exact .inl ⟨rfl, rfl⟩ | exact .inr ⟨_, _, _, rfl, rfl⟩)
    (case e6 => first | assumption | (unfold RN at *; omega))
    (case e7 => omega)
    (case e8 => omega))
theorem deed_closed_close : DeedClaim (Str.ofString "closed") (Str.ofString "close") := by
  unfold DeedClaim
  intros
  have hhand := endR_handed (by assumption)
  rename_i hret
  refine wpAny_call ?_
  k_dflt cell_enter
  k_steps
  all_goals (try w_report)
  all_goals (try (first | rw [pk_no (by assumption) (by assumption) (by assumption)] | rw [pk_yes (by assumption) (by assumption) (by assumption)]))
  all_goals (
    refine' hret _ _ _ _ _ _ _ _ _ _ _ _ _ _ ?e1 ?e2 ?e3 ?e4 ?e5 ?e6 ?e7 ?e8
    (case e1 => k_asm)
    (case e2 => first | assumption | exact news_tail (by assumption))
    (case e3 => assumption)
    (case e4 => (unfold StateIs; simp))
    (case e5 => first | assumption | exact .inl ⟨rfl, rfl⟩ | exact .inr ⟨_, _, _, rfl, rfl⟩)
    (case e6 => first | assumption | (unfold RN at *; omega))
    (case e7 => omega)
    (case e8 => omega))
theorem deed_closed_closed : DeedClaim (Str.ofString "closed") (Str.ofString "closed") := by
  unfold DeedClaim
  intros
  have hhand := endR_handed (by assumption)
  rename_i hret
  refine wpAny_call ?_
  k_dflt cell_enter
  k_steps
  all_goals (try w_report)
  all_goals (try (first | rw [pk_no (by assumption) (by assumption) (by assumption)] | rw [pk_yes (by assumption) (by assumption) (by assumption)]))
  all_goals (
    refine' hret _ _ _ _ _ _ _ _ _ _ _ _ _ _ ?e1 ?e2 ?e3 ?e4 ?e5 ?e6 ?e7 ?e8
    (case e1 => k_asm)
    (case e2 => first | assumption | exact news_tail (by assumption))
    (case e3 => assumption)
    (case e4 => (unfold StateIs; simp))
    (case e5 => first | assumption | exact .inl ⟨rfl, rfl⟩ | exact .inr ⟨_, _, _, rfl, rfl⟩)
    (case e6 => first | assumption | (unfold RN at *; omega))
    (case e7 => omega)
    (case e8 => omega))
theorem deed_closed_reset : DeedClaim (Str.ofString "closed") (Str.ofString "reset") := by
  unfold DeedClaim
  intros
  have hhand := endR_handed (by assumption)
  rename_i hret
  refine wpAny_call ?_
  k_dflt cell_enter
  k_steps
  all_goals (try w_report)
  all_goals (try (first | rw [pk_no (by assumption) (by assumption) (by assumption)] | rw [pk_yes (by assumption) (by assumption) (by assumption)]))
  all_goals (
    refine' hret _ _ _ _ _ _ _ _ _ _ _ _ _ _ ?e1 ?e2 ?e3 ?e4 ?e5 ?e6 ?e7 ?e8
    (case e1 => k_asm)
    (case e2 => first | assumption | exact news_tail (by assumption))
    (case e3 => assumption)
    (case e4 => (unfold StateIs; simp))
    (case e5 => first | assumption | exact .inl ⟨rfl, rfl⟩ | exact .inr ⟨_, _, _, rfl, rfl⟩)
    (case e6 => first | assumption | (unfold RN at *; omega))
    (case e7 => omega)
    (case e8 => omega))
theorem deed_closed_packet : DeedClaim (Str.ofString "closed") (Str.ofString "packet") := by
  unfold DeedClaim
  intros
  have hhand := endR_handed (by assumption)
  rename_i hret
  refine wpAny_call ?_
  k_dflt cell_enter
  k_steps
  all_goals (try w_report)
  all_goals (try (first | rw [pk_no (by assumption) (by assumption) (by assumption)] | rw [pk_yes (by assumption) (by assumption) (by assumption)]))
  all_goals (
    refine' hret _ _ _ _ _ _ _ _ _ _ _ _ _ _ ?e1 ?e2 ?e3 ?e4 ?e5 ?e6 ?e7 ?e8
    (case e1 => k_asm)
    (case e2 => first | assumption | exact news_tail (by assumption))
    (case e3 => assumption)
    (case e4 => (unfold StateIs; simp))
    (case e5 => first | assumption | exact .inl ⟨rfl, rfl⟩ | exact .inr ⟨_, _, _, rfl, rfl⟩)
    (case e6 => first | assumption | (unfold RN at *; omega))
    (case e7 => omega)
    (case e8 => omega))
theorem deed_closed_give_up : DeedClaim (Str.ofString "closed") (Str.ofString "give up") := by
  unfold DeedClaim
  intros
  have hhand := endR_handed (by assumption)
  rename_i hret
  refine wpAny_call ?_
  k_dflt cell_enter
  k_steps
  all_goals (try w_report)
  all_goals (try (first | rw [pk_no (by assumption) (by assumption) (by assumption)] | rw [pk_yes (by assumption) (by assumption) (by assumption)]))
  all_goals (
    refine' hret _ _ _ _ _ _ _ _ _ _ _ _ _ _ ?e1 ?e2 ?e3 ?e4 ?e5 ?e6 ?e7 ?e8
    (case e1 => k_asm)
    (case e2 => first | assumption | exact news_tail (by assumption))
    (case e3 => assumption)
    (case e4 => (unfold StateIs; simp))
    (case e5 => first | assumption | exact .inl ⟨rfl, rfl⟩ | exact .inr ⟨_, _, _, rfl, rfl⟩)
    (case e6 => first | assumption | (unfold RN at *; omega))
    (case e7 => omega)
    (case e8 => omega))
def WordIs (x : PySem.Str) : Prop := x = Str.ofString "close" ∨ x = Str.ofString "closed" ∨ x = Str.ofString "reset" ∨ x = Str.ofString "packet" ∨ x = Str.ofString "give up"
theorem deed_any {σ word : PySem.Str} (hσ : StateIs σ) (hw : WordIs word) : DeedClaim σ word := by
  rcases hσ with rfl | rfl | rfl | rfl <;> rcases hw with rfl | rfl | rfl | rfl | rfl
  · exact deed_open_close
  · exact deed_open_closed
  · exact deed_open_reset
  · exact deed_open_packet
  · exact deed_open_give_up
  · exact deed_closing_close
  · exact deed_closing_closed
  · exact deed_closing_reset
  · exact deed_closing_packet
  · exact deed_closing_give_up
  · exact deed_draining_close
  · exact deed_draining_closed
  · exact deed_draining_reset
  · exact deed_draining_packet
  · exact deed_draining_give_up
  · exact deed_closed_close
  · exact deed_closed_closed
  · exact deed_closed_reset
  · exact deed_closed_packet
  · exact deed_closed_give_up
end
end
section
section
abbrev TimeClaim (σ : PySem.Str) (ev ev2 : Value) : Prop :=
  ∀ {prog : Program} {w : World} {p : Program} {loose : List PySem.Str} {mean : ExcName → Option Value} {mg mb : PySem.Str → Option Value}
    {dp un : Nat} {gd : Option (List Code)} {cn : PySem.Str} {cs : Scope} {a : Addr} {ccd : Value} {cl : List (PySem.Str × Addr)} {outer : List Env} {A₀ : Around} {base h₀ : Heap} {L : Addr} {m : PySem.Str → Option Value} {s : Shared} {Q E : Value → Shared → Prop}
    {C D W : Addr} {k1 k2 k3 k4 k5 t1 tc tr : Tok} {fv : Value} {c nr : Int} {t2 tc2 tn tw : Tok} {now spot : Int} {oW : Obj} {rest : List (Addr × Obj)}
    (_ : Below A₀ base outer h₀) (_ : Fr h₀ L s.heap m) (_ : (Mine.K w.params).In h₀)
    (_ : News h₀ L s.heap ((C, instObj 101 D) :: (D, dC w k1 k2 k3 k4 k5 σ t1 fv ev c tc nr tr) :: (W, oW) :: rest)) (_ : Top p loose mean mg mb h₀) (_ : cs.kind = .function)
    (_ : oW.IsDictOf (strKind prog w) (pW σ t2 ev2 c tc2 now tn))
    (_ : @Ne Nat C D) (_ : @Ne Nat C W) (_ : @Ne Nat D W) (_ : ∀ x ∈ rest, x.1 ≠ D) (_ : ∀ x ∈ rest, x.1 ≠ W)
    (_ : (W == sysModules) = false)
    (_ : dp + 10 < recursionLimit) (_ : un + 80 < cLine)
    (_ : ∀ (σ' : PySem.Str) (t1' tc' tr' : Tok) (fv' ev' ev2' : Value) (t2' tc2' : Tok) (now' : Int) (tn' : Tok) (oW' : Obj) (h' : Heap) (tk' : Nat), Fr h₀ L h' m →
      News h₀ L h' ((C, instObj 101 D) :: (D, dC w k1 k2 k3 k4 k5 σ' t1' fv' ev' c tc' nr tr') :: (W, oW') :: rest) → oW'.IsDictOf (strKind prog w) (pW σ' t2' ev2' c tc2' now' tn') →
      (σ' = σ ∨ σ' = Str.ofString "closed") → EndR ev' ev2' → Q (.bool true) { s with heap := h', toks := tk' }),
    wpAny (model prog w) (ktrTop dp un gd cn cs L a ccd cl outer) (call (.ref 233) [.ref C, .ref W, .int spot tw]) Q E s
theorem beq_same (x : Bool) : (x == x) = true := by cases x <;> rfl
theorem time_none {σ : PySem.Str} : TimeClaim σ .none .none := by
  unfold TimeClaim
  intros
  rename_i hret
  refine wpAny_call ?_
  k_dflt cell_enter
  k_steps
  all_goals (try w_report)
  all_goals (try rw [beq_same])
  all_goals (
    refine' hret _ _ _ _ _ _ _ _ _ _ _ _ _ _ ?e1 ?e2 ?e3 ?e4 ?e5
    (case e1 => k_asm)
    (case e2 => first | assumption | exact news_tail (by assumption))
    (case e3 => assumption)
    (case e4 => first | exact .inl rfl | exact .inr rfl)
    (case e5 => first | assumption | exact .inl ⟨rfl, rfl⟩ | exact .inr ⟨_, _, _, rfl, rfl⟩))
theorem time_int {σ : PySem.Str} {e : Int} {te1 te2 : Tok} : TimeClaim σ (.int e te1) (.int e te2) := by
  unfold TimeClaim
  intros
  rename_i hret
  refine wpAny_call ?_
  k_dflt cell_enter
  k_steps
  all_goals (try w_report)
  all_goals (try rw [beq_same])
  all_goals (
    refine' hret _ _ _ _ _ _ _ _ _ _ _ _ _ _ ?e1 ?e2 ?e3 ?e4 ?e5
    (case e1 => k_asm)
    (case e2 => first | assumption | exact news_tail (by assumption))
    (case e3 => assumption)
    (case e4 => first | exact .inl rfl | exact .inr rfl)
    (case e5 => first | assumption | exact .inl ⟨rfl, rfl⟩ | exact .inr ⟨_, _, _, rfl, rfl⟩))
theorem time_any {σ : PySem.Str} {ev ev2 : Value} (h : EndR ev ev2) : TimeClaim σ ev ev2 := by
  rcases h with ⟨rfl, rfl⟩ | ⟨e, t, t', rfl, rfl⟩
  · exact time_none
  · exact time_int
end
end
section
theorem updF_mem {d : Addr} {o : Obj} {l : List (Addr × Obj)} {g : Obj → List (Addr × Obj)} (U : UpdF d o l g) :
    (d, o) ∈ l ∧ (∀ o', ∀ x ∈ g o', x = (d, o') ∨ (x ∈ l ∧ x.1 ≠ d)) ∧ (∀ o', ∀ x ∈ l, x.1 ≠ d → x ∈ g o') := by
  obtain ⟨pre, post, rfl, hg, a, b⟩ := U.split
  refine ⟨by simp, ?_, ?_⟩
  · intro o' x hx
    rw [hg] at hx
    rcases List.mem_append.mp hx with h | h
    · exact .inr ⟨by simp [h], a x h⟩
    · rcases List.mem_cons.mp h with rfl | h
      · exact .inl rfl
      · exact .inr ⟨by simp [h], b x h⟩
  · intro o' x hx hne
    rw [hg]
    rcases List.mem_append.mp hx with h | h
    · simp [h]
    · rcases List.mem_cons.mp h with rfl | h
      · exact absurd rfl hne
      · simp [h]
def offDW (D W : Addr) (news : List (Addr × Obj)) : List (Addr × Obj) := news.filter fun x => decide (x.1 ≠ D ∧ x.1 ≠ W)
theorem offDW_mem {D W : Addr} {news : List (Addr × Obj)} {x : Addr × Obj} : x ∈ offDW D W news ↔ x ∈ news ∧ x.1 ≠ D ∧ x.1 ≠ W := by
  unfold offDW
  rw [List.mem_filter, decide_eq_true_eq]
theorem two_in {h₀ h : Heap} {L C D W : Addr} {oC oD oW : Obj} {news : List (Addr × Obj)} {g1 : Obj → List (Addr × Obj)} {g2 : Obj → Obj → List (Addr × Obj)}
    (hDW : @Ne Nat D W) (U1 : UpdF D oD news g1) (U2 : ∀ o, UpdF W oW (g1 o) (g2 o)) (hC : (C, oC) ∈ news) (N : News h₀ L h news) : News h₀ L h ((C, oC) :: (D, oD) :: (W, oW) :: offDW D W news) := by
  obtain ⟨m1, a1, b1⟩ := updF_mem U1
  obtain ⟨m2, a2, b2⟩ := updF_mem (U2 oD)
  intro x hx
  rcases List.mem_cons.mp hx with rfl | hx
  · exact N _ hC
  rcases List.mem_cons.mp hx with rfl | hx
  · exact N _ m1
  rcases List.mem_cons.mp hx with rfl | hx
  · rcases a1 _ _ m2 with h | h
    · exact absurd (congrArg Prod.fst h).symm hDW
    · exact N _ h.1
  · exact N _ (offDW_mem.mp hx).1
theorem two_out {h₀ h : Heap} {L C D W : Addr} {oC oD oW oD' oW' : Obj} {news : List (Addr × Obj)} {g1 : Obj → List (Addr × Obj)} {g2 : Obj → Obj → List (Addr × Obj)}
    (U1 : UpdF D oD news g1) (U2 : ∀ o, UpdF W oW (g1 o) (g2 o)) (N : News h₀ L h ((C, oC) :: (D, oD') :: (W, oW') :: offDW D W news)) : News h₀ L h (g2 oD' oW') := by
  obtain ⟨m1, a1, b1⟩ := updF_mem U1
  obtain ⟨m2, a2, b2⟩ := updF_mem (U2 oD')
  intro x hx
  rcases a2 _ x hx with rfl | ⟨h, hW⟩
  · exact N _ (.tail _ (.tail _ (.head _)))
  · rcases a1 _ x h with rfl | ⟨h, hD⟩
    · exact N _ (.tail _ (.head _))
    · exact N _ (.tail _ (.tail _ (.tail _ (offDW_mem.mpr ⟨h, hD, hW⟩))))
section
variable {prog : Program} {w : World} {p : Program} {loose : List PySem.Str} {mean : ExcName → Option Value} {mg mb : PySem.Str → Option Value}
    {dp un : Nat} {gd : Option (List Code)} {cn : PySem.Str} {cs : Scope} {a : Addr} {ccd : Value} {cl : List (PySem.Str × Addr)} {outer : List Env} {A₀ : Around} {base h₀ : Heap} {L : Addr} {m : PySem.Str → Option Value} {s : Shared} {Q E : Value → Shared → Prop}
    {C D W : Addr} {k1 k2 k3 k4 k5 t1 tc tr : Tok} {fv ev ev2 : Value} {c nr : Int} {t2 tc2 tn tw : Tok} {now spot : Int} {oW : Obj} {news : List (Addr × Obj)} {g1 : Obj → List (Addr × Obj)} {g2 : Obj → Obj → List (Addr × Obj)} {σ word : PySem.Str}
theorem deed_spec (B : Below A₀ base outer h₀) (F : Fr h₀ L s.heap m) (X : (Mine.K w.params).In h₀) (N : News h₀ L s.heap news) (hC : (C, instObj 101 D) ∈ news)
    (U1 : UpdF D (dC w k1 k2 k3 k4 k5 σ t1 fv ev c tc nr tr) news g1) (U2 : ∀ o, UpdF W oW (g1 o) (g2 o)) (T : Top p loose mean mg mb h₀) (hk : cs.kind = .function)
    (hW : oW.IsDictOf (strKind prog w) (pW σ t2 ev2 c tc2 now tn)) (hσ : StateIs σ) (hw : WordIs word)
    (hCD : @Ne Nat C D) (hCW : @Ne Nat C W) (hDW : @Ne Nat D W) (hc0 : 0 ≤ c) (hc1 : c < 31) (hR : RN c nr) (hE : EndR ev ev2)
    (hsys : (W == sysModules) = false) (hdp : dp + 10 < recursionLimit) (hu : un + 80 < cLine)
    (hret : ∀ (σ' : PySem.Str) (t1' tc' tr' : Tok) (fv' ev' ev2' : Value) (c' nr' : Int) (t2' tc2' : Tok) (oW' : Obj) (h' : Heap) (tk' : Nat), Fr h₀ L h' m →
      News h₀ L h' (g2 (dC w k1 k2 k3 k4 k5 σ' t1' fv' ev' c' tc' nr' tr') oW') → oW'.IsDictOf (strKind prog w) (pW σ' t2' ev2' c' tc2' now tn) →
      StateIs σ' → EndR ev' ev2' → RN c' nr' → 0 ≤ c' → c' ≤ c + 1 → Q (.bool true) { s with heap := h', toks := tk' }) :
    wpAny (model prog w) (ktrTop dp un gd cn cs L a ccd cl outer) (call (.ref 226) [.ref C, .ref W, .str word tw]) Q E s :=
  deed_any hσ hw B F X (two_in hDW U1 U2 hC N) T hk hW hCD hCW hDW (fun _ hx => (offDW_mem.mp hx).2.1) (fun _ hx => (offDW_mem.mp hx).2.2) hc0 hc1 hR hE hsys hdp hu
    fun σ' t1' tc' tr' fv' ev' ev2' c' nr' t2' tc2' oW' h' tk' F' N' hW' a1 a2 a3 a4 a5 => hret σ' t1' tc' tr' fv' ev' ev2' c' nr' t2' tc2' oW' h' tk' F' (two_out U1 U2 N') hW' a1 a2 a3 a4 a5
theorem time_spec (B : Below A₀ base outer h₀) (F : Fr h₀ L s.heap m) (X : (Mine.K w.params).In h₀) (N : News h₀ L s.heap news) (hC : (C, instObj 101 D) ∈ news)
    (U1 : UpdF D (dC w k1 k2 k3 k4 k5 σ t1 fv ev c tc nr tr) news g1) (U2 : ∀ o, UpdF W oW (g1 o) (g2 o)) (T : Top p loose mean mg mb h₀) (hk : cs.kind = .function)
    (hW : oW.IsDictOf (strKind prog w) (pW σ t2 ev2 c tc2 now tn)) (hσ : StateIs σ)
    (hCD : @Ne Nat C D) (hCW : @Ne Nat C W) (hDW : @Ne Nat D W) (hE : EndR ev ev2)
    (hsys : (W == sysModules) = false) (hdp : dp + 10 < recursionLimit) (hu : un + 80 < cLine)
    (hret : ∀ (σ' : PySem.Str) (t1' tc' tr' : Tok) (fv' ev' ev2' : Value) (t2' tc2' : Tok) (now' : Int) (tn' : Tok) (oW' : Obj) (h' : Heap) (tk' : Nat), Fr h₀ L h' m →
      News h₀ L h' (g2 (dC w k1 k2 k3 k4 k5 σ' t1' fv' ev' c tc' nr tr') oW') → oW'.IsDictOf (strKind prog w) (pW σ' t2' ev2' c tc2' now' tn') →
      StateIs σ' → EndR ev' ev2' → Q (.bool true) { s with heap := h', toks := tk' }) :
    wpAny (model prog w) (ktrTop dp un gd cn cs L a ccd cl outer) (call (.ref 233) [.ref C, .ref W, .int spot tw]) Q E s :=
  time_any hE B F X (two_in hDW U1 U2 hC N) T hk hW hCD hCW hDW (fun _ hx => (offDW_mem.mp hx).2.1) (fun _ hx => (offDW_mem.mp hx).2.2) hsys hdp hu
    fun σ' t1' tc' tr' fv' ev' ev2' t2' tc2' now' tn' oW' h' tk' F' N' hW' a1 a2 => hret σ' t1' tc' tr' fv' ev' ev2' t2' tc2' now' tn' oW' h' tk' F' (two_out U1 U2 N') hW'
      (a1.elim (fun e => e ▸ hσ) fun e => .inr (.inr (.inr e))) a2
end
end
section
structure LS where
  σ : PySem.Str
  t1 : Tok
  tc : Tok
  tr : Tok
  fv : Value
  ev : Value
  ev2 : Value
  c : Int
  nr : Int
  t2 : Tok
  tc2 : Tok
  now : Int
  tn : Tok
  oW : Obj
  k : Int
  tk : Tok
abbrev LS.led (w : World) (C D W P I : Addr) (k1 k2 k3 k4 k5 : Tok) (vs : List Value) (n1 n2 : Nat) (x : LS) : List (Addr × Obj) :=
  [(C, instObj 101 D), (D, dC w k1 k2 k3 k4 k5 x.σ x.t1 x.fv x.ev x.c x.tc x.nr x.tr), (W, x.oW), (P, listOf #[.ref I, .int x.k x.tk] n1), (I, listOf vs.toArray n2)]
abbrev LS.ok (prog : Program) (w : World) (x : LS) : Prop := x.oW.IsDictOf (strKind prog w) (pW x.σ x.t2 x.ev2 x.c x.tc2 x.now x.tn) ∧ StateIs x.σ ∧ EndR x.ev x.ev2 ∧ RN x.c x.nr ∧ 0 ≤ x.c
abbrev LS.at (c₀ k₀ : Int) (pre : List Int) (x : LS) : Prop := x.c ≤ c₀ + pre.length ∧ k₀ ≤ x.k ∧ x.k ≤ k₀ + 2 * pre.length
abbrev LInv (prog : Program) (w : World) (C D W P I : Addr) (k1 k2 k3 k4 k5 : Tok) (vs : List Value) (n1 n2 : Nat) (x : PySem.Str) (stored : List PySem.Str) (m₀ : PySem.Str → Option Value) (c₀ k₀ : Int) (pre : List Int) :=
  KstS (LS.led w C D W P I k1 k2 k3 k4 k5 vs n1 n2) (fun _ => []) (LS.ok prog w) x stored m₀ (LS.at c₀ k₀) pre
section
variable {prog : Program} {w : World} {A : Around} {E : Value → Shared → Prop} {s : Shared} {env : Env} {h₀ : Heap} {x : PySem.Str} {body : List Stmt} {Q : Flow → Shared → Prop}
  {C D W P I : Addr} {k1 k2 k3 k4 k5 : Tok} {vs : List Value} {n1 n2 : Nat}
theorem loop_led {r : Addr} {a₀ b₀ : Int} {t₀ u₀ v₀ : Tok} {n : Nat} {m₀ : PySem.Str → Option Value} (stored : List PySem.Str) {news : List (Addr × Obj)}
    {σ : PySem.Str} {t1 tc tr : Tok} {fv ev ev2 : Value} {c nr : Int} {t2 tc2 : Tok} {now : Int} {tn : Tok} {oW : Obj} {k : Int} {tk : Tok}
    (hh : A.handled = none) (hr : IsRange s.heap r a₀ b₀ 1 t₀ u₀ v₀) (hsmall : Builtin.Range.small a₀ b₀ 1 = true) (hn : Builtin.Range.rangeSize a₀ b₀ 1 = (n : Int)) (F : Fr h₀ env.locals s.heap m₀)
    (N : News h₀ env.locals s.heap news) (mC : (C, instObj 101 D) ∈ news) (mD : (D, dC w k1 k2 k3 k4 k5 σ t1 fv ev c tc nr tr) ∈ news) (mW : (W, oW) ∈ news) (hW : oW.IsDictOf (strKind prog w) (pW σ t2 ev2 c tc2 now tn))
    (mP : (P, listOf #[.ref I, .int k tk] n1) ∈ news) (mI : (I, listOf vs.toArray n2) ∈ news) (hS : StateIs σ) (hE : EndR ev ev2) (hR : RN c nr) (hc0 : 0 ≤ c)
    (turn : ∀ (σ : PySem.Str) (t1 tc tr : Tok) (fv ev ev2 : Value) (c' nr : Int) (t2 tc2 : Tok) (now : Int) (tn : Tok) (oW : Obj) (k' : Int) (tk : Tok) (pre : List Int) (kk : Int) (t : Tok) (u : PySem.Str → Option Value) (h : Heap) (tkk : Nat) (own : List (Addr × Obj)),
      kk = a₀ + (pre.length : Int) → pre.length < n → (∀ q ∈ own, q.1 ≠ C) → (∀ q ∈ own, q.1 ≠ D) → (∀ q ∈ own, q.1 ≠ W) → (∀ q ∈ own, q.1 ≠ P) → (∀ q ∈ own, q.1 ≠ I) →
      oW.IsDictOf (strKind prog w) (pW σ t2 ev2 c' tc2 now tn) → StateIs σ → EndR ev ev2 → RN c' nr → 0 ≤ c' → c' ≤ c + pre.length → k ≤ k' → k' ≤ k + 2 * pre.length →
      Fr h₀ env.locals h (fun y => if y = x then some (.int kk t) else (if stored.contains y then u y else m₀ y)) →
      News h₀ env.locals h ((C, instObj 101 D) :: (D, dC w k1 k2 k3 k4 k5 σ t1 fv ev c' tc nr tr) :: (W, oW) :: (P, listOf #[.ref I, .int k' tk] n1) :: (I, listOf vs.toArray n2) :: own) →
      wpAny (model prog w) A (execs body env) (InvPostN h₀ env.locals (LInv prog w C D W P I k1 k2 k3 k4 k5 vs n1 n2 x stored m₀ c k (pre ++ [kk])) own [C, D, W, P, I] { s with heap := h, toks := tkk } Q) E { s with heap := h, toks := tkk })
    (done : ∀ (σ : PySem.Str) (t1 tc tr : Tok) (fv ev ev2 : Value) (c' nr : Int) (t2 tc2 : Tok) (now : Int) (tn : Tok) (oW : Obj) (k' : Int) (tk : Tok) (u : PySem.Str → Option Value) (h : Heap) (tkk : Nat),
      oW.IsDictOf (strKind prog w) (pW σ t2 ev2 c' tc2 now tn) → StateIs σ → EndR ev ev2 → RN c' nr → 0 ≤ c' → c' ≤ c + n → k ≤ k' → k' ≤ k + 2 * n →
      Fr h₀ env.locals h (fun y => if y = x then u y else (if stored.contains y then u y else m₀ y)) →
      News h₀ env.locals h [(C, instObj 101 D), (D, dC w k1 k2 k3 k4 k5 σ t1 fv ev c' tc nr tr), (W, oW), (P, listOf #[.ref I, .int k' tk] n1), (I, listOf vs.toArray n2)] → Q .next { s with heap := h, toks := tkk }) :
    wpAny (model prog w) A (pyIter (.ref r)) (fun it s₂ => LoopAtV prog w A h₀ env x body Q E it s₂) E s := by
  refine kst_range (σ := LS) (LS.led w C D W P I k1 k2 k3 k4 k5 vs n1 n2) (fun _ => []) (LS.ok prog w) stored (LS.at c k) ⟨σ, t1, tc, tr, fv, ev, ev2, c, nr, t2, tc2, now, tn, oW, k, tk⟩ hh hr hsmall hn F ?_ ⟨hW, hS, hE, hR, hc0⟩ (fun _ hp => nomatch hp) ⟨by simp, by simp, by simp⟩ ?_ ?_
  · intro q hq
    rcases List.mem_cons.mp hq with rfl | hq
    · exact N _ mC
    rcases List.mem_cons.mp hq with rfl | hq
    · exact N _ mD
    rcases List.mem_cons.mp hq with rfl | hq
    · exact N _ mW
    rcases List.mem_cons.mp hq with rfl | hq
    · exact N _ mP
    rcases List.mem_cons.mp hq with rfl | hq
    · exact N _ mI
    · exact nomatch hq
  · rintro ⟨σ, t1, tc, tr, fv, ev, ev2, c', nr, t2, tc2, now, tn, oW, k', tk⟩ pre kk t u h tkk own e hlt hoff ⟨a1, a2, a3, a4, a5⟩ ⟨a6, a7, a8⟩ F' N'
    exact turn σ t1 tc tr fv ev ev2 c' nr t2 tc2 now tn oW k' tk pre kk t u h tkk own e hlt (fun q hq => hoff q hq _ (by simp)) (fun q hq => hoff q hq _ (by simp)) (fun q hq => hoff q hq _ (by simp)) (fun q hq => hoff q hq _ (by simp)) (fun q hq => hoff q hq _ (by simp)) a1 a2 a3 a4 a5 a6 a7 a8 F' N'
  · rintro ⟨σ, t1, tc, tr, fv, ev, ev2, c', nr, t2, tc2, now, tn, oW, k', tk⟩ u h tkk ⟨a1, a2, a3, a4, a5⟩ ⟨a6, a7, a8⟩ F' N'
    rw [rangeKs_length] at a6 a8
    exact done σ t1 tc tr fv ev ev2 c' nr t2 tc2 now tn oW k' tk u h tkk a1 a2 a3 a4 a5 a6 a7 a8 F' N'
theorem end_led {m₀ : PySem.Str → Option Value} {stored : List PySem.Str} {news' own : List (Addr × Obj)} {L : Addr} {h' : Heap} {m' : PySem.Str → Option Value} {s₁ : Shared} {tkk : Nat} {pre : List Int} {c₀ k₀ : Int}
    {σ : PySem.Str} {t1 tc tr : Tok} {fv ev ev2 : Value} {c nr : Int} {t2 tc2 : Tok} {now : Int} {tn : Tok} {oW : Obj} {k : Int} {tk : Tok}
    (F : Fr h₀ L h' m') (N : News h₀ L h' news') (mC : (C, instObj 101 D) ∈ news') (mD : (D, dC w k1 k2 k3 k4 k5 σ t1 fv ev c tc nr tr) ∈ news') (mW : (W, oW) ∈ news')
    (mP : (P, listOf #[.ref I, .int k tk] n1) ∈ news') (mI : (I, listOf vs.toArray n2) ∈ news') (ho : ∀ q ∈ own, q ∈ news') (hW : oW.IsDictOf (strKind prog w) (pW σ t2 ev2 c tc2 now tn)) (hS : StateIs σ) (hE : EndR ev ev2) (hR : RN c nr) (hc0 : 0 ≤ c)
    (hc : c ≤ c₀ + pre.length) (hk0 : k₀ ≤ k) (hk1 : k ≤ k₀ + 2 * pre.length) (hr : ∀ z, z ≠ x → stored.contains z = false → m' z = m₀ z) :
    InvEndN h₀ L (LInv prog w C D W P I k1 k2 k3 k4 k5 vs n1 n2 x stored m₀ c₀ k₀ pre) own [C, D, W, P, I] s₁ { s₁ with heap := h', toks := tkk } := by
  refine kst_end (σ := LS) ⟨σ, t1, tc, tr, fv, ev, ev2, c, nr, t2, tc2, now, tn, oW, k, tk⟩ F N ?_ ho rfl ⟨hW, hS, hE, hR, hc0⟩ (fun _ hp => nomatch hp) (fun z hz _ hs => hr z hz hs) ⟨hc, hk0, hk1⟩
  intro q hq
  rcases List.mem_cons.mp hq with rfl | hq
  · exact mC
  rcases List.mem_cons.mp hq with rfl | hq
  · exact mD
  rcases List.mem_cons.mp hq with rfl | hq
  · exact mW
  rcases List.mem_cons.mp hq with rfl | hq
  · exact mP
  rcases List.mem_cons.mp hq with rfl | hq
  · exact mI
  · exact nomatch hq
end
end
section
section
variable {prog : Program} {w : World} {A : Around} {E : Value → Shared → Prop} {s : Shared} {Q : Value → Shared → Prop}
theorem ne_same_str {x : PySem.Str} {t u : Tok} (h : Q (.bool false) s) : wpAny (model prog w) A (compareOp .NotEq (.str x t) (.str x u)) Q E s := by
  refine PyProof.Rows.ne_str ?_
  rw [bne_self_eq_false]; exact h
theorem ne_same_int {x : Int} {t u : Tok} (h : Q (.bool false) s) : wpAny (model prog w) A (compareOp .NotEq (.int x t) (.int x u)) Q E s := by
  refine PyProof.Rows.ne_int ?_
  rw [bne_self_eq_false]; exact h
theorem ne_same_bool {x : Bool} (h : Q (.bool false) s) : wpAny (model prog w) A (compareOp .NotEq (.bool x) (.bool x)) Q E s := by
  refine PyProof.Rows.ne_bool ?_
  rw [bne_self_eq_false]; exact h
theorem ne_end {v1 v2 : Value} (h : EndR v1 v2) (hQ : Q (.bool false) s) : wpAny (model prog w) A (compareOp .NotEq v1 v2) Q E s := by
  rcases h with ⟨rfl, rfl⟩ | ⟨e, t, t', rfl, rfl⟩
  · exact EqNone.ne_none_none hQ
  · exact ne_same_int hQ
theorem word_item {value slice : PySem.Expr} {l : Addr} {vs : List Value} {k : Int} {u : Tok} (hl : s.heap.IsList l vs.toArray) (hx : ∀ i, i < 6 → ∃ word tw, vs[i]? = some (.str word tw) ∧ WordIs word) (h0 : 0 ≤ k) (h1 : k < 7) (h6 : ¬ k = 6)
    (h : ∀ word tw, WordIs word → Q (.str word tw) s)
    (hs : subscripted slice false (.ref l) (.int k u) = operate [.ref l, .int k u] (getItem (.ref l) (.int k u)) := by with_unfolding_all rfl) :
    wpAny (model prog w) A (subscriptTail value slice (.ref l) (.int k u)) Q E s := by
  obtain ⟨word, tw, hx, hw⟩ := hx k.toNat (by omega)
  exact tail_any hl.typeIs slot_list_getitem.lookup (wpAny_getItem_list hl h0 (by omega) (by simpa using hx) (h word tw hw)) hs
theorem six_words {a b c d e f : PySem.Str} {t1 t2 t3 t4 t5 t6 : Tok} (ha : WordIs a) (hb : WordIs b) (hc : WordIs c) (hd : WordIs d) (he : WordIs e) (hf : WordIs f) :
    ∀ i, i < 6 → ∃ word tw, [Value.str a t1, .str b t2, .str c t3, .str d t4, .str e t5, .str f t6][i]? = some (.str word tw) ∧ WordIs word := by
  intro i hi
  match i, hi with
  | 0, _ => exact ⟨_, _, rfl, ha⟩
  | 1, _ => exact ⟨_, _, rfl, hb⟩
  | 2, _ => exact ⟨_, _, rfl, hc⟩
  | 3, _ => exact ⟨_, _, rfl, hd⟩
  | 4, _ => exact ⟨_, _, rfl, he⟩
  | 5, _ => exact ⟨_, _, rfl, hf⟩
theorem news_two {h₀ h : Heap} {L : Addr} {p q : Addr × Obj} {news : List (Addr × Obj)} (N : News h₀ L h news) (mp : p ∈ news) (mq : q ∈ news) : News h₀ L h [p, q] := by
  intro x hx
  rcases List.mem_cons.mp hx with rfl | hx
  · exact N _ mp
  rcases List.mem_cons.mp hx with rfl | hx
  · exact N _ mq
  · exact nomatch hx
end
section
theorem end_right_spec
    {prog : Program} {w : World} {p : Program} {loose : List PySem.Str} {mean : ExcName → Option Value} {mg mb : PySem.Str → Option Value}
    {dp un : Nat} {gd : Option (List Code)} {cn : PySem.Str} {cs : Scope} {a : Addr} {ccd : Value} {cl : List (PySem.Str × Addr)} {outer : List Env} {A₀ : Around} {base h₀ : Heap} {L : Addr} {m : PySem.Str → Option Value} {s : Shared} {Q E : Value → Shared → Prop}
    {P I : Addr} {k : Int} {tk : Tok} {vs : List Value} {ns : List Int} {n1 n2 : Nat}
    (B : Below A₀ base outer h₀) (F : Fr h₀ L s.heap m) (X : (Mine.K w.params).In h₀)
    (N : News h₀ L s.heap ((P, listOf #[.ref I, .int k tk] n1) :: (I, listOf vs.toArray n2) :: [])) (T : Top p loose mean mg mb h₀) (hk : cs.kind = .function)
    (hI : IntsAre vs ns) (hl : ns.length ≤ 63) (hPI : @Ne Nat P I) (hk0 : 0 ≤ k) (hk1 : k < 500)
    (hdp : dp + 20 < recursionLimit) (hu : un + 180 < cLine)
    (hret : ∀ (k' : Int) (tk₂ : Tok) (h' : Heap) (tk' : Nat), k ≤ k' → k' ≤ k + 100 → Fr h₀ L h' m → News h₀ L h' ((P, listOf #[.ref I, .int k' tk₂] n1) :: (I, listOf vs.toArray n2) :: []) → Q (.bool true) { s with heap := h', toks := tk' }) :
    wpAny (model prog w) (ktrTop dp un gd cn cs L a ccd cl outer) (call (.ref 240) [.ref P]) Q E s := by
  k_with_none
  k_with "call ref" => (k_here; (with_reducible show wpAny _ _ (call (Value.ref 194) [Value.ref _, Value.int _ _]) _ _ _); k_dflt (
    refine' draw_spec ?k1 ?k2 ?k3 ?k4 ?k5 ?k6 ?k7 ?k8 ?k9 ?k10 ?k11 ?k12 ?k13 ?k14 ?k15 ?k16 ?k17 ?_
    (case k1 => k_asm)
    (case k2 => k_asm)
    (case k3 => k_asm)
    (case k4 => k_asm)
    (case k5 => k_updF)
    (case k6 => k_mem)
    (case k7 => k_asm)
    (case k8 => first | exact rfl | assumption)
    (case k9 => assumption)
    (case k10 => assumption)
    (case k11 => k_ne)
    (case k12 => omega)
    (case k13 => omega)
    (case k14 => omega)
    (case k15 => omega)
    (case k16 => ktr_room)
    (case k17 => ktr_units)
    intro v9 t9 tk9 h9 tk9' hv9 hw9 F9 N9
    (try dsimp only at N9)
    (try k_sweep); (try k_fold)))
  k_with "call ref" => (k_here; (with_reducible show wpAny _ _ (call (Value.ref 226) [Value.ref _, Value.ref _, Value.str _ _]) _ _ _); k_dflt (
    refine' deed_spec ?k1 ?k2 ?k3 ?k4 ?k5 ?k6 ?k7 ?k8 ?k9 ?k10 ?k11 ?k12 ?k13 ?k14 ?k15 ?k16 ?k17 ?k18 ?k19 ?k20 ?k21 ?k22 ?_
    (case k1 => k_asm)
    (case k2 => k_asm)
    (case k3 => k_asm)
    (case k4 => k_asm)
    (case k5 => k_mem)
    (case k6 => k_updF)
    (case k7 => (intro o9; (try dsimp only); k_updF))
    (case k8 => k_asm)
    (case k9 => first | exact rfl | assumption)
    (case k10 => assumption)
    (case k11 => assumption)
    (case k12 => first | assumption | (unfold WordIs; simp))
    (case k13 => k_ne)
    (case k14 => k_ne)
    (case k15 => k_ne)
    (case k16 => omega)
    (case k17 => omega)
    (case k18 => assumption)
    (case k19 => assumption)
    (case k20 => assumption)
    (case k21 => ktr_room)
    (case k22 => ktr_units)
    intro σ9 t19 tc9 tr9 fv9 ev9 ev29 c9 nr9 t29 tc29 oW9 h9 tk9 F9 N9 hW9 hS9 hE9 hR9 hc09 hc19
    (try dsimp only at N9)
    (have hd9 := endR_handed hE9)
    (try k_sweep); (try k_fold)))
  k_with "call ref" => (k_here; (with_reducible show wpAny _ _ (call (Value.ref 233) [Value.ref _, Value.ref _, Value.int _ _]) _ _ _); k_dflt (
    refine' time_spec ?k1 ?k2 ?k3 ?k4 ?k5 ?k6 ?k7 ?k8 ?k9 ?k10 ?k11 ?k13 ?k14 ?k15 ?k19 ?k20 ?k21 ?k22 ?_
    (case k1 => k_asm)
    (case k2 => k_asm)
    (case k3 => k_asm)
    (case k4 => k_asm)
    (case k5 => k_mem)
    (case k6 => k_updF)
    (case k7 => (intro o9; (try dsimp only); k_updF))
    (case k8 => k_asm)
    (case k9 => first | exact rfl | assumption)
    (case k10 => assumption)
    (case k11 => assumption)
    (case k13 => k_ne)
    (case k14 => k_ne)
    (case k15 => k_ne)
    (case k19 => assumption)
    (case k20 => assumption)
    (case k21 => ktr_room)
    (case k22 => ktr_units)
    intro σ9 t19 tc9 tr9 fv9 ev9 ev29 t29 tc29 now9 tn9 oW9 h9 tk9 F9 N9 hW9 hS9 hE9
    (try dsimp only at N9)
    (have hd9 := endR_handed hE9)
    (try k_sweep); (try k_fold)))
  k_with "pyIter ref" => (k_dflt (
    (rename Fr _ _ _ _ => lF'); (rename News _ _ _ _ => lN'); (rename IsRange _ _ _ _ _ _ _ _ => rgX);
    (with_unfolding_all refine' loop_led [Str.ofString "form", Str.ofString "words"] (by rfl) (by first | exact rgX | assumption) (by first | exact small_one (by omega) (by omega) (by omega) (by omega) | exact small_one (by l_bnd) (by l_bnd) (by l_bnd) (by l_bnd) | decide) (by first | exact rangeSize_nat _ _ | rfl) lF' lN' ?mC ?mD ?mW ?hW ?mP ?mI ?hS ?hE ?hR ?hc0 ?_ ?_)
    (case mC => k_mem)
    (case mD => k_mem)
    (case hW => assumption)
    (case mW => k_mem)
    (case mP => k_mem)
    (case mI => k_mem)
    (case hS => first | assumption | (unfold StateIs; simp))
    (case hE => first | assumption | exact .inl ⟨rfl, rfl⟩)
    (case hR => first | assumption | (unfold RN; omega))
    (case hc0 => omega)
    clear lF' lN' rgX; intro σ8 t18 tc8 tr8 fv8 ev8 ev28 c8 nr8 t28 tc28 now8 tn8 oW8 k8 tk8 pre8 kk8 t8 u8 h8 tkk8 own8 hkk8 hlt8 ho18 ho28 ho38 ho48 ho58 hW8 hS8 hE8 hR8 hc08 hc18 hk08 hk18 F8 N8; (have hd8 := endR_handed hE8); (try k_sweep); (try k_fold)
    rotate_left 1
    clear lF' lN' rgX; intro σ8 t18 tc8 tr8 fv8 ev8 ev28 c8 nr8 t28 tc28 now8 tn8 oW8 k8 tk8 u8 h8 tkk8 hW8 hS8 hE8 hR8 hc08 hc18 hk08 hk18 F8 N8; (have hd8 := endR_handed hE8); (try k_sweep); (try k_fold)
    rotate_right 1))
  k_with "compareOp NotEq str str" => (with_reducible refine ne_same_str ?_)
  k_with "compareOp NotEq int int" => (with_reducible refine ne_same_int ?_)
  k_with "compareOp NotEq bool bool" => (with_reducible refine ne_same_bool ?_)
  k_with "compareOp NotEq" => (with_reducible refine ne_end (by assumption) ?_)
  k_with "subscriptTail" => (k_here; (with_reducible show wpAny _ _ (subscriptTail (PySem.Expr.Name (Str.ofString "words") _) _ (Value.ref _) (Value.int _ _)) _ _ _); k_dflt (refine' word_item ?k1 ?k2 ?k3 ?k4 ?k5 ?_; (case k1 => is_list); (case k2 => exact six_words (by unfold WordIs; simp) (by unfold WordIs; simp) (by unfold WordIs; simp) (by unfold WordIs; simp) (by unfold WordIs; simp) (by unfold WordIs; simp)); (case k3 => assumption); (case k4 => assumption); (case k5 => assumption); k_whole); intro word7 tw7 hw7)
  k_with "exec For Name Call cons nil" => (k_here; (rename Fr _ _ _ _ => lF'); (with_unfolding_all refine' For_invVF lF' ?k1 ?k2 ?_; (case k1 => exact rfl); (case k2 => exact rfl); k_whole))
  k_with "InvEndN" => (k_dflt (
    refine' end_led ?e1 ?e2 ?e3 ?e4 ?e5 ?e6 ?e7 ?e8 ?e9 ?e10 ?e11 ?e12 ?e13 ?e14 ?e15 ?e16 ?e17
    (case e1 => k_asm)
    (case e2 => k_asm)
    (case e3 => k_mem)
    (case e4 => k_mem)
    (case e5 => k_mem)
    (case e6 => k_mem)
    (case e7 => k_mem)
    (case e8 => first | kst_in | kst_inAny | (intro p hp; kst_mem) | kst_anyIn | (simp_all; done))
    (case e9 => assumption)
    (case e10 => assumption)
    (case e11 => first | assumption | exact .inl ⟨rfl, rfl⟩ | exact .inr ⟨_, _, _, rfl, rfl⟩)
    (case e12 => assumption)
    (case e13 => first | assumption | omega)
    (case e14 => ((simp only [List.length_append, List.length_cons, List.length_nil] at *); omega))
    (case e15 => ((simp only [List.length_append, List.length_cons, List.length_nil] at *); omega))
    (case e16 => ((simp only [List.length_append, List.length_cons, List.length_nil] at *); omega))
    (case e17 => (intro z hz hs; first | rfl | (simp_all; done)))))
  refine wpAny_call ?_
  k_dflt cell_enter
  k_steps
  all_goals (
    refine' hret _ _ _ _ ?e1 ?e2 ?e3 ?e4
    (case e3 => k_asm)
    (case e4 => exact news_two (by assumption) (by k_mem) (by k_mem))
    (case e1 => omega)
    (case e2 => omega))
end
end
section
theorem rg_no_bytes : typeLookup (.type "range") "__bytes__" = pure none := by rw [typeLookup_type, builtinLookup_eq_fast]; kernel_rfl
theorem rg_no_index : typeLookup (.type "range") "__index__" = pure none := by rw [typeLookup_type, builtinLookup_eq_fast]; kernel_rfl
theorem rg_no_buffer : typeLookup (.type "range") "__buffer__" = pure none := by rw [typeLookup_type, builtinLookup_eq_fast]; kernel_rfl
theorem rg_split : splitId "range.__len__" = some ("range", "__len__") := by decide +kernel
theorem rg_sub : isSubtype (.type "range") (.type "range") = pure true := by rw [isSubtype_type]; kernel_rfl
theorem rangeKs_succ (a : Int) (i : Nat) : rangeKs a (i + 1) = rangeKs a i ++ [a + (i : Int)] := by
  unfold rangeKs
  rw [List.range_succ, List.map_append]
  rfl
theorem byteArr_snoc (ks : List Int) (k : Int) : byteArr (ks ++ [k]) = (byteArr ks).push k.toNat.toUInt8 := by
  unfold byteArr
  simp
section
variable {prog : Program} {w : World} {A : Around} {E : Value → Shared → Prop} {s : Shared}
theorem rg_loop {R : Result → Shared → Prop} {I S : Addr} {a : Int} {n : Nat} (hh : A.handled = none) (h0 : 0 ≤ a) (h1 : a + (n : Int) ≤ 256) (hIS : @Ne Nat I S) :
    ∀ (k i : Nat) (s : Shared), n - i = k → i ≤ n → IsRangeIter s.heap I (a + (i : Nat) * 1) ((n : Int) - (i : Nat)) 1 → s.heap.get? S = some { cls := .type "bytearray", data := .bytearray (byteArr (rangeKs a i)) } →
      (∀ h' t k', (∀ b o, b ≠ I → b ≠ S → s.heap.get? b = some o → h'.get? b = some o) → R (.ok (.ret (.bytes (byteArr (rangeKs a n)) t))) { s with heap := h', toks := k' }) →
      codeAny (model prog w) A (.builtin "bytes.__new__.loop" ⟨[.type "bytes", .ref I, .ref S], []⟩) R s := by
  have W := LCg.range_walks (prog := prog) (w := w) (A := A.in1) (I := I) hh a n
  intro k
  induction k with
  | zero =>
    intro i s hk hle hit hS hR
    have hin : i = n := by omega
    subst hin
    refine codeAny_builtin F.bm_entry_loop ?_
    rw [Around.under_plainId F.bm_plain_loop _]
    show wpAny _ A.in1 (pyNext (.ref I) >>= _) _ _ s
    refine wpAny_bind (W.done s _ _ hit fun h' tk he => ?_)
    have he' : ∀ b o, b ≠ I → s.heap.get? b = some o → h'.get? b = some o := fun b o hb e => he b o (by simpa using hb) e
    have hS' : h'.get? S = some { cls := .type "bytearray", data := .bytearray (byteArr (rangeKs a i)) } := he' S _ (Ne.symm hIS) hS
    refine wpAny_bind ?_
    unfold Builtin.Bytes.payload Builtin.Bytes.payload?
    refine wpAny_bind (wpAny_bind (wpAny_load hS' ?_))
    refine wpAny_pure (wpAny_pure ?_)
    refine wpAny_bind (wpAny_mkBytes ?_ (by rw [byteArr_size, rangeKs_length, sizeLine_eq]; omega))
    show wpAny _ _ (if (Value.type "bytes" == Value.type "bytes") = true then _ else _) _ _ _
    refine bm_if_true (by decide) ?_
    first
      | exact wpAny_pure (hR h' _ _ fun b o hb _ e => he' b o hb e)
      | exact wpAny_bind (wpAny_pure (wpAny_pure (hR h' _ _ fun b o hb _ e => he' b o hb e)))
  | succ k ih =>
    intro i s hk hle hit hS hR
    have hlt : i < n := by omega
    refine codeAny_builtin F.bm_entry_loop ?_
    rw [Around.under_plainId F.bm_plain_loop _]
    show wpAny _ A.in1 (pyNext (.ref I) >>= _) _ _ s
    refine wpAny_bind (W.item i s _ _ hlt hit fun v h' tk hP hit' he => ?_)
    obtain ⟨t, rfl⟩ := hP
    have he' : ∀ b o, b ≠ I → s.heap.get? b = some o → h'.get? b = some o := fun b o hb e => he b o (by simpa using hb) e
    have hS' : h'.get? S = some { cls := .type "bytearray", data := .bytearray (byteArr (rangeKs a i)) } := he' S _ (Ne.symm hIS) hS
    refine wpAny_bind (wpAny_holding (wpAny_of_eq (rfl : asIndex (.int (a + (i : Int)) t) = pure (a + (i : Int))) ?_))
    refine wpAny_bind (wpAny_letGo ?_)
    refine bm_if_false (by simp only [Bool.or_eq_false_iff, decide_eq_false_iff_not]; omega) ?_
    refine wpAny_bind ?_
    show wpAny _ _ (updateBytearray S (·.push (a + (i : Int)).toNat.toUInt8)) _ _ _
    unfold updateBytearray
    refine wpAny_bind (wpAny_load hS' ?_)
    show wpAny _ _ (update S (Obj.mapBytearray (·.push (a + (i : Int)).toNat.toUInt8)) >>= fun _ => lookBehind S) _ _ _
    refine wpAny_bind (wpAny_update hS' ?_)
    have hS₂ : (h'.update S (Obj.mapBytearray (·.push (a + (i : Int)).toNat.toUInt8))).get? S = some { cls := .type "bytearray", data := .bytearray (byteArr (rangeKs a (i + 1))) } := by
      rw [rangeKs_succ, byteArr_snoc]
      exact Heap.get?_update_self (Obj.mapBytearray (·.push (a + (i : Int)).toNat.toUInt8)) hS' rfl
    refine wpAny_lookBehind hS₂ ?_ ?_
    · show (if (byteArr (rangeKs a (i + 1))).size > sizeLine then some "bytearray:memory" else none) = none
      rw [if_neg]
      rw [byteArr_size, rangeKs_length, sizeLine_eq]
      omega
    · refine wpAny_pure ⟨plainId_quiet F.bm_plain_loop _, ih (i + 1) { s with heap := h'.update S (Obj.mapBytearray (·.push (a + (i : Int)).toNat.toUInt8)), toks := tk } (by omega) hlt ?_ hS₂ fun h3 t' k' hk3 => ?_⟩
      · exact (Heap.get?_update_other _ _ (Ne.symm hIS)).trans hit'
      · exact hR h3 t' k' fun b o hbI hbS e => hk3 b o hbI hbS ((Heap.get?_update_other _ _ (Ne.symm hbS)).trans (he' b o hbI e))
theorem rg_new {r : Addr} {a b : Int} {t u v : Tok} {n : Nat} {Q : Value → Shared → Prop} (hh : A.handled = none) (hr : IsRange s.heap r a b 1 t u v) (hsmall : Builtin.Range.small a b 1 = true) (hn : Builtin.Range.rangeSize a b 1 = (n : Int))
    (h0 : 0 ≤ a) (h1 : a + (n : Int) ≤ 256)
    (hQ : ∀ h' t k, (∀ b o, s.heap.get? b = some o → h'.get? b = some o) → Q (.bytes (byteArr (rangeKs a n)) t) { s with heap := h', toks := k }) :
    codeAny (model prog w) A (.call (.builtin "bytes.__new__") ⟨[.type "bytes", .ref r], []⟩) (wants Q E) s := by
  refine codeAny_of_tree ?_
  show wpAny _ A.in1 (do checkBuiltinCall "bytes.__new__" ⟨[.type "bytes", .ref r], []⟩; again (.builtin "bytes.__new__" ⟨[.type "bytes", .ref r], []⟩)) _ _ s
  refine wpAny_bind (wpAny_of_eq (F.bm_newCall _) (wpAny_pure ⟨plainId_quiet F.bm_plain _, codeAny_builtin F.bm_entry ?_⟩))
  rw [Around.under_plainId F.bm_plain _]
  have hT : s.TypeIs (.ref r) "range" := ⟨_, hr, rfl⟩
  unfold Builtin.«bytes.__new__»
  refine wpAny_bind (wpAny_of_eq (a := true) rfl ?_)
  refine bm_if_false rfl ?_
  refine wpAny_bind (wpAny_of_eq F.bm_sub ?_)
  refine bm_if_false rfl ?_
  refine wpAny_bind (wpAny_of_eq (F.bm_bind _) ?_)
  refine wpAny_bind (wpAny_of_eq (a := ()) rfl ?_)
  refine wpAny_bind (wpAny_of_eq (a := ()) rfl ?_)
  refine bm_if_false rfl ?_
  refine wpAny_bind (wpAny_specialOf hT rg_no_bytes ?_)
  refine wpAny_bind (wpAny_bind ?_)
  show wpAny _ _ (load r >>= _) _ _ _
  refine wpAny_bind (wpAny_load hr ?_)
  refine wpAny_pure (wpAny_pure ?_)
  refine bm_if_false rfl ?_
  refine wpAny_bind (wpAny_specialOf hT rg_no_index ?_)
  refine bm_if_true rfl ?_
  first
    | show wpAny _ _ (Builtin.Bytes.buffer? "bytes.__new__" (.ref r) true >>= _) _ _ _
    | (refine wpAny_bind ?_; show wpAny _ _ (Builtin.Bytes.buffer? "bytes.__new__" (.ref r) true >>= _) _ _ _)
  refine wpAny_bind ?_
  unfold Builtin.Bytes.buffer?
  refine wpAny_bind (wpAny_specialOf hT rg_no_buffer ?_)
  refine wpAny_bind (wpAny_specialOf hT rg_no_buffer ?_)
  refine wpAny_pure ?_
  refine wpAny_bind (wpAny_tryCatch (wpAny_pyIter_range hr hsmall ?_))
  generalize hit : s.heap.push { cls := .type "range_iterator", data := .fields #[rawInt a, rawInt (Builtin.Range.rangeSize a b 1), rawInt 1] } = H1
  have hr₁ : IsRange H1 r a b 1 t u v := by subst hit; exact Heap.get?_push_of_some _ hr
  have hI₁ : IsRangeIter H1 s.heap.objs.size (a + ((0 : Nat) : Int) * 1) ((n : Int) - ((0 : Nat) : Int)) 1 := by
    subst hit; show IsRangeIter _ _ _ _ _; rw [hn]; simpa using Heap.get?_push_size _ rfl
  have up : ∀ b o, s.heap.get? b = some o → H1.get? b = some o := by subst hit; exact fun b o e => Heap.get?_push_of_some _ e
  have hsz : H1.objs.size = s.heap.objs.size + 1 := by subst hit; exact Heap.size_push _ _
  have hT₁ : ({ s with heap := H1 } : Shared).TypeIs (.ref r) "range" := ⟨_, hr₁, rfl⟩
  refine wpAny_bind (wpAny_holding ?_)
  unfold Builtin.Bytes.lengthHint
  refine wpAny_bind (wpAny_specialOf hT₁ F.slot_range_len.lookup ?_)
  dsimp only
  rw [rg_split]
  dsimp only
  refine wpAny_bind (wpAny_isInstance (T := "range") (b := true) hT₁ rg_sub ?_)
  refine bm_if_false rfl ?_
  refine bm_if_false (by decide +kernel) ?_
  refine bm_if_true rfl ?_
  refine wpAny_bind (wpAny_rule ?_)
  refine wpAny_bind (wpAny_attempt (call_len_range hr₁ hn (by omega) ?_))
  refine wpAny_bind (m := asInt? _) (wpAny_pure ?_)
  have htl : Builtin.Bytes.tooLong ((n : Int).toNat) = false := KBy.tooLong_not (by omega)
  dsimp only
  refine bm_if_false htl ?_
  refine wpAny_pure ?_
  refine wpAny_bind ?_
  unfold Builtin.Bytes.newBytearray
  refine wpAny_newObj_type ?_ (Nat.zero_le _)
  have hI : IsRangeIter (H1.push { cls := .type "bytearray", data := .bytearray #[] }) s.heap.objs.size (a + ((0 : Nat) : Int) * 1) ((n : Int) - ((0 : Nat) : Int)) 1 := Heap.get?_push_of_some _ hI₁
  have main := fun tk => rg_loop (prog := prog) (w := w) (A := A) (R := wants Q E) (I := s.heap.objs.size) (S := H1.objs.size) hh h0 h1 (by rw [hsz]; exact Nat.ne_of_lt (Nat.lt_succ_self _))
    n 0 { s with heap := H1.push { cls := .type "bytearray", data := .bytearray #[] }, toks := tk } rfl (Nat.zero_le _) hI (Heap.get?_push_size _ rfl)
    fun h' t k hk => hQ h' t k fun b o e => hk b o (Nat.ne_of_lt (Heap.lt_size e)) (by rw [hsz]; exact Nat.ne_of_lt (Nat.lt_succ_of_lt (Heap.lt_size e))) (Heap.get?_push_of_some _ (up _ _ e))
  first
    | exact wpAny_pure ⟨plainId_quiet F.bm_plain_loop _, main _⟩
    | exact wpAny_pure (wpAny_pure ⟨plainId_quiet F.bm_plain_loop _, main _⟩)
theorem call_bytes_range {r : Addr} {a b : Int} {t u v : Tok} {n : Nat} {Q : Value → Shared → Prop} (hh : A.handled = none) (hr : IsRange s.heap r a b 1 t u v) (hsmall : Builtin.Range.small a b 1 = true) (hn : Builtin.Range.rangeSize a b 1 = (n : Int))
    (h0 : 0 ≤ a) (h1 : a + (n : Int) ≤ 256)
    (hQ : ∀ h' t k, (∀ b o, s.heap.get? b = some o → h'.get? b = some o) → Q (.bytes (byteArr (rangeKs a n)) t) { s with heap := h', toks := k }) : wpAny (model prog w) A (call (.type "bytes") [.ref r]) Q E s := by
  refine callType_codes (Q₁ := fun obj s₁ => s₁.TypeIs obj "bytes" ∧ Q obj s₁) F.bm_called (F.bm_typeCall _) F.entry_object_init
    (rg_new hh hr hsmall hn h0 h1 fun h' t k hk => ⟨PySem.W.typeIs_bytes _ _ _, hQ h' t k hk⟩) fun obj s₁ h₁ => ?_
  exact ⟨h₁.1, F.args_object_init_2 obj _, object_init_meets F.bm_called.init.lookup F.bm_called.made (by decide) prog w A.in1 _ s₁ ⟨h₁.1, rfl, h₁.2⟩⟩
theorem bytes_rangeK {h₀ : Heap} {L : Addr} {m : PySem.Str → Option Value} {news : List (Addr × Obj)} {r : Addr} {a b : Int} {t u v : Tok} {n : Nat} {Q : Value → Shared → Prop} (F : Fr h₀ L s.heap m) (N : News h₀ L s.heap news) (hh : A.handled = none)
    (hr : IsRange s.heap r a b 1 t u v) (hsmall : Builtin.Range.small a b 1 = true) (hn : Builtin.Range.rangeSize a b 1 = (n : Int)) (h0 : 0 ≤ a) (h1 : a + (n : Int) ≤ 256)
    (hQ : ∀ h' t k, Fr h₀ L h' m → News h₀ L h' news → Q (.bytes (byteArr (rangeKs a n)) t) { s with heap := h', toks := k }) : wpAny (model prog w) A (call (.type "bytes") [.ref r]) Q E s :=
  call_bytes_range hh hr hsmall hn h0 h1 fun h' t k hk => hQ h' t k (F.keeps hk) (fun q hq => ⟨hk _ _ (N q hq).1, (N q hq).2⟩)
end
end
section
theorem bytes_inj : ∀ {l m : List UInt8}, (l.map fun c => (c.toNat : Int)) = (m.map fun c => (c.toNat : Int)) → l = m
  | [], [], _ => rfl
  | [], _ :: _, h => by simp at h
  | _ :: _, [], h => by simp at h
  | a :: l, b :: m, h => by
    simp only [List.map_cons, List.cons.injEq] at h
    have e : a.toNat = b.toNat := by omega
    rw [UInt8.toNat_inj.mp e, bytes_inj h.2]
theorem bInts_inj {b c : Array UInt8} (h : KBw.bInts b = KBw.bInts c) : b = c := by
  have e : b.toList = c.toList := bytes_inj h
  rw [← Array.toArray_toList (xs := b), e, Array.toArray_toList]
def min42 (x : Int) : Int := if 42 < x then 42 else x
def max0 (x : Int) : Int := if 0 < x then x else 0
theorem and63 {x : Int} (h0 : 0 ≤ x) (h1 : x < 256) : Builtin.bitAnd x 63 = x % 64 := by
  have key : ∀ n : Fin 256, Builtin.bitAnd ((n.val : Nat) : Int) 63 = ((n.val : Nat) : Int) % 64 := by decide +kernel
  have := key ⟨x.toNat, by omega⟩
  simpa [Int.toNat_of_nonneg h0] using this
theorem or64 {x : Int} (h0 : 0 ≤ x) (h1 : x < 64) : Builtin.bitOr 64 x = 64 + x := by
  have key : ∀ n : Fin 64, Builtin.bitOr 64 ((n.val : Nat) : Int) = 64 + ((n.val : Nat) : Int) := by decide +kernel
  have := key ⟨x.toNat, by omega⟩
  simpa [Int.toNat_of_nonneg h0] using this
theorem drop_tail {a t : List Int} (h : t.length = 16) : (a ++ t).drop (((a ++ t).length : Int) - 16).toNat = t := by
  have e : (((a ++ t).length : Int) - 16).toNat = a.length := by rw [List.length_append, h]; omega
  rw [e, List.drop_left]
theorem news_both {h₀ h : Heap} {L : Addr} {p q : Addr × Obj} {news : List (Addr × Obj)} (N : News h₀ L h news) (mp : p ∈ news) (mq : q ∈ news) : News h₀ L h [p, q] := by
  intro x hx
  rcases List.mem_cons.mp hx with rfl | hx
  · exact N _ mp
  rcases List.mem_cons.mp hx with rfl | hx
  · exact N _ mq
  · exact nomatch hx
section
variable {prog : Program} {w : World} {A : Around} {E : Value → Shared → Prop} {s : Shared} {h₀ : Heap} {L : Addr} {m : PySem.Str → Option Value} {news : List (Addr × Obj)} {Q : Value → Shared → Prop} {b c : Array UInt8} {t u : Tok} {ks ls : List Int}
theorem bytes_rangeV {r : Addr} {x y : Int} {t u v : Tok} {n : Nat} (F : Fr h₀ L s.heap m) (N : News h₀ L s.heap news) (hh : A.handled = none)
    (hr : IsRange s.heap r x y 1 t u v) (hsmall : Builtin.Range.small x y 1 = true) (hn : Builtin.Range.rangeSize x y 1 = (n : Int)) (h0 : 0 ≤ x) (h1 : x + (n : Int) ≤ 256)
    (hQ : ∀ (b : Array UInt8) h' t k, KBw.bInts b = rangeKs x n → Fr h₀ L h' m → News h₀ L h' news → Q (.bytes b t) { s with heap := h', toks := k }) : wpAny (model prog w) A (call (.type "bytes") [.ref r]) Q E s :=
  bytes_rangeK F N hh hr hsmall hn h0 h1 fun h' t k F' N' => hQ _ h' t k (KBa.ints_make fun z hz => by
    have := mem_rangeKs hz
    omega) F' N'
theorem bytes_oneV {l : Addr} {x : Int} {tx : Tok} (F : Fr h₀ L s.heap m) (N : News h₀ L s.heap news) (hh : A.handled = none) (hl : s.heap.IsList l [Value.int x tx].toArray) (h0 : 0 ≤ x) (h1 : x < 256)
    (hQ : ∀ (b : Array UInt8) h' t k, KBw.bInts b = [x] → Fr h₀ L h' m → News h₀ L h' news → Q (.bytes b t) { s with heap := h', toks := k }) : wpAny (model prog w) A (call (.type "bytes") [.ref l]) Q E s :=
  KBa.make_K F N hh hl (.cons x tx .nil) (fun n hn => by rw [List.mem_singleton.mp hn]; exact ⟨h0, h1⟩) (by simp) fun h' t' k F' N' hin => hQ _ h' t' k (KBa.ints_make hin) F' N'
theorem mul_rep {x n : Int} (hb : KBw.bInts b = [x]) (hn0 : 0 ≤ n) (hn : n ≤ 1000)
    (hQ : ∀ (d : Array UInt8) t' k, KBw.bInts d = List.replicate n.toNat x → Q (.bytes d t') { s with toks := k }) : wpAny (model prog w) A (binaryOp .Mult (.bytes b t) (.int n u)) Q E s := by
  obtain ⟨c, hc, hx⟩ : ∃ c : UInt8, b.toList = [c] ∧ (c.toNat : Int) = x := by
    have e : (b.toList.map fun c => (c.toNat : Int)) = [x] := hb
    match hl : b.toList, e with
    | [c], e => exact ⟨c, rfl, by simpa using e⟩
    | [], e => simp at e
    | _ :: _ :: _, e => simp at e
  have e : b = [c].toArray := by rw [← hc, Array.toArray_toList]
  rw [e]
  refine bytes_mul_any (by simp) (by omega) (by omega) (by simp) fun t' k => hQ _ t' k ?_
  rw [KBw.ints_list]
  have : (List.replicate n.toNat [c]).flatten = List.replicate n.toNat c := by
    generalize n.toNat = j
    induction j with
    | zero => rfl
    | succ j ih => rw [List.replicate_succ, List.flatten_cons, ih, List.replicate_succ]; rfl
  rw [this, List.map_replicate, hx]
theorem add_V (hb : KBw.bInts b = ks) (hc : KBw.bInts c = ls) (hsz : ks.length + ls.length ≤ 16777216)
    (hQ : ∀ (d : Array UInt8) t' k, KBw.bInts d = ks ++ ls → Q (.bytes d t') { s with toks := k }) : wpAny (model prog w) A (binaryOp .Add (.bytes b t) (.bytes c u)) Q E s :=
  KBa.add_K hb hc hsz fun t' k e => hQ _ t' k e
theorem ne_bytes_same (hb : KBw.bInts b = ks) (hc : KBw.bInts c = ls) (e : ks = ls) (h : Q (.bool false) s) : wpAny (model prog w) A (compareOp .NotEq (.bytes b t) (.bytes c u)) Q E s := by
  have : b = c := bInts_inj (by rw [hb, hc, e])
  subst this
  refine ne_bytes ?_
  rw [bne_self_eq_false]; exact h
theorem eq_bytes_same (hb : KBw.bInts b = ks) (hc : KBw.bInts c = ls) (e : ks = ls) (h : Q (.bool true) s) : wpAny (model prog w) A (compareOp .Eq (.bytes b t) (.bytes c u)) Q E s := by
  have : b = c := bInts_inj (by rw [hb, hc, e])
  subst this
  refine eq_bytes ?_
  rw [beq_self_eq_true]; exact h
theorem len_V {n : Int} (hb : KBw.bInts b = ks) (hn : (ks.length : Int) = n) (hle : n ≤ 1000) (h : Q (.int n (s.toks + 1)) { s with toks := s.toks + 1 + 1 }) : wpAny (model prog w) A (call (.builtin "len") [.bytes b t]) Q E s :=
  KBw.len_K hb (by omega) (by rw [hn]; exact h)
theorem and_V {x : Int} (h0 : 0 ≤ x) (h1 : x < 256) (h : Q (.int (x % 64) s.toks) { s with toks := s.toks + 1 }) : wpAny (model prog w) A (binaryOp .BitAnd (.int x t) (.int 63 u)) Q E s :=
  and_int (by rw [and63 h0 h1]; exact h)
theorem or_V {x : Int} (h0 : 0 ≤ x) (h1 : x < 64) (h : Q (.int (64 + x) s.toks) { s with toks := s.toks + 1 }) : wpAny (model prog w) A (binaryOp .BitOr (.int 64 t) (.int x u)) Q E s :=
  or_int (by rw [or64 h0 h1]; exact h)
theorem mod_V {x : Int} (h0 : 0 ≤ x) (h : Q (.int (x % 64) s.toks) { s with toks := s.toks + 1 }) : wpAny (model prog w) A (binaryOp .Mod (.int x t) (.int 64 u)) Q E s :=
  PyProof.Rows.mod_int (by decide) (by rw [Int.fmod_eq_emod_of_nonneg _ (by decide)]; exact h)
theorem min_V {x : Int} (hh : A.handled = none) (F : Fr h₀ L s.heap m) (N : News h₀ L s.heap news)
    (h : ∀ h' (t' : Tok) tk, Fr h₀ L h' m → News h₀ L h' news → min42 x ≤ 42 → min42 x ≤ x → (min42 x = 42 ∨ min42 x = x) → Q (.int (min42 x) t') { s with heap := h', toks := tk }) :
    wpAny (model prog w) A (call (.builtin "min") [.int x t, .int 42 u]) Q E s :=
  min_two_N hh F N fun h' tk F' N' => h h' _ tk F' N' (by unfold min42; split <;> omega) (by unfold min42; split <;> omega) (by unfold min42; split <;> omega)
theorem max_V {x : Int} (hh : A.handled = none) (F : Fr h₀ L s.heap m) (N : News h₀ L s.heap news)
    (h : ∀ h' (t' : Tok) tk, Fr h₀ L h' m → News h₀ L h' news → 0 ≤ max0 x → x ≤ max0 x → (max0 x = 0 ∨ max0 x = x) → Q (.int (max0 x) t') { s with heap := h', toks := tk }) :
    wpAny (model prog w) A (call (.builtin "max") [.int 0 t, .int x u]) Q E s :=
  max_two_N hh F N fun h' tk F' N' => h h' _ tk F' N' (by unfold max0; split <;> omega) (by unfold max0; split <;> omega) (by unfold max0; split <;> omega)
theorem clip_in {n : Nat} {i : Int} (h0 : 0 ≤ i) (h1 : i ≤ (n : Int)) : clipAt n i = i.toNat := by
  have := clipAt_nat n i.toNat
  rw [Int.toNat_of_nonneg h0] at this
  rw [this]; omega
theorem slice_from {value slice : PySem.Expr} {i : Int} {ti : Tok} (hF : Fr h₀ L s.heap m) (hN : News h₀ L s.heap news) (hk : KBw.bInts b = ks) (h0 : 0 ≤ i) (h1 : i ≤ (ks.length : Int)) (hz : ks.length ≤ 16777216)
    (hQ : ∀ (d : Array UInt8) h' t' k, KBw.bInts d = ks.drop i.toNat → Fr h₀ L h' m → News h₀ L h' news → Q (.bytes d t') { s with heap := h', toks := k })
    (hs : subscripted slice false (.bytes b t) (.ref s.heap.objs.size) = operate [.ref s.heap.objs.size, .bytes b t] (getItem (.bytes b t) (.ref s.heap.objs.size)) := by with_unfolding_all rfl)
    (ht : ∀ r, letTemporaryGo value (.bytes b t) r = pure () := by intro _; with_unfolding_all rfl) :
    wpAny (model prog w) A (subscriptTail value slice (.bytes b t) (.ref s.heap.objs.size)) Q E { s with heap := s.heap.push { cls := .type "slice", data := .fields #[.int i ti, .none, .none] } } :=
  KBc.slice_K (lo := some i) (hi := none) hF hN hk (by constructor) (by constructor) hz (fun h' t' k F' N' e => hQ _ h' t' k (by
    rw [e]
    simp only [Option.elim, clip_in h0 h1]
    exact List.take_of_length_le (by rw [List.length_drop]; omega)) F' N') hs ht
theorem slice_mid {value slice : PySem.Expr} {i j : Int} {ti tj : Tok} (hF : Fr h₀ L s.heap m) (hN : News h₀ L s.heap news) (hk : KBw.bInts b = ks) (h0 : 0 ≤ i) (h2 : i ≤ j) (h1 : j ≤ (ks.length : Int)) (hz : ks.length ≤ 16777216)
    (hQ : ∀ (d : Array UInt8) h' t' k, KBw.bInts d = (ks.drop i.toNat).take (j.toNat - i.toNat) → Fr h₀ L h' m → News h₀ L h' news → Q (.bytes d t') { s with heap := h', toks := k })
    (hs : subscripted slice false (.bytes b t) (.ref s.heap.objs.size) = operate [.ref s.heap.objs.size, .bytes b t] (getItem (.bytes b t) (.ref s.heap.objs.size)) := by with_unfolding_all rfl)
    (ht : ∀ r, letTemporaryGo value (.bytes b t) r = pure () := by intro _; with_unfolding_all rfl) :
    wpAny (model prog w) A (subscriptTail value slice (.bytes b t) (.ref s.heap.objs.size)) Q E { s with heap := s.heap.push { cls := .type "slice", data := .fields #[.int i ti, .int j tj, .none] } } :=
  KBc.slice_K (lo := some i) (hi := some j) hF hN hk (by constructor) (by constructor) hz (fun h' t' k F' N' e => hQ _ h' t' k (by
    rw [e]
    simp only [Option.elim, clip_in h0 (show i ≤ (ks.length : Int) by omega), clip_in (show 0 ≤ j by omega) h1]) F' N') hs ht
end
end
section
open PySem.SeqAt
inductive SameV : Value → Value → Prop
  | none : SameV .none .none
  | str (x : PySem.Str) (t u : Tok) : SameV (.str x t) (.str x u)
  | int (x : Int) (t u : Tok) : SameV (.int x t) (.int x u)
  | bytes (x : Array UInt8) (t u : Tok) : SameV (.bytes x t) (.bytes x u)
section
variable {A : Around} {s : Shared}
theorem eqAt_bytes (b : Array UInt8) (t u : Tok) : EqAt A s (.bytes b t) (.bytes b u) true := fun prog w E Q h => by
  unfold eqBool
  refine wpAny_holding ?_
  refine wpAny_ite_split (fun hab => wpAny_bind (wpAny_rule (wpAny_pure h))) (fun _ => ?_)
  refine wpAny_bind (richCompare_gives (op := .Eq) (typeIs_bytes s b t) (typeIs_bytes s b u) FB.slot_bytes_eq FB.entry_bytes_eq (FB.args_bytes_eq_2 _ _) (gives_bytes_eq b b t u) (fun e => nomatch e) (wpAny_truthy_bool ?_))
  rw [beq_self_eq_true]
  exact h
theorem SameV.at {x y : Value} (h : SameV x y) : EqAt A s x y true := by
  cases h with
  | none => exact EqAt.same _
  | str x t u => have := EqAt.str_str (A := A) (s := s) x t x u; rwa [beq_self_eq_true] at this
  | int x t u => have := EqAt.int_int (A := A) (s := s) x t x u; rwa [beq_self_eq_true] at this
  | bytes x t u => exact eqAt_bytes x t u
theorem ne_tup4_same {prog : Program} {w : World} {E : Value → Shared → Prop} {Q : Value → Shared → Prop} {l b : Addr} {x1 x2 x3 x4 y1 y2 y3 y4 : Value} (hl : s.heap.IsTuple l #[x1, x2, x3, x4]) (hb : s.heap.IsTuple b #[y1, y2, y3, y4]) (hu : A.units < cLine)
    (e1 : SameV x1 y1) (e2 : SameV x2 y2) (e3 : SameV x3 y3) (e4 : SameV x4 y4) (h : Q (.bool false) s) : wpAny (model prog w) A (compareOp .NotEq (.ref l) (.ref b)) Q E s := by
  show wpAny (model prog w) A (richCompare .NotEq (.ref l) (.ref b)) Q E s
  have key : RcNeAt A s (.ref l) (.ref b) (!((List.range (min 4 4)).all (fun _ => true) && 4 == 4)) := RcNeAt.tuples (e := fun _ => true) hl hb hu fun j h1 h2 => by
    match j, h1, h2 with
    | 0, _, _ => exact e1.at
    | 1, _, _ => exact e2.at
    | 2, _, _ => exact e3.at
    | 3, _, _ => exact e4.at
  exact key prog w E Q h
end
end
section
section
variable
    {prog : Program} {w : World} {p : Program} {loose : List PySem.Str} {mean : ExcName → Option Value} {mg mb : PySem.Str → Option Value}
    {dp un : Nat} {gd : Option (List Code)} {cn : PySem.Str} {cs : Scope} {a : Addr} {ccd : Value} {cl : List (PySem.Str × Addr)} {outer : List Env} {A₀ : Around} {base h₀ : Heap} {L : Addr} {m : PySem.Str → Option Value} {s : Shared} {Q E : Value → Shared → Prop}
    {S : Int} {tS tT tF : Tok} {tok fl : Array UInt8} {tks fks : List Int} {rest : List (Addr × Obj)}
abbrev resetOut (S : Int) (fks tks : List Int) : List Int := [64 + fks.getD (Int.toNat 0) 0 % 64] ++ List.take ((min42 (S - 1) - 16).toNat - Int.toNat 1) (List.drop (Int.toNat 1) fks) ++ tks
theorem drop_one {h : Heap} {p : Addr × Obj} {news : List (Addr × Obj)} (N : News h₀ L h (p :: news)) : News h₀ L h news := fun x hx => N x (.tail _ hx)
theorem rf_core
    (B : Below A₀ base outer h₀) (F : Fr h₀ L s.heap m) (X : (Mine.K w.params).In h₀)
    (N : News h₀ L s.heap rest) (T : Top p loose mean mg mb h₀) (hk : cs.kind = .function)
    (hT : KBw.bInts tok = tks) (hF : KBw.bInts fl = fks) (htl : tks.length ≤ 100) (hfl : fks.length ≤ 1000)
    (hdp : dp + 10 < recursionLimit)
    (hretN : (min42 (S - 1) < 21 ∨ (fks.length : Int) < min42 (S - 1) - 16 ∨ tks.length ≠ 16) → ∀ (h' : Heap) (tk' : Nat), Fr h₀ L h' m → News h₀ L h' rest → Q .none { s with heap := h', toks := tk' })
    (hretB : 21 ≤ min42 (S - 1) → min42 (S - 1) - 16 ≤ (fks.length : Int) → tks.length = 16 → ∀ (b : Array UInt8) (t : Tok) (h' : Heap) (tk' : Nat), KBw.bInts b = resetOut S fks tks → Fr h₀ L h' m → News h₀ L h' rest → Q (.bytes b t) { s with heap := h', toks := tk' }) :
    wpAny (model prog w) (ktrTop dp un gd cn cs L a ccd cl outer) (call (.ref 112) [.int S tS, .bytes tok tT, .bytes fl tF]) Q E s := by
  k_with_none
  k_with "call type:bytes" => (k_here; (with_reducible show wpAny _ _ (call (Value.type "bytes") [Value.ref _]) _ _ _); k_dflt (refine' bytes_oneV ?k1 ?k2 ?k3 ?k4 ?k5 ?k6 ?_; (case k1 => k_asm); (case k2 => k_asm); (case k3 => rfl); (case k4 => is_list); (case k5 => omega); (case k6 => omega); k_whole; intro b9 h9 t9 tk9 hb9 F9 N9; (try k_sweep); (try k_fold)))
  k_with "call type:bytes" => (k_here; (with_reducible show wpAny _ _ (call (Value.type "bytes") [Value.ref _]) _ _ _); k_dflt (refine' bytes_rangeV ?k1 ?k2 ?k3 ?k4 ?k5 ?k6 ?k7 ?k8 ?_; (case k1 => k_asm); (case k2 => k_asm); (case k3 => rfl); (case k4 => assumption); (case k5 => first | exact small_one (by omega) (by omega) (by omega) (by omega) | decide); (case k6 => first | exact rangeSize_nat _ _ | rfl); (case k7 => omega); (case k8 => omega); k_whole; intro b9 h9 t9 tk9 hb9 F9 N9; (try k_sweep); (try k_fold)))
  k_with "binaryOp Mult bytes int" => (k_here; k_dflt (refine' mul_rep ?k1 ?k2 ?k3 ?_; (case k1 => assumption); (case k2 => omega); (case k3 => omega); k_whole; intro b9 t9 tk9 hb9; (try k_fold)))
  k_with "binaryOp Add bytes bytes" => (k_here; k_dflt (refine' add_V ?k1 ?k2 ?k3 ?_; (case k1 => assumption); (case k2 => assumption); (case k3 => first | omega | (simp only [rangeKs_length, List.length_append, List.length_cons, List.length_nil, List.length_replicate, List.length_take, List.length_drop]; omega)); k_whole; intro b9 t9 tk9 hb9; (try k_fold)))
  k_with "call builtin:len" => (k_here; (with_reducible show wpAny _ _ (call (Value.builtin "len") [Value.bytes _ _]) _ _ _); k_dflt (refine len_V (by assumption) (by first | (simp only [rangeKs_length, List.length_append, List.length_cons, List.length_nil, List.length_replicate, List.length_take, List.length_drop]; exact rfl) | exact rfl) (by first | omega | (simp only [rangeKs_length, List.length_append, List.length_cons, List.length_nil, List.length_replicate, List.length_take, List.length_drop]; omega)) ?_))
  k_with "binaryOp BitAnd int int" => (k_here; k_dflt (refine and_V (by omega) (by omega) ?_))
  k_with "binaryOp BitOr int int" => (k_here; k_dflt (refine or_V (by omega) (by omega) ?_))
  k_with "binaryOp Mod int int" => (k_here; k_dflt (refine mod_V (by omega) ?_))
  k_with "call builtin:min" => (k_here; (with_reducible show wpAny _ _ (call (Value.builtin _) [Value.int _ _, Value.int 42 _]) _ _ _); k_dflt (refine' min_V ?k1 ?k2 ?k3 ?_; (case k1 => rfl); (case k2 => k_asm); (case k3 => k_asm); k_whole; intro h9 t9 tk9 F9 N9 hm91 hm92 hm93; (try k_sweep); (try k_fold)))
  k_with "call builtin:max" => (k_here; (with_reducible show wpAny _ _ (call (Value.builtin _) [Value.int 0 _, Value.int _ _]) _ _ _); k_dflt (refine' max_V ?k1 ?k2 ?k3 ?_; (case k1 => rfl); (case k2 => k_asm); (case k3 => k_asm); k_whole; intro h9 t9 tk9 F9 N9 hm91 hm92 hm93; (try k_sweep); (try k_fold)))
  k_with "subscriptTail" => (k_here; (with_reducible show wpAny _ _ (subscriptTail _ (Expr.Slice (some _) none none _) (Value.bytes _ _) (Value.ref _)) _ _ _); (with_reducible rename Fr _ _ _ _ => F'); (with_reducible rename News _ _ _ _ => N'); k_dflt (refine slice_from (s := ⟨_, _, _, _, _⟩) F' N' (by assumption) (by first | omega | (simp only [rangeKs_length, List.length_append, List.length_cons, List.length_nil, List.length_replicate, List.length_take, List.length_drop]; omega)) (by first | omega | (simp only [rangeKs_length, List.length_append, List.length_cons, List.length_nil, List.length_replicate, List.length_take, List.length_drop]; omega)) (by first | omega | (simp only [rangeKs_length, List.length_append, List.length_cons, List.length_nil, List.length_replicate, List.length_take, List.length_drop]; omega)) ?_); intro b9 h9 t9 tk9 hb9 F9 N9; (try k_sweep); (try k_fold))
  k_with "subscriptTail" => (k_here; (with_reducible show wpAny _ _ (subscriptTail _ (Expr.Slice (some _) (some _) none _) (Value.bytes _ _) (Value.ref _)) _ _ _); (with_reducible rename Fr _ _ _ _ => F'); (with_reducible rename News _ _ _ _ => N'); k_dflt (refine slice_mid (s := ⟨_, _, _, _, _⟩) F' N' (by assumption) (by first | omega | (simp only [rangeKs_length, List.length_append, List.length_cons, List.length_nil, List.length_replicate, List.length_take, List.length_drop]; omega)) (by first | omega | (simp only [rangeKs_length, List.length_append, List.length_cons, List.length_nil, List.length_replicate, List.length_take, List.length_drop]; omega)) (by first | omega | (simp only [rangeKs_length, List.length_append, List.length_cons, List.length_nil, List.length_replicate, List.length_take, List.length_drop]; omega)) (by first | omega | (simp only [rangeKs_length, List.length_append, List.length_cons, List.length_nil, List.length_replicate, List.length_take, List.length_drop]; omega)) ?_); intro b9 h9 t9 tk9 hb9 F9 N9; (try k_sweep); (try k_fold))
  refine wpAny_call ?_
  k_dflt (first | cell_enter | k_enter)
  k_steps
  all_goals (try w_report)
  · exact hretN (by omega) _ _ (by k_asm) (by k_asm)
  · exact hretN (by omega) _ _ (by k_asm) (by k_asm)
  · exact hretN (by omega) _ _ (by k_asm) (by k_asm)
  · exact hretB (by omega) (by omega) (by omega) _ _ _ _ (by assumption) (by k_asm) (drop_one (by assumption))
theorem tk_core {b : Array UInt8} {ks : List Int} {tb : Tok}
    (B : Below A₀ base outer h₀) (F : Fr h₀ L s.heap m) (X : (Mine.K w.params).In h₀)
    (N : News h₀ L s.heap rest) (T : Top p loose mean mg mb h₀) (hk : cs.kind = .function)
    (hb : KBw.bInts b = ks) (hkl : ks.length ≤ 1000)
    (hdp : dp + 10 < recursionLimit)
    (hretN : (ks.length : Int) < 21 → ∀ (h' : Heap) (tk' : Nat), Fr h₀ L h' m → News h₀ L h' rest → Q .none { s with heap := h', toks := tk' })
    (hretB : 21 ≤ (ks.length : Int) → ∀ (b : Array UInt8) (t : Tok) (h' : Heap) (tk' : Nat), KBw.bInts b = ks.drop ((ks.length : Int) - 16).toNat → Fr h₀ L h' m → News h₀ L h' rest → Q (.bytes b t) { s with heap := h', toks := tk' }) :
    wpAny (model prog w) (ktrTop dp un gd cn cs L a ccd cl outer) (call (.ref 119) [.bytes b tb]) Q E s := by
  k_with_none
  k_with "call type:bytes" => (k_here; (with_reducible show wpAny _ _ (call (Value.type "bytes") [Value.ref _]) _ _ _); k_dflt (refine' bytes_oneV ?k1 ?k2 ?k3 ?k4 ?k5 ?k6 ?_; (case k1 => k_asm); (case k2 => k_asm); (case k3 => rfl); (case k4 => is_list); (case k5 => omega); (case k6 => omega); k_whole; intro b9 h9 t9 tk9 hb9 F9 N9; (try k_sweep); (try k_fold)))
  k_with "call type:bytes" => (k_here; (with_reducible show wpAny _ _ (call (Value.type "bytes") [Value.ref _]) _ _ _); k_dflt (refine' bytes_rangeV ?k1 ?k2 ?k3 ?k4 ?k5 ?k6 ?k7 ?k8 ?_; (case k1 => k_asm); (case k2 => k_asm); (case k3 => rfl); (case k4 => assumption); (case k5 => first | exact small_one (by omega) (by omega) (by omega) (by omega) | decide); (case k6 => first | exact rangeSize_nat _ _ | rfl); (case k7 => omega); (case k8 => omega); k_whole; intro b9 h9 t9 tk9 hb9 F9 N9; (try k_sweep); (try k_fold)))
  k_with "binaryOp Mult bytes int" => (k_here; k_dflt (refine' mul_rep ?k1 ?k2 ?k3 ?_; (case k1 => assumption); (case k2 => omega); (case k3 => omega); k_whole; intro b9 t9 tk9 hb9; (try k_fold)))
  k_with "binaryOp Add bytes bytes" => (k_here; k_dflt (refine' add_V ?k1 ?k2 ?k3 ?_; (case k1 => assumption); (case k2 => assumption); (case k3 => first | omega | (simp only [rangeKs_length, List.length_append, List.length_cons, List.length_nil, List.length_replicate, List.length_take, List.length_drop]; omega)); k_whole; intro b9 t9 tk9 hb9; (try k_fold)))
  k_with "call builtin:len" => (k_here; (with_reducible show wpAny _ _ (call (Value.builtin "len") [Value.bytes _ _]) _ _ _); k_dflt (refine len_V (by assumption) (by first | (simp only [rangeKs_length, List.length_append, List.length_cons, List.length_nil, List.length_replicate, List.length_take, List.length_drop]; exact rfl) | exact rfl) (by first | omega | (simp only [rangeKs_length, List.length_append, List.length_cons, List.length_nil, List.length_replicate, List.length_take, List.length_drop]; omega)) ?_))
  k_with "binaryOp BitAnd int int" => (k_here; k_dflt (refine and_V (by omega) (by omega) ?_))
  k_with "binaryOp BitOr int int" => (k_here; k_dflt (refine or_V (by omega) (by omega) ?_))
  k_with "binaryOp Mod int int" => (k_here; k_dflt (refine mod_V (by omega) ?_))
  k_with "call builtin:min" => (k_here; (with_reducible show wpAny _ _ (call (Value.builtin _) [Value.int _ _, Value.int 42 _]) _ _ _); k_dflt (refine' min_V ?k1 ?k2 ?k3 ?_; (case k1 => rfl); (case k2 => k_asm); (case k3 => k_asm); k_whole; intro h9 t9 tk9 F9 N9 hm91 hm92 hm93; (try k_sweep); (try k_fold)))
  k_with "call builtin:max" => (k_here; (with_reducible show wpAny _ _ (call (Value.builtin _) [Value.int 0 _, Value.int _ _]) _ _ _); k_dflt (refine' max_V ?k1 ?k2 ?k3 ?_; (case k1 => rfl); (case k2 => k_asm); (case k3 => k_asm); k_whole; intro h9 t9 tk9 F9 N9 hm91 hm92 hm93; (try k_sweep); (try k_fold)))
  k_with "subscriptTail" => (k_here; (with_reducible show wpAny _ _ (subscriptTail _ (Expr.Slice (some _) none none _) (Value.bytes _ _) (Value.ref _)) _ _ _); (with_reducible rename Fr _ _ _ _ => F'); (with_reducible rename News _ _ _ _ => N'); k_dflt (refine slice_from (s := ⟨_, _, _, _, _⟩) F' N' (by assumption) (by first | omega | (simp only [rangeKs_length, List.length_append, List.length_cons, List.length_nil, List.length_replicate, List.length_take, List.length_drop]; omega)) (by first | omega | (simp only [rangeKs_length, List.length_append, List.length_cons, List.length_nil, List.length_replicate, List.length_take, List.length_drop]; omega)) (by first | omega | (simp only [rangeKs_length, List.length_append, List.length_cons, List.length_nil, List.length_replicate, List.length_take, List.length_drop]; omega)) ?_); intro b9 h9 t9 tk9 hb9 F9 N9; (try k_sweep); (try k_fold))
  k_with "subscriptTail" => (k_here; (with_reducible show wpAny _ _ (subscriptTail _ (Expr.Slice (some _) (some _) none _) (Value.bytes _ _) (Value.ref _)) _ _ _); (with_reducible rename Fr _ _ _ _ => F'); (with_reducible rename News _ _ _ _ => N'); k_dflt (refine slice_mid (s := ⟨_, _, _, _, _⟩) F' N' (by assumption) (by first | omega | (simp only [rangeKs_length, List.length_append, List.length_cons, List.length_nil, List.length_replicate, List.length_take, List.length_drop]; omega)) (by first | omega | (simp only [rangeKs_length, List.length_append, List.length_cons, List.length_nil, List.length_replicate, List.length_take, List.length_drop]; omega)) (by first | omega | (simp only [rangeKs_length, List.length_append, List.length_cons, List.length_nil, List.length_replicate, List.length_take, List.length_drop]; omega)) (by first | omega | (simp only [rangeKs_length, List.length_append, List.length_cons, List.length_nil, List.length_replicate, List.length_take, List.length_drop]; omega)) ?_); intro b9 h9 t9 tk9 hb9 F9 N9; (try k_sweep); (try k_fold))
  refine wpAny_call ?_
  k_dflt (first | cell_enter | k_enter)
  k_steps
  all_goals (try w_report)
  · exact hretB (by assumption) _ _ _ _ (by assumption) (by k_asm) (by k_asm)
  · exact hretN (by omega) _ _ (by k_asm) (by k_asm)
end
end
section
section
variable {prog : Program} {w : World} {A : Around} {E : Value → Shared → Prop} {s : Shared} {Q : Value → Shared → Prop}
theorem int_item {value slice : PySem.Expr} {l : Addr} {vs : List Value} {k : Int} {u : Tok} {n : Nat} {lo hi : Int} (hl : s.heap.IsList l vs.toArray) (hx : ∀ i, i < n → ∃ x t, vs[i]? = some (.int x t) ∧ lo ≤ x ∧ x ≤ hi) (h0 : 0 ≤ k) (h1 : k < (n : Int)) (hn : n < 1000)
    (h : ∀ x t, lo ≤ x → x ≤ hi → Q (.int x t) s)
    (hs : subscripted slice false (.ref l) (.int k u) = operate [.ref l, .int k u] (getItem (.ref l) (.int k u)) := by with_unfolding_all rfl) :
    wpAny (model prog w) A (subscriptTail value slice (.ref l) (.int k u)) Q E s := by
  obtain ⟨x, t, hx, h2, h3⟩ := hx k.toNat (by omega)
  exact tail_any hl.typeIs slot_list_getitem.lookup (wpAny_getItem_list hl h0 (by omega) (by simpa using hx) (h x t h2 h3)) hs
theorem eight_ints {lo hi a b c d e f g o : Int} {t1 t2 t3 t4 t5 t6 t7 t8 : Tok} (ha : lo ≤ a ∧ a ≤ hi) (hb : lo ≤ b ∧ b ≤ hi) (hc : lo ≤ c ∧ c ≤ hi) (hd : lo ≤ d ∧ d ≤ hi) (he : lo ≤ e ∧ e ≤ hi) (hf : lo ≤ f ∧ f ≤ hi) (hg : lo ≤ g ∧ g ≤ hi) (ho : lo ≤ o ∧ o ≤ hi) :
    ∀ i, i < 8 → ∃ x t, [Value.int a t1, .int b t2, .int c t3, .int d t4, .int e t5, .int f t6, .int g t7, .int o t8][i]? = some (.int x t) ∧ lo ≤ x ∧ x ≤ hi := by
  intro i hi
  match i, hi with
  | 0, _ => exact ⟨_, _, rfl, ha⟩
  | 1, _ => exact ⟨_, _, rfl, hb⟩
  | 2, _ => exact ⟨_, _, rfl, hc⟩
  | 3, _ => exact ⟨_, _, rfl, hd⟩
  | 4, _ => exact ⟨_, _, rfl, he⟩
  | 5, _ => exact ⟨_, _, rfl, hf⟩
  | 6, _ => exact ⟨_, _, rfl, hg⟩
  | 7, _ => exact ⟨_, _, rfl, ho⟩
end
section
theorem reset_right_spec
    {prog : Program} {w : World} {p : Program} {loose : List PySem.Str} {mean : ExcName → Option Value} {mg mb : PySem.Str → Option Value}
    {dp un : Nat} {gd : Option (List Code)} {cn : PySem.Str} {cs : Scope} {a : Addr} {ccd : Value} {cl : List (PySem.Str × Addr)} {outer : List Env} {A₀ : Around} {base h₀ : Heap} {L : Addr} {m : PySem.Str → Option Value} {s : Shared} {Q E : Value → Shared → Prop}
    {P I : Addr} {k : Int} {tk : Tok} {vs : List Value} {ns : List Int} {n1 n2 : Nat}
    (B : Below A₀ base outer h₀) (F : Fr h₀ L s.heap m) (X : (Mine.K w.params).In h₀)
    (N : News h₀ L s.heap ((P, listOf #[.ref I, .int k tk] n1) :: (I, listOf vs.toArray n2) :: [])) (T : Top p loose mean mg mb h₀) (hk : cs.kind = .function)
    (hI : IntsAre vs ns) (hl : ns.length ≤ 63) (hPI : @Ne Nat P I) (hk0 : 0 ≤ k) (hk1 : k < 500)
    (hdp : dp + 20 < recursionLimit) (hu : un + 180 < cLine)
    (hret : ∀ (k' : Int) (tk₂ : Tok) (h' : Heap) (tk' : Nat), k ≤ k' → k' ≤ k + 100 → Fr h₀ L h' m → News h₀ L h' ((P, listOf #[.ref I, .int k' tk₂] n1) :: (I, listOf vs.toArray n2) :: []) → Q (.bool true) { s with heap := h', toks := tk' }) :
    wpAny (model prog w) (ktrTop dp un gd cn cs L a ccd cl outer) (call (.ref 247) [.ref P]) Q E s := by
  k_with_none
  k_with "call ref" => (k_here; (with_reducible show wpAny _ _ (call (Value.ref 194) [Value.ref _, Value.int _ _]) _ _ _); k_dflt (
    refine' draw_spec ?k1 ?k2 ?k3 ?k4 ?k5 ?k6 ?k7 ?k8 ?k9 ?k10 ?k11 ?k12 ?k13 ?k14 ?k15 ?k16 ?k17 ?_
    (case k1 => k_asm)
    (case k2 => k_asm)
    (case k3 => k_asm)
    (case k4 => k_asm)
    (case k5 => k_updF)
    (case k6 => k_mem)
    (case k7 => k_asm)
    (case k8 => first | exact rfl | assumption)
    (case k9 => assumption)
    (case k10 => assumption)
    (case k11 => k_ne)
    (case k12 => omega)
    (case k13 => omega)
    (case k14 => omega)
    (case k15 => omega)
    (case k16 => ktr_room)
    (case k17 => ktr_units)
    intro v9 t9 tk9 h9 tk9' hv9 hw9 F9 N9
    (try dsimp only at N9)
    (try k_sweep); (try k_fold)))
  k_with "call type:bytes" => (k_here; (with_reducible show wpAny _ _ (call (Value.type "bytes") [Value.ref _]) _ _ _); k_dflt (refine' bytes_oneV ?k1 ?k2 ?k3 ?k4 ?k5 ?k6 ?_; (case k1 => k_asm); (case k2 => k_asm); (case k3 => rfl); (case k4 => is_list); (case k5 => omega); (case k6 => omega); k_whole; intro b9 h9 t9 tk9 hb9 F9 N9; (try k_sweep); (try k_fold)))
  k_with "call type:bytes" => (k_here; (with_reducible show wpAny _ _ (call (Value.type "bytes") [Value.ref _]) _ _ _); k_dflt (refine' bytes_rangeV ?k1 ?k2 ?k3 ?k4 ?k5 ?k6 ?k7 ?k8 ?_; (case k1 => k_asm); (case k2 => k_asm); (case k3 => rfl); (case k4 => assumption); (case k5 => first | exact small_one (by omega) (by omega) (by omega) (by omega) | decide); (case k6 => first | exact rangeSize_nat _ _ | rfl); (case k7 => omega); (case k8 => omega); k_whole; intro b9 h9 t9 tk9 hb9 F9 N9; (try k_sweep); (try k_fold)))
  k_with "binaryOp Mult bytes int" => (k_here; k_dflt (refine' mul_rep ?k1 ?k2 ?k3 ?_; (case k1 => assumption); (case k2 => omega); (case k3 => omega); k_whole; intro b9 t9 tk9 hb9; (try k_fold)))
  k_with "binaryOp Add bytes bytes" => (k_here; k_dflt (refine' add_V ?k1 ?k2 ?k3 ?_; (case k1 => assumption); (case k2 => assumption); (case k3 => first | omega | (simp only [rangeKs_length, List.length_append, List.length_cons, List.length_nil, List.length_replicate, List.length_take, List.length_drop]; omega)); k_whole; intro b9 t9 tk9 hb9; (try k_fold)))
  k_with "call builtin:len" => (k_here; (with_reducible show wpAny _ _ (call (Value.builtin "len") [Value.bytes _ _]) _ _ _); k_dflt (refine len_V (by assumption) (by first | (simp only [rangeKs_length, List.length_append, List.length_cons, List.length_nil, List.length_replicate, List.length_take, List.length_drop]; exact rfl) | exact rfl) (by first | omega | (simp only [rangeKs_length, List.length_append, List.length_cons, List.length_nil, List.length_replicate, List.length_take, List.length_drop]; omega)) ?_))
  k_with "binaryOp BitAnd int int" => (k_here; k_dflt (refine and_V (by omega) (by omega) ?_))
  k_with "binaryOp BitOr int int" => (k_here; k_dflt (refine or_V (by omega) (by omega) ?_))
  k_with "binaryOp Mod int int" => (k_here; k_dflt (refine mod_V (by omega) ?_))
  k_with "call builtin:min" => (k_here; (with_reducible show wpAny _ _ (call (Value.builtin _) [Value.int _ _, Value.int 42 _]) _ _ _); k_dflt (refine' min_V ?k1 ?k2 ?k3 ?_; (case k1 => rfl); (case k2 => k_asm); (case k3 => k_asm); k_whole; intro h9 t9 tk9 F9 N9 hm91 hm92 hm93; (try k_sweep); (try k_fold)))
  k_with "call builtin:max" => (k_here; (with_reducible show wpAny _ _ (call (Value.builtin _) [Value.int 0 _, Value.int _ _]) _ _ _); k_dflt (refine' max_V ?k1 ?k2 ?k3 ?_; (case k1 => rfl); (case k2 => k_asm); (case k3 => k_asm); k_whole; intro h9 t9 tk9 F9 N9 hm91 hm92 hm93; (try k_sweep); (try k_fold)))
  k_with "subscriptTail" => (k_here; (with_reducible show wpAny _ _ (subscriptTail _ (Expr.Slice (some _) none none _) (Value.bytes _ _) (Value.ref _)) _ _ _); (with_reducible rename Fr _ _ _ _ => F'); (with_reducible rename News _ _ _ _ => N'); k_dflt (refine slice_from (s := ⟨_, _, _, _, _⟩) F' N' (by assumption) (by first | omega | (simp only [rangeKs_length, List.length_append, List.length_cons, List.length_nil, List.length_replicate, List.length_take, List.length_drop]; omega)) (by first | omega | (simp only [rangeKs_length, List.length_append, List.length_cons, List.length_nil, List.length_replicate, List.length_take, List.length_drop]; omega)) (by first | omega | (simp only [rangeKs_length, List.length_append, List.length_cons, List.length_nil, List.length_replicate, List.length_take, List.length_drop]; omega)) ?_); intro b9 h9 t9 tk9 hb9 F9 N9; (try k_sweep); (try k_fold))
  k_with "subscriptTail" => (k_here; (with_reducible show wpAny _ _ (subscriptTail _ (Expr.Slice (some _) (some _) none _) (Value.bytes _ _) (Value.ref _)) _ _ _); (with_reducible rename Fr _ _ _ _ => F'); (with_reducible rename News _ _ _ _ => N'); k_dflt (refine slice_mid (s := ⟨_, _, _, _, _⟩) F' N' (by assumption) (by first | omega | (simp only [rangeKs_length, List.length_append, List.length_cons, List.length_nil, List.length_replicate, List.length_take, List.length_drop]; omega)) (by first | omega | (simp only [rangeKs_length, List.length_append, List.length_cons, List.length_nil, List.length_replicate, List.length_take, List.length_drop]; omega)) (by first | omega | (simp only [rangeKs_length, List.length_append, List.length_cons, List.length_nil, List.length_replicate, List.length_take, List.length_drop]; omega)) (by first | omega | (simp only [rangeKs_length, List.length_append, List.length_cons, List.length_nil, List.length_replicate, List.length_take, List.length_drop]; omega)) ?_); intro b9 h9 t9 tk9 hb9 F9 N9; (try k_sweep); (try k_fold))
  k_with "call ref" => (k_here; (with_reducible show wpAny _ _ (call (Value.ref 112) [Value.int _ _, Value.bytes _ _, Value.bytes _ _]) _ _ _); k_dflt (
    refine' rf_core ?k1 ?k2 ?k3 ?k4 ?k5 ?k6 ?k7 ?k8 ?k9 ?k10 ?k11 ?_ ?_
    (case k1 => k_asm)
    (case k2 => k_asm)
    (case k3 => k_asm)
    (case k4 => k_asm)
    (case k5 => k_asm)
    (case k6 => first | exact rfl | assumption)
    (case k7 => assumption)
    (case k8 => assumption)
    (case k9 => first | omega | (simp only [rangeKs_length, List.length_append, List.length_cons, List.length_nil, List.length_replicate, List.length_take, List.length_drop]; omega))
    (case k10 => first | omega | (simp only [rangeKs_length, List.length_append, List.length_cons, List.length_nil, List.length_replicate, List.length_take, List.length_drop]; omega))
    (case k11 => ktr_room)
    (intro hn9 h9 tk9 F9 N9; (try simp only [rangeKs_length, List.length_append, List.length_cons, List.length_nil, List.length_replicate, List.length_take, List.length_drop] at hn9); first | (exfalso; omega) | ((try k_sweep); (try k_fold)))
    (try (rotate_left 1))
    (intro hn9 hm9 ho9 b9 t9 h9 tk9 hb9 F9 N9; (try simp only [rangeKs_length, List.length_append, List.length_cons, List.length_nil, List.length_replicate, List.length_take, List.length_drop] at hn9 hm9 ho9); first | (exfalso; omega) | ((try k_sweep); (try k_fold)))
    (try (rotate_right 1))))
  k_with "call ref" => (k_here; (with_reducible show wpAny _ _ (call (Value.ref 119) [Value.bytes _ _]) _ _ _); k_dflt (
    refine' tk_core ?k1 ?k2 ?k3 ?k4 ?k5 ?k6 ?k7 ?k9 ?k11 ?_ ?_
    (case k1 => k_asm)
    (case k2 => k_asm)
    (case k3 => k_asm)
    (case k4 => k_asm)
    (case k5 => k_asm)
    (case k6 => first | exact rfl | assumption)
    (case k7 => assumption)
    (case k9 => first | omega | (simp only [rangeKs_length, List.length_append, List.length_cons, List.length_nil, List.length_replicate, List.length_take, List.length_drop]; omega))
    (case k11 => ktr_room)
    (intro hn9 h9 tk9 F9 N9; (try simp only [rangeKs_length, List.length_append, List.length_cons, List.length_nil, List.length_replicate, List.length_take, List.length_drop] at hn9); first | (exfalso; omega) | ((try k_sweep); (try k_fold)))
    (try (rotate_left 1))
    (intro hn9 b9 t9 h9 tk9 hb9 F9 N9; (try simp only [rangeKs_length, List.length_append, List.length_cons, List.length_nil, List.length_replicate, List.length_take, List.length_drop] at hn9); first | (exfalso; omega) | ((try k_sweep); (try k_fold)))
    (try (rotate_right 1))))
  k_with "compareOp NotEq bytes bytes" => (k_here; k_dflt (refine ne_bytes_same (by assumption) (by assumption) (by first | rfl | exact drop_tail (by first | omega | (simp only [rangeKs_length, List.length_append, List.length_cons, List.length_nil, List.length_replicate, List.length_take, List.length_drop]; omega))) ?_))
  k_with "compareOp Eq bytes bytes" => (k_here; k_dflt (refine eq_bytes_same (by assumption) (by assumption) (by first | rfl | exact drop_tail (by first | omega | (simp only [rangeKs_length, List.length_append, List.length_cons, List.length_nil, List.length_replicate, List.length_take, List.length_drop]; omega))) ?_))
  k_with "subscriptTail" => (k_here; (with_reducible show wpAny _ _ (subscriptTail (PySem.Expr.List _ _ _) _ (Value.ref _) (Value.int _ _)) _ _ _); k_dflt (refine' int_item (n := 8) (lo := 16) (hi := 90) ?k1 ?k2 ?k3 ?k4 ?k5 ?_; (case k1 => is_list); (case k2 => exact eight_ints (by decide) (by decide) (by decide) (by decide) (by decide) (by decide) (by decide) (by decide)); (case k3 => assumption); (case k4 => omega); (case k5 => decide); k_whole; intro x9 t9 hx9 hy9))
  k_with "subscriptTail" => (k_here; (with_reducible show wpAny _ _ (subscriptTail _ _ (Value.bytes _ _) (Value.int _ _)) _ _ _); k_dflt (refine KBw.item_K (by assumption) (by first | omega | (simp only [rangeKs_length, List.length_append, List.length_cons, List.length_nil, List.length_replicate, List.length_take, List.length_drop]; omega)) (by omega) (by first | omega | (simp only [rangeKs_length, List.length_append, List.length_cons, List.length_nil, List.length_replicate, List.length_take, List.length_drop]; omega)) ?_); intro _ _ kbaLo kbaHi)
  refine wpAny_call ?_
  k_dflt (first | cell_enter | k_enter)
  k_steps
  all_goals (try w_report)
  all_goals (
    refine' hret _ _ _ _ ?e1 ?e2 ?e3 ?e4
    (case e3 => k_asm)
    (case e4 => exact news_both (by assumption) (by k_mem) (by k_mem))
    (case e1 => omega)
    (case e2 => omega))
end
end
section
def M2 (x y : PySem.Str) (u m₀ : PySem.Str → Option Value) : PySem.Str → Option Value := fun z => if z = x then u z else if z = y then u z else m₀ z
theorem m2_of {x y : PySem.Str} {m' m₀ : PySem.Str → Option Value} (hr : ∀ z, z ≠ x → z ≠ y → m' z = m₀ z) : m' = M2 x y m' m₀ := by
  funext z
  unfold M2
  by_cases hx : z = x
  · rw [if_pos hx]
  · rw [if_neg hx]
    by_cases hy : z = y
    · rw [if_pos hy]
    · rw [if_neg hy]; exact hr z hx hy
def EndI (x y : PySem.Str) (m₀ : PySem.Str → Option Value) (news : List (Addr × Obj)) (m' : PySem.Str → Option Value) (n' : List (Addr × Obj)) : Prop := (∀ z, z ≠ x → z ≠ y → m' z = m₀ z) ∧ n' = news
theorem three_vals {S : Value → Prop} {a b c : Value} (h1 : S a) (h2 : S b) (h3 : S c) : ∀ v ∈ [a, b, c], S v := by
  intro v hv
  simp only [List.mem_cons, List.not_mem_nil, or_false] at hv
  rcases hv with rfl | rfl | rfl
  · exact h1
  · exact h2
  · exact h3
theorem four_vals {S : Value → Prop} {a b c d : Value} (h1 : S a) (h2 : S b) (h3 : S c) (h4 : S d) : ∀ v ∈ [a, b, c, d], S v := by
  intro v hv
  simp only [List.mem_cons, List.not_mem_nil, or_false] at hv
  rcases hv with rfl | rfl | rfl | rfl
  · exact h1
  · exact h2
  · exact h3
  · exact h4
theorem allobj_mono {k k' : List (Addr × Obj) → Prop} : ∀ {ws : List (Addr × String)}, (∀ its, k its → k' its) → AllObj ws k → AllObj ws k'
  | [], f, h => f [] h
  | _ :: r, f, h => fun o ho => allobj_mono (ws := r) (fun its h => f _ h) (h o ho)
section
variable {prog : Program} {w : World} {A : Around} {E : Value → Shared → Prop} {s : Shared} {env : Env} {h₀ : Heap} {target : PySem.Expr} {body : List Stmt} {Q : Flow → Shared → Prop}
theorem items_vals {x y : PySem.Str} {ws : List (Addr × String)} {keep news : List (Addr × Obj)} {m : PySem.Str → Option Value} {vs : List Value} (SV : Value → Prop) (hvs : ∀ v ∈ vs, SV v) (hk : SubL keep news)
    (turn : ∀ v, SV v → ∀ u h tk, Fr h₀ env.locals h (M2 x y u m) → AllObj ws (fun its => News h₀ env.locals h (its ++ news) →
      wpAny (model prog w) A (assign target env v) (fun _ s₂ => wpAny (model prog w) A (execs body env) (UnrPostW h₀ env.locals { s with heap := h, toks := tk } its (EndI x y m news) Q) E s₂) E { s with heap := h, toks := tk }))
    (done : ∀ u h tk, Fr h₀ env.locals h (M2 x y u m) → News h₀ env.locals h news → Q .next { s with heap := h, toks := tk }) :
    ItemsRest prog w A E h₀ env target body Q s ws keep (vs.map Itm.val) m news := by
  have go : ∀ (l : List Value), (∀ v ∈ l, SV v) → ∀ m', (∀ z, z ≠ x → z ≠ y → m' z = m z) → ItemsRest prog w A E h₀ env target body Q s ws keep (l.map Itm.val) m' news := by
    intro l
    induction l with
    | nil =>
      intro _ m' hr
      exact ItemsRest.zero fun h tk F N => done m' h tk (by rw [← m2_of hr]; exact F) N
    | cons a r ih =>
      intro hl m' hr
      refine ItemsRest.val fun h tk F => ?_
      have F' : Fr h₀ env.locals h (M2 x y m' m) := by rw [← m2_of hr]; exact F
      refine allobj_mono (fun its ht N => ?_) (turn a (hl a List.mem_cons_self) m' h tk F')
      refine wpAny_mono (ht N) (fun _ s₂ h₂ => wpAny_mono h₂ (fun f s₃ p => ?_) fun _ _ e => e) fun _ _ e => e
      have key : ∀ s₃, UnrEndW h₀ env.locals { s with heap := h, toks := tk } its (EndI x y m news) s₃ → UnrEndW h₀ env.locals { s with heap := h, toks := tk } its (fun m' n' => SubL keep n' ∧ ItemsRest prog w A E h₀ env target body Q s ws keep (r.map Itm.val) m' n') s₃ := by
        rintro s₃ ⟨h', tk', m', n', e, F', N', ho, hr', rfl⟩
        exact ⟨h', tk', m', n', e, F', N', ho, hk, ih (fun v hv => hl v (List.mem_cons_of_mem _ hv)) m' hr'⟩
      cases f with
      | ret v => exact p
      | brk => exact p
      | next => exact key _ p
      | cont => exact key _ p
  exact go vs hvs m fun _ _ _ => rfl
end
end
section
section
variable {prog : Program} {w : World} {A : Around} {E : Value → Shared → Prop} {s : Shared} {Q : Value → Shared → Prop}
theorem news_tuple {h₀ h : Heap} {L l : Addr} {news : List (Addr × Obj)} {vs : Array Value} {n : Nat} (N : News h₀ L h news) (hm : (l, ({ cls := .type "tuple", data := .seq vs n } : Obj)) ∈ news) : h.IsTuple l vs := ⟨_, (N _ hm).1, rfl, n, rfl⟩
theorem drop_eq {ks : List Int} {i j : Nat} (h : i = j) : ks.drop i = ks.drop j := by rw [h]
end
section
theorem frames_right_spec
    {prog : Program} {w : World} {p : Program} {loose : List PySem.Str} {mean : ExcName → Option Value} {mg mb : PySem.Str → Option Value}
    {dp un : Nat} {gd : Option (List Code)} {cn : PySem.Str} {cs : Scope} {a : Addr} {ccd : Value} {cl : List (PySem.Str × Addr)} {outer : List Env} {A₀ : Around} {base h₀ : Heap} {L : Addr} {m : PySem.Str → Option Value} {s : Shared} {Q E : Value → Shared → Prop}
    {P I : Addr} {k : Int} {tk : Tok} {vs : List Value} {ns : List Int} {n1 n2 : Nat}
    (B : Below A₀ base outer h₀) (F : Fr h₀ L s.heap m) (X : (Mine.K w.params).In h₀)
    (N : News h₀ L s.heap ((P, listOf #[.ref I, .int k tk] n1) :: (I, listOf vs.toArray n2) :: [])) (T : Top p loose mean mg mb h₀) (hk : cs.kind = .function)
    (hI : IntsAre vs ns) (hl : ns.length ≤ 63) (hPI : @Ne Nat P I) (hk0 : 0 ≤ k) (hk1 : k < 500)
    (hdp : dp + 20 < recursionLimit) (hu : un + 180 < cLine)
    (hret : ∀ (k' : Int) (tk₂ : Tok) (h' : Heap) (tk' : Nat), k ≤ k' → k' ≤ k + 100 → Fr h₀ L h' m → News h₀ L h' ((P, listOf #[.ref I, .int k' tk₂] n1) :: (I, listOf vs.toArray n2) :: []) → Q (.bool true) { s with heap := h', toks := tk' }) :
    wpAny (model prog w) (ktrTop dp un gd cn cs L a ccd cl outer) (call (.ref 254) [.ref P]) Q E s := by
  k_with_none
  k_with "call ref" => (k_here; (with_reducible show wpAny _ _ (call (Value.ref 194) [Value.ref _, Value.int _ _]) _ _ _); k_dflt (
    refine' draw_spec ?k1 ?k2 ?k3 ?k4 ?k5 ?k6 ?k7 ?k8 ?k9 ?k10 ?k11 ?k12 ?k13 ?k14 ?k15 ?k16 ?k17 ?_
    (case k1 => k_asm)
    (case k2 => k_asm)
    (case k3 => k_asm)
    (case k4 => k_asm)
    (case k5 => k_updF)
    (case k6 => k_mem)
    (case k7 => k_asm)
    (case k8 => first | exact rfl | assumption)
    (case k9 => assumption)
    (case k10 => assumption)
    (case k11 => k_ne)
    (case k12 => omega)
    (case k13 => omega)
    (case k14 => omega)
    (case k15 => omega)
    (case k16 => ktr_room)
    (case k17 => ktr_units)
    intro v9 t9 tk9 h9 tk9' hv9 hw9 F9 N9
    (try dsimp only at N9)
    (try k_sweep); (try k_fold)))
  k_with "call type:bytes" => (k_here; (with_reducible show wpAny _ _ (call (Value.type "bytes") [Value.ref _]) _ _ _); k_dflt (refine' bytes_oneV ?k1 ?k2 ?k3 ?k4 ?k5 ?k6 ?_; (case k1 => k_asm); (case k2 => k_asm); (case k3 => rfl); (case k4 => is_list); (case k5 => omega); (case k6 => omega); k_whole; intro b9 h9 t9 tk9 hb9 F9 N9; (try k_sweep); (try k_fold)))
  k_with "call type:bytes" => (k_here; (with_reducible show wpAny _ _ (call (Value.type "bytes") [Value.ref _]) _ _ _); k_dflt (refine' bytes_rangeV ?k1 ?k2 ?k3 ?k4 ?k5 ?k6 ?k7 ?k8 ?_; (case k1 => k_asm); (case k2 => k_asm); (case k3 => rfl); (case k4 => assumption); (case k5 => first | exact small_one (by omega) (by omega) (by omega) (by omega) | decide); (case k6 => first | exact rangeSize_nat _ _ | rfl); (case k7 => omega); (case k8 => omega); k_whole; intro b9 h9 t9 tk9 hb9 F9 N9; (try k_sweep); (try k_fold)))
  k_with "binaryOp Mult bytes int" => (k_here; k_dflt (refine' mul_rep ?k1 ?k2 ?k3 ?_; (case k1 => assumption); (case k2 => omega); (case k3 => omega); k_whole; intro b9 t9 tk9 hb9; (try k_fold)))
  k_with "binaryOp Add bytes bytes" => (k_here; k_dflt (refine' add_V ?k1 ?k2 ?k3 ?_; (case k1 => assumption); (case k2 => assumption); (case k3 => first | omega | (simp only [rangeKs_length, List.length_append, List.length_cons, List.length_nil, List.length_replicate, List.length_take, List.length_drop]; omega)); k_whole; intro b9 t9 tk9 hb9; (try k_fold)))
  k_with "call builtin:len" => (k_here; (with_reducible show wpAny _ _ (call (Value.builtin "len") [Value.bytes _ _]) _ _ _); k_dflt (refine len_V (by assumption) (by first | (simp only [rangeKs_length, List.length_append, List.length_cons, List.length_nil, List.length_replicate, List.length_take, List.length_drop]; exact rfl) | exact rfl) (by first | omega | (simp only [rangeKs_length, List.length_append, List.length_cons, List.length_nil, List.length_replicate, List.length_take, List.length_drop]; omega)) ?_))
  k_with "binaryOp BitAnd int int" => (k_here; k_dflt (refine and_V (by omega) (by omega) ?_))
  k_with "binaryOp BitOr int int" => (k_here; k_dflt (refine or_V (by omega) (by omega) ?_))
  k_with "binaryOp Mod int int" => (k_here; k_dflt (refine mod_V (by omega) ?_))
  k_with "call builtin:min" => (k_here; (with_reducible show wpAny _ _ (call (Value.builtin _) [Value.int _ _, Value.int 42 _]) _ _ _); k_dflt (refine' min_V ?k1 ?k2 ?k3 ?_; (case k1 => rfl); (case k2 => k_asm); (case k3 => k_asm); k_whole; intro h9 t9 tk9 F9 N9 hm91 hm92 hm93; (try k_sweep); (try k_fold)))
  k_with "call builtin:max" => (k_here; (with_reducible show wpAny _ _ (call (Value.builtin _) [Value.int 0 _, Value.int _ _]) _ _ _); k_dflt (refine' max_V ?k1 ?k2 ?k3 ?_; (case k1 => rfl); (case k2 => k_asm); (case k3 => k_asm); k_whole; intro h9 t9 tk9 F9 N9 hm91 hm92 hm93; (try k_sweep); (try k_fold)))
  k_with "subscriptTail" => (k_here; (with_reducible show wpAny _ _ (subscriptTail _ (Expr.Slice (some _) none none _) (Value.bytes _ _) (Value.ref _)) _ _ _); (with_reducible rename Fr _ _ _ _ => F'); (with_reducible rename News _ _ _ _ => N'); k_dflt (refine slice_from (s := ⟨_, _, _, _, _⟩) F' N' (by assumption) (by first | omega | (simp only [rangeKs_length, List.length_append, List.length_cons, List.length_nil, List.length_replicate, List.length_take, List.length_drop]; omega)) (by first | omega | (simp only [rangeKs_length, List.length_append, List.length_cons, List.length_nil, List.length_replicate, List.length_take, List.length_drop]; omega)) (by first | omega | (simp only [rangeKs_length, List.length_append, List.length_cons, List.length_nil, List.length_replicate, List.length_take, List.length_drop]; omega)) ?_); intro b9 h9 t9 tk9 hb9 F9 N9; (try k_sweep); (try k_fold))
  k_with "subscriptTail" => (k_here; (with_reducible show wpAny _ _ (subscriptTail _ (Expr.Slice (some _) (some _) none _) (Value.bytes _ _) (Value.ref _)) _ _ _); (with_reducible rename Fr _ _ _ _ => F'); (with_reducible rename News _ _ _ _ => N'); k_dflt (refine slice_mid (s := ⟨_, _, _, _, _⟩) F' N' (by assumption) (by first | omega | (simp only [rangeKs_length, List.length_append, List.length_cons, List.length_nil, List.length_replicate, List.length_take, List.length_drop]; omega)) (by first | omega | (simp only [rangeKs_length, List.length_append, List.length_cons, List.length_nil, List.length_replicate, List.length_take, List.length_drop]; omega)) (by first | omega | (simp only [rangeKs_length, List.length_append, List.length_cons, List.length_nil, List.length_replicate, List.length_take, List.length_drop]; omega)) (by first | omega | (simp only [rangeKs_length, List.length_append, List.length_cons, List.length_nil, List.length_replicate, List.length_take, List.length_drop]; omega)) ?_); intro b9 h9 t9 tk9 hb9 F9 N9; (try k_sweep); (try k_fold))
  k_with "call ref" => (k_here; (with_reducible show wpAny _ _ (call (Value.ref 112) [Value.int _ _, Value.bytes _ _, Value.bytes _ _]) _ _ _); k_dflt (
    refine' rf_core ?k1 ?k2 ?k3 ?k4 ?k5 ?k6 ?k7 ?k8 ?k9 ?k10 ?k11 ?_ ?_
    (case k1 => k_asm)
    (case k2 => k_asm)
    (case k3 => k_asm)
    (case k4 => k_asm)
    (case k5 => k_asm)
    (case k6 => first | exact rfl | assumption)
    (case k7 => assumption)
    (case k8 => assumption)
    (case k9 => first | omega | (simp only [rangeKs_length, List.length_append, List.length_cons, List.length_nil, List.length_replicate, List.length_take, List.length_drop]; omega))
    (case k10 => first | omega | (simp only [rangeKs_length, List.length_append, List.length_cons, List.length_nil, List.length_replicate, List.length_take, List.length_drop]; omega))
    (case k11 => ktr_room)
    (intro hn9 h9 tk9 F9 N9; (try simp only [rangeKs_length, List.length_append, List.length_cons, List.length_nil, List.length_replicate, List.length_take, List.length_drop] at hn9); first | (exfalso; omega) | ((try k_sweep); (try k_fold)))
    (try (rotate_left 1))
    (intro hn9 hm9 ho9 b9 t9 h9 tk9 hb9 F9 N9; (try simp only [rangeKs_length, List.length_append, List.length_cons, List.length_nil, List.length_replicate, List.length_take, List.length_drop] at hn9 hm9 ho9); first | (exfalso; omega) | ((try k_sweep); (try k_fold)))
    (try (rotate_right 1))))
  k_with "call ref" => (k_here; (with_reducible show wpAny _ _ (call (Value.ref 119) [Value.bytes _ _]) _ _ _); k_dflt (
    refine' tk_core ?k1 ?k2 ?k3 ?k4 ?k5 ?k6 ?k7 ?k9 ?k11 ?_ ?_
    (case k1 => k_asm)
    (case k2 => k_asm)
    (case k3 => k_asm)
    (case k4 => k_asm)
    (case k5 => k_asm)
    (case k6 => first | exact rfl | assumption)
    (case k7 => assumption)
    (case k9 => first | omega | (simp only [rangeKs_length, List.length_append, List.length_cons, List.length_nil, List.length_replicate, List.length_take, List.length_drop]; omega))
    (case k11 => ktr_room)
    (intro hn9 h9 tk9 F9 N9; (try simp only [rangeKs_length, List.length_append, List.length_cons, List.length_nil, List.length_replicate, List.length_take, List.length_drop] at hn9); first | (exfalso; omega) | ((try k_sweep); (try k_fold)))
    (try (rotate_left 1))
    (intro hn9 b9 t9 h9 tk9 hb9 F9 N9; (try simp only [rangeKs_length, List.length_append, List.length_cons, List.length_nil, List.length_replicate, List.length_take, List.length_drop] at hn9); first | (exfalso; omega) | ((try k_sweep); (try k_fold)))
    (try (rotate_right 1))))
  k_with "compareOp NotEq bytes bytes" => (k_here; k_dflt (refine ne_bytes_same (by assumption) (by assumption) (by first | rfl | exact drop_tail (by first | omega | (simp only [rangeKs_length, List.length_append, List.length_cons, List.length_nil, List.length_replicate, List.length_take, List.length_drop]; omega))) ?_))
  k_with "compareOp Eq bytes bytes" => (k_here; k_dflt (refine eq_bytes_same (by assumption) (by assumption) (by first | rfl | exact drop_tail (by first | omega | (simp only [rangeKs_length, List.length_append, List.length_cons, List.length_nil, List.length_replicate, List.length_take, List.length_drop]; omega))) ?_))
  k_with "compareOp NotEq ref ref" => (k_here; (with_reducible show wpAny _ _ (compareOp CmpOp.NotEq (Value.ref _) (Value.ref _)) _ _ _); k_dflt (refine' ne_tup4_same ?k1 ?k2 ?k3 ?k4 ?k5 ?k6 ?k7 ?_; (case k1 => exact news_tuple (by k_asm) (by k_mem)); (case k2 => exact news_tuple (by k_asm) (by k_mem)); (case k3 => first | ktr_units | units_room); (case k4 => first | exact SameV.none | exact SameV.str _ _ _ | exact SameV.int _ _ _ | exact SameV.bytes _ _ _); (case k5 => first | exact SameV.none | exact SameV.str _ _ _ | exact SameV.int _ _ _ | exact SameV.bytes _ _ _); (case k6 => first | exact SameV.none | exact SameV.str _ _ _ | exact SameV.int _ _ _ | exact SameV.bytes _ _ _); (case k7 => first | exact SameV.none | exact SameV.str _ _ _ | exact SameV.int _ _ _ | exact SameV.bytes _ _ _); k_whole))
  k_with "compareOp NotEq bytes bytes" => (k_here; k_dflt (refine ne_bytes_same (by assumption) (by assumption) (drop_eq (by first | omega | (simp only [rangeKs_length, List.length_append, List.length_cons, List.length_nil, List.length_replicate, List.length_take, List.length_drop]; omega))) ?_))
  k_with "execs cons Assign cons" => (k_here; (with_reducible show wpAny _ _ (execs (PySem.Stmt.Assign [PySem.Expr.Name (Str.ofString "octets") _] _ _ :: _) _) _ _ _); (rename News _ _ _ _ => jN); (have N9 : News _ _ _ [_, _] := fun x hx => jN x (by repeat (first | exact hx | refine List.mem_cons_of_mem _ ?_))); (clear jN); refine wpAny_execs_cons ?_)
  k_with "ItemsRest" => k_dflt (
    refine items_vals (x := Str.ofString "kind") (y := Str.ofString "due") (fun v => ∃ t, v = .str (Str.ofString "initial") t ∨ v = .str (Str.ofString "handshake") t ∨ v = .str (Str.ofString "zero") t ∨ v = .str (Str.ofString "short") t) (four_vals ⟨_, .inl rfl⟩ ⟨_, .inr (.inl rfl)⟩ ⟨_, .inr (.inr (.inl rfl))⟩ ⟨_, .inr (.inr (.inr rfl))⟩) (by k_subL) ?_ ?_
    (rotate_left 1)
    (intro u9 h9 tk9 F9 N9; (unfold M2 at F9); (try k_fold))
    (rotate_right 1)
    (intro v9 hv9 u9 h9 tk9 F9; (unfold M2 at F9); obtain ⟨t9, rfl | rfl | rfl | rfl⟩ := hv9 <;> ktu_objs))
  k_with "ItemsRest" => k_dflt (
    refine items_vals (x := Str.ofString "many") (y := Str.ofString "some") (fun v => ∃ (k : Int) (t : Tok), v = .int k t ∧ 0 ≤ k ∧ k ≤ 30) (three_vals ⟨_, _, rfl, by decide, by decide⟩ ⟨_, _, rfl, by decide, by decide⟩ ⟨_, _, rfl, by omega, by omega⟩) (by k_subL) ?_ ?_
    (rotate_left 1)
    (intro u9 h9 tk9 F9 N9; (unfold M2 at F9); (try k_fold))
    (rotate_right 1)
    (intro v9 hv9 u9 h9 tk9 F9; (unfold M2 at F9); obtain ⟨k9, t9, rfl, hk91, hk92⟩ := hv9 <;> ktu_objs))
  k_with "UnrEndW" => ((rename Fr _ _ _ _ => jF); (rename News _ _ _ _ => jN); k_dflt (refine UnrEndW.intro jF jN _ (by k_subL) (by k_subL) (by ktu_offL) (And.intro ?_ rfl); (intro z hz1 hz2; first | rfl | (simp only [hz1, hz2, if_false, reduceIte]; done))))
  refine wpAny_call ?_
  k_dflt (first | cell_enter | k_enter)
  k_steps
  all_goals (try w_report)
  all_goals (
    refine' hret _ _ _ _ ?e1 ?e2 ?e3 ?e4
    (case e3 => k_asm)
    (case e4 => exact news_both (by assumption) (by k_mem) (by k_mem))
    (case e1 => omega)
    (case e2 => omega))
end
end
section
open PyProof.Rows.LCg PyProof.Rows.LCt
abbrev tup2 (a b : Int) (ta tb : Tok) : Obj := { cls := .type "tuple", data := .seq #[.int a ta, .int b tb] }
abbrev gtZero (x : PySem.Str) (pt pc pz : Pos) : PySem.Expr := .Compare (.Name x pt) [.Gt] [.Constant (.int 0) 0 pz] pc
def keepPos (a b : Int) (ta tb : Tok) : List Value := (if 0 < a then [Value.int a ta] else []) ++ (if 0 < b then [Value.int b tb] else [])
def FSrc (h₀ : Heap) (L : Addr) (m : PySem.Str → Option Value) (y : PySem.Str) (Q : Flow → Shared → Prop) (A : Around) (xv : Value) (s₁ : Shared) : Prop :=
  ∃ ax a b ta tb news, xv = .ref ax ∧ A.handled = none ∧ Fr h₀ L s₁.heap m ∧ News h₀ L s₁.heap news ∧ (ax, tup2 a b ta tb) ∈ news ∧ FinA h₀ L m s₁ y Q (keepPos a b ta tb) news
section
variable {prog : Program} {w : World} {A : Around} {E : Value → Shared → Prop} {s : Shared} {h₀ : Heap} {L : Addr} {m : PySem.Str → Option Value} {env : Env}
theorem filt_turn {x : PySem.Str} {pt pc pz pe : Pos} {scope : Scope} {cl : List (PySem.Str × Addr)} {k : Int} {t : Tok} {I C D : Addr} {oI oC : Obj} {m₂ : PySem.Str → Option Value} {h : Heap} {tk : Nat} {ys : List Value} {news : List (Addr × Obj)}
    {S : List (Addr × Obj) → Prop} {Go : List Value → List (Addr × Obj) → Prop} {E' : Value → Shared → Prop}
    (hkd : ∀ C, (compEnvC scope cl C env).scope.kind = .function) (hkl : ∀ C, (compEnvC scope cl C env).kindOf x = some .local) (hdb : (x == ("__debug__" : PySem.Str)) = false)
    (hC : NsObj oC m₂) (hx : m₂ x = some (.int k t)) (F : Fr h₀ L h m) (N : News h₀ L h ((I, oI) :: (C, oC) :: (D, lst ys) :: news)) (off : Off3 I C D news) (hS : S news)
    (go : Go (ys ++ (if 0 < k then [Value.int k t] else [])) news) :
    wpAny (model prog w) A (isTrue (gtZero x pt pc pz) (compEnvC scope cl C env) (eval (gtZero x pt pc pz) (compEnvC scope cl C env))) (fun ok s' => if ok = true then
        wpAny (model prog w) A (eval (.Name x pe) (compEnvC scope cl C env)) (CompEnd h₀ L m { s with heap := h, toks := tk } I oI C oC D (lst ys) S (fun y news' => Go (ys ++ [y]) news')) E' s'
        else CompEnd h₀ L m { s with heap := h, toks := tk } I oI C oC D (lst ys) S (fun _ news' => Go ys news') Value.none s') E' { s with heap := h, toks := tk } := by
  refine wpAny_isTrue_Compare1 (LCgL.ld_own N (by simp) hC hx (wpAny_Constant_int (PyProof.Rows.gt_int (wpAny_truthy_bool ?_))) (hkd C) (hkl C) hdb)
  by_cases hp : 0 < k
  · rw [if_pos (by simpa using hp)]
    rw [if_pos hp] at go
    exact LCgL.ld_own (s := { s with heap := h, toks := tk + 1 }) N (by simp) hC hx (CompEnd.intro (s₁ := { s with heap := h, toks := tk }) F N news (fun _ hp => hp) off hS go) (hkd C) (hkl C) hdb
  · rw [if_neg (by simpa using hp)]
    rw [if_neg hp, List.append_nil] at go
    exact CompEnd.intro (s₁ := { s with heap := h, toks := tk }) F N news (fun _ hp => hp) off hS go
theorem filt_rest {x : PySem.Str} {pt pc pz pe : Pos} {scope : Scope} {cl : List (PySem.Str × Addr)} {a b : Int} {ta tb : Tok} {news : List (Addr × Obj)}
    {S : List (Addr × Obj) → Prop} {Fin : List Value → List (Addr × Obj) → Prop}
    (hkd : ∀ C, (compEnvC scope cl C env).scope.kind = .function) (hkl : ∀ C, (compEnvC scope cl C env).kindOf x = some .local) (hdb : (x == ("__debug__" : PySem.Str)) = false)
    (hS : S news) (fin : Fin (keepPos a b ta tb) news) :
    CompRestT prog w A h₀ L m env (gtZero x pt pc pz) (.Name x pe) x scope cl s S (fun i v => #[Value.int a ta, .int b tb][i]? = some v) Fin 2 0 [] news := by
  refine CompRestT.succ ?_
  intro v I oI C oC D m₂ h tk E' hv hC hx F N off ne
  obtain rfl : Value.int a ta = v := by simpa using hv
  refine filt_turn (Go := fun ys' news' => CompRestT prog w A h₀ L m env (gtZero x pt pc pz) (.Name x pe) x scope cl s S (fun i v => #[Value.int a ta, .int b tb][i]? = some v) Fin 1 (0 + 1) ys' news') hkd hkl hdb hC hx F N off hS ?_
  refine CompRestT.succ ?_
  intro v I oI C oC D m₂ h tk E' hv hC hx F N off ne
  obtain rfl : Value.int b tb = v := by simpa using hv
  refine filt_turn (Go := fun ys' news' => CompRestT prog w A h₀ L m env (gtZero x pt pc pz) (.Name x pe) x scope cl s S (fun i v => #[Value.int a ta, .int b tb][i]? = some v) Fin 0 (0 + 1 + 1) ys' news') hkd hkl hdb hC hx F N off hS ?_
  exact CompRestT.zero (by rw [List.nil_append]; exact fin)
theorem AssignFilter {iter : PySem.Expr} {x y : PySem.Str} {px py pt pc pz pe : Pos} {scope : Scope} {cl : List (PySem.Str × Addr)} {pos spos : Pos} {Q : Flow → Shared → Prop} (F₀ : Fr h₀ L s.heap m) (hLe : env.locals = L)
    (hsw : swapsWith (.ListComp (.Name x pe) [⟨.Name x px, iter, [gtZero x pt pc pz], 0⟩] scope pos) (some (.Name y py)) spos.line env = pure true)
    (hclos : closureFor scope env = pure cl) (hcell : ∀ z ∈ scope.names, z.2 ≠ .cell) (hkind : scope.kind = .function)
    (hnames : ∀ z ∈ scope.names, z.2 = .local → scope.names.lookup z.1 = some .local) (hx : scope.names.lookup x = some .local)
    (hy : env.kindOf y = some .local) (hp : (env.scope.kind == .class || (env.scope.kind == .module && env.locals != env.globals)) = false)
    (hkd : ∀ C, (compEnvC scope cl C env).scope.kind = .function) (hkl : ∀ C, (compEnvC scope cl C env).kindOf x = some .local) (hdb : (x == ("__debug__" : PySem.Str)) = false)
    (h : wpAny (model prog w) A (eval iter env) (FSrc h₀ L m y Q A) E s)
    (hs : ∀ x, foldedSetIterable iter env x = pure x := by intro _; rfl) :
    wpAny (model prog w) A (exec (.Assign [.Name y py] (.ListComp (.Name x pe) [⟨.Name x px, iter, [gtZero x pt pc pz], 0⟩] scope pos) spos) env) Q E s := by
  subst hLe
  rw [exec_Assign_Name_used _ _ _ _ hsw]
  refine wpAny_bind (wpAny_standAt (wpAny_bind ?_))
  show wpAny _ A (do let _ ← comprehension (.ListComp (.Name x pe) [⟨.Name x px, iter, [gtZero x pt pc pz], 0⟩] scope pos) scope env _ (newList []) false (eval iter env) (some (assign (.Name y py) env))) _ _ s
  refine wpAny_bind (wpAny_mono (wpAny_comprehension_free (use := some (assign (.Name y py) env)) (Q := fun _ s' => Q .next s') rfl hs hclos hkind hnames
    (wpAny_mono h (fun xv s₁ h₁ => ?_) fun _ _ e => e)) (fun _ s' hq => wpAny_pure (wpAny_pure hq)) fun _ _ e => e)
  obtain ⟨ax, a, b, ta, tb, news, rfl, hh, F, N, hm, fin⟩ := h₁
  have hT : s₁.heap.IsTuple ax #[Value.int a ta, .int b tb] := ⟨_, (N _ hm).1, rfl, _, rfl⟩
  have hlt : ax < s₁.heap.objs.size := Heap.lt_size (N _ hm).1
  refine wpAny_pyIter_tuple hT ?_
  have up : ∀ b o, s₁.heap.get? b = some o → (s₁.heap.push { cls := .type "tuple_iterator", data := .fields #[.ref ax, .int 0 0] }).get? b = some o := fun b o e => Heap.get?_push_of_some _ e
  refine block_T (S := fun nw => (ax, tup2 a b ta tb) ∈ nw) (Walks.tuple hh s₁.heap.objs.size ax (Nat.ne_of_lt hlt) #[Value.int a ta, .int b tb]) (by show 2 ≤ sizeLine; rw [sizeLine_eq]; decide) (fun i h st => by obtain ⟨o, e, _⟩ := st.1; exact ⟨o, e⟩) ?_ hcell hkind hx ⟨⟨_, Heap.get?_push_size _ rfl, rfl, rfl⟩, hT.push _⟩ (fun b hb => ?_)
    (F.keeps up) (N.grown up) (Nat.ne_of_lt F.ns.lt) (next_is_new F) (fun p hp => Nat.ne_of_lt (Heap.lt_size (N p hp).1)) hm (filt_rest hkd hkl hdb hm fin) ?_
  · intro i h h' o nw st e e' k N' hm'
    exact ⟨by obtain ⟨o', q, r⟩ := st.1; rw [e] at q; cases q; exact ⟨o, e', r⟩, ⟨_, (N' _ hm').1, rfl, _, rfl⟩⟩
  · show b < (s₁.heap.push _).objs.size
    rw [Heap.size_push]
    rcases List.mem_cons.mp hb with rfl | hb
    · exact Nat.lt_succ_self _
    · rw [List.mem_singleton.mp hb]; exact Nat.lt_succ_of_lt hlt
  · intro D C h' tk m' ys news' F' N' o1 hn hC₀ hD₀ hCL hDL hCD offC fin
    show wpAny _ A (assign (.Name y py) env (.ref D)) _ _ _
    refine wpAny_assign_Name (wpAny_storeName_local hy F'.ns (fun h₂ hn₂ hs₂ => ?_) hp)
    have hL₀ : h₀.get? env.locals = none := Heap.get?_none_of_le F'.above
    have F₂ : Fr h₀ env.locals h₂ (fun z => if z = y then some (.ref D) else m z) := ⟨hn₂, fun b o e => hs₂.extBut b o (fun q => by rw [q, hL₀] at e; cases e) (F'.keep b o e), F'.above⟩
    refine ⟨m', hn.sameBut hs₂ hCL, fun h'' hs'' => fin D h'' _ (F₂.change hs'' hCL hC₀) (fun p hp => ?_) o1⟩
    have z : h₂.get? p.1 = some p.2 := hs₂.extBut _ _ (N' p hp).2.1 (N' p hp).1
    refine ⟨hs''.extBut _ _ ?_ z, (N' p hp).2⟩
    rcases List.mem_cons.mp hp with rfl | hp
    · exact Ne.symm hCD
    · exact offC p hp
theorem fsrc_intro {y : PySem.Str} {Q : Flow → Shared → Prop} {s₁ : Shared} {ax : Addr} {a b : Int} {ta tb : Tok} {news : List (Addr × Obj)} (hh : A.handled = none) (F : Fr h₀ L s₁.heap m) (N : News h₀ L s₁.heap news) (hm : (ax, tup2 a b ta tb) ∈ news)
    (f1 : 0 < a → 0 < b → FinA h₀ L m s₁ y Q [.int a ta, .int b tb] news) (f2 : 0 < a → b ≤ 0 → FinA h₀ L m s₁ y Q [.int a ta] news)
    (f3 : a ≤ 0 → 0 < b → FinA h₀ L m s₁ y Q [.int b tb] news) (f4 : a ≤ 0 → b ≤ 0 → FinA h₀ L m s₁ y Q [] news) : FSrc h₀ L m y Q A (.ref ax) s₁ := by
  refine ⟨ax, a, b, ta, tb, news, rfl, hh, F, N, hm, ?_⟩
  unfold keepPos
  by_cases ha : 0 < a <;> by_cases hb : 0 < b
  · rw [if_pos ha, if_pos hb]; exact f1 ha hb
  · rw [if_pos ha, if_neg hb]; exact f2 ha (by omega)
  · rw [if_neg ha, if_pos hb]; exact f3 (by omega) hb
  · rw [if_neg ha, if_neg hb]; exact f4 (by omega) (by omega)
def posOf (a b : Int) : List Int := (if 0 < a then [a] else []) ++ (if 0 < b then [b] else [])
def minZ (a b : Int) : Int := if 0 < a then (if 0 < b then (if b < a then b else a) else a) else b
def waitZ (a b : Int) : Int := if 30 < minZ a b then minZ a b else 30
theorem posOf_ne {a b : Int} (h : 0 < a ∨ 0 < b) : 0 < (posOf a b).length := by
  unfold posOf
  rcases h with h | h
  · rw [if_pos h]; simp
  · rw [if_pos h]; simp
theorem keepPos_ints (a b : Int) (ta tb : Tok) : IntsAre (keepPos a b ta tb) (posOf a b) := by
  unfold keepPos posOf
  by_cases ha : 0 < a <;> by_cases hb : 0 < b
  · rw [if_pos ha, if_pos hb, if_pos ha, if_pos hb]; exact .cons _ _ (.cons _ _ .nil)
  · rw [if_pos ha, if_neg hb, if_pos ha, if_neg hb]; exact .cons _ _ .nil
  · rw [if_neg ha, if_pos hb, if_neg ha, if_pos hb]; exact .cons _ _ .nil
  · rw [if_neg ha, if_neg hb, if_neg ha, if_neg hb]; exact .nil
theorem fsrc_two {y : PySem.Str} {Q : Flow → Shared → Prop} {s₁ : Shared} {ax : Addr} {a b : Int} {ta tb : Tok} {news : List (Addr × Obj)} (hh : A.handled = none) (F : Fr h₀ L s₁.heap m) (N : News h₀ L s₁.heap news) (hm : (ax, tup2 a b ta tb) ∈ news)
    (f1 : (0 < a ∨ 0 < b) → ∀ ys, IntsAre ys (posOf a b) → FinA h₀ L m s₁ y Q ys news) (f4 : a ≤ 0 → b ≤ 0 → FinA h₀ L m s₁ y Q [] news) : FSrc h₀ L m y Q A (.ref ax) s₁ := by
  refine ⟨ax, a, b, ta, tb, news, rfl, hh, F, N, hm, ?_⟩
  by_cases h : 0 < a ∨ 0 < b
  · exact f1 h _ (keepPos_ints a b ta tb)
  · unfold keepPos
    rw [if_neg (by omega), if_neg (by omega)]
    exact f4 (by omega) (by omega)
theorem eq_pos_nil {la lb : Addr} {ys : List Value} {a b : Int} {Q : Value → Shared → Prop} (hl : s.heap.IsList la ys.toArray) (hi : IntsAre ys (posOf a b)) (hp : 0 < a ∨ 0 < b) (hl' : s.heap.IsList lb ([] : List Value).toArray) (hu : A.units + 64 < cLine)
    (h : Q (.bool false) s) : wpAny (model prog w) A (compareOp .Eq (.ref la) (.ref lb)) Q E s :=
  eq_intsK hl hi hl' .nil hu (by
    rw [decide_eq_false (fun e => by have := posOf_ne hp; rw [e] at this; exact absurd this (by decide))]
    exact h)
theorem min_pos {l : Addr} {ys : List Value} {a b : Int} {news : List (Addr × Obj)} {Q : Value → Shared → Prop} (F : Fr h₀ L s.heap m) (N : News h₀ L s.heap news) (hl : s.heap.IsList l ys.toArray) (hi : IntsAre ys (posOf a b)) (hp : 0 < a ∨ 0 < b) (hh : A.handled = none)
    (h : ∀ h' (t : Tok) tk, Fr h₀ L h' m → News h₀ L h' news → Q (.int (minZ a b) t) { s with heap := h', toks := tk }) : wpAny (model prog w) A (call (.builtin "min") [.ref l]) Q E s :=
  kso_min F N hl hi (posOf_ne hp) hh fun h' M t tk F' N' hM hle => by
    have e : M = minZ a b := by
      unfold posOf at hM hle
      unfold minZ
      by_cases ha : 0 < a <;> by_cases hb : 0 < b
      · simp only [if_pos ha, if_pos hb, List.cons_append, List.nil_append, List.mem_cons, List.not_mem_nil, or_false, forall_eq_or_imp, forall_eq] at hM hle ⊢
        split <;> omega
      · simp only [if_pos ha, if_neg hb, List.append_nil, List.mem_cons, List.not_mem_nil, or_false] at hM ⊢
        exact hM
      · simp only [if_neg ha, if_pos hb, List.nil_append, List.mem_cons, List.not_mem_nil, or_false] at hM ⊢
        exact hM
      · omega
    rw [e]
    exact h h' t tk F' N'
theorem max_wait {a b : Int} {t u : Tok} {news : List (Addr × Obj)} {Q : Value → Shared → Prop} (hh : A.handled = none) (F : Fr h₀ L s.heap m) (N : News h₀ L s.heap news)
    (h : ∀ h' (t' : Tok) tk, Fr h₀ L h' m → News h₀ L h' news → Q (.int (waitZ a b) t') { s with heap := h', toks := tk }) :
    wpAny (model prog w) A (call (.builtin "max") [.int 30 t, .int (minZ a b) u]) Q E s :=
  max_two_N hh F N fun h' tk F' N' => h h' _ tk F' N'
end
end
section
section
theorem int_eq {Q : Value → Shared → Prop} {s : Shared} {a b : Int} {t : Tok} (e : a = b) (h : Q (.int b t) s) : Q (.int a t) s := e ▸ h
theorem drop_two {h₀ h : Heap} {L : Addr} {p q : Addr × Obj} {news : List (Addr × Obj)} (N : News h₀ L h (p :: q :: news)) : News h₀ L h news := fun x hx => N x (.tail _ (.tail _ hx))
theorem iw_core
    {prog : Program} {w : World} {p : Program} {loose : List PySem.Str} {mean : ExcName → Option Value} {mg mb : PySem.Str → Option Value}
    {dp un : Nat} {gd : Option (List Code)} {cn : PySem.Str} {cs : Scope} {a : Addr} {ccd : Value} {cl : List (PySem.Str × Addr)} {outer : List Env} {A₀ : Around} {base h₀ : Heap} {L : Addr} {m : PySem.Str → Option Value} {s : Shared} {Q E : Value → Shared → Prop}
    {own peer : Int} {to tp tw : Tok} {rest : List (Addr × Obj)}
    (B : Below A₀ base outer h₀) (F : Fr h₀ L s.heap m) (X : (Mine.K w.params).In h₀)
    (N : News h₀ L s.heap rest) (T : Top p loose mean mg mb h₀) (hk : cs.kind = .function)
    (hdp : dp + 10 < recursionLimit)
    (hretN : own ≤ 0 → peer ≤ 0 → ∀ (h' : Heap) (tk' : Nat), Fr h₀ L h' m → News h₀ L h' rest → Q .none { s with heap := h', toks := tk' })
    (hretI : (0 < own ∨ 0 < peer) → ∀ (t : Tok) (h' : Heap) (tk' : Nat), Fr h₀ L h' m → News h₀ L h' rest → Q (.int (waitZ own peer) t) { s with heap := h', toks := tk' }) :
    wpAny (model prog w) (ktrTop dp un gd cn cs L a ccd cl outer) (call (.ref 124) [.int own to, .int peer tp, .int 10 tw]) Q E s := by
  k_with_none
  k_with "exec Assign cons ListComp" => (k_here; k_dflt (refine AssignFilter (F₀ := by k_asm) (by rfl) (by with_unfolding_all rfl) (by with_unfolding_all rfl) (by decide) (by rfl) (by decide) (by rfl) (by rfl) (by rfl) (by intro _; rfl) (by intro _; rfl) (by decide) ?_))
  k_with "FSrc" => (k_here; k_dflt (refine fsrc_intro (by rfl) (by k_asm) (by k_asm) (by k_mem) ?_ ?_ ?_ ?_))
  refine wpAny_call ?_
  k_dflt (first | cell_enter | k_enter)
  k_steps
  all_goals (try w_report)
  all_goals first
    | exact hretN (by assumption) (by assumption) _ _ (by k_asm) (drop_two (by assumption))
    | (refine' int_eq ?e (hretI ?o _ _ _ ?f ?n)
       (case f => k_asm)
       (case n => exact drop_two (by assumption))
       (case o => omega)
       (case e => (unfold waitZ minZ; (repeat' split) <;> omega)))
end
end
section
abbrev iD (w : World) (k1 k2 k3 k4 : Tok) (own : Int) (to : Tok) (peer : Int) (tp : Tok) (since : Int) (ts : Tok) (asked : Bool) : Obj :=
  dictOf [⟨PyData.keyHash w.params (Str.ofString "own"), .str (Str.ofString "own") k1, .int own to⟩,
    ⟨PyData.keyHash w.params (Str.ofString "peer"), .str (Str.ofString "peer") k2, .int peer tp⟩,
    ⟨PyData.keyHash w.params (Str.ofString "since"), .str (Str.ofString "since") k3, .int since ts⟩,
    ⟨PyData.keyHash w.params (Str.ofString "has_asked"), .str (Str.ofString "has_asked") k4, .bool asked⟩] 4
section
variable
    {prog : Program} {w : World} {p : Program} {loose : List PySem.Str} {mean : ExcName → Option Value} {mg mb : PySem.Str → Option Value}
    {dp un : Nat} {gd : Option (List Code)} {cn : PySem.Str} {cs : Scope} {a : Addr} {ccd : Value} {cl : List (PySem.Str × Addr)} {outer : List Env} {A₀ : Around} {base h₀ : Heap} {L : Addr} {m : PySem.Str → Option Value} {s : Shared} {Q E : Value → Shared → Prop}
    {C D : Addr} {k1 k2 k3 k4 to tp ts : Tok} {own peer since now reserve : Int} {asked : Bool} {tn tw tr : Tok} {rest : List (Addr × Obj)}
theorem dl_core
    (B : Below A₀ base outer h₀) (F : Fr h₀ L s.heap m) (X : (Mine.K w.params).In h₀)
    (N : News h₀ L s.heap ((C, instObj 183 D) :: (D, iD w k1 k2 k3 k4 own to peer tp since ts asked) :: rest)) (T : Top p loose mean mg mb h₀) (hk : cs.kind = .function)
    (hdp : dp + 20 < recursionLimit)
    (hretN : own ≤ 0 → peer ≤ 0 → ∀ (h' : Heap) (tk' : Nat), Fr h₀ L h' m → News h₀ L h' ((C, instObj 183 D) :: (D, iD w k1 k2 k3 k4 own to peer tp since ts asked) :: rest) → Q .none { s with heap := h', toks := tk' })
    (hretI : (0 < own ∨ 0 < peer) → ∀ (t : Tok) (h' : Heap) (tk' : Nat), Fr h₀ L h' m → News h₀ L h' ((C, instObj 183 D) :: (D, iD w k1 k2 k3 k4 own to peer tp since ts asked) :: rest) → Q (.int (since + waitZ own peer) t) { s with heap := h', toks := tk' }) :
    wpAny (model prog w) (ktrTop dp un gd cn cs L a ccd cl outer) (call (.ref 166) [.ref C, .int 10 tw]) Q E s := by
  k_with_none
  k_with "call ref" => (k_here; (with_reducible show wpAny _ _ (call (Value.ref 124) [Value.int _ _, Value.int _ _, Value.int _ _]) _ _ _); k_dflt (
    refine' iw_core ?k1 ?k2 ?k3 ?k4 ?k5 ?k6 ?k7 ?_ ?_
    (case k1 => k_asm)
    (case k2 => k_asm)
    (case k3 => k_asm)
    (case k4 => k_asm)
    (case k5 => k_asm)
    (case k6 => first | exact rfl | assumption)
    (case k7 => ktr_room)
    (intro hn9 hm9 h9 tk9 F9 N9; first | (exfalso; omega) | ((try k_sweep); (try k_fold)))
    (try (rotate_left 1))
    (intro hn9 t9 h9 tk9 F9 N9; first | (exfalso; omega) | ((try k_sweep); (try k_fold)))
    (try (rotate_right 1))))
  refine wpAny_call ?_
  k_dflt (first | cell_enter | k_enter)
  k_steps
  all_goals (try w_report)
  · exact hretN (by assumption) (by assumption) _ _ (by k_asm) (by k_asm)
  · exact hretI (by assumption) _ _ _ (by k_asm) (by k_asm)
theorem over_core
    (B : Below A₀ base outer h₀) (F : Fr h₀ L s.heap m) (X : (Mine.K w.params).In h₀)
    (N : News h₀ L s.heap ((C, instObj 183 D) :: (D, iD w k1 k2 k3 k4 own to peer tp since ts asked) :: rest)) (T : Top p loose mean mg mb h₀) (hk : cs.kind = .function)
    (hdp : dp + 30 < recursionLimit)
    (hretN : (own ≤ 0 → peer ≤ 0 → ∀ (h' : Heap) (tk' : Nat), Fr h₀ L h' m → News h₀ L h' ((C, instObj 183 D) :: (D, iD w k1 k2 k3 k4 own to peer tp since ts asked) :: rest) → Q (.bool false) { s with heap := h', toks := tk' }))
    (hretI : ((0 < own ∨ 0 < peer) → ∀ (h' : Heap) (tk' : Nat), Fr h₀ L h' m → News h₀ L h' ((C, instObj 183 D) :: (D, iD w k1 k2 k3 k4 own to peer tp since ts asked) :: rest) → Q (.bool (decide (since + waitZ own peer ≤ now))) { s with heap := h', toks := tk' })) :
    wpAny (model prog w) (ktrTop dp un gd cn cs L a ccd cl outer) (call (.ref 173) [.ref C, .int now tn, .int 10 tw]) Q E s := by
  k_with_none
  k_with "call ref" => (k_here; (with_reducible show wpAny _ _ (call (Value.ref 124) [Value.int _ _, Value.int _ _, Value.int _ _]) _ _ _); k_dflt (
    refine' iw_core ?k1 ?k2 ?k3 ?k4 ?k5 ?k6 ?k7 ?_ ?_
    (case k1 => k_asm)
    (case k2 => k_asm)
    (case k3 => k_asm)
    (case k4 => k_asm)
    (case k5 => k_asm)
    (case k6 => first | exact rfl | assumption)
    (case k7 => ktr_room)
    (intro hn9 hm9 h9 tk9 F9 N9; first | (exfalso; omega) | ((try k_sweep); (try k_fold)))
    (try (rotate_left 1))
    (intro hn9 t9 h9 tk9 F9 N9; first | (exfalso; omega) | ((try k_sweep); (try k_fold)))
    (try (rotate_right 1))))
  k_with "call ref" => (k_here; (with_reducible show wpAny _ _ (call (Value.ref 166) [Value.ref _, Value.int _ _]) _ _ _); k_dflt (
    refine' dl_core ?k1 ?k2 ?k3 ?k4 ?k5 ?k6 ?k7 ?_ ?_
    (case k1 => k_asm)
    (case k2 => k_asm)
    (case k3 => k_asm)
    (case k4 => k_asm)
    (case k5 => k_asm)
    (case k6 => first | exact rfl | assumption)
    (case k7 => ktr_room)
    (intro hn9 hm9 h9 tk9 F9 N9; first | (exfalso; omega) | ((try k_sweep); (try k_fold)))
    (try (rotate_left 1))
    (intro hn9 t9 h9 tk9 F9 N9; first | (exfalso; omega) | ((try k_sweep); (try k_fold)))
    (try (rotate_right 1))))
  refine wpAny_call ?_
  k_dflt (first | cell_enter | k_enter)
  k_steps
  all_goals (try w_report)
  · exact hretN (by assumption) (by assumption) _ _ (by k_asm) (by k_asm)
  · exact hretI (by assumption) _ _ (by k_asm) (by k_asm)
theorem ping_core
    (B : Below A₀ base outer h₀) (F : Fr h₀ L s.heap m) (X : (Mine.K w.params).In h₀)
    (N : News h₀ L s.heap ((C, instObj 183 D) :: (D, iD w k1 k2 k3 k4 own to peer tp since ts asked) :: rest)) (T : Top p loose mean mg mb h₀) (hk : cs.kind = .function)
    (hdp : dp + 30 < recursionLimit)
    (hretN : (own ≤ 0 → peer ≤ 0 → ∀ (h' : Heap) (tk' : Nat), Fr h₀ L h' m → News h₀ L h' ((C, instObj 183 D) :: (D, iD w k1 k2 k3 k4 own to peer tp since ts asked) :: rest) → Q (.bool false) { s with heap := h', toks := tk' }))
    (hretA : ((0 < own ∨ 0 < peer) → asked = true → ∀ (h' : Heap) (tk' : Nat), Fr h₀ L h' m → News h₀ L h' ((C, instObj 183 D) :: (D, iD w k1 k2 k3 k4 own to peer tp since ts asked) :: rest) → Q (.bool false) { s with heap := h', toks := tk' }))
    (hretI : ((0 < own ∨ 0 < peer) → asked = false → ∀ (h' : Heap) (tk' : Nat), Fr h₀ L h' m → News h₀ L h' ((C, instObj 183 D) :: (D, iD w k1 k2 k3 k4 own to peer tp since ts asked) :: rest) → Q (.bool (decide (since + waitZ own peer ≤ now + reserve))) { s with heap := h', toks := tk' })) :
    wpAny (model prog w) (ktrTop dp un gd cn cs L a ccd cl outer) (call (.ref 180) [.ref C, .int now tn, .int 10 tw, .int reserve tr]) Q E s := by
  k_with_none
  k_with "call ref" => (k_here; (with_reducible show wpAny _ _ (call (Value.ref 124) [Value.int _ _, Value.int _ _, Value.int _ _]) _ _ _); k_dflt (
    refine' iw_core ?k1 ?k2 ?k3 ?k4 ?k5 ?k6 ?k7 ?_ ?_
    (case k1 => k_asm)
    (case k2 => k_asm)
    (case k3 => k_asm)
    (case k4 => k_asm)
    (case k5 => k_asm)
    (case k6 => first | exact rfl | assumption)
    (case k7 => ktr_room)
    (intro hn9 hm9 h9 tk9 F9 N9; first | (exfalso; omega) | ((try k_sweep); (try k_fold)))
    (try (rotate_left 1))
    (intro hn9 t9 h9 tk9 F9 N9; first | (exfalso; omega) | ((try k_sweep); (try k_fold)))
    (try (rotate_right 1))))
  k_with "call ref" => (k_here; (with_reducible show wpAny _ _ (call (Value.ref 166) [Value.ref _, Value.int _ _]) _ _ _); k_dflt (
    refine' dl_core ?k1 ?k2 ?k3 ?k4 ?k5 ?k6 ?k7 ?_ ?_
    (case k1 => k_asm)
    (case k2 => k_asm)
    (case k3 => k_asm)
    (case k4 => k_asm)
    (case k5 => k_asm)
    (case k6 => first | exact rfl | assumption)
    (case k7 => ktr_room)
    (intro hn9 hm9 h9 tk9 F9 N9; first | (exfalso; omega) | ((try k_sweep); (try k_fold)))
    (try (rotate_left 1))
    (intro hn9 t9 h9 tk9 F9 N9; first | (exfalso; omega) | ((try k_sweep); (try k_fold)))
    (try (rotate_right 1))))
  refine wpAny_call ?_
  k_dflt (first | cell_enter | k_enter)
  k_steps
  all_goals (try w_report)
  · exact hretN (by assumption) (by assumption) _ _ (by k_asm) (by k_asm)
  · rw [show (!asked) = false by simp only [‹asked = true›, Bool.not_true]]
    exact hretA (by assumption) (by assumption) _ _ (by k_asm) (by k_asm)
  · exact hretI (by assumption) (by assumption) _ _ (by k_asm) (by k_asm)
end
section
def OverIs (own peer since now : Int) (b : Bool) : Prop := (own ≤ 0 ∧ peer ≤ 0 ∧ b = false) ∨ ((0 < own ∨ 0 < peer) ∧ since + waitZ own peer ≤ now ∧ b = true) ∨ ((0 < own ∨ 0 < peer) ∧ now < since + waitZ own peer ∧ b = false)
def PingIs (own peer since now reserve : Int) (asked b : Bool) : Prop := (asked = true ∧ b = false) ∨ (asked = false ∧ OverIs own peer since (now + reserve) b)
variable
    {prog : Program} {w : World} {p : Program} {loose : List PySem.Str} {mean : ExcName → Option Value} {mg mb : PySem.Str → Option Value}
    {dp un : Nat} {gd : Option (List Code)} {cn : PySem.Str} {cs : Scope} {a : Addr} {ccd : Value} {cl : List (PySem.Str × Addr)} {outer : List Env} {A₀ : Around} {base h₀ : Heap} {L : Addr} {m : PySem.Str → Option Value} {s : Shared} {Q E : Value → Shared → Prop}
    {C D : Addr} {k1 k2 k3 k4 to tp ts : Tok} {own peer since now reserve : Int} {asked b : Bool} {tn tw tr : Tok} {news : List (Addr × Obj)}
theorem put_two {h : Heap} {p q : Addr × Obj} {news : List (Addr × Obj)} (N : News h₀ L h news) (hp : p ∈ news) (hq : q ∈ news) : News h₀ L h (p :: q :: news) := by
  intro x hx
  rcases List.mem_cons.mp hx with rfl | hx
  · exact N _ hp
  rcases List.mem_cons.mp hx with rfl | hx
  · exact N _ hq
  · exact N _ hx
theorem dl_spec (B : Below A₀ base outer h₀) (F : Fr h₀ L s.heap m) (X : (Mine.K w.params).In h₀) (N : News h₀ L s.heap news)
    (hC : (C, instObj 183 D) ∈ news) (hD : (D, iD w k1 k2 k3 k4 own to peer tp since ts asked) ∈ news) (T : Top p loose mean mg mb h₀) (hk : cs.kind = .function) (hdp : dp + 30 < recursionLimit)
    (hretN : own ≤ 0 → peer ≤ 0 → ∀ (h' : Heap) (tk' : Nat), Fr h₀ L h' m → News h₀ L h' news → Q .none { s with heap := h', toks := tk' })
    (hretI : (0 < own ∨ 0 < peer) → ∀ (t : Tok) (h' : Heap) (tk' : Nat), Fr h₀ L h' m → News h₀ L h' news → Q (.int (since + waitZ own peer) t) { s with heap := h', toks := tk' }) :
    wpAny (model prog w) (ktrTop dp un gd cn cs L a ccd cl outer) (call (.ref 166) [.ref C, .int 10 tw]) Q E s :=
  dl_core B F X (put_two N hC hD) T hk (by omega) (fun h1 h2 h' tk' F' N' => hretN h1 h2 h' tk' F' (drop_two N')) fun h1 t h' tk' F' N' => hretI h1 t h' tk' F' (drop_two N')
theorem over_spec (B : Below A₀ base outer h₀) (F : Fr h₀ L s.heap m) (X : (Mine.K w.params).In h₀) (N : News h₀ L s.heap news)
    (hC : (C, instObj 183 D) ∈ news) (hD : (D, iD w k1 k2 k3 k4 own to peer tp since ts asked) ∈ news) (T : Top p loose mean mg mb h₀) (hk : cs.kind = .function) (hdp : dp + 30 < recursionLimit)
    (hb : OverIs own peer since now b)
    (hret : ∀ (h' : Heap) (tk' : Nat), Fr h₀ L h' m → News h₀ L h' news → Q (.bool b) { s with heap := h', toks := tk' }) :
    wpAny (model prog w) (ktrTop dp un gd cn cs L a ccd cl outer) (call (.ref 173) [.ref C, .int now tn, .int 10 tw]) Q E s := by
  refine over_core B F X (put_two N hC hD) T hk hdp (fun h1 h2 h' tk' F' N' => ?_) (fun h1 h' tk' F' N' => ?_)
  · rcases hb with ⟨_, _, rfl⟩ | ⟨_, _, rfl⟩ | ⟨_, _, rfl⟩
    · exact hret h' tk' F' (drop_two N')
    · omega
    · exact hret h' tk' F' (drop_two N')
  · rcases hb with ⟨_, _, rfl⟩ | ⟨_, _, rfl⟩ | ⟨_, _, rfl⟩
    · omega
    · rw [decide_eq_true (by assumption)]; exact hret h' tk' F' (drop_two N')
    · rw [decide_eq_false (by omega)]; exact hret h' tk' F' (drop_two N')
theorem ping_spec (B : Below A₀ base outer h₀) (F : Fr h₀ L s.heap m) (X : (Mine.K w.params).In h₀) (N : News h₀ L s.heap news)
    (hC : (C, instObj 183 D) ∈ news) (hD : (D, iD w k1 k2 k3 k4 own to peer tp since ts asked) ∈ news) (T : Top p loose mean mg mb h₀) (hk : cs.kind = .function) (hdp : dp + 30 < recursionLimit)
    (hb : PingIs own peer since now reserve asked b)
    (hret : ∀ (h' : Heap) (tk' : Nat), Fr h₀ L h' m → News h₀ L h' news → Q (.bool b) { s with heap := h', toks := tk' }) :
    wpAny (model prog w) (ktrTop dp un gd cn cs L a ccd cl outer) (call (.ref 180) [.ref C, .int now tn, .int 10 tw, .int reserve tr]) Q E s := by
  refine ping_core B F X (put_two N hC hD) T hk hdp (fun h1 h2 h' tk' F' N' => ?_) (fun h1 ha h' tk' F' N' => ?_) (fun h1 ha h' tk' F' N' => ?_)
  · rcases hb with ⟨_, rfl⟩ | ⟨_, ⟨_, _, rfl⟩ | ⟨_, _, rfl⟩ | ⟨_, _, rfl⟩⟩
    · exact hret h' tk' F' (drop_two N')
    · exact hret h' tk' F' (drop_two N')
    · omega
    · exact hret h' tk' F' (drop_two N')
  · rcases hb with ⟨_, rfl⟩ | ⟨hf, _⟩
    · exact hret h' tk' F' (drop_two N')
    · rw [ha] at hf; cases hf
  · rcases hb with ⟨hf, rfl⟩ | ⟨_, ⟨_, _, rfl⟩ | ⟨_, _, rfl⟩ | ⟨_, _, rfl⟩⟩
    · rw [ha] at hf; cases hf
    · omega
    · rw [decide_eq_true (by assumption)]; exact hret h' tk' F' (drop_two N')
    · rw [decide_eq_false (by omega)]; exact hret h' tk' F' (drop_two N')
end
end
section
theorem not_in1 {a z : PySem.Str} (h : [a].contains z = false) : z ≠ a := by
  intro e
  subst e
  simp at h
theorem no_both {a b : Int} (h1 : a ≤ 0) (h2 : b ≤ 0) (h3 : 0 < a ∨ 0 < b) : False := by omega
section
variable {prog : Program} {w : World} {A : Around} {E : Value → Shared → Prop} {s : Shared} {Q : Value → Shared → Prop}
theorem ne_int_same {x : Int} {t u : Tok} (h : Q (.bool false) s) : wpAny (model prog w) A (compareOp .NotEq (.int x t) (.int x u)) Q E s := by
  refine PyProof.Rows.ne_int ?_
  rw [bne_self_eq_false]; exact h
theorem eq_int_same {x : Int} {t u : Tok} (h : Q (.bool true) s) : wpAny (model prog w) A (compareOp .Eq (.int x t) (.int x u)) Q E s := by
  refine PyProof.Rows.eq_int ?_
  rw [beq_self_eq_true]; exact h
theorem eq_int_yes {x y : Int} {t u : Tok} (e : (x == y) = true) (h : Q (.bool true) s) : wpAny (model prog w) A (compareOp .Eq (.int x t) (.int y u)) Q E s := by
  refine PyProof.Rows.eq_int ?_
  rw [e]; exact h
theorem eq_int_diff {x y : Int} {t u : Tok} (e : (x == y) = false) (h : Q (.bool false) s) : wpAny (model prog w) A (compareOp .Eq (.int x t) (.int y u)) Q E s := by
  refine PyProof.Rows.eq_int ?_
  rw [e]; exact h
theorem lt_int_yes {x y : Int} {t u : Tok} (e : decide (x < y) = true) (h : Q (.bool true) s) : wpAny (model prog w) A (compareOp .Lt (.int x t) (.int y u)) Q E s := by
  refine PyProof.Rows.lt_int ?_
  rw [e]; exact h
theorem lt_int_no {x y : Int} {t u : Tok} (e : decide (x < y) = false) (h : Q (.bool false) s) : wpAny (model prog w) A (compareOp .Lt (.int x t) (.int y u)) Q E s := by
  refine PyProof.Rows.lt_int ?_
  rw [e]; exact h
theorem ne_bool_same {x y : Bool} (e : x = y) (h : Q (.bool false) s) : wpAny (model prog w) A (compareOp .NotEq (.bool x) (.bool y)) Q E s := by
  subst e
  refine PyProof.Rows.ne_bool ?_
  rw [bne_self_eq_false]; exact h
end
abbrev tup3 (a b c : Int) (ta tb tc : Tok) : Obj := { cls := .type "tuple", data := .seq #[.int a ta, .int b tb, .int c tc] }
def TJ (news : List (Addr × Obj)) (x : PySem.Str) (stored : List PySem.Str) (m₀ : PySem.Str → Option Value) (m : PySem.Str → Option Value) (nx : List (Addr × Obj)) : Prop :=
  nx = news ∧ ∀ z, z ≠ x → stored.contains z = false → m z = m₀ z
section
variable {prog : Program} {w : World} {A : Around} {E : Value → Shared → Prop} {s : Shared} {env : Env} {h₀ : Heap} {x : PySem.Str} {body : List Stmt} {Q : Flow → Shared → Prop}
theorem tj_map {m m₀ : PySem.Str → Option Value} {stored : List PySem.Str} (h : ∀ z, z ≠ x → stored.contains z = false → m z = m₀ z) (v : Option Value) :
    (fun y => if y = x then v else m y) = fun y => if y = x then v else (if stored.contains y then m y else m₀ y) := by
  funext y
  by_cases hy : y = x
  · rw [if_pos hy, if_pos hy]
  · rw [if_neg hy, if_neg hy]
    cases hc : stored.contains y with
    | true => simp
    | false => simp only [Bool.false_eq_true, if_false]; exact h y hy hc
theorem tj_out {m m₀ : PySem.Str → Option Value} {stored : List PySem.Str} (h : ∀ z, z ≠ x → stored.contains z = false → m z = m₀ z) :
    m = fun y => if y = x then m y else (if stored.contains y then m y else m₀ y) := by
  funext y
  by_cases hy : y = x
  · rw [if_pos hy]
  · rw [if_neg hy]
    cases hc : stored.contains y with
    | true => simp
    | false => simp only [Bool.false_eq_true, if_false]; exact h y hy hc
theorem tup_loop {T : Addr} {a b c lo hi : Int} {ta tb tc : Tok} {m₀ : PySem.Str → Option Value} {news : List (Addr × Obj)} (stored : List PySem.Str) (hh : A.handled = none) (F : Fr h₀ env.locals s.heap m₀)
    (N : News h₀ env.locals s.heap ((T, tup3 a b c ta tb tc) :: news)) (hT : ∀ p ∈ news, @Ne Nat p.1 T) (ha : lo ≤ a ∧ a ≤ hi) (hb : lo ≤ b ∧ b ≤ hi) (hc : lo ≤ c ∧ c ≤ hi)
    (turn : ∀ (v : Int) (t : Tok) (u : PySem.Str → Option Value) (h : Heap) (tk : Nat) (own : List (Addr × Obj)), lo ≤ v → v ≤ hi →
      Fr h₀ env.locals h (fun y => if y = x then some (.int v t) else (if stored.contains y then u y else m₀ y)) → News h₀ env.locals h (news ++ own) →
      wpAny (model prog w) A (execs body env) (InvPostN h₀ env.locals (TJ news x stored m₀) own (news.map (·.1)) { s with heap := h, toks := tk } Q) E { s with heap := h, toks := tk })
    (done : ∀ (u : PySem.Str → Option Value) (h : Heap) (tk : Nat), Fr h₀ env.locals h (fun y => if y = x then u y else (if stored.contains y then u y else m₀ y)) → News h₀ env.locals h news → Q .next { s with heap := h, toks := tk }) :
    wpAny (model prog w) A (pyIter (.ref T)) (fun it s₂ => LoopAtV prog w A h₀ env x body Q E it s₂) E s := by
  have hm := N _ List.mem_cons_self
  have N' : News h₀ env.locals s.heap news := fun p hp => N p (List.mem_cons_of_mem _ hp)
  have hTup : s.heap.IsTuple T #[Value.int a ta, .int b tb, .int c tc] := ⟨_, hm.1, rfl, _, rfl⟩
  have hlt : T < s.heap.objs.size := Heap.lt_size hm.1
  refine wpAny_pyIter_tuple hTup ?_
  have up : ∀ b o, s.heap.get? b = some o → (s.heap.push { cls := .type "tuple_iterator", data := .fields #[.ref T, .int 0 0] }).get? b = some o := fun b o e => Heap.get?_push_of_some _ e
  refine loop_invN (fun _ m nx => TJ news x stored m₀ m nx) (Walks.tuple hh s.heap.objs.size T (Nat.ne_of_lt hlt) #[Value.int a ta, .int b tb, .int c tc]) ?_ ?_ ?_ ?_ ⟨⟨_, Heap.get?_push_size _ rfl, rfl, rfl⟩, hTup.push _⟩ (F.keeps up) (N'.grown up) ⟨rfl, fun _ _ _ => rfl⟩ ?_ ?_
  · intro hm'
    rcases List.mem_cons.mp hm' with e | hm'
    · exact absurd F.ns.lt (e ▸ Nat.lt_irrefl _)
    · exact hm.2.1 (List.mem_singleton.mp hm').symm
  · intro b hb
    rw [List.mem_singleton.mp hb]
    exact next_is_new F
  · intro p hp hI
    exact absurd (Heap.lt_size (N' p hp).1) ((List.mem_singleton.mp hI) ▸ Nat.lt_irrefl _)
  · intro p hp hI
    rcases List.mem_cons.mp hI with e | hI
    · exact absurd (Heap.lt_size (N' p hp).1) (e ▸ Nat.lt_irrefl _)
    · exact hT p hp (List.mem_singleton.mp hI)
  · rintro i v m₁ nx h tk own hin hv _ _ ⟨rfl, hmm⟩ F₁ N₁
    rw [tj_map hmm] at F₁
    have key : ∃ k t, v = .int k t ∧ lo ≤ k ∧ k ≤ hi := by
      match i, hin with
      | 0, _ => exact ⟨a, ta, by simpa using hv.symm, ha⟩
      | 1, _ => exact ⟨b, tb, by simpa using hv.symm, hb⟩
      | 2, _ => exact ⟨c, tc, by simpa using hv.symm, hc⟩
    obtain ⟨k, t, rfl, h1, h2⟩ := key
    exact turn k t m₁ h tk own h1 h2 F₁ N₁
  · rintro m₁ nx h tk ⟨rfl, hmm⟩ F₁ N₁
    rw [tj_out hmm] at F₁
    exact done m₁ h tk F₁ N₁
theorem tup_end {L : Addr} {m' m₀ : PySem.Str → Option Value} {stored : List PySem.Str} {news news' own : List (Addr × Obj)} {h' : Heap} {tk : Nat} {s₁ : Shared}
    (F : Fr h₀ L h' m') (N : News h₀ L h' news') (hn : ∀ p ∈ news, p ∈ news') (ho : ∀ p ∈ own, p ∈ news') (hr : ∀ z, z ≠ x → stored.contains z = false → m' z = m₀ z) :
    InvEndN h₀ L (TJ news x stored m₀) own (news.map (·.1)) s₁ { s₁ with heap := h', toks := tk } :=
  InvEndN.intro F N ⟨rfl, hr⟩ rfl hn ho
end
end
section
theorem over_dec {own peer since now : Int} (hp : 0 < own ∨ 0 < peer) : OverIs own peer since now (decide (since + waitZ own peer ≤ now)) := by
  by_cases h : since + waitZ own peer ≤ now
  · rw [decide_eq_true h]; exact .inr (.inl ⟨hp, h, rfl⟩)
  · rw [decide_eq_false h]; exact .inr (.inr ⟨hp, by omega, rfl⟩)
theorem ping_none {own peer since now reserve : Int} {asked : Bool} (h1 : own ≤ 0) (h2 : peer ≤ 0) : PingIs own peer since now reserve asked false := by
  cases asked
  · exact .inr ⟨rfl, .inl ⟨h1, h2, rfl⟩⟩
  · exact .inl ⟨rfl, rfl⟩
theorem ir_news {h₀ h : Heap} {L : Addr} {p q : Addr × Obj} {news : List (Addr × Obj)} (N : News h₀ L h news) (mp : p ∈ news) (mq : q ∈ news) : News h₀ L h [p, q] := by
  intro x hx
  rcases List.mem_cons.mp hx with rfl | hx
  · exact N _ mp
  rcases List.mem_cons.mp hx with rfl | hx
  · exact N _ mq
  · exact nomatch hx
theorem news5 {h₀ h : Heap} {L : Addr} {p q r t u : Addr × Obj} {news : List (Addr × Obj)} (N : News h₀ L h news) (mp : p ∈ news) (mq : q ∈ news) (mr : r ∈ news) (mt : t ∈ news) (mu : u ∈ news) : News h₀ L h [p, q, r, t, u] := by
  intro x hx
  simp only [List.mem_cons, List.not_mem_nil, or_false] at hx
  rcases hx with rfl | rfl | rfl | rfl | rfl
  · exact N _ mp
  · exact N _ mq
  · exact N _ mr
  · exact N _ mt
  · exact N _ mu
theorem news3 {h₀ h : Heap} {L : Addr} {p q r : Addr × Obj} {news : List (Addr × Obj)} (N : News h₀ L h news) (mp : p ∈ news) (mq : q ∈ news) (mr : r ∈ news) : News h₀ L h [p, q, r] := by
  intro x hx
  simp only [List.mem_cons, List.not_mem_nil, or_false] at hx
  rcases hx with rfl | rfl | rfl
  · exact N _ mp
  · exact N _ mq
  · exact N _ mr
theorem four_ways {v : Int} (h1 : v < 4) (h0 : 0 ≤ v) : v = 0 ∨ v = 1 ∨ v = 2 ∨ v = 3 := by omega
theorem five_ints {lo hi a b c d e : Int} {t1 t2 t3 t4 t5 : Tok} (ha : lo ≤ a ∧ a ≤ hi) (hb : lo ≤ b ∧ b ≤ hi) (hc : lo ≤ c ∧ c ≤ hi) (hd : lo ≤ d ∧ d ≤ hi) (he : lo ≤ e ∧ e ≤ hi) :
    ∀ i, i < 5 → ∃ x t, [Value.int a t1, .int b t2, .int c t3, .int d t4, .int e t5][i]? = some (.int x t) ∧ lo ≤ x ∧ x ≤ hi := by
  intro i hi
  match i, hi with
  | 0, _ => exact ⟨_, _, rfl, ha⟩
  | 1, _ => exact ⟨_, _, rfl, hb⟩
  | 2, _ => exact ⟨_, _, rfl, hc⟩
  | 3, _ => exact ⟨_, _, rfl, hd⟩
  | 4, _ => exact ⟨_, _, rfl, he⟩
def AskedIs (a : Bool) : Prop := a = true ∨ a = false
theorem asked_is (a : Bool) : AskedIs a := by cases a; exact .inr rfl; exact .inl rfl
def WaitIs (own peer : Int) (v : Value) : Prop := (own ≤ 0 ∧ peer ≤ 0 ∧ v = .none) ∨ ((0 < own ∨ 0 < peer) ∧ ∃ t, v = .int (waitZ own peer) t)
theorem frame_to {h₀ h : Heap} {L : Addr} {m m' : PySem.Str → Option Value} (F : Fr h₀ L h m) (e : m = m') : Fr h₀ L h m' := e ▸ F
section
variable {prog : Program} {w : World} {A : Around} {E : Value → Shared → Prop} {s : Shared} {env : Env} {h₀ : Heap}
theorem int_item5 {value slice : PySem.Expr} {l : Addr} {vs : List Value} {k : Int} {u : Tok} {n : Nat} {lo hi : Int} {Q : Value → Shared → Prop} (hl : s.heap.IsList l vs.toArray) (hx : ∀ i, i < n → ∃ x t, vs[i]? = some (.int x t) ∧ lo ≤ x ∧ x ≤ hi) (h0 : 0 ≤ k) (h1 : k < (n : Int)) (hn : n < 1000)
    (h : ∀ x t, lo ≤ x → x ≤ hi → Q (.int x t) s)
    (hs : subscripted slice false (.ref l) (.int k u) = operate [.ref l, .int k u] (getItem (.ref l) (.int k u)) := by with_unfolding_all rfl) :
    wpAny (model prog w) A (subscriptTail value slice (.ref l) (.int k u)) Q E s := by
  obtain ⟨x, t, hx, h2, h3⟩ := hx k.toNat (by omega)
  exact tail_any hl.typeIs slot_list_getitem.lookup (wpAny_getItem_list hl h0 (by omega) (by simpa using hx) (h x t h2 h3)) hs
def waitMap (wv : Value) (u m₀ : PySem.Str → Option Value) : PySem.Str → Option Value := fun y => if y = PySem.Str.ofString "wait" then some wv else if y = PySem.Str.ofString "some" then u y else m₀ y
theorem wait_map {wv : Value} {m' m₀ : PySem.Str → Option Value} (h1 : m' (PySem.Str.ofString "wait") = some wv) (hr : ∀ z, z ≠ PySem.Str.ofString "wait" → z ≠ PySem.Str.ofString "some" → m' z = m₀ z) : m' = waitMap wv m' m₀ := by
  funext y
  unfold waitMap
  by_cases hy : y = PySem.Str.ofString "wait"
  · rw [if_pos hy, hy]; exact h1
  · rw [if_neg hy]
    by_cases hz : y = PySem.Str.ofString "some"
    · rw [if_pos hz]
    · rw [if_neg hz]; exact hr y hy hz
theorem join_wait {s2 s3 s4 : Stmt} {rest : List Stmt} {Q : Flow → Shared → Prop} {m₀ : PySem.Str → Option Value} {news : List (Addr × Obj)} {p q : Addr × Obj} {c : Nat} {oc : Obj} {own peer : Int} {to tp : Tok} (F : Fr h₀ env.locals s.heap m₀) (N : News h₀ env.locals s.heap news) (hp : p ∈ news) (hq : q ∈ news) (hr : (c + 1, oc) ∈ news)
    (ho : m₀ (PySem.Str.ofString "own") = some (.int own to)) (hpe : m₀ (PySem.Str.ofString "peer") = some (.int peer tp))
    (tail : ∀ wv u h' tk', WaitIs own peer wv → Fr h₀ env.locals h' (waitMap wv u m₀) → News h₀ env.locals h' [p, q, (c + 1, oc)] → wpAny (model prog w) A (execs rest env) Q E { s with heap := h', toks := tk' })
    (head : (∀ wv u h' tk', WaitIs own peer wv → Fr h₀ env.locals h' (waitMap wv u m₀) → News h₀ env.locals h' [p, q, (c + 1, oc)] → wpAny (model prog w) A (execs rest env) Q E { s with heap := h', toks := tk' }) →
      wpAny (model prog w) A (execs (s2 :: s3 :: s4 :: rest) env) Q E s) :
    wpAny (model prog w) A (execs (s2 :: s3 :: s4 :: rest) env) Q E s := head tail
def loopMap (since : Int) (ts : Tok) (asked : Bool) (u m₀ : PySem.Str → Option Value) : PySem.Str → Option Value := fun y => if y = PySem.Str.ofString "since" then some (.int since ts) else if y = PySem.Str.ofString "is_asked" then some (.bool asked) else if y = PySem.Str.ofString "time" then u y else if y = PySem.Str.ofString "word" then u y else m₀ y
theorem loop_map {since : Int} {ts : Tok} {asked : Bool} {m' m₀ : PySem.Str → Option Value} (h1 : m' (PySem.Str.ofString "since") = some (.int since ts)) (h2 : m' (PySem.Str.ofString "is_asked") = some (.bool asked))
    (hr : ∀ z, z ≠ PySem.Str.ofString "since" → z ≠ PySem.Str.ofString "is_asked" → z ≠ PySem.Str.ofString "time" → z ≠ PySem.Str.ofString "word" → m' z = m₀ z) : m' = loopMap since ts asked m' m₀ := by
  funext y
  unfold loopMap
  by_cases hy : y = PySem.Str.ofString "since"
  · rw [if_pos hy, hy]; exact h1
  · rw [if_neg hy]
    by_cases hz : y = PySem.Str.ofString "is_asked"
    · rw [if_pos hz, hz]; exact h2
    · rw [if_neg hz]
      by_cases ha : y = PySem.Str.ofString "time"
      · rw [if_pos ha]
      · rw [if_neg ha]
        by_cases hb : y = PySem.Str.ofString "word"
        · rw [if_pos hb]
        · rw [if_neg hb]; exact hr y hy hz ha hb
def LoopEnd (h₀ : Heap) (L : Addr) (m₀ : PySem.Str → Option Value) (p q : Addr × Obj) (c : Nat) (oc : Obj) (C D : Addr) (w : World) (k1 k2 k3 k4 : Tok) (own : Int) (to : Tok) (peer : Int) (tp : Tok) (s : Shared) (f : Flow) (s' : Shared) : Prop :=
  f = .next ∧ ∃ (since : Int) (ts ts' : Tok) (asked : Bool) (u : PySem.Str → Option Value) (h' : Heap) (tk' : Nat), s' = { s with heap := h', toks := tk' } ∧ 100 ≤ since ∧ since ≤ 111 ∧ Fr h₀ L h' (loopMap since ts asked u m₀) ∧ News h₀ L h' [p, q, (c + 1, oc), (C, instObj 183 D), (D, iD w k1 k2 k3 k4 own to peer tp since ts' asked)]
theorem loop_end {L : Addr} {m₀ m' : PySem.Str → Option Value} {p q : Addr × Obj} {c : Nat} {oc : Obj} {C D : Addr} {k1 k2 k3 k4 : Tok} {own : Int} {to : Tok} {peer : Int} {tp : Tok} {since : Int} {ts ts' : Tok} {asked : Bool} {h' : Heap} {tk' : Nat} {s s' : Shared} {news : List (Addr × Obj)}
    (F : Fr h₀ L h' m') (N : News h₀ L h' news) (hp : p ∈ news) (hq : q ∈ news) (hr' : (c + 1, oc) ∈ news) (hc : (C, instObj 183 D) ∈ news) (hd : (D, iD w k1 k2 k3 k4 own to peer tp since ts' asked) ∈ news) (e : s' = { s with heap := h', toks := tk' }) (e1 : 100 ≤ since) (e2 : since ≤ 111)
    (h1 : m' (PySem.Str.ofString "since") = some (.int since ts)) (h2 : m' (PySem.Str.ofString "is_asked") = some (.bool asked))
    (hr : ∀ z, z ≠ PySem.Str.ofString "since" → z ≠ PySem.Str.ofString "is_asked" → z ≠ PySem.Str.ofString "time" → z ≠ PySem.Str.ofString "word" → m' z = m₀ z) :
    LoopEnd h₀ L m₀ p q c oc C D w k1 k2 k3 k4 own to peer tp s .next s' :=
  ⟨rfl, since, ts, ts', asked, m', h', tk', e, e1, e2, frame_to F (loop_map h1 h2 hr), news5 N hp hq hr' hc hd⟩
theorem join_loop {st : Stmt} {Q : Flow → Shared → Prop} {m₀ : PySem.Str → Option Value} {news : List (Addr × Obj)} {p q : Addr × Obj} {c : Nat} {oc : Obj} {C D : Addr} {k1 k2 k3 k4 : Tok} {own : Int} {to : Tok} {peer : Int} {tp ts₀ : Tok}
    (N : News h₀ env.locals s.heap news) (F : Fr h₀ env.locals s.heap m₀) (hp : p ∈ news) (hq : q ∈ news) (hr' : (c + 1, oc) ∈ news) (hc : (C, instObj 183 D) ∈ news) (hd : (D, iD w k1 k2 k3 k4 own to peer tp 100 ts₀ false) ∈ news)
    (loop : News h₀ env.locals s.heap [p, q, (c + 1, oc), (C, instObj 183 D), (D, iD w k1 k2 k3 k4 own to peer tp 100 ts₀ false)] → wpAny (model prog w) A (exec st env) (LoopEnd h₀ env.locals m₀ p q c oc C D w k1 k2 k3 k4 own to peer tp s) E s)
    (after : ∀ (since : Int) (ts ts' : Tok) (asked : Bool) (u : PySem.Str → Option Value) (h' : Heap) (tk' : Nat), AskedIs asked → 100 ≤ since → since ≤ 111 → Fr h₀ env.locals h' (loopMap since ts asked u m₀) → News h₀ env.locals h' [p, q, (c + 1, oc), (C, instObj 183 D), (D, iD w k1 k2 k3 k4 own to peer tp since ts' asked)] → Q .next { s with heap := h', toks := tk' }) :
    wpAny (model prog w) A (exec st env) Q E s := by
  refine wpAny_mono (loop (news5 N hp hq hr' hc hd)) (fun f s' h => ?_) fun _ _ e => e
  obtain ⟨rfl, since, ts, ts', asked, u, h', tk', rfl, e1, e2, F', N'⟩ := h
  exact after since ts ts' asked u h' tk' (asked_is asked) e1 e2 F' N'
end
end
section
section
local macro_rules | `(tactic| k_ne) => `(tactic| (refine neN ?_; (try dsimp only); first | assumption | exact Ne.symm (by assumption) | omega))
theorem idle_right_spec
    {prog : Program} {w : World} {p : Program} {loose : List PySem.Str} {mean : ExcName → Option Value} {mg mb : PySem.Str → Option Value}
    {dp un : Nat} {gd : Option (List Code)} {cn : PySem.Str} {nms : List (PySem.Str × NameKind)} {ig ic : Bool} {mr : List (PySem.Str × Const)} {a : Addr} {ccd : Value} {cl : List (PySem.Str × Addr)} {outer : List Env} {A₀ : Around} {base h₀ : Heap} {L : Addr} {m : PySem.Str → Option Value} {s : Shared} {Q E : Value → Shared → Prop}
    {P I : Addr} {k : Int} {tk : Tok} {vs : List Value} {ns : List Int} {n1 n2 : Nat}
    (B : Below A₀ base outer h₀) (F : Fr h₀ L s.heap m) (X : (Mine.K w.params).In h₀)
    (N : News h₀ L s.heap ((P, listOf #[.ref I, .int k tk] n1) :: (I, listOf vs.toArray n2) :: [])) (T : Top p loose mean mg mb h₀)
    (hI : IntsAre vs ns) (hl : ns.length ≤ 63) (hPI : @Ne Nat P I) (hk0 : 0 ≤ k) (hk1 : k < 500)
    (hdp : dp + 50 < recursionLimit) (hu : un + 180 < cLine)
    (hret : ∀ (k' : Int) (tk₂ : Tok) (h' : Heap) (tk' : Nat), k ≤ k' → k' ≤ k + 100 → Fr h₀ L h' m → News h₀ L h' ((P, listOf #[.ref I, .int k' tk₂] n1) :: (I, listOf vs.toArray n2) :: []) → Q (.bool true) { s with heap := h', toks := tk' }) :
    wpAny (model prog w) (ktrTop dp un gd cn { kind := .function, names := nms, isGenerator := ig, isCoroutine := ic, more := mr } L a ccd cl outer) (call (.ref 259) [.ref P]) Q E s := by
  k_with_none
  k_with "call ref" => (k_here; (with_reducible show wpAny _ _ (call (Value.ref 194) [Value.ref _, Value.int _ _]) _ _ _); k_dflt (
    refine' draw_spec ?k1 ?k2 ?k3 ?k4 ?k5 ?k6 ?k7 ?k8 ?k9 ?k10 ?k11 ?k12 ?k13 ?k14 ?k15 ?k16 ?k17 ?_
    (case k1 => k_asm)
    (case k2 => k_asm)
    (case k3 => k_asm)
    (case k4 => k_asm)
    (case k5 => k_updF)
    (case k6 => k_mem)
    (case k7 => k_asm)
    (case k8 => first | exact rfl | assumption)
    (case k9 => assumption)
    (case k10 => assumption)
    (case k11 => k_ne)
    (case k12 => omega)
    (case k13 => omega)
    (case k14 => omega)
    (case k15 => omega)
    (case k16 => ktr_room)
    (case k17 => ktr_units)
    intro v9 t9 tk9 h9 tk9' hv9 hw9 F9 N9
    (try dsimp only at N9)
    (try k_sweep); (try k_fold)))
  k_with "call ref" => (k_here; (with_reducible show wpAny _ _ (call (Value.ref 124) [Value.int _ _, Value.int _ _, Value.int _ _]) _ _ _); k_dflt (
    refine' iw_core ?k1 ?k2 ?k3 ?k4 ?k5 ?k6 ?k7 ?_ ?_
    (case k1 => k_asm)
    (case k2 => k_asm)
    (case k3 => k_asm)
    (case k4 => k_asm)
    (case k5 => k_asm)
    (case k6 => first | exact rfl | assumption)
    (case k7 => ktr_room)
    (intro hn9 hm9 h9 tk9 F9 N9; first | exact absurd (no_both (by assumption) (by assumption) (by assumption)) id | ((try k_sweep); (try k_fold)))
    (try (rotate_left 1))
    (intro hn9 t9 h9 tk9 F9 N9; first | exact absurd (no_both (by assumption) (by assumption) (by assumption)) id | ((try k_sweep); (try k_fold)))
    (try (rotate_right 1))))
  k_with "call ref" => (k_here; (with_reducible show wpAny _ _ (call (Value.ref 166) [Value.ref _, Value.int _ _]) _ _ _); k_dflt (
    refine' dl_spec ?k1 ?k2 ?k3 ?k4 ?k8 ?k9 ?k5 ?k6 ?k7 ?_ ?_
    (case k1 => k_asm)
    (case k2 => k_asm)
    (case k3 => k_asm)
    (case k4 => k_asm)
    (case k8 => k_mem)
    (case k9 => k_mem)
    (case k5 => k_asm)
    (case k6 => first | exact rfl | assumption)
    (case k7 => ktr_room)
    (intro hn9 hm9 h9 tk9 F9 N9; first | exact absurd (no_both (by assumption) (by assumption) (by assumption)) id | ((try k_sweep); (try k_fold)))
    (try (rotate_left 1))
    (intro hn9 t9 h9 tk9 F9 N9; first | exact absurd (no_both (by assumption) (by assumption) (by assumption)) id | ((try k_sweep); (try k_fold)))
    (try (rotate_right 1))))
  k_with "call ref" => (k_here; (with_reducible show wpAny _ _ (call (Value.ref 173) [Value.ref _, Value.int _ _, Value.int _ _]) _ _ _); k_dflt (
    refine' over_spec ?k1 ?k2 ?k3 ?k4 ?k8 ?k9 ?k5 ?k6 ?k7 ?k10 ?_
    (case k1 => k_asm)
    (case k2 => k_asm)
    (case k3 => k_asm)
    (case k4 => k_asm)
    (case k8 => k_mem)
    (case k9 => k_mem)
    (case k5 => k_asm)
    (case k6 => first | exact rfl | assumption)
    (case k7 => ktr_room)
    (case k10 => first
      | exact .inl ⟨by assumption, by assumption, rfl⟩
      | exact over_dec (by assumption))
    intro h9 tk9 F9 N9
    (try k_sweep); (try k_fold)))
  k_with "call ref" => (k_here; (with_reducible show wpAny _ _ (call (Value.ref 180) [Value.ref _, Value.int _ _, Value.int _ _, Value.int _ _]) _ _ _); k_dflt (
    refine' ping_spec ?k1 ?k2 ?k3 ?k4 ?k8 ?k9 ?k5 ?k6 ?k7 ?k10 ?_
    (case k1 => k_asm)
    (case k2 => k_asm)
    (case k3 => k_asm)
    (case k4 => k_asm)
    (case k8 => k_mem)
    (case k9 => k_mem)
    (case k5 => k_asm)
    (case k6 => first | exact rfl | assumption)
    (case k7 => ktr_room)
    (case k10 => first
      | exact ping_none (by assumption) (by assumption)
      | exact .inl ⟨rfl, rfl⟩
      | exact .inr ⟨rfl, over_dec (by assumption)⟩)
    intro h9 tk9 F9 N9
    (try k_sweep); (try k_fold)))
  k_with "call ref" => (k_here; (with_reducible show wpAny _ _ (call (Value.ref 180) [Value.ref _, Value.int _ _, Value.int _ _, Value.int _ _]) _ _ _); (rename AskedIs _ => hA9); (fail_if_success have := no_both (by assumption) (by assumption)); (rcases hA9 with eA9 | eA9); (subst eA9; (try k_fold)); (rotate_left 1); (subst eA9; (try k_fold)); (rotate_right 1))
  k_with "CompSrc" => (k_here; k_dflt ((refine LCg.CompSrc.range (by rfl) (by k_asm) (by k_asm) (by assumption) (by first | decide | rfl) (by first | rfl | decide) (by first | size_fits | exact Nat.le_of_ble_eq_true rfl) ?_; intro g'; lcg_lit)))
  k_with "exec Assign cons ListComp" => (k_here; k_dflt (refine AssignFilter (F₀ := by k_asm) (by rfl) (by with_unfolding_all rfl) (by with_unfolding_all rfl) (by decide) (by rfl) (by decide) (by rfl) (by rfl) (by rfl) (by intro _; rfl) (by intro _; rfl) (by decide) ?_))
  k_with "FSrc" => (k_here; k_dflt (refine fsrc_two (by rfl) (by k_asm) (by k_asm) (by k_mem) ?_ ?_))
  k_with "compareOp Eq ref ref" => (k_here; (with_reducible show wpAny _ _ (compareOp CmpOp.Eq (Value.ref _) (Value.ref _)) _ _ _); k_dflt (refine eq_pos_nil (by is_list) (by assumption) (by assumption) (by is_list) (by ktr_units) ?_))
  k_with "call builtin:min" => (k_here; (with_reducible show wpAny _ _ (call (Value.builtin _) [Value.ref _]) _ _ _); k_dflt (refine' min_pos ?k1 ?k2 ?k3 ?k4 ?k5 ?k6 ?_; (case k1 => k_asm); (case k2 => k_asm); (case k3 => is_list); (case k4 => assumption); (case k5 => assumption); (case k6 => rfl); intro h9 t9 tk9 F9 N9; (try k_sweep); (try k_fold)))
  k_with "call builtin:max" => (k_here; (with_reducible show wpAny _ _ (call (Value.builtin _) [Value.int 30 _, Value.int (minZ _ _) _]) _ _ _); k_dflt (refine' max_wait ?k1 ?k2 ?k3 ?_; (case k1 => rfl); (case k2 => k_asm); (case k3 => k_asm); intro h9 t9 tk9 F9 N9; (try k_sweep); (try k_fold)))
  k_with "CompRest" => (with_unfolding_all (refine LCg.CompRest.succ ?_; intro v' I' oI' C' oC' D' m' h' tk' E' hv' hC' hx' F' N' off' ne'; (first | lcg_open hv' | (obtain ⟨t9', hv9'⟩ := hv'; subst hv9')); (try simp only [LCg.Off3, and_true] at off'); (repeat (obtain ⟨⟨_, _, _⟩, off'⟩ := off')); (try (obtain ⟨_, _, _⟩ := off')); (obtain ⟨_, _, _⟩ := ne')))
  k_with "FinE" => ((unfold LCg.FinE); intro D' h' tk' F' N' o1'; (try simp only [LCg.Off1, and_true] at o1'); (try simp only [List.nil_append, List.cons_append] at N'); (repeat (obtain ⟨_, o1'⟩ := o1')); (try dsimp only))
  k_with "FinA" => ((unfold LCg.FinA); intro D' h' tk' F' N' o1'; (try simp only [LCg.Off1, and_true] at o1'); (try simp only [List.nil_append, List.cons_append] at N'); (repeat (obtain ⟨_, o1'⟩ := o1')); (try dsimp only))
  k_with "compareOp NotEq int int" => (with_reducible refine ne_int_same ?_)
  k_with "compareOp NotEq bool bool" => (k_here; k_dflt (refine ne_bool_same (by first | rfl | exact decide_eq_decide.mpr (by omega)) ?_))
  k_with "compareOp Eq int int" => (k_dflt (first | (refine eq_int_diff (by decide) ?_) | (refine eq_int_yes (by decide) ?_)))
  k_with "compareOp Lt int int" => (k_dflt (first | (refine lt_int_yes (by decide) ?_) | (refine lt_int_no (by decide) ?_)))
  k_with "exec For Name Tuple cons nil" => (k_here; (with_reducible show wpAny _ _ (exec (PySem.Stmt.For (PySem.Expr.Name (Str.ofString "spot") _) _ _ _ _) _) _ _ _); (rename Fr _ _ _ _ => lF'); (with_unfolding_all refine' For_invVF lF' ?k1 ?k2 ?_; (case k1 => exact rfl); (case k2 => exact rfl); k_whole))
  k_with "pyIter ref" => (k_dflt (
    (rename Fr _ _ _ _ => lF'); (rename News _ _ _ _ => lN');
    (with_unfolding_all refine' tup_loop (lo := -1) (hi := 1) [Str.ofString "now"] (by rfl) lF' lN' ?hT ?ha ?hb ?hc ?_ ?_)
    (case hT => k_all)
    (case ha => decide)
    (case hb => decide)
    (case hc => decide)
    clear lF' lN'; intro v8 t8 u8 h8 tk8 own8 hlo8 hhi8 F8 N8; (try simp only [List.cons_append, List.nil_append] at N8); (try k_sweep); (try k_fold)
    rotate_left 1
    clear lF' lN'; intro u8 h8 tk8 F8 N8; (try k_sweep); (try k_fold)
    rotate_right 1))
  k_with "InvEndN" => (k_dflt (
    refine' tup_end ?e1 ?e2 ?e3 ?e4 ?e5
    (case e1 => k_asm)
    (case e2 => k_asm)
    (case e3 => (first | kst_in | kst_inAny | (intro p hp; kst_mem) | kst_anyIn))
    (case e4 => (intro p hp; (repeat (first | exact hp | refine List.mem_cons_of_mem _ ?_))))
    (case e5 => (intro z hz hs; (have hs7 := not_in1 hs); first | rfl | (simp only [hz, hs7, hs, if_false, Bool.false_eq_true, reduceIte]; done)))))
  k_with "subscriptTail List cons Call ref int" => (k_here; (with_reducible show wpAny _ _ (subscriptTail (PySem.Expr.List _ _ _) _ (Value.ref _) (Value.int _ _)) _ _ _); k_dflt (refine' int_item5 (n := 5) (lo := 0) (hi := 60) ?k1 ?k2 ?k3 ?k4 ?k5 ?_; (case k1 => is_list); (case k2 => exact five_ints (by decide) (by decide) (by decide) (by decide) (by decide)); (case k3 => assumption); (case k4 => omega); (case k5 => decide); k_whole; intro x9 t9 hx9 hy9))
  k_with "execs cons Assign cons" => (k_here; (with_reducible show wpAny _ _ (execs (PySem.Stmt.Assign [PySem.Expr.Name (Str.ofString "some") _] _ _ :: _) _) _ _ _); (rename Fr _ _ _ _ => jF); (rename News _ _ _ _ => jN); k_dflt (
    refine' join_wait (p := (P, listOf #[.ref I, .int _ _] n1)) (q := (I, listOf vs.toArray n2)) jF jN ?k1 ?k2 ?k0 ?k3 ?k4 ?_ ?_
    (case k1 => k_mem)
    (case k2 => k_mem)
    (case k0 => k_mem)
    (case k3 => (repeat (first | exact if_pos rfl | refine (if_neg (by decide)).trans ?_)))
    (case k4 => (repeat (first | exact if_pos rfl | refine (if_neg (by decide)).trans ?_)))
    (clear jF jN; intro wv9 u9 h9 tk9 W9 F9 N9; (try unfold waitMap at F9); (try k_sweep); (try k_fold))
    (rotate_left 1)
    (intro hT9; refine wpAny_execs_cons ?_)
    (rotate_right 1)))
  k_with "execs cons Assign cons" => (k_here; (with_reducible show wpAny _ _ (execs (PySem.Stmt.Assign [PySem.Expr.Tuple (PySem.Expr.Name (Str.ofString "idle") _ :: _) _ _] _ _ :: _) _) _ _ _); (rename Fr _ _ _ _ => jF); (rename News _ _ _ _ => jN); k_dflt (
    refine' hT9 _ _ _ _ ?k1 ?kF ?kN
    (case kF => (refine' frame_to jF (wait_map ?k2 ?k3); (case k2 => (repeat (first | exact if_pos rfl | refine (if_neg (by decide)).trans ?_))); (case k3 => (intro z hz1 hz2; first | rfl | (simp only [hz1, hz2, if_false, reduceIte]; done)))))
    (case kN => exact news3 jN (by k_mem) (by k_mem) (by k_mem))
    (case k1 => first | exact .inl ⟨by assumption, by assumption, rfl⟩ | exact .inr ⟨by assumption, _, rfl⟩)))
  k_with "exec For Tuple List cons nil" => (k_here; (fail_if_success (with_reducible show wpAny _ _ _ (LoopEnd _ _ _ _ _ _ _ _ _ _ _ _ _ _ _ _ _ _ _) _ _)); (rename Fr _ _ _ _ => jF); (rename News _ _ _ _ => jN); k_dflt (
    refine' join_loop (p := (P, listOf #[.ref I, .int _ _] n1)) (q := (I, listOf vs.toArray n2)) jN jF ?k1 ?k2 ?k0 ?k3 ?k4 ?_ ?_
    (case k1 => k_mem)
    (case k2 => k_mem)
    (case k0 => k_mem)
    (case k3 => k_mem)
    (case k4 => k_mem)
    (rotate_left 1)
    (clear jF jN; intro since9 ts9 ts9' asked9 u9 h9 tk9 hA9 hs91 hs92 F9 N9; (try unfold loopMap at F9); (try k_sweep); (try k_fold))
    (rotate_right 1)
    (intro N9; clear jN; rcases four_ways (by assumption) (by assumption) with e9 | e9 | e9 | e9 <;> (subst e9; (try k_fold)))))
  k_with "LoopEnd" => ((rename Fr _ _ _ _ => jF); (rename News _ _ _ _ => jN); k_dflt (
    refine' loop_end jF jN ?k1 ?k2 ?k0 ?k3 ?k4 ?k5 ?k6 ?k7 ?k8 ?k9 ?k10
    (case k1 => k_mem)
    (case k2 => k_mem)
    (case k0 => k_mem)
    (case k3 => k_mem)
    (case k4 => k_mem)
    (case k5 => exact rfl)
    (case k8 => (repeat (first | exact if_pos rfl | refine (if_neg (by decide)).trans ?_)))
    (case k9 => (repeat (first | exact if_pos rfl | refine (if_neg (by decide)).trans ?_)))
    (case k6 => decide)
    (case k7 => decide)
    (case k10 => (intro z hz1 hz2 hz3 hz4; first | rfl | (simp only [hz1, hz2, hz3, hz4, if_false, reduceIte]; done)))))
  k_with "execs cons If cons" => (k_here; (with_reducible show wpAny _ _ (execs (PySem.Stmt.If (PySem.Expr.Compare (PySem.Expr.Call (PySem.Expr.Attribute (PySem.Expr.Name (Str.ofString "idle") _) (Str.ofString "deadline") _) _ _ _) _ _ _) _ _ _ :: _) _) _ _ _); (rename WaitIs _ _ _ => hW9); (rcases hW9 with ⟨ha9, hb9, e9⟩ | ⟨ho9, tw9, e9⟩); (subst e9; (try k_fold)); (rotate_left 1); (subst e9; (try k_fold)); (rotate_right 1))
  refine wpAny_call ?_
  k_dflt (first | cell_enter | k_enter)
  k_steps
  all_goals (try w_report)
  all_goals (
    refine' hret _ _ _ _ ?e1 ?e2 ?e3 ?e4
    (case e3 => k_asm)
    (case e4 => exact ir_news (by assumption) (by k_mem) (by k_mem))
    (case e1 => omega)
    (case e2 => omega))
end
end
section
section
theorem law_holds : PySem.Challenge.rw_pf0255_01.Holds := by
  k_with_none
  k_with "call ref" => (k_here; (with_reducible show wpAny _ _ (call (Value.ref 240) [Value.ref _]) _ _ _); k_dflt (
    refine' end_right_spec ?k1 ?k2 ?k3 ?k4 ?k5 ?k6 ?k7 ?k8 ?k9 ?k10 ?k11 ?k12 ?k13 ?_
    (case k1 => k_asm)
    (case k2 => k_asm)
    (case k3 => k_asm)
    (case k4 => exact ir_news (by k_asm) (by k_mem) (by k_mem))
    (case k5 => k_asm)
    (case k6 => first | exact rfl | assumption)
    (case k7 => assumption)
    (case k8 => first | omega | (simp only [List.length_map, List.length_take]; omega))
    (case k9 => k_ne)
    (case k10 => omega)
    (case k11 => omega)
    (case k12 => ktr_room)
    (case k13 => ktr_units)
    intro k9 t9 h9 tk9 hk9 hm9 F9 N9
    (try k_sweep); (try k_fold)))
  k_with "call ref" => (k_here; (with_reducible show wpAny _ _ (call (Value.ref 247) [Value.ref _]) _ _ _); k_dflt (
    refine' reset_right_spec ?k1 ?k2 ?k3 ?k4 ?k5 ?k6 ?k7 ?k8 ?k9 ?k10 ?k11 ?k12 ?k13 ?_
    (case k1 => k_asm)
    (case k2 => k_asm)
    (case k3 => k_asm)
    (case k4 => exact ir_news (by k_asm) (by k_mem) (by k_mem))
    (case k5 => k_asm)
    (case k6 => first | exact rfl | assumption)
    (case k7 => assumption)
    (case k8 => first | omega | (simp only [List.length_map, List.length_take]; omega))
    (case k9 => k_ne)
    (case k10 => omega)
    (case k11 => omega)
    (case k12 => ktr_room)
    (case k13 => ktr_units)
    intro k9 t9 h9 tk9 hk9 hm9 F9 N9
    (try k_sweep); (try k_fold)))
  k_with "call ref" => (k_here; (with_reducible show wpAny _ _ (call (Value.ref 254) [Value.ref _]) _ _ _); k_dflt (
    refine' frames_right_spec ?k1 ?k2 ?k3 ?k4 ?k5 ?k6 ?k7 ?k8 ?k9 ?k10 ?k11 ?k12 ?k13 ?_
    (case k1 => k_asm)
    (case k2 => k_asm)
    (case k3 => k_asm)
    (case k4 => exact ir_news (by k_asm) (by k_mem) (by k_mem))
    (case k5 => k_asm)
    (case k6 => first | exact rfl | assumption)
    (case k7 => assumption)
    (case k8 => first | omega | (simp only [List.length_map, List.length_take]; omega))
    (case k9 => k_ne)
    (case k10 => omega)
    (case k11 => omega)
    (case k12 => ktr_room)
    (case k13 => ktr_units)
    intro k9 t9 h9 tk9 hk9 hm9 F9 N9
    (try k_sweep); (try k_fold)))
  k_with "call ref" => (k_here; (with_reducible show wpAny _ _ (call (Value.ref 259) [Value.ref _]) _ _ _); k_dflt (
    refine' idle_right_spec ?k1 ?k2 ?k3 ?k4 ?k5 ?k6 ?k7 ?k8 ?k9 ?k10 ?k11 ?k12 ?_
    (case k1 => k_asm)
    (case k2 => k_asm)
    (case k3 => k_asm)
    (case k4 => exact ir_news (by k_asm) (by k_mem) (by k_mem))
    (case k5 => k_asm)
    (case k6 => assumption)
    (case k7 => first | omega | (simp only [List.length_map, List.length_take]; omega))
    (case k8 => k_ne)
    (case k9 => omega)
    (case k10 => omega)
    (case k11 => ktr_room)
    (case k12 => ktr_units)
    intro k9 t9 h9 tk9 hk9 hm9 F9 N9
    (try k_sweep); (try k_fold)))
  w_on
  refine holds_law said fun ok => ?_
  refine holds_open (r := PySem.Challenge.rw_pf0255_01.row) (q := view) (loose := [PySem.Str.ofString "_law_table"]) (Xt := fun s => xlAt view [] s && recOk PySem.Challenge.rw_pf0255_01.row.records s) (XP := XL view [])
    (Yf := Hook.obs H) (Ya := Hook.val H) (YP := Hook.says H) (N := 3840) left (Hook.of H) (Hook.keeps H) (fun s e => xl_of s (Bool.and_eq_true_iff.mp e).1) XL.keeps (by rfl) (by rfl) (by rfl)
    (fun s e => recFacts_of (Bool.and_eq_true_iff.mp e).2) (by rfl) ok okk ⟨rfl, rfl, rfl, rfl, rfl, by decide +kernel⟩ ?hw ?hc
  case hw => w_witness2
  case hc =>
    clear ok; delta H asK
    w_strict (k_go)
end
end
end Mine
theorem PySem.Challenge.cw_pf0255_01_holds : PySem.Challenge.rw_pf0255_01.Holds := by
  exact Mine.law_holds
