import PyProof.Rows.All
import Wide.All
import OpenK.AllK
import Wide.FinOn
import PySem.Challenge.RW_on0019_01
open PySem PySem.W PyProof.Rows
set_option Elab.async false
set_option maxRecDepth 100000
set_option maxHeartbeats 8000000
namespace Mine
abbrev pw : Program := PySem.Challenge.pw_on0019_01
noncomputable def noSt : Stmt := .Pass ⟨0, 0, 0, 0⟩
noncomputable def stAt (i : Nat) : Stmt := (pw.main.body[i]?).getD noSt
noncomputable def memAt (i j : Nat) : Stmt := match stAt i with
  | .ClassDef _ _ _ b _ _ _ _ _ _ _ => (b[j]?).getD noSt
  | s => s
noncomputable def fpar : Stmt → Arguments
  | .FunctionDef _ a _ _ _ _ _ _ _ _ => a
  | _ => ⟨[], [], none, [], [], none, []⟩
noncomputable def fbod : Stmt → List Stmt
  | .FunctionDef _ _ b _ _ _ _ _ _ _ => b
  | _ => []
noncomputable def fsco : Stmt → Scope
  | .FunctionDef _ _ _ _ _ _ s _ _ _ => s
  | _ => pw.main.scope
noncomputable def p21 : Arguments := by
  refine' (fun (k : Arguments) (_ : k = fpar (stAt 0)) => k) _ ?_
  rotate_left
  (conv => rhs; whnf)
noncomputable def b21 : List Stmt := by
  refine' (fun (k : List Stmt) (_ : k = fbod (stAt 0)) => k) _ ?_
  rotate_left
  (conv => rhs; whnf)
noncomputable def s21 : Scope := by
  refine' (fun (k : Scope) (_ : k = fsco (stAt 0)) => k) _ ?_
  rotate_left
  (conv => rhs; whnf)
noncomputable def o21 : Obj := by
  refine' (fun (k : Obj) (_ : k = ⟨(.type "function"), none, (.func ⟨"_wall", "_wall", p21, (.stmts b21), s21, 3, [], .none, .none, .none, (.str "__main__" 164), none, (.ref 20), .none, 0⟩), #[]⟩) => k) _ ?_
  rotate_left
  delta p21 b21 s21
  dsimp only
  exact rfl
noncomputable def p36 : Arguments := by
  refine' (fun (k : Arguments) (_ : k = fpar (memAt 2 0)) => k) _ ?_
  rotate_left
  (conv => rhs; whnf)
noncomputable def b36 : List Stmt := by
  refine' (fun (k : List Stmt) (_ : k = fbod (memAt 2 0)) => k) _ ?_
  rotate_left
  (conv => rhs; whnf)
noncomputable def s36 : Scope := by
  refine' (fun (k : Scope) (_ : k = fsco (memAt 2 0)) => k) _ ?_
  rotate_left
  (conv => rhs; whnf)
noncomputable def o36 : Obj := by
  refine' (fun (k : Obj) (_ : k = ⟨(.type "function"), none, (.func ⟨"__init__", "ChanError.__init__", p36, (.stmts b36), s36, 3, [], (.ref 29), .none, .none, (.str "chancore.errors" 194), none, (.ref 35), .none, 0⟩), #[]⟩) => k) _ ?_
  rotate_left
  delta p36 b36 s36
  dsimp only
  exact rfl
noncomputable def p80 : Arguments := by
  refine' (fun (k : Arguments) (_ : k = fpar (memAt 6 0)) => k) _ ?_
  rotate_left
  (conv => rhs; whnf)
noncomputable def b80 : List Stmt := by
  refine' (fun (k : List Stmt) (_ : k = fbod (memAt 6 0)) => k) _ ?_
  rotate_left
  (conv => rhs; whnf)
noncomputable def s80 : Scope := by
  refine' (fun (k : Scope) (_ : k = fsco (memAt 6 0)) => k) _ ?_
  rotate_left
  (conv => rhs; whnf)
noncomputable def o80 : Obj := by
  refine' (fun (k : Obj) (_ : k = ⟨(.type "function"), none, (.func ⟨"__init__", "Reached.__init__", p80, (.stmts b80), s80, 3, [], .none, .none, .none, (.str "chancore.lookup" 260), none, (.ref 79), .none, 0⟩), #[]⟩) => k) _ ?_
  rotate_left
  delta p80 b80 s80
  dsimp only
  exact rfl
noncomputable def p94 : Arguments := by
  refine' (fun (k : Arguments) (_ : k = fpar (stAt 7)) => k) _ ?_
  rotate_left
  (conv => rhs; whnf)
noncomputable def b94 : List Stmt := by
  refine' (fun (k : List Stmt) (_ : k = fbod (stAt 7)) => k) _ ?_
  rotate_left
  (conv => rhs; whnf)
noncomputable def s94 : Scope := by
  refine' (fun (k : Scope) (_ : k = fsco (stAt 7)) => k) _ ?_
  rotate_left
  (conv => rhs; whnf)
noncomputable def o94 : Obj := by
  refine' (fun (k : Obj) (_ : k = ⟨(.type "function"), none, (.func ⟨"without_pointer", "without_pointer", p94, (.stmts b94), s94, 3, [], .none, .none, .none, (.str "chancore.lookup" 260), none, (.ref 93), .none, 0⟩), #[]⟩) => k) _ ?_
  rotate_left
  delta p94 b94 s94
  dsimp only
  exact rfl
noncomputable def p101 : Arguments := by
  refine' (fun (k : Arguments) (_ : k = fpar (stAt 8)) => k) _ ?_
  rotate_left
  (conv => rhs; whnf)
noncomputable def b101 : List Stmt := by
  refine' (fun (k : List Stmt) (_ : k = fbod (stAt 8)) => k) _ ?_
  rotate_left
  (conv => rhs; whnf)
noncomputable def s101 : Scope := by
  refine' (fun (k : Scope) (_ : k = fsco (stAt 8)) => k) _ ?_
  rotate_left
  (conv => rhs; whnf)
noncomputable def o101 : Obj := by
  refine' (fun (k : Obj) (_ : k = ⟨(.type "function"), none, (.func ⟨"own_methods", "own_methods", p101, (.stmts b101), s101, 3, [], .none, .none, .none, (.str "chancore.lookup" 260), none, (.ref 100), .none, 0⟩), #[]⟩) => k) _ ?_
  rotate_left
  delta p101 b101 s101
  dsimp only
  exact rfl
noncomputable def p106 : Arguments := by
  refine' (fun (k : Arguments) (_ : k = fpar (stAt 9)) => k) _ ?_
  rotate_left
  (conv => rhs; whnf)
noncomputable def b106 : List Stmt := by
  refine' (fun (k : List Stmt) (_ : k = fbod (stAt 9)) => k) _ ?_
  rotate_left
  (conv => rhs; whnf)
noncomputable def s106 : Scope := by
  refine' (fun (k : Scope) (_ : k = fsco (stAt 9)) => k) _ ?_
  rotate_left
  (conv => rhs; whnf)
noncomputable def o106 : Obj := by
  refine' (fun (k : Obj) (_ : k = ⟨(.type "function"), none, (.func ⟨"members_at", "members_at", p106, (.stmts b106), s106, 3, [], .none, .none, .none, (.str "chancore.lookup" 260), none, (.ref 105), .none, 0⟩), #[]⟩) => k) _ ?_
  rotate_left
  delta p106 b106 s106
  dsimp only
  exact rfl
noncomputable def p113 : Arguments := by
  refine' (fun (k : Arguments) (_ : k = fpar (stAt 10)) => k) _ ?_
  rotate_left
  (conv => rhs; whnf)
noncomputable def b113 : List Stmt := by
  refine' (fun (k : List Stmt) (_ : k = fbod (stAt 10)) => k) _ ?_
  rotate_left
  (conv => rhs; whnf)
noncomputable def s113 : Scope := by
  refine' (fun (k : Scope) (_ : k = fsco (stAt 10)) => k) _ ?_
  rotate_left
  (conv => rhs; whnf)
noncomputable def o113 : Obj := by
  refine' (fun (k : Obj) (_ : k = ⟨(.type "function"), none, (.func ⟨"embedded_in", "embedded_in", p113, (.stmts b113), s113, 3, [], .none, .none, .none, (.str "chancore.lookup" 260), none, (.ref 112), .none, 0⟩), #[]⟩) => k) _ ?_
  rotate_left
  delta p113 b113 s113
  dsimp only
  exact rfl
noncomputable def p127 : Arguments := by
  refine' (fun (k : Arguments) (_ : k = fpar (memAt 11 0)) => k) _ ?_
  rotate_left
  (conv => rhs; whnf)
noncomputable def b127 : List Stmt := by
  refine' (fun (k : List Stmt) (_ : k = fbod (memAt 11 0)) => k) _ ?_
  rotate_left
  (conv => rhs; whnf)
noncomputable def s127 : Scope := by
  refine' (fun (k : Scope) (_ : k = fsco (memAt 11 0)) => k) _ ?_
  rotate_left
  (conv => rhs; whnf)
noncomputable def o127 : Obj := by
  refine' (fun (k : Obj) (_ : k = ⟨(.type "function"), none, (.func ⟨"__init__", "Levels.__init__", p127, (.stmts b127), s127, 3, [], .none, .none, .none, (.str "chancore.lookup" 260), none, (.ref 126), .none, 0⟩), #[]⟩) => k) _ ?_
  rotate_left
  delta p127 b127 s127
  dsimp only
  exact rfl
noncomputable def p134 : Arguments := by
  refine' (fun (k : Arguments) (_ : k = fpar (memAt 11 1)) => k) _ ?_
  rotate_left
  (conv => rhs; whnf)
noncomputable def b134 : List Stmt := by
  refine' (fun (k : List Stmt) (_ : k = fbod (memAt 11 1)) => k) _ ?_
  rotate_left
  (conv => rhs; whnf)
noncomputable def s134 : Scope := by
  refine' (fun (k : Scope) (_ : k = fsco (memAt 11 1)) => k) _ ?_
  rotate_left
  (conv => rhs; whnf)
noncomputable def o134 : Obj := by
  refine' (fun (k : Obj) (_ : k = ⟨(.type "function"), none, (.func ⟨"go_on", "Levels.go_on", p134, (.stmts b134), s134, 3, [], .none, .none, .none, (.str "chancore.lookup" 260), none, (.ref 133), .none, 0⟩), #[]⟩) => k) _ ?_
  rotate_left
  delta p134 b134 s134
  dsimp only
  exact rfl
noncomputable def p148 : Arguments := by
  refine' (fun (k : Arguments) (_ : k = fpar (stAt 12)) => k) _ ?_
  rotate_left
  (conv => rhs; whnf)
noncomputable def b148 : List Stmt := by
  refine' (fun (k : List Stmt) (_ : k = fbod (stAt 12)) => k) _ ?_
  rotate_left
  (conv => rhs; whnf)
noncomputable def s148 : Scope := by
  refine' (fun (k : Scope) (_ : k = fsco (stAt 12)) => k) _ ?_
  rotate_left
  (conv => rhs; whnf)
noncomputable def o148 : Obj := by
  refine' (fun (k : Obj) (_ : k = ⟨(.type "function"), none, (.func ⟨"start_type", "start_type", p148, (.stmts b148), s148, 3, [], .none, .none, .none, (.str "chancore.lookup" 260), none, (.ref 147), .none, 0⟩), #[]⟩) => k) _ ?_
  rotate_left
  delta p148 b148 s148
  dsimp only
  exact rfl
noncomputable def p155 : Arguments := by
  refine' (fun (k : Arguments) (_ : k = fpar (stAt 13)) => k) _ ?_
  rotate_left
  (conv => rhs; whnf)
noncomputable def b155 : List Stmt := by
  refine' (fun (k : List Stmt) (_ : k = fbod (stAt 13)) => k) _ ?_
  rotate_left
  (conv => rhs; whnf)
noncomputable def s155 : Scope := by
  refine' (fun (k : Scope) (_ : k = fsco (stAt 13)) => k) _ ?_
  rotate_left
  (conv => rhs; whnf)
noncomputable def o155 : Obj := by
  refine' (fun (k : Obj) (_ : k = ⟨(.type "function"), none, (.func ⟨"find_member", "find_member", p155, (.stmts b155), s155, 3, [], .none, .none, .none, (.str "chancore.lookup" 260), none, (.ref 154), .none, 0⟩), #[]⟩) => k) _ ?_
  rotate_left
  delta p155 b155 s155
  dsimp only
  exact rfl
noncomputable def p162 : Arguments := by
  refine' (fun (k : Arguments) (_ : k = fpar (stAt 15)) => k) _ ?_
  rotate_left
  (conv => rhs; whnf)
noncomputable def b162 : List Stmt := by
  refine' (fun (k : List Stmt) (_ : k = fbod (stAt 15)) => k) _ ?_
  rotate_left
  (conv => rhs; whnf)
noncomputable def s162 : Scope := by
  refine' (fun (k : Scope) (_ : k = fsco (stAt 15)) => k) _ ?_
  rotate_left
  (conv => rhs; whnf)
noncomputable def o162 : Obj := by
  refine' (fun (k : Obj) (_ : k = ⟨(.type "function"), none, (.func ⟨"names_of_methods", "names_of_methods", p162, (.stmts b162), s162, 3, [], .none, .none, .none, (.str "chancore.method_sets" 392), none, (.ref 161), .none, 0⟩), #[]⟩) => k) _ ?_
  rotate_left
  delta p162 b162 s162
  dsimp only
  exact rfl
noncomputable def p169 : Arguments := by
  refine' (fun (k : Arguments) (_ : k = fpar (stAt 16)) => k) _ ?_
  rotate_left
  (conv => rhs; whnf)
noncomputable def b169 : List Stmt := by
  refine' (fun (k : List Stmt) (_ : k = fbod (stAt 16)) => k) _ ?_
  rotate_left
  (conv => rhs; whnf)
noncomputable def s169 : Scope := by
  refine' (fun (k : Scope) (_ : k = fsco (stAt 16)) => k) _ ?_
  rotate_left
  (conv => rhs; whnf)
noncomputable def o169 : Obj := by
  refine' (fun (k : Obj) (_ : k = ⟨(.type "function"), none, (.func ⟨"member_or_none", "member_or_none", p169, (.stmts b169), s169, 3, [], .none, .none, .none, (.str "chancore.method_sets" 392), none, (.ref 168), .none, 0⟩), #[]⟩) => k) _ ?_
  rotate_left
  delta p169 b169 s169
  dsimp only
  exact rfl
noncomputable def p174 : Arguments := by
  refine' (fun (k : Arguments) (_ : k = fpar (stAt 17)) => k) _ ?_
  rotate_left
  (conv => rhs; whnf)
noncomputable def b174 : List Stmt := by
  refine' (fun (k : List Stmt) (_ : k = fbod (stAt 17)) => k) _ ?_
  rotate_left
  (conv => rhs; whnf)
noncomputable def s174 : Scope := by
  refine' (fun (k : Scope) (_ : k = fsco (stAt 17)) => k) _ ?_
  rotate_left
  (conv => rhs; whnf)
noncomputable def o174 : Obj := by
  refine' (fun (k : Obj) (_ : k = ⟨(.type "function"), none, (.func ⟨"is_in_set", "is_in_set", p174, (.stmts b174), s174, 3, [], .none, .none, .none, (.str "chancore.method_sets" 392), none, (.ref 173), .none, 0⟩), #[]⟩) => k) _ ?_
  rotate_left
  delta p174 b174 s174
  dsimp only
  exact rfl
noncomputable def p181 : Arguments := by
  refine' (fun (k : Arguments) (_ : k = fpar (stAt 18)) => k) _ ?_
  rotate_left
  (conv => rhs; whnf)
noncomputable def b181 : List Stmt := by
  refine' (fun (k : List Stmt) (_ : k = fbod (stAt 18)) => k) _ ?_
  rotate_left
  (conv => rhs; whnf)
noncomputable def s181 : Scope := by
  refine' (fun (k : Scope) (_ : k = fsco (stAt 18)) => k) _ ?_
  rotate_left
  (conv => rhs; whnf)
noncomputable def o181 : Obj := by
  refine' (fun (k : Obj) (_ : k = ⟨(.type "function"), none, (.func ⟨"method_set", "method_set", p181, (.stmts b181), s181, 3, [], .none, .none, .none, (.str "chancore.method_sets" 392), none, (.ref 180), .none, 0⟩), #[]⟩) => k) _ ?_
  rotate_left
  delta p181 b181 s181
  dsimp only
  exact rfl
noncomputable def p198 : Arguments := by
  refine' (fun (k : Arguments) (_ : k = fpar (memAt 21 0)) => k) _ ?_
  rotate_left
  (conv => rhs; whnf)
noncomputable def b198 : List Stmt := by
  refine' (fun (k : List Stmt) (_ : k = fbod (memAt 21 0)) => k) _ ?_
  rotate_left
  (conv => rhs; whnf)
noncomputable def s198 : Scope := by
  refine' (fun (k : Scope) (_ : k = fsco (memAt 21 0)) => k) _ ?_
  rotate_left
  (conv => rhs; whnf)
noncomputable def o198 : Obj := by
  refine' (fun (k : Obj) (_ : k = ⟨(.type "function"), none, (.func ⟨"__init__", "NamedRow.__init__", p198, (.stmts b198), s198, 3, [], .none, .none, .none, (.str "chancore.world" 436), none, (.ref 197), .none, 0⟩), #[]⟩) => k) _ ?_
  rotate_left
  delta p198 b198 s198
  dsimp only
  exact rfl
noncomputable def p212 : Arguments := by
  refine' (fun (k : Arguments) (_ : k = fpar (stAt 22)) => k) _ ?_
  rotate_left
  (conv => rhs; whnf)
noncomputable def b212 : List Stmt := by
  refine' (fun (k : List Stmt) (_ : k = fbod (stAt 22)) => k) _ ?_
  rotate_left
  (conv => rhs; whnf)
noncomputable def s212 : Scope := by
  refine' (fun (k : Scope) (_ : k = fsco (stAt 22)) => k) _ ?_
  rotate_left
  (conv => rhs; whnf)
noncomputable def o212 : Obj := by
  refine' (fun (k : Obj) (_ : k = ⟨(.type "function"), none, (.func ⟨"known_rows", "known_rows", p212, (.stmts b212), s212, 3, [], .none, .none, .none, (.str "chancore.world" 436), none, (.ref 211), .none, 0⟩), #[]⟩) => k) _ ?_
  rotate_left
  delta p212 b212 s212
  dsimp only
  exact rfl
noncomputable def p227 : Arguments := by
  refine' (fun (k : Arguments) (_ : k = fpar (memAt 23 0)) => k) _ ?_
  rotate_left
  (conv => rhs; whnf)
noncomputable def b227 : List Stmt := by
  refine' (fun (k : List Stmt) (_ : k = fbod (memAt 23 0)) => k) _ ?_
  rotate_left
  (conv => rhs; whnf)
noncomputable def s227 : Scope := by
  refine' (fun (k : Scope) (_ : k = fsco (memAt 23 0)) => k) _ ?_
  rotate_left
  (conv => rhs; whnf)
noncomputable def o227 : Obj := by
  refine' (fun (k : Obj) (_ : k = ⟨(.type "function"), none, (.func ⟨"__init__", "World.__init__", p227, (.stmts b227), s227, 3, [], (.ref 220), .none, .none, (.str "chancore.world" 436), none, (.ref 226), .none, 0⟩), #[]⟩) => k) _ ?_
  rotate_left
  delta p227 b227 s227
  dsimp only
  exact rfl
noncomputable def p234 : Arguments := by
  refine' (fun (k : Arguments) (_ : k = fpar (memAt 23 1)) => k) _ ?_
  rotate_left
  (conv => rhs; whnf)
noncomputable def b234 : List Stmt := by
  refine' (fun (k : List Stmt) (_ : k = fbod (memAt 23 1)) => k) _ ?_
  rotate_left
  (conv => rhs; whnf)
noncomputable def s234 : Scope := by
  refine' (fun (k : Scope) (_ : k = fsco (memAt 23 1)) => k) _ ?_
  rotate_left
  (conv => rhs; whnf)
noncomputable def o234 : Obj := by
  refine' (fun (k : Obj) (_ : k = ⟨(.type "function"), none, (.func ⟨"base_of", "World.base_of", p234, (.stmts b234), s234, 3, [], .none, .none, .none, (.str "chancore.world" 436), none, (.ref 233), .none, 0⟩), #[]⟩) => k) _ ?_
  rotate_left
  delta p234 b234 s234
  dsimp only
  exact rfl
noncomputable def p241 : Arguments := by
  refine' (fun (k : Arguments) (_ : k = fpar (memAt 23 2)) => k) _ ?_
  rotate_left
  (conv => rhs; whnf)
noncomputable def b241 : List Stmt := by
  refine' (fun (k : List Stmt) (_ : k = fbod (memAt 23 2)) => k) _ ?_
  rotate_left
  (conv => rhs; whnf)
noncomputable def s241 : Scope := by
  refine' (fun (k : Scope) (_ : k = fsco (memAt 23 2)) => k) _ ?_
  rotate_left
  (conv => rhs; whnf)
noncomputable def o241 : Obj := by
  refine' (fun (k : Obj) (_ : k = ⟨(.type "function"), none, (.func ⟨"settled", "World.settled", p241, (.stmts b241), s241, 3, [], .none, .none, .none, (.str "chancore.world" 436), none, (.ref 240), .none, 0⟩), #[]⟩) => k) _ ?_
  rotate_left
  delta p241 b241 s241
  dsimp only
  exact rfl
noncomputable def p255 : Arguments := by
  refine' (fun (k : Arguments) (_ : k = fpar (stAt 25)) => k) _ ?_
  rotate_left
  (conv => rhs; whnf)
noncomputable def b255 : List Stmt := by
  refine' (fun (k : List Stmt) (_ : k = fbod (stAt 25)) => k) _ ?_
  rotate_left
  (conv => rhs; whnf)
noncomputable def s255 : Scope := by
  refine' (fun (k : Scope) (_ : k = fsco (stAt 25)) => k) _ ?_
  rotate_left
  (conv => rhs; whnf)
noncomputable def o255 : Obj := by
  refine' (fun (k : Obj) (_ : k = ⟨(.type "function"), none, (.func ⟨"_law_pool", "_law_pool", p255, (.stmts b255), s255, 3, [], .none, .none, .none, (.str "law_on0019_01" 545), none, (.ref 254), .none, 0⟩), #[]⟩) => k) _ ?_
  rotate_left
  delta p255 b255 s255
  dsimp only
  exact rfl
noncomputable def p262 : Arguments := by
  refine' (fun (k : Arguments) (_ : k = fpar (stAt 26)) => k) _ ?_
  rotate_left
  (conv => rhs; whnf)
noncomputable def b262 : List Stmt := by
  refine' (fun (k : List Stmt) (_ : k = fbod (stAt 26)) => k) _ ?_
  rotate_left
  (conv => rhs; whnf)
noncomputable def s262 : Scope := by
  refine' (fun (k : Scope) (_ : k = fsco (stAt 26)) => k) _ ?_
  rotate_left
  (conv => rhs; whnf)
noncomputable def o262 : Obj := by
  refine' (fun (k : Obj) (_ : k = ⟨(.type "function"), none, (.func ⟨"_law_take", "_law_take", p262, (.stmts b262), s262, 3, [], .none, .none, .none, (.str "law_on0019_01" 545), none, (.ref 261), .none, 0⟩), #[]⟩) => k) _ ?_
  rotate_left
  delta p262 b262 s262
  dsimp only
  exact rfl
noncomputable def p269 : Arguments := by
  refine' (fun (k : Arguments) (_ : k = fpar (stAt 27)) => k) _ ?_
  rotate_left
  (conv => rhs; whnf)
noncomputable def b269 : List Stmt := by
  refine' (fun (k : List Stmt) (_ : k = fbod (stAt 27)) => k) _ ?_
  rotate_left
  (conv => rhs; whnf)
noncomputable def s269 : Scope := by
  refine' (fun (k : Scope) (_ : k = fsco (stAt 27)) => k) _ ?_
  rotate_left
  (conv => rhs; whnf)
noncomputable def o269 : Obj := by
  refine' (fun (k : Obj) (_ : k = ⟨(.type "function"), none, (.func ⟨"_law_one", "_law_one", p269, (.stmts b269), s269, 3, [], .none, .none, .none, (.str "law_on0019_01" 545), none, (.ref 268), .none, 0⟩), #[]⟩) => k) _ ?_
  rotate_left
  delta p269 b269 s269
  dsimp only
  exact rfl
noncomputable def p274 : Arguments := by
  refine' (fun (k : Arguments) (_ : k = fpar (stAt 28)) => k) _ ?_
  rotate_left
  (conv => rhs; whnf)
noncomputable def b274 : List Stmt := by
  refine' (fun (k : List Stmt) (_ : k = fbod (stAt 28)) => k) _ ?_
  rotate_left
  (conv => rhs; whnf)
noncomputable def s274 : Scope := by
  refine' (fun (k : Scope) (_ : k = fsco (stAt 28)) => k) _ ?_
  rotate_left
  (conv => rhs; whnf)
noncomputable def o274 : Obj := by
  refine' (fun (k : Obj) (_ : k = ⟨(.type "function"), none, (.func ⟨"_law_world", "_law_world", p274, (.stmts b274), s274, 3, [], .none, .none, .none, (.str "law_on0019_01" 545), none, (.ref 273), .none, 0⟩), #[]⟩) => k) _ ?_
  rotate_left
  delta p274 b274 s274
  dsimp only
  exact rfl
noncomputable def p281 : Arguments := by
  refine' (fun (k : Arguments) (_ : k = fpar (stAt 29)) => k) _ ?_
  rotate_left
  (conv => rhs; whnf)
noncomputable def b281 : List Stmt := by
  refine' (fun (k : List Stmt) (_ : k = fbod (stAt 29)) => k) _ ?_
  rotate_left
  (conv => rhs; whnf)
noncomputable def s281 : Scope := by
  refine' (fun (k : Scope) (_ : k = fsco (stAt 29)) => k) _ ?_
  rotate_left
  (conv => rhs; whnf)
noncomputable def o281 : Obj := by
  refine' (fun (k : Obj) (_ : k = ⟨(.type "function"), none, (.func ⟨"_law_funcs", "_law_funcs", p281, (.stmts b281), s281, 3, [], .none, .none, .none, (.str "law_on0019_01" 545), none, (.ref 280), .none, 0⟩), #[]⟩) => k) _ ?_
  rotate_left
  delta p281 b281 s281
  dsimp only
  exact rfl
noncomputable def p288 : Arguments := by
  refine' (fun (k : Arguments) (_ : k = fpar (stAt 30)) => k) _ ?_
  rotate_left
  (conv => rhs; whnf)
noncomputable def b288 : List Stmt := by
  refine' (fun (k : List Stmt) (_ : k = fbod (stAt 30)) => k) _ ?_
  rotate_left
  (conv => rhs; whnf)
noncomputable def s288 : Scope := by
  refine' (fun (k : Scope) (_ : k = fsco (stAt 30)) => k) _ ?_
  rotate_left
  (conv => rhs; whnf)
noncomputable def o288 : Obj := by
  refine' (fun (k : Obj) (_ : k = ⟨(.type "function"), none, (.func ⟨"_law_paths", "_law_paths", p288, (.stmts b288), s288, 3, [], .none, .none, .none, (.str "law_on0019_01" 545), none, (.ref 287), .none, 0⟩), #[]⟩) => k) _ ?_
  rotate_left
  delta p288 b288 s288
  dsimp only
  exact rfl
noncomputable def p293 : Arguments := by
  refine' (fun (k : Arguments) (_ : k = fpar (stAt 31)) => k) _ ?_
  rotate_left
  (conv => rhs; whnf)
noncomputable def b293 : List Stmt := by
  refine' (fun (k : List Stmt) (_ : k = fbod (stAt 31)) => k) _ ?_
  rotate_left
  (conv => rhs; whnf)
noncomputable def s293 : Scope := by
  refine' (fun (k : Scope) (_ : k = fsco (stAt 31)) => k) _ ?_
  rotate_left
  (conv => rhs; whnf)
noncomputable def o293 : Obj := by
  refine' (fun (k : Obj) (_ : k = ⟨(.type "function"), none, (.func ⟨"_law_found", "_law_found", p293, (.stmts b293), s293, 3, [], .none, .none, .none, (.str "law_on0019_01" 545), none, (.ref 292), .none, 0⟩), #[]⟩) => k) _ ?_
  rotate_left
  delta p293 b293 s293
  dsimp only
  exact rfl
noncomputable def p298 : Arguments := by
  refine' (fun (k : Arguments) (_ : k = fpar (stAt 32)) => k) _ ?_
  rotate_left
  (conv => rhs; whnf)
noncomputable def b298 : List Stmt := by
  refine' (fun (k : List Stmt) (_ : k = fbod (stAt 32)) => k) _ ?_
  rotate_left
  (conv => rhs; whnf)
noncomputable def s298 : Scope := by
  refine' (fun (k : Scope) (_ : k = fsco (stAt 32)) => k) _ ?_
  rotate_left
  (conv => rhs; whnf)
noncomputable def o298 : Obj := by
  refine' (fun (k : Obj) (_ : k = ⟨(.type "function"), none, (.func ⟨"_law_methods", "_law_methods", p298, (.stmts b298), s298, 3, [], .none, .none, .none, (.str "law_on0019_01" 545), none, (.ref 297), .none, 0⟩), #[]⟩) => k) _ ?_
  rotate_left
  delta p298 b298 s298
  dsimp only
  exact rfl
noncomputable def p305 : Arguments := by
  refine' (fun (k : Arguments) (_ : k = fpar (stAt 33)) => k) _ ?_
  rotate_left
  (conv => rhs; whnf)
noncomputable def b305 : List Stmt := by
  refine' (fun (k : List Stmt) (_ : k = fbod (stAt 33)) => k) _ ?_
  rotate_left
  (conv => rhs; whnf)
noncomputable def s305 : Scope := by
  refine' (fun (k : Scope) (_ : k = fsco (stAt 33)) => k) _ ?_
  rotate_left
  (conv => rhs; whnf)
noncomputable def o305 : Obj := by
  refine' (fun (k : Obj) (_ : k = ⟨(.type "function"), none, (.func ⟨"law", "law", p305, (.stmts b305), s305, 3, [], .none, .none, .none, (.str "law_on0019_01" 545), none, (.ref 304), .none, 0⟩), #[]⟩) => k) _ ?_
  rotate_left
  delta p305 b305 s305
  dsimp only
  exact rfl
noncomputable def KF (P : Params) : Frag :=
    (nat_lit 2, ⟨.none, none, (.dict #[⟨(PySem.PyData.keyHash P "type.__subclasses__.Exception.0"), (.str "type.__subclasses__.Exception.0" 224), (.int 39 0)⟩, ⟨(PySem.PyData.keyHash P "type.__subclasses__.Exception.n"), (.str "type.__subclasses__.Exception.n" 225), (.int 1 0)⟩] 2), #[]⟩) ::
    (nat_lit 3, ⟨(.type "dict"), none, (.dict #[⟨(PySem.PyData.keyHash P "__name__"), (.str "__name__" 165), (.str "law_on0019_01" 545)⟩, ⟨(PySem.PyData.keyHash P "__doc__"), (.str "__doc__" 166), .none⟩, ⟨(PySem.PyData.keyHash P "__package__"), (.str "__package__" 167), .none⟩, ⟨(PySem.PyData.keyHash P "__loader__"), (.str "__loader__" 168), (.builtin "__main__.__loader__#opaque")⟩, ⟨(PySem.PyData.keyHash P "__spec__"), (.str "__spec__" 169), .none⟩, ⟨(PySem.PyData.keyHash P "__annotations__"), (.str "__annotations__" 170), (.ref 6)⟩, ⟨(PySem.PyData.keyHash P "__builtins__"), (.str "__builtins__" 171), (.ref 4)⟩, ⟨(PySem.PyData.keyHash P "__file__"), (.str "__file__" 173), (.str "/claim/cut.py" 172)⟩, ⟨(PySem.PyData.keyHash P "__cached__"), (.str "__cached__" 174), .none⟩, ⟨(PySem.PyData.keyHash P "_wall"), (.str "_wall" 193), (.ref 21)⟩, ⟨(PySem.PyData.keyHash P "ChanError"), (.str "ChanError" 227), (.ref 39)⟩, ⟨(PySem.PyData.keyHash P "NameFault"), (.str "NameFault" 243), (.ref 52)⟩, ⟨(PySem.PyData.keyHash P "TypeFault"), (.str "TypeFault" 259), (.ref 64)⟩, ⟨(PySem.PyData.keyHash P "Reached"), (.str "Reached" 292), (.ref 83)⟩, ⟨(PySem.PyData.keyHash P "without_pointer"), (.str "without_pointer" 299), (.ref 94)⟩, ⟨(PySem.PyData.keyHash P "own_methods"), (.str "own_methods" 307), (.ref 101)⟩, ⟨(PySem.PyData.keyHash P "members_at"), (.str "members_at" 313), (.ref 106)⟩, ⟨(PySem.PyData.keyHash P "embedded_in"), (.str "embedded_in" 326), (.ref 113)⟩, ⟨(PySem.PyData.keyHash P "Levels"), (.str "Levels" 368), (.ref 137)⟩, ⟨(PySem.PyData.keyHash P "start_type"), (.str "start_type" 378), (.ref 148)⟩, ⟨(PySem.PyData.keyHash P "find_member"), (.str "find_member" 391), (.ref 155)⟩, ⟨(PySem.PyData.keyHash P "names_of_methods"), (.str "names_of_methods" 407), (.ref 162)⟩, ⟨(PySem.PyData.keyHash P "member_or_none"), (.str "member_or_none" 416), (.ref 169)⟩, ⟨(PySem.PyData.keyHash P "is_in_set"), (.str "is_in_set" 422), (.ref 174)⟩, ⟨(PySem.PyData.keyHash P "method_set"), (.str "method_set" 435), (.ref 181)⟩, ⟨(PySem.PyData.keyHash P "PLAIN"), (.str "PLAIN" 439), (.ref 184)⟩, ⟨(PySem.PyData.keyHash P "NamedRow"), (.str "NamedRow" 474), (.ref 201)⟩, ⟨(PySem.PyData.keyHash P "known_rows"), (.str "known_rows" 486), (.ref 212)⟩, ⟨(PySem.PyData.keyHash P "World"), (.str "World" 544), (.ref 244)⟩, ⟨(PySem.PyData.keyHash P "_law_pool"), (.str "_law_pool" 557), (.ref 255)⟩, ⟨(PySem.PyData.keyHash P "_law_take"), (.str "_law_take" 566), (.ref 262)⟩, ⟨(PySem.PyData.keyHash P "_law_one"), (.str "_law_one" 574), (.ref 269)⟩, ⟨(PySem.PyData.keyHash P "_law_world"), (.str "_law_world" 580), (.ref 274)⟩, ⟨(PySem.PyData.keyHash P "_law_funcs"), (.str "_law_funcs" 586), (.ref 281)⟩, ⟨(PySem.PyData.keyHash P "_law_paths"), (.str "_law_paths" 604), (.ref 288)⟩, ⟨(PySem.PyData.keyHash P "_law_found"), (.str "_law_found" 610), (.ref 293)⟩, ⟨(PySem.PyData.keyHash P "_law_methods"), (.str "_law_methods" 616), (.ref 298)⟩, ⟨(PySem.PyData.keyHash P "law"), (.str "law" 629), (.ref 305)⟩] 38), #[]⟩) ::
    (nat_lit 15, ⟨(.type "tuple"), none, (.seq #[] 0), #[]⟩) ::
    (nat_lit 17, ⟨(.type "tuple"), none, (.seq #[(.str "k" 190)] 0), #[]⟩) ::
    (nat_lit 18, ⟨(.type "tuple"), none, (.seq #[] 0), #[]⟩) ::
    (nat_lit 20, ⟨(.type "code"), none, (.fields #[(.str "_wall" 187), (.str "_wall" 188), (.str "/claim/cut.py" 189), (.int 1 0), (.int 1 0), (.int 0 0), (.int 0 0), (.int 3 0), (.ref 15), (.bool true), (.int 181 0), (.ref 16), .none, (.ref 17), (.ref 18), (.ref 19), (.int 191 0), (.int 1 0), (.str "/claim/cut.py" 192)]), #[]⟩) ::
    (nat_lit 21, o21) ::
    (nat_lit 22, ⟨(.type "tuple"), none, (.seq #[(.type "Exception")] 0), #[]⟩) ::
    (nat_lit 29, ⟨(.type "tuple"), none, (.seq #[(.int 0 208)] 0), #[]⟩) ::
    (nat_lit 30, ⟨(.type "tuple"), none, (.seq #[] 0), #[]⟩) ::
    (nat_lit 32, ⟨(.type "tuple"), none, (.seq #[(.str "self" 212), (.str "message" 213), (.str "spot" 214)] 0), #[]⟩) ::
    (nat_lit 33, ⟨(.type "tuple"), none, (.seq #[] 0), #[]⟩) ::
    (nat_lit 35, ⟨(.type "code"), none, (.fields #[(.str "__init__" 209), (.str "ChanError.__init__" 210), (.str "/claim/cut.py" 211), (.int 7 0), (.int 3 0), (.int 0 0), (.int 0 0), (.int 3 0), (.ref 30), (.bool true), (.int 181 0), (.ref 31), .none, (.ref 32), (.ref 33), (.ref 34), (.int 215 0), (.int 7 0), (.str "/claim/cut.py" 216)]), #[]⟩) ::
    (nat_lit 36, o36) ::
    (nat_lit 37, ⟨(.type "tuple"), none, (.seq #[(.str "message" 218), (.str "spot" 219)] 0), #[]⟩) ::
    (nat_lit 38, ⟨(.type "dict"), none, (.dict #[⟨(PySem.PyData.keyHash P "__module__"), (.str "__module__" 203), (.str "chancore.errors" 194)⟩, ⟨(PySem.PyData.keyHash P "__firstlineno__"), (.str "__firstlineno__" 207), (.int 5 206)⟩, ⟨(PySem.PyData.keyHash P "__init__"), (.str "__init__" 217), (.ref 36)⟩, ⟨(PySem.PyData.keyHash P "__static_attributes__"), (.str "__static_attributes__" 220), (.ref 37)⟩, ⟨(PySem.PyData.keyHash P "__weakref__"), (.str "__weakref__" 222), (.ref 40)⟩, ⟨(PySem.PyData.keyHash P "__doc__"), (.str "__doc__" 223), .none⟩] 3), #[]⟩) ::
    (nat_lit 39, ⟨(.type "type"), none, (.cls ⟨"ChanError", [(.type "Exception")], [(.ref 39), (.type "Exception"), (.type "BaseException"), (.type "object")], 38, "ChanError", true, [], [(.ref 52), (.ref 64)], false, none, false⟩), #[(some (.ref 22)), none, (some (.str "ChanError" 196)), (some (.str "ChanError" 204)), (some (.builtin "Exception.__new__")), (some (.bool true))]⟩) ::
    (nat_lit 40, ⟨(.type "getset_descriptor"), none, (.fields #[(.str "__weakref__" 221), (.ref 39), (.builtin "ExceptionGroup.__weakref__"), .none]), #[]⟩) ::
    (nat_lit 43, ⟨(.type "tuple"), none, (.seq #[(.ref 39)] 0), #[]⟩) ::
    (nat_lit 50, ⟨(.type "tuple"), none, (.seq #[] 0), #[]⟩) ::
    (nat_lit 51, ⟨(.type "dict"), none, (.dict #[⟨(PySem.PyData.keyHash P "__module__"), (.str "__module__" 235), (.str "chancore.errors" 194)⟩, ⟨(PySem.PyData.keyHash P "__firstlineno__"), (.str "__firstlineno__" 239), (.int 11 238)⟩, ⟨(PySem.PyData.keyHash P "__static_attributes__"), (.str "__static_attributes__" 240), (.ref 50)⟩, ⟨(PySem.PyData.keyHash P "__doc__"), (.str "__doc__" 241), .none⟩] 2), #[]⟩) ::
    (nat_lit 52, ⟨(.type "type"), none, (.cls ⟨"NameFault", [(.ref 39)], [(.ref 52), (.ref 39), (.type "Exception"), (.type "BaseException"), (.type "object")], 51, "NameFault", true, [], [], false, none, false⟩), #[(some (.ref 43)), none, (some (.str "NameFault" 228)), (some (.str "NameFault" 236)), (some (.builtin "Exception.__new__")), (some (.bool true))]⟩) ::
    (nat_lit 55, ⟨(.type "tuple"), none, (.seq #[(.ref 39)] 0), #[]⟩) ::
    (nat_lit 62, ⟨(.type "tuple"), none, (.seq #[] 0), #[]⟩) ::
    (nat_lit 63, ⟨(.type "dict"), none, (.dict #[⟨(PySem.PyData.keyHash P "__module__"), (.str "__module__" 251), (.str "chancore.errors" 194)⟩, ⟨(PySem.PyData.keyHash P "__firstlineno__"), (.str "__firstlineno__" 255), (.int 13 254)⟩, ⟨(PySem.PyData.keyHash P "__static_attributes__"), (.str "__static_attributes__" 256), (.ref 62)⟩, ⟨(PySem.PyData.keyHash P "__doc__"), (.str "__doc__" 257), .none⟩] 2), #[]⟩) ::
    (nat_lit 64, ⟨(.type "type"), none, (.cls ⟨"TypeFault", [(.ref 39)], [(.ref 64), (.ref 39), (.type "Exception"), (.type "BaseException"), (.type "object")], 63, "TypeFault", true, [], [], false, none, false⟩), #[(some (.ref 55)), none, (some (.str "TypeFault" 244)), (some (.str "TypeFault" 252)), (some (.builtin "Exception.__new__")), (some (.bool true))]⟩) ::
    (nat_lit 74, ⟨(.type "tuple"), none, (.seq #[] 0), #[]⟩) ::
    (nat_lit 76, ⟨(.type "tuple"), none, (.seq #[(.str "self" 277), (.str "told" 278), (.str "steps" 279)] 0), #[]⟩) ::
    (nat_lit 77, ⟨(.type "tuple"), none, (.seq #[] 0), #[]⟩) ::
    (nat_lit 79, ⟨(.type "code"), none, (.fields #[(.str "__init__" 274), (.str "Reached.__init__" 275), (.str "/claim/cut.py" 276), (.int 18 0), (.int 3 0), (.int 0 0), (.int 0 0), (.int 3 0), (.ref 74), (.bool true), (.int 181 0), (.ref 75), .none, (.ref 76), (.ref 77), (.ref 78), (.int 280 0), (.int 18 0), (.str "/claim/cut.py" 281)]), #[]⟩) ::
    (nat_lit 80, o80) ::
    (nat_lit 81, ⟨(.type "tuple"), none, (.seq #[(.str "steps" 283), (.str "told" 284)] 0), #[]⟩) ::
    (nat_lit 82, ⟨(.type "dict"), none, (.dict #[⟨(PySem.PyData.keyHash P "__module__"), (.str "__module__" 269), (.str "chancore.lookup" 260)⟩, ⟨(PySem.PyData.keyHash P "__firstlineno__"), (.str "__firstlineno__" 273), (.int 16 272)⟩, ⟨(PySem.PyData.keyHash P "__init__"), (.str "__init__" 282), (.ref 80)⟩, ⟨(PySem.PyData.keyHash P "__static_attributes__"), (.str "__static_attributes__" 285), (.ref 81)⟩, ⟨(PySem.PyData.keyHash P "__dict__"), (.str "__dict__" 287), (.ref 84)⟩, ⟨(PySem.PyData.keyHash P "__weakref__"), (.str "__weakref__" 289), (.ref 85)⟩, ⟨(PySem.PyData.keyHash P "__doc__"), (.str "__doc__" 290), .none⟩] 4), #[]⟩) ::
    (nat_lit 83, ⟨(.type "type"), none, (.cls ⟨"Reached", [(.type "object")], [(.ref 83), (.type "object")], 82, "Reached", true, [], [], false, none, false⟩), #[none, none, (some (.str "Reached" 262)), (some (.str "Reached" 270)), (some (.builtin "object.__new__")), (some (.bool true))]⟩) ::
    (nat_lit 84, ⟨(.type "getset_descriptor"), none, (.fields #[(.str "__dict__" 286), (.ref 83), (.builtin "function.__dict__"), (.builtin "function.__dict__#set")]), #[]⟩) ::
    (nat_lit 85, ⟨(.type "getset_descriptor"), none, (.fields #[(.str "__weakref__" 288), (.ref 83), (.builtin "ExceptionGroup.__weakref__"), .none]), #[]⟩) ::
    (nat_lit 88, ⟨(.type "tuple"), none, (.seq #[] 0), #[]⟩) ::
    (nat_lit 90, ⟨(.type "tuple"), none, (.seq #[(.str "told" 296)] 0), #[]⟩) ::
    (nat_lit 91, ⟨(.type "tuple"), none, (.seq #[] 0), #[]⟩) ::
    (nat_lit 93, ⟨(.type "code"), none, (.fields #[(.str "without_pointer" 293), (.str "without_pointer" 294), (.str "/claim/cut.py" 295), (.int 21 0), (.int 1 0), (.int 0 0), (.int 0 0), (.int 3 0), (.ref 88), (.bool true), (.int 181 0), (.ref 89), .none, (.ref 90), (.ref 91), (.ref 92), (.int 297 0), (.int 21 0), (.str "/claim/cut.py" 298)]), #[]⟩) ::
    (nat_lit 94, o94) ::
    (nat_lit 95, ⟨(.type "tuple"), none, (.seq #[] 0), #[]⟩) ::
    (nat_lit 97, ⟨(.type "tuple"), none, (.seq #[(.str "world" 303), (.str "told" 304)] 0), #[]⟩) ::
    (nat_lit 98, ⟨(.type "tuple"), none, (.seq #[] 0), #[]⟩) ::
    (nat_lit 100, ⟨(.type "code"), none, (.fields #[(.str "own_methods" 300), (.str "own_methods" 301), (.str "/claim/cut.py" 302), (.int 23 0), (.int 2 0), (.int 0 0), (.int 0 0), (.int 3 0), (.ref 95), (.bool true), (.int 181 0), (.ref 96), .none, (.ref 97), (.ref 98), (.ref 99), (.int 305 0), (.int 23 0), (.str "/claim/cut.py" 306)]), #[]⟩) ::
    (nat_lit 101, o101) ::
    (nat_lit 102, ⟨(.type "tuple"), none, (.seq #[] 0), #[]⟩) ::
    (nat_lit 105, ⟨(.type "code"), none, (.fields #[(.str "members_at" 308), (.str "members_at" 309), (.str "/claim/cut.py" 310), (.int 25 0), (.int 3 0), (.int 0 0), (.int 0 0), (.int 3 0), (.ref 102), (.bool true), (.int 181 0), (.ref 103), .none, .none, .none, (.ref 104), (.int 311 0), (.int 25 0), (.str "/claim/cut.py" 312)]), #[]⟩) ::
    (nat_lit 106, o106) ::
    (nat_lit 107, ⟨(.type "tuple"), none, (.seq #[] 0), #[]⟩) ::
    (nat_lit 109, ⟨(.type "tuple"), none, (.seq #[(.str "world" 317), (.str "reached" 318), (.str "base" 319), (.str "found" 320), (.str "k" 321), (.str "row" 322), (.str "is_pointer" 323)] 0), #[]⟩) ::
    (nat_lit 110, ⟨(.type "tuple"), none, (.seq #[] 0), #[]⟩) ::
    (nat_lit 112, ⟨(.type "code"), none, (.fields #[(.str "embedded_in" 314), (.str "embedded_in" 315), (.str "/claim/cut.py" 316), (.int 39 0), (.int 2 0), (.int 0 0), (.int 0 0), (.int 3 0), (.ref 107), (.bool true), (.int 181 0), (.ref 108), .none, (.ref 109), (.ref 110), (.ref 111), (.int 324 0), (.int 39 0), (.str "/claim/cut.py" 325)]), #[]⟩) ::
    (nat_lit 113, o113) ::
    (nat_lit 121, ⟨(.type "tuple"), none, (.seq #[] 0), #[]⟩) ::
    (nat_lit 123, ⟨(.type "tuple"), none, (.seq #[(.str "self" 342), (.str "world" 343), (.str "told" 344)] 0), #[]⟩) ::
    (nat_lit 124, ⟨(.type "tuple"), none, (.seq #[] 0), #[]⟩) ::
    (nat_lit 126, ⟨(.type "code"), none, (.fields #[(.str "__init__" 339), (.str "Levels.__init__" 340), (.str "/claim/cut.py" 341), (.int 49 0), (.int 3 0), (.int 0 0), (.int 0 0), (.int 3 0), (.ref 121), (.bool true), (.int 181 0), (.ref 122), .none, (.ref 123), (.ref 124), (.ref 125), (.int 345 0), (.int 49 0), (.str "/claim/cut.py" 346)]), #[]⟩) ::
    (nat_lit 127, o127) ::
    (nat_lit 128, ⟨(.type "tuple"), none, (.seq #[] 0), #[]⟩) ::
    (nat_lit 130, ⟨(.type "tuple"), none, (.seq #[(.str "self" 351), (.str "reached" 352), (.str "later" 353), (.str "inner" 354)] 0), #[]⟩) ::
    (nat_lit 131, ⟨(.type "tuple"), none, (.seq #[] 0), #[]⟩) ::
    (nat_lit 133, ⟨(.type "code"), none, (.fields #[(.str "go_on" 348), (.str "Levels.go_on" 349), (.str "/claim/cut.py" 350), (.int 54 0), (.int 1 0), (.int 0 0), (.int 0 0), (.int 3 0), (.ref 128), (.bool true), (.int 181 0), (.ref 129), .none, (.ref 130), (.ref 131), (.ref 132), (.int 355 0), (.int 54 0), (.str "/claim/cut.py" 356)]), #[]⟩) ::
    (nat_lit 134, o134) ::
    (nat_lit 135, ⟨(.type "tuple"), none, (.seq #[(.str "here" 358), (.str "seen" 359), (.str "world" 360)] 0), #[]⟩) ::
    (nat_lit 136, ⟨(.type "dict"), none, (.dict #[⟨(PySem.PyData.keyHash P "__module__"), (.str "__module__" 334), (.str "chancore.lookup" 260)⟩, ⟨(PySem.PyData.keyHash P "__firstlineno__"), (.str "__firstlineno__" 338), (.int 47 337)⟩, ⟨(PySem.PyData.keyHash P "__init__"), (.str "__init__" 347), (.ref 127)⟩, ⟨(PySem.PyData.keyHash P "go_on"), (.str "go_on" 357), (.ref 134)⟩, ⟨(PySem.PyData.keyHash P "__static_attributes__"), (.str "__static_attributes__" 361), (.ref 135)⟩, ⟨(PySem.PyData.keyHash P "__dict__"), (.str "__dict__" 363), (.ref 138)⟩, ⟨(PySem.PyData.keyHash P "__weakref__"), (.str "__weakref__" 365), (.ref 139)⟩, ⟨(PySem.PyData.keyHash P "__doc__"), (.str "__doc__" 366), .none⟩] 4), #[]⟩) ::
    (nat_lit 137, ⟨(.type "type"), none, (.cls ⟨"Levels", [(.type "object")], [(.ref 137), (.type "object")], 136, "Levels", true, [], [], false, none, false⟩), #[none, none, (some (.str "Levels" 327)), (some (.str "Levels" 335)), (some (.builtin "object.__new__")), (some (.bool true))]⟩) ::
    (nat_lit 138, ⟨(.type "getset_descriptor"), none, (.fields #[(.str "__dict__" 362), (.ref 137), (.builtin "function.__dict__"), (.builtin "function.__dict__#set")]), #[]⟩) ::
    (nat_lit 139, ⟨(.type "getset_descriptor"), none, (.fields #[(.str "__weakref__" 364), (.ref 137), (.builtin "ExceptionGroup.__weakref__"), .none]), #[]⟩) ::
    (nat_lit 142, ⟨(.type "tuple"), none, (.seq #[] 0), #[]⟩) ::
    (nat_lit 144, ⟨(.type "tuple"), none, (.seq #[(.str "world" 372), (.str "told" 373), (.str "inner" 374), (.str "base" 375)] 0), #[]⟩) ::
    (nat_lit 145, ⟨(.type "tuple"), none, (.seq #[] 0), #[]⟩) ::
    (nat_lit 147, ⟨(.type "code"), none, (.fields #[(.str "start_type" 369), (.str "start_type" 370), (.str "/claim/cut.py" 371), (.int 64 0), (.int 2 0), (.int 0 0), (.int 0 0), (.int 3 0), (.ref 142), (.bool true), (.int 181 0), (.ref 143), .none, (.ref 144), (.ref 145), (.ref 146), (.int 376 0), (.int 64 0), (.str "/claim/cut.py" 377)]), #[]⟩) ::
    (nat_lit 148, o148) ::
    (nat_lit 149, ⟨(.type "tuple"), none, (.seq #[] 0), #[]⟩) ::
    (nat_lit 151, ⟨(.type "tuple"), none, (.seq #[(.str "world" 382), (.str "told" 383), (.str "name" 384), (.str "begun" 385), (.str "levels" 386), (.str "found" 387), (.str "reached" 388)] 0), #[]⟩) ::
    (nat_lit 152, ⟨(.type "tuple"), none, (.seq #[] 0), #[]⟩) ::
    (nat_lit 154, ⟨(.type "code"), none, (.fields #[(.str "find_member" 379), (.str "find_member" 380), (.str "/claim/cut.py" 381), (.int 72 0), (.int 3 0), (.int 0 0), (.int 0 0), (.int 3 0), (.ref 149), (.bool true), (.int 181 0), (.ref 150), .none, (.ref 151), (.ref 152), (.ref 153), (.int 389 0), (.int 72 0), (.str "/claim/cut.py" 390)]), #[]⟩) ::
    (nat_lit 155, o155) ::
    (nat_lit 156, ⟨(.type "tuple"), none, (.seq #[] 0), #[]⟩) ::
    (nat_lit 158, ⟨(.type "tuple"), none, (.seq #[(.str "world" 397), (.str "told" 398), (.str "levels" 399), (.str "found" 400), (.str "reached" 401), (.str "base" 402), (.str "name" 403), (.str "func" 404)] 0), #[]⟩) ::
    (nat_lit 159, ⟨(.type "tuple"), none, (.seq #[] 0), #[]⟩) ::
    (nat_lit 161, ⟨(.type "code"), none, (.fields #[(.str "names_of_methods" 394), (.str "names_of_methods" 395), (.str "/claim/cut.py" 396), (.int 88 0), (.int 2 0), (.int 0 0), (.int 0 0), (.int 3 0), (.ref 156), (.bool true), (.int 181 0), (.ref 157), .none, (.ref 158), (.ref 159), (.ref 160), (.int 405 0), (.int 88 0), (.str "/claim/cut.py" 406)]), #[]⟩) ::
    (nat_lit 162, o162) ::
    (nat_lit 163, ⟨(.type "tuple"), none, (.seq #[] 0), #[]⟩) ::
    (nat_lit 165, ⟨(.type "tuple"), none, (.seq #[(.str "world" 411), (.str "told" 412), (.str "name" 413)] 0), #[]⟩) ::
    (nat_lit 166, ⟨(.type "tuple"), none, (.seq #[] 0), #[]⟩) ::
    (nat_lit 168, ⟨(.type "code"), none, (.fields #[(.str "member_or_none" 408), (.str "member_or_none" 409), (.str "/claim/cut.py" 410), (.int 99 0), (.int 3 0), (.int 0 0), (.int 0 0), (.int 3 0), (.ref 163), (.bool true), (.int 181 0), (.ref 164), .none, (.ref 165), (.ref 166), (.ref 167), (.int 414 0), (.int 99 0), (.str "/claim/cut.py" 415)]), #[]⟩) ::
    (nat_lit 169, o169) ::
    (nat_lit 170, ⟨(.type "tuple"), none, (.seq #[] 0), #[]⟩) ::
    (nat_lit 173, ⟨(.type "code"), none, (.fields #[(.str "is_in_set" 417), (.str "is_in_set" 418), (.str "/claim/cut.py" 419), (.int 104 0), (.int 2 0), (.int 0 0), (.int 0 0), (.int 3 0), (.ref 170), (.bool true), (.int 181 0), (.ref 171), .none, .none, .none, (.ref 172), (.int 420 0), (.int 104 0), (.str "/claim/cut.py" 421)]), #[]⟩) ::
    (nat_lit 174, o174) ::
    (nat_lit 175, ⟨(.type "tuple"), none, (.seq #[] 0), #[]⟩) ::
    (nat_lit 177, ⟨(.type "tuple"), none, (.seq #[(.str "world" 426), (.str "told" 427), (.str "begun" 428), (.str "found" 429), (.str "name" 430), (.str "member" 431), (.str "key" 432)] 0), #[]⟩) ::
    (nat_lit 178, ⟨(.type "tuple"), none, (.seq #[] 0), #[]⟩) ::
    (nat_lit 180, ⟨(.type "code"), none, (.fields #[(.str "method_set" 423), (.str "method_set" 424), (.str "/claim/cut.py" 425), (.int 108 0), (.int 2 0), (.int 0 0), (.int 0 0), (.int 3 0), (.ref 175), (.bool true), (.int 181 0), (.ref 176), .none, (.ref 177), (.ref 178), (.ref 179), (.int 433 0), (.int 108 0), (.str "/claim/cut.py" 434)]), #[]⟩) ::
    (nat_lit 181, o181) ::
    (nat_lit 182, ⟨(.type "tuple"), none, (.seq #[] 0), #[]⟩) ::
    (nat_lit 183, ⟨(.type "tuple"), none, (.seq #[] 0), #[]⟩) ::
    (nat_lit 184, ⟨(.type "tuple"), none, (.seq #[(.str "func" 438), (.ref 182), (.ref 183), (.bool false)] 0), #[]⟩) ::
    (nat_lit 192, ⟨(.type "tuple"), none, (.seq #[] 0), #[]⟩) ::
    (nat_lit 194, ⟨(.type "tuple"), none, (.seq #[(.str "self" 455), (.str "path" 456), (.str "package" 457), (.str "underlying" 458), (.str "methods" 459)] 0), #[]⟩) ::
    (nat_lit 195, ⟨(.type "tuple"), none, (.seq #[] 0), #[]⟩) ::
    (nat_lit 197, ⟨(.type "code"), none, (.fields #[(.str "__init__" 452), (.str "NamedRow.__init__" 453), (.str "/claim/cut.py" 454), (.int 122 0), (.int 5 0), (.int 0 0), (.int 0 0), (.int 3 0), (.ref 192), (.bool true), (.int 181 0), (.ref 193), .none, (.ref 194), (.ref 195), (.ref 196), (.int 460 0), (.int 122 0), (.str "/claim/cut.py" 461)]), #[]⟩) ::
    (nat_lit 198, o198) ::
    (nat_lit 199, ⟨(.type "tuple"), none, (.seq #[(.str "methods" 463), (.str "package" 464), (.str "path" 465), (.str "underlying" 466)] 0), #[]⟩) ::
    (nat_lit 200, ⟨(.type "dict"), none, (.dict #[⟨(PySem.PyData.keyHash P "__module__"), (.str "__module__" 447), (.str "chancore.world" 436)⟩, ⟨(PySem.PyData.keyHash P "__firstlineno__"), (.str "__firstlineno__" 451), (.int 120 450)⟩, ⟨(PySem.PyData.keyHash P "__init__"), (.str "__init__" 462), (.ref 198)⟩, ⟨(PySem.PyData.keyHash P "__static_attributes__"), (.str "__static_attributes__" 467), (.ref 199)⟩, ⟨(PySem.PyData.keyHash P "__dict__"), (.str "__dict__" 469), (.ref 202)⟩, ⟨(PySem.PyData.keyHash P "__weakref__"), (.str "__weakref__" 471), (.ref 203)⟩, ⟨(PySem.PyData.keyHash P "__doc__"), (.str "__doc__" 472), .none⟩] 4), #[]⟩) ::
    (nat_lit 201, ⟨(.type "type"), none, (.cls ⟨"NamedRow", [(.type "object")], [(.ref 201), (.type "object")], 200, "NamedRow", true, [], [], false, none, false⟩), #[none, none, (some (.str "NamedRow" 440)), (some (.str "NamedRow" 448)), (some (.builtin "object.__new__")), (some (.bool true))]⟩) ::
    (nat_lit 202, ⟨(.type "getset_descriptor"), none, (.fields #[(.str "__dict__" 468), (.ref 201), (.builtin "function.__dict__"), (.builtin "function.__dict__#set")]), #[]⟩) ::
    (nat_lit 203, ⟨(.type "getset_descriptor"), none, (.fields #[(.str "__weakref__" 470), (.ref 201), (.builtin "ExceptionGroup.__weakref__"), .none]), #[]⟩) ::
    (nat_lit 206, ⟨(.type "tuple"), none, (.seq #[] 0), #[]⟩) ::
    (nat_lit 208, ⟨(.type "tuple"), none, (.seq #[(.str "text" 478), (.str "adding" 479), (.str "held" 480), (.str "told" 481), (.str "locks" 482), (.str "waits" 483)] 0), #[]⟩) ::
    (nat_lit 209, ⟨(.type "tuple"), none, (.seq #[] 0), #[]⟩) ::
    (nat_lit 211, ⟨(.type "code"), none, (.fields #[(.str "known_rows" 475), (.str "known_rows" 476), (.str "/claim/cut.py" 477), (.int 127 0), (.int 0 0), (.int 0 0), (.int 0 0), (.int 3 0), (.ref 206), (.bool true), (.int 181 0), (.ref 207), .none, (.ref 208), (.ref 209), (.ref 210), (.int 484 0), (.int 127 0), (.str "/claim/cut.py" 485)]), #[]⟩) ::
    (nat_lit 212, o212) ::
    (nat_lit 220, ⟨(.type "tuple"), none, (.seq #[.none] 0), #[]⟩) ::
    (nat_lit 221, ⟨(.type "tuple"), none, (.seq #[] 0), #[]⟩) ::
    (nat_lit 223, ⟨(.type "tuple"), none, (.seq #[(.str "self" 502), (.str "packages" 503)] 0), #[]⟩) ::
    (nat_lit 224, ⟨(.type "tuple"), none, (.seq #[] 0), #[]⟩) ::
    (nat_lit 226, ⟨(.type "code"), none, (.fields #[(.str "__init__" 499), (.str "World.__init__" 500), (.str "/claim/cut.py" 501), (.int 137 0), (.int 2 0), (.int 0 0), (.int 0 0), (.int 3 0), (.ref 221), (.bool true), (.int 181 0), (.ref 222), .none, (.ref 223), (.ref 224), (.ref 225), (.int 504 0), (.int 137 0), (.str "/claim/cut.py" 505)]), #[]⟩) ::
    (nat_lit 227, o227) ::
    (nat_lit 228, ⟨(.type "tuple"), none, (.seq #[] 0), #[]⟩) ::
    (nat_lit 230, ⟨(.type "tuple"), none, (.seq #[(.str "self" 510), (.str "told" 511), (.str "row" 512)] 0), #[]⟩) ::
    (nat_lit 231, ⟨(.type "tuple"), none, (.seq #[] 0), #[]⟩) ::
    (nat_lit 233, ⟨(.type "code"), none, (.fields #[(.str "base_of" 507), (.str "World.base_of" 508), (.str "/claim/cut.py" 509), (.int 152 0), (.int 2 0), (.int 0 0), (.int 0 0), (.int 3 0), (.ref 228), (.bool true), (.int 181 0), (.ref 229), .none, (.ref 230), (.ref 231), (.ref 232), (.int 513 0), (.int 152 0), (.str "/claim/cut.py" 514)]), #[]⟩) ::
    (nat_lit 234, o234) ::
    (nat_lit 235, ⟨(.type "tuple"), none, (.seq #[] 0), #[]⟩) ::
    (nat_lit 237, ⟨(.type "tuple"), none, (.seq #[(.str "self" 519), (.str "entry" 520)] 0), #[]⟩) ::
    (nat_lit 238, ⟨(.type "tuple"), none, (.seq #[] 0), #[]⟩) ::
    (nat_lit 240, ⟨(.type "code"), none, (.fields #[(.str "settled" 516), (.str "World.settled" 517), (.str "/claim/cut.py" 518), (.int 164 0), (.int 2 0), (.int 0 0), (.int 0 0), (.int 3 0), (.ref 235), (.bool true), (.int 181 0), (.ref 236), .none, (.ref 237), (.ref 238), (.ref 239), (.int 521 0), (.int 164 0), (.str "/claim/cut.py" 522)]), #[]⟩) ::
    (nat_lit 241, o241) ::
    (nat_lit 242, ⟨(.type "tuple"), none, (.seq #[(.str "bodies" 524), (.str "consts" 525), (.str "files" 526), (.str "funcs" 527), (.str "globals" 528), (.str "is_whole" 529), (.str "late_keys" 530), (.str "named" 531), (.str "order" 532), (.str "packages" 533), (.str "scopes" 534), (.str "settle" 535), (.str "starts" 536)] 0), #[]⟩) ::
    (nat_lit 243, ⟨(.type "dict"), none, (.dict #[⟨(PySem.PyData.keyHash P "__module__"), (.str "__module__" 494), (.str "chancore.world" 436)⟩, ⟨(PySem.PyData.keyHash P "__firstlineno__"), (.str "__firstlineno__" 498), (.int 135 497)⟩, ⟨(PySem.PyData.keyHash P "__init__"), (.str "__init__" 506), (.ref 227)⟩, ⟨(PySem.PyData.keyHash P "base_of"), (.str "base_of" 515), (.ref 234)⟩, ⟨(PySem.PyData.keyHash P "settled"), (.str "settled" 523), (.ref 241)⟩, ⟨(PySem.PyData.keyHash P "__static_attributes__"), (.str "__static_attributes__" 537), (.ref 242)⟩, ⟨(PySem.PyData.keyHash P "__dict__"), (.str "__dict__" 539), (.ref 245)⟩, ⟨(PySem.PyData.keyHash P "__weakref__"), (.str "__weakref__" 541), (.ref 246)⟩, ⟨(PySem.PyData.keyHash P "__doc__"), (.str "__doc__" 542), .none⟩] 4), #[]⟩) ::
    (nat_lit 244, ⟨(.type "type"), none, (.cls ⟨"World", [(.type "object")], [(.ref 244), (.type "object")], 243, "World", true, [], [], false, none, false⟩), #[none, none, (some (.str "World" 487)), (some (.str "World" 495)), (some (.builtin "object.__new__")), (some (.bool true))]⟩) ::
    (nat_lit 245, ⟨(.type "getset_descriptor"), none, (.fields #[(.str "__dict__" 538), (.ref 244), (.builtin "function.__dict__"), (.builtin "function.__dict__#set")]), #[]⟩) ::
    (nat_lit 246, ⟨(.type "getset_descriptor"), none, (.fields #[(.str "__weakref__" 540), (.ref 244), (.builtin "ExceptionGroup.__weakref__"), .none]), #[]⟩) ::
    (nat_lit 249, ⟨(.type "tuple"), none, (.seq #[] 0), #[]⟩) ::
    (nat_lit 251, ⟨(.type "tuple"), none, (.seq #[(.str "script" 550), (.str "k" 551), (.str "cell" 552), (.str "big" 553), (.str "mixed" 554)] 0), #[]⟩) ::
    (nat_lit 252, ⟨(.type "tuple"), none, (.seq #[] 0), #[]⟩) ::
    (nat_lit 254, ⟨(.type "code"), none, (.fields #[(.str "_law_pool" 547), (.str "_law_pool" 548), (.str "/claim/cut.py" 549), (.int 167 0), (.int 2 0), (.int 0 0), (.int 0 0), (.int 3 0), (.ref 249), (.bool true), (.int 181 0), (.ref 250), .none, (.ref 251), (.ref 252), (.ref 253), (.int 555 0), (.int 167 0), (.str "/claim/cut.py" 556)]), #[]⟩) ::
    (nat_lit 255, o255) ::
    (nat_lit 256, ⟨(.type "tuple"), none, (.seq #[] 0), #[]⟩) ::
    (nat_lit 258, ⟨(.type "tuple"), none, (.seq #[(.str "source" 561), (.str "top" 562), (.str "drawn" 563)] 0), #[]⟩) ::
    (nat_lit 259, ⟨(.type "tuple"), none, (.seq #[] 0), #[]⟩) ::
    (nat_lit 261, ⟨(.type "code"), none, (.fields #[(.str "_law_take" 558), (.str "_law_take" 559), (.str "/claim/cut.py" 560), (.int 172 0), (.int 2 0), (.int 0 0), (.int 0 0), (.int 3 0), (.ref 256), (.bool true), (.int 181 0), (.ref 257), .none, (.ref 258), (.ref 259), (.ref 260), (.int 564 0), (.int 172 0), (.str "/claim/cut.py" 565)]), #[]⟩) ::
    (nat_lit 262, o262) ::
    (nat_lit 263, ⟨(.type "tuple"), none, (.seq #[] 0), #[]⟩) ::
    (nat_lit 265, ⟨(.type "tuple"), none, (.seq #[(.str "source" 570), (.str "things" 571)] 0), #[]⟩) ::
    (nat_lit 266, ⟨(.type "tuple"), none, (.seq #[] 0), #[]⟩) ::
    (nat_lit 268, ⟨(.type "code"), none, (.fields #[(.str "_law_one" 567), (.str "_law_one" 568), (.str "/claim/cut.py" 569), (.int 179 0), (.int 2 0), (.int 0 0), (.int 0 0), (.int 3 0), (.ref 263), (.bool true), (.int 181 0), (.ref 264), .none, (.ref 265), (.ref 266), (.ref 267), (.int 572 0), (.int 179 0), (.str "/claim/cut.py" 573)]), #[]⟩) ::
    (nat_lit 269, o269) ::
    (nat_lit 270, ⟨(.type "tuple"), none, (.seq #[] 0), #[]⟩) ::
    (nat_lit 273, ⟨(.type "code"), none, (.fields #[(.str "_law_world" 575), (.str "_law_world" 576), (.str "/claim/cut.py" 577), (.int 181 0), (.int 1 0), (.int 0 0), (.int 0 0), (.int 3 0), (.ref 270), (.bool true), (.int 181 0), (.ref 271), .none, .none, .none, (.ref 272), (.int 578 0), (.int 181 0), (.str "/claim/cut.py" 579)]), #[]⟩) ::
    (nat_lit 274, o274) ::
    (nat_lit 275, ⟨(.type "tuple"), none, (.seq #[] 0), #[]⟩) ::
    (nat_lit 277, ⟨(.type "tuple"), none, (.seq #[] 0), #[]⟩) ::
    (nat_lit 278, ⟨(.type "tuple"), none, (.seq #[] 0), #[]⟩) ::
    (nat_lit 280, ⟨(.type "code"), none, (.fields #[(.str "_law_funcs" 581), (.str "_law_funcs" 582), (.str "/claim/cut.py" 583), (.int 204 0), (.int 0 0), (.int 0 0), (.int 0 0), (.int 3 0), (.ref 275), (.bool true), (.int 181 0), (.ref 276), .none, (.ref 277), (.ref 278), (.ref 279), (.int 584 0), (.int 204 0), (.str "/claim/cut.py" 585)]), #[]⟩) ::
    (nat_lit 281, o281) ::
    (nat_lit 282, ⟨(.type "tuple"), none, (.seq #[] 0), #[]⟩) ::
    (nat_lit 284, ⟨(.type "tuple"), none, (.seq #[(.str "world" 590), (.str "told" 591), (.str "deep" 592), (.str "found" 593), (.str "turn" 594), (.str "later" 595), (.str "here" 596), (.str "steps" 597), (.str "base" 598), (.str "k" 599), (.str "row" 600), (.str "is_pointer" 601)] 0), #[]⟩) ::
    (nat_lit 285, ⟨(.type "tuple"), none, (.seq #[] 0), #[]⟩) ::
    (nat_lit 287, ⟨(.type "code"), none, (.fields #[(.str "_law_paths" 587), (.str "_law_paths" 588), (.str "/claim/cut.py" 589), (.int 206 0), (.int 3 0), (.int 0 0), (.int 0 0), (.int 3 0), (.ref 282), (.bool true), (.int 181 0), (.ref 283), .none, (.ref 284), (.ref 285), (.ref 286), (.int 602 0), (.int 206 0), (.str "/claim/cut.py" 603)]), #[]⟩) ::
    (nat_lit 288, o288) ::
    (nat_lit 289, ⟨(.type "tuple"), none, (.seq #[] 0), #[]⟩) ::
    (nat_lit 292, ⟨(.type "code"), none, (.fields #[(.str "_law_found" 605), (.str "_law_found" 606), (.str "/claim/cut.py" 607), (.int 218 0), (.int 3 0), (.int 0 0), (.int 0 0), (.int 3 0), (.ref 289), (.bool true), (.int 181 0), (.ref 290), .none, .none, .none, (.ref 291), (.int 608 0), (.int 218 0), (.str "/claim/cut.py" 609)]), #[]⟩) ::
    (nat_lit 293, o293) ::
    (nat_lit 294, ⟨(.type "tuple"), none, (.seq #[] 0), #[]⟩) ::
    (nat_lit 297, ⟨(.type "code"), none, (.fields #[(.str "_law_methods" 611), (.str "_law_methods" 612), (.str "/claim/cut.py" 613), (.int 233 0), (.int 2 0), (.int 0 0), (.int 0 0), (.int 3 0), (.ref 294), (.bool true), (.int 181 0), (.ref 295), .none, .none, .none, (.ref 296), (.int 614 0), (.int 233 0), (.str "/claim/cut.py" 615)]), #[]⟩) ::
    (nat_lit 298, o298) ::
    (nat_lit 299, ⟨(.type "tuple"), none, (.seq #[] 0), #[]⟩) ::
    (nat_lit 301, ⟨(.type "tuple"), none, (.seq #[(.str "script" 620), (.str "k" 621), (.str "source" 622), (.str "world" 623), (.str "name" 624), (.str "told" 625), (.str "own" 626)] 0), #[]⟩) ::
    (nat_lit 302, ⟨(.type "tuple"), none, (.seq #[] 0), #[]⟩) ::
    (nat_lit 304, ⟨(.type "code"), none, (.fields #[(.str "law" 617), (.str "law" 618), (.str "/claim/cut.py" 619), (.int 246 0), (.int 1 0), (.int 0 0), (.int 0 0), (.int 3 0), (.ref 299), (.bool true), (.int 181 0), (.ref 300), .none, (.ref 301), (.ref 302), (.ref 303), (.int 627 0), (.int 246 0), (.str "/claim/cut.py" 628)]), #[]⟩) ::
    (nat_lit 305, o305) :: []
noncomputable def KA : List Addr := [2, 3, 15, 17, 18, 20, 21, 22, 29, 30, 32, 33, 35, 36, 37, 38, 39, 40, 43, 50, 51, 52, 55, 62, 63, 64, 74, 76, 77, 79, 80, 81, 82, 83, 84, 85, 88, 90, 91, 93, 94, 95, 97, 98, 100, 101, 102, 105, 106, 107, 109, 110, 112, 113, 121, 123, 124, 126, 127, 128, 130, 131, 133, 134, 135, 136, 137, 138, 139, 142, 144, 145, 147, 148, 149, 151, 152, 154, 155, 156, 158, 159, 161, 162, 163, 165, 166, 168, 169, 170, 173, 174, 175, 177, 178, 180, 181, 182, 183, 184, 192, 194, 195, 197, 198, 199, 200, 201, 202, 203, 206, 208, 209, 211, 212, 220, 221, 223, 224, 226, 227, 228, 230, 231, 233, 234, 235, 237, 238, 240, 241, 242, 243, 244, 245, 246, 249, 251, 252, 254, 255, 256, 258, 259, 261, 262, 263, 265, 266, 268, 269, 270, 273, 274, 275, 277, 278, 280, 281, 282, 284, 285, 287, 288, 289, 292, 293, 294, 297, 298, 299, 301, 302, 304, 305]
theorem KA_is : ∀ P, KA = (KF P).map (·.1) := fun P => by kernel_rfl
theorem fillK : (fun (x : OpenLaw) (y : Params → Frag) => True) PySem.Challenge.rw_on0019_01 KF := by k_fill; trivial
noncomputable def qv : Program := { pw with main := { pw.main with body := pw.main.body.drop 33 } }
noncomputable def looseQ : List Str := pw.boundNames.filter fun n => !(n == ("law" : Str))
noncomputable def dL : DefRec := match defOf qv ("law" : Str) with
  | some x => x.1
  | none => ⟨"law", fpar noSt, [], fsco noSt, ⟨0, 0, 0, 0⟩⟩
theorem d_name : dL.name = ("law" : Str) := by kernel_rfl
theorem d_is : defOf qv ("law" : Str) = some (dL, []) := by kernel_rfl
noncomputable abbrev rK : Hook := kHook KF KA KA_is
theorem segRun_top {tb : String → Option Builtin} {p : Program} {w : World} {n₀ : Nat} {ann : Option Value} : ∀ {n : Nat} {s s' : Shared} {t : Thread} {f : Flow} {c : Code} {q : Pos},
    segRun tb p w n₀ ann 0 n s t = some (f, s', c, q) → topRun tb p w n₀ ann n s t = some s'
  | 0, _, _, _, _, _, _, h => by cases h
  | n + 1, s, s', t, f, c, q, h => by
    unfold segRun at h
    unfold topRun
    have ht : through t = (endAt 0 t).isSome := by
      obtain ⟨cur, code, pos, st⟩ := t
      unfold through endAt
      cases st with
      | nil =>
        cases cur with
        | pure x => cases x <;> rfl
        | _ => rfl
      | cons => rfl
    cases he : endAt 0 t with
    | some x => rw [he] at h ht; rw [ht]; cases h; rfl
    | none =>
      rw [he] at h ht
      rw [ht]
      dsimp only [Option.isSome]
      cases hk : stepOk n₀ ann t with
      | false => rw [hk] at h; cases h
      | true =>
        rw [hk] at h
        cases hs : step (denote tb) p w s t with
        | halt o s₂ => rw [hs] at h; cases h
        | go s₂ t₂ => rw [hs] at h; exact segRun_top h
abbrev topP : Program := PySem.Challenge.rw_on0019_01.row.toRowW.prog
noncomputable def topTree : List Obj → Nat → BT → BT
  | [], _, t => t
  | o :: l, n, t => topTree l (n + 1) (t.ins n o)
noncomputable def topLooked (p q : Program) (loose : List Str) (h₀ : Heap) {α : Type} (Xt : Shared → Bool) (Yf : Shared → α) (s : Shared) :=
  ((staticsOk (importedModules p.main.body) h₀ s.heap && namesBound p s.heap && gensDone s && laidKept h₀ s.heap), openSeen q loose (importedModules p.main.body) Xt true s, Yf s)
theorem topSize : ∀ w : World, ((boot_heap w.params).isNs mainGlobals && (Array.mk [] : Array GenState).size == 0, (boot_heap w.params).objs.size, (boot_heap w.params).nsMap mainGlobals "__annotations__") = (true, 11, some (.ref 6)) := fun w => by kernel_rfl
theorem left_of_two {p q : Program} {loose : List Str} {Xt : Shared → Bool} {α : Type} {Yf : Shared → α} {Ya : World → α} {N : Nat} {sa s1 : World → OsState → SharedT} {env : Env} {p0 p1 p2 qp : Pos} {k n0 n1 n2 n3 : Nat}
    (hop : opening p = plainProg p.main.scope.names) (hN : Nat.ble 600 N = true) (hfe : ∀ s, fenceModules? p s = some s)
    (pre : ∀ (w : World) (os : OsState), topGo treeTable p w 11 (some (.ref 6)) n0 ⟨boot_heap w.params, Array.mk [], boot_drawn, boot_toks, os⟩ (topStub p) = some ((sa w os).abs, ⟨denote treeTable (.body (behindTheImports p) env), .body (behindTheImports p) env, p0, [topFrame qp]⟩))
    (block : ∀ (w : World) (os : OsState), segRunT treeTable p w 11 (some (.ref 6)) 1 n1 (sa w os) (blockOf (behindTheImports p) env (.body (behindTheImports p) env) p0 [topFrame qp]) = some (.next, sa w os, .body (behindTheImports p) env, p1))
    (one : ∀ (w : World) (os : OsState), segRunT treeTable p w 11 (some (.ref 6)) 1 n2 (sa w os) (piecesOf ((behindTheImports p).take k) env (.body (behindTheImports p) env) p1 [topFrame qp]) = some (.next, s1 w os, .body (behindTheImports p) env, p2))
    (two : ∀ (w : World) (os : OsState), (segRunT treeTable p w 11 (some (.ref 6)) 0 n3 (s1 w os) (restOf ((behindTheImports p).drop k) env (.body (behindTheImports p) env) p2 [topFrame qp])).map (fun x => topLooked p q loose (boot_heap w.params) Xt Yf x.2.1.abs) = some (true, openGood q loose, Ya w))
    (le : n0 + (n1 + (n2 + n3)) ≤ N) : LeftO p q loose Xt Yf Ya N := by
  intro w
  have ho := boot_open hop hN hfe w
  have hz := topSize w
  unfold openEnds
  cases hs : fencedOpening treeTable p w N with
  | none => rw [hs] at ho; cases ho
  | some st =>
    rw [hs] at ho
    obtain ⟨hp, gs, d, kk, os⟩ := st
    simp only [Option.map_some, Option.some.injEq, Prod.mk.injEq] at ho
    obtain ⟨h1, h2, h3, h4⟩ := ho
    subst h1 h2 h3 h4
    have ht := two w os
    cases hr : segRunT treeTable p w 11 (some (.ref 6)) 0 n3 (s1 w os) (restOf ((behindTheImports p).drop k) env (.body (behindTheImports p) env) p2 [topFrame qp]) with
    | none => rw [hr] at ht; cases ht
    | some x =>
      rw [hr] at ht
      obtain ⟨fl, sT, cd, ps⟩ := x
      have run := piece_app (segRun_of (one w os)) (segRun_top (segRun_of hr))
      rw [List.take_append_drop] at run
      have whole := topRun_mono (N - (n0 + (n1 + (n2 + n3)))) _ _ _ _ (go_top (pre w os) (piece_block (segRun_of (block w os)) run))
      rw [Nat.add_sub_cancel' le] at whole
      clear run hr hs pre block one two
      generalize hv : sT.abs = v at whole
      simp only [Option.map_some, Option.some.injEq, hv, topLooked, Prod.mk.injEq] at ht hz
      simp only [Option.bind_some, topFrom, hz, whole, ht, Option.map_some]
noncomputable def topPreL (P : Params) : List Obj :=
    (boot_o_0 P) ::
    (boot_o_1 P) ::
    (boot_o_2 P) ::
    (boot_o_3 P) ::
    (boot_o_4 P) ::
    (boot_o_5 P) ::
    (boot_o_6 P) ::
    (boot_o_7 P) ::
    (boot_o_8 P) ::
    (boot_o_9 P) ::
    (boot_o_10 P) ::
    ⟨(.type "tuple"), none, (.seq #[] 0), #[]⟩ ::
    ⟨.none, none, (.fields #[]), #[]⟩ ::
    ⟨(.type "code"), none, (.fields #[(.str "<module>" 182), (.str "<module>" 183), (.str "/claim/cut.py" 184), (.int 1 0), (.int 0 0), (.int 0 0), (.int 0 0), (.int 0 0), (.ref 11), (.bool false), (.int 181 0), (.ref 12), .none, .none, .none, .none, (.int 185 0), (.int 1 0), (.str "/claim/cut.py" 186)]), #[]⟩ ::
    ⟨(.type "frame"), none, .plain, #[(some (.ref 13)), (some (.ref 3)), (some (.ref 3)), none, (some (.str "__main__" 164)), none, (some (.ref 0))]⟩ :: []
noncomputable def topMidL (P : Params) : List Obj :=
    (boot_o_0 P) ::
    (boot_o_1 P) ::
    ⟨.none, none, (.dict #[⟨(PySem.PyData.keyHash P "type.__subclasses__.Exception.0"), (.str "type.__subclasses__.Exception.0" 224), (.int 39 0)⟩, ⟨(PySem.PyData.keyHash P "type.__subclasses__.Exception.n"), (.str "type.__subclasses__.Exception.n" 225), (.int 1 0)⟩] 2), #[]⟩ ::
    ⟨(.type "dict"), none, (.dict #[⟨(PySem.PyData.keyHash P "__name__"), (.str "__name__" 165), (.str "chancore.method_sets" 392)⟩, ⟨(PySem.PyData.keyHash P "__doc__"), (.str "__doc__" 166), .none⟩, ⟨(PySem.PyData.keyHash P "__package__"), (.str "__package__" 167), .none⟩, ⟨(PySem.PyData.keyHash P "__loader__"), (.str "__loader__" 168), (.builtin "__main__.__loader__#opaque")⟩, ⟨(PySem.PyData.keyHash P "__spec__"), (.str "__spec__" 169), .none⟩, ⟨(PySem.PyData.keyHash P "__annotations__"), (.str "__annotations__" 170), (.ref 6)⟩, ⟨(PySem.PyData.keyHash P "__builtins__"), (.str "__builtins__" 171), (.ref 4)⟩, ⟨(PySem.PyData.keyHash P "__file__"), (.str "__file__" 173), (.str "/claim/cut.py" 172)⟩, ⟨(PySem.PyData.keyHash P "__cached__"), (.str "__cached__" 174), .none⟩, ⟨(PySem.PyData.keyHash P "_wall"), (.str "_wall" 193), (.ref 21)⟩, ⟨(PySem.PyData.keyHash P "ChanError"), (.str "ChanError" 227), (.ref 39)⟩, ⟨(PySem.PyData.keyHash P "NameFault"), (.str "NameFault" 243), (.ref 52)⟩, ⟨(PySem.PyData.keyHash P "TypeFault"), (.str "TypeFault" 259), (.ref 64)⟩, ⟨(PySem.PyData.keyHash P "Reached"), (.str "Reached" 292), (.ref 83)⟩, ⟨(PySem.PyData.keyHash P "without_pointer"), (.str "without_pointer" 299), (.ref 94)⟩, ⟨(PySem.PyData.keyHash P "own_methods"), (.str "own_methods" 307), (.ref 101)⟩, ⟨(PySem.PyData.keyHash P "members_at"), (.str "members_at" 313), (.ref 106)⟩, ⟨(PySem.PyData.keyHash P "embedded_in"), (.str "embedded_in" 326), (.ref 113)⟩, ⟨(PySem.PyData.keyHash P "Levels"), (.str "Levels" 368), (.ref 137)⟩, ⟨(PySem.PyData.keyHash P "start_type"), (.str "start_type" 378), (.ref 148)⟩, ⟨(PySem.PyData.keyHash P "find_member"), (.str "find_member" 391), (.ref 155)⟩, ⟨(PySem.PyData.keyHash P "names_of_methods"), (.str "names_of_methods" 407), (.ref 162)⟩] 22), #[]⟩ ::
    (boot_o_4 P) ::
    (boot_o_5 P) ::
    (boot_o_6 P) ::
    (boot_o_7 P) ::
    (boot_o_8 P) ::
    (boot_o_9 P) ::
    (boot_o_10 P) ::
    ⟨(.type "tuple"), none, (.seq #[] 0), #[]⟩ ::
    ⟨.none, none, (.fields #[(.int 1 0), (.int 0 0), (.ref 20), (.int 5 0), (.int 0 0), (.ref 27), (.int 11 0), (.int 0 0), (.ref 48), (.int 13 0), (.int 0 0), (.ref 60), (.int 16 0), (.int 0 0), (.ref 72), (.int 21 0), (.int 0 0), (.ref 93), (.int 23 0), (.int 0 0), (.ref 100), (.int 25 0), (.int 0 0), (.ref 105), (.int 39 0), (.int 0 0), (.ref 112), (.int 47 0), (.int 0 0), (.ref 119), (.int 64 0), (.int 0 0), (.ref 147), (.int 72 0), (.int 0 0), (.ref 154), (.int 88 0), (.int 0 0), (.ref 161)]), #[]⟩ ::
    ⟨(.type "code"), none, (.fields #[(.str "<module>" 182), (.str "<module>" 183), (.str "/claim/cut.py" 184), (.int 1 0), (.int 0 0), (.int 0 0), (.int 0 0), (.int 0 0), (.ref 11), (.bool false), (.int 181 0), (.ref 12), .none, .none, .none, .none, (.int 185 0), (.int 1 0), (.str "/claim/cut.py" 186)]), #[]⟩ ::
    ⟨(.type "frame"), none, .plain, #[(some (.ref 13)), (some (.ref 3)), (some (.ref 3)), none, (some (.str "__main__" 164)), none, (some (.ref 0))]⟩ ::
    ⟨(.type "tuple"), none, (.seq #[] 0), #[]⟩ ::
    ⟨.none, none, (.fields #[]), #[]⟩ ::
    ⟨(.type "tuple"), none, (.seq #[(.str "k" 190)] 0), #[]⟩ ::
    ⟨(.type "tuple"), none, (.seq #[] 0), #[]⟩ ::
    ⟨.none, none, (.func ⟨"_wall", "_wall", p21, (.stmts b21), s21, 0, [], .none, .none, .none, .none, none, .none, .none, 0⟩), #[]⟩ ::
    ⟨(.type "code"), none, (.fields #[(.str "_wall" 187), (.str "_wall" 188), (.str "/claim/cut.py" 189), (.int 1 0), (.int 1 0), (.int 0 0), (.int 0 0), (.int 3 0), (.ref 15), (.bool true), (.int 181 0), (.ref 16), .none, (.ref 17), (.ref 18), (.ref 19), (.int 191 0), (.int 1 0), (.str "/claim/cut.py" 192)]), #[]⟩ ::
    ⟨(.type "function"), none, (.func ⟨"_wall", "_wall", p21, (.stmts b21), s21, 3, [], .none, .none, .none, (.str "__main__" 164), none, (.ref 20), .none, 0⟩), #[]⟩ ::
    ⟨(.type "tuple"), none, (.seq #[(.type "Exception")] 0), #[]⟩ ::
    ⟨(.type "builtin_function_or_method"), none, (.fields #[(.builtin "type.__prepare__"), (.type "type")]), #[]⟩ ::
    ⟨(.type "dict"), none, (.dict #[⟨(PySem.PyData.keyHash P "__module__"), (.str "__module__" 203), (.str "chancore.errors" 194)⟩, ⟨(PySem.PyData.keyHash P "__qualname__"), (.str "__qualname__" 205), (.str "ChanError" 204)⟩, ⟨(PySem.PyData.keyHash P "__firstlineno__"), (.str "__firstlineno__" 207), (.int 5 206)⟩, ⟨(PySem.PyData.keyHash P "__init__"), (.str "__init__" 217), (.ref 36)⟩, ⟨(PySem.PyData.keyHash P "__static_attributes__"), (.str "__static_attributes__" 220), (.ref 37)⟩] 5), #[]⟩ ::
    ⟨(.type "tuple"), none, (.seq #[] 0), #[]⟩ ::
    ⟨.none, none, (.fields #[(.int 7 0), (.int 4 0), (.ref 35)]), #[]⟩ ::
    ⟨(.type "code"), none, (.fields #[(.str "ChanError" 198), (.str "ChanError" 199), (.str "/claim/cut.py" 200), (.int 5 0), (.int 0 0), (.int 0 0), (.int 0 0), (.int 0 0), (.ref 25), (.bool false), (.int 181 0), (.ref 26), .none, .none, .none, .none, (.int 201 0), (.int 5 0), (.str "/claim/cut.py" 202)]), #[]⟩ ::
    ⟨(.type "frame"), none, .plain, #[(some (.ref 27)), (some (.ref 3)), (some (.ref 24)), none, (some (.str "chancore.errors" 194)), none, (some (.ref 0))]⟩ ::
    ⟨(.type "tuple"), none, (.seq #[(.int 0 208)] 0), #[]⟩ ::
    ⟨(.type "tuple"), none, (.seq #[] 0), #[]⟩ ::
    ⟨.none, none, (.fields #[]), #[]⟩ ::
    ⟨(.type "tuple"), none, (.seq #[(.str "self" 212), (.str "message" 213), (.str "spot" 214)] 0), #[]⟩ ::
    ⟨(.type "tuple"), none, (.seq #[] 0), #[]⟩ ::
    ⟨.none, none, (.func ⟨"__init__", "ChanError.__init__", p36, (.stmts b36), s36, 0, [], .none, .none, .none, .none, none, .none, .none, 0⟩), #[]⟩ ::
    ⟨(.type "code"), none, (.fields #[(.str "__init__" 209), (.str "ChanError.__init__" 210), (.str "/claim/cut.py" 211), (.int 7 0), (.int 3 0), (.int 0 0), (.int 0 0), (.int 3 0), (.ref 30), (.bool true), (.int 181 0), (.ref 31), .none, (.ref 32), (.ref 33), (.ref 34), (.int 215 0), (.int 7 0), (.str "/claim/cut.py" 216)]), #[]⟩ ::
    ⟨(.type "function"), none, (.func ⟨"__init__", "ChanError.__init__", p36, (.stmts b36), s36, 3, [], (.ref 29), .none, .none, (.str "chancore.errors" 194), none, (.ref 35), .none, 0⟩), #[]⟩ ::
    ⟨(.type "tuple"), none, (.seq #[(.str "message" 218), (.str "spot" 219)] 0), #[]⟩ ::
    ⟨(.type "dict"), none, (.dict #[⟨(PySem.PyData.keyHash P "__module__"), (.str "__module__" 203), (.str "chancore.errors" 194)⟩, ⟨(PySem.PyData.keyHash P "__firstlineno__"), (.str "__firstlineno__" 207), (.int 5 206)⟩, ⟨(PySem.PyData.keyHash P "__init__"), (.str "__init__" 217), (.ref 36)⟩, ⟨(PySem.PyData.keyHash P "__static_attributes__"), (.str "__static_attributes__" 220), (.ref 37)⟩, ⟨(PySem.PyData.keyHash P "__weakref__"), (.str "__weakref__" 222), (.ref 40)⟩, ⟨(PySem.PyData.keyHash P "__doc__"), (.str "__doc__" 223), .none⟩] 3), #[]⟩ ::
    ⟨(.type "type"), none, (.cls ⟨"ChanError", [(.type "Exception")], [(.ref 39), (.type "Exception"), (.type "BaseException"), (.type "object")], 38, "ChanError", true, [], [(.ref 52), (.ref 64)], false, none, false⟩), #[(some (.ref 22)), none, (some (.str "ChanError" 196)), (some (.str "ChanError" 204)), (some (.builtin "Exception.__new__")), (some (.bool true))]⟩ ::
    ⟨(.type "getset_descriptor"), none, (.fields #[(.str "__weakref__" 221), (.ref 39), (.builtin "ExceptionGroup.__weakref__"), .none]), #[]⟩ ::
    ⟨(.type "super"), none, (.fields #[(.ref 39), (.ref 39), (.ref 39)]), #[]⟩ ::
    ⟨(.type "builtin_function_or_method"), none, (.fields #[(.builtin "object.__init_subclass__"), (.ref 39)]), #[]⟩ ::
    ⟨(.type "tuple"), none, (.seq #[(.ref 39)] 0), #[]⟩ ::
    ⟨(.type "builtin_function_or_method"), none, (.fields #[(.builtin "type.__prepare__"), (.type "type")]), #[]⟩ ::
    ⟨(.type "dict"), none, (.dict #[⟨(PySem.PyData.keyHash P "__module__"), (.str "__module__" 235), (.str "chancore.errors" 194)⟩, ⟨(PySem.PyData.keyHash P "__qualname__"), (.str "__qualname__" 237), (.str "NameFault" 236)⟩, ⟨(PySem.PyData.keyHash P "__firstlineno__"), (.str "__firstlineno__" 239), (.int 11 238)⟩, ⟨(PySem.PyData.keyHash P "__static_attributes__"), (.str "__static_attributes__" 240), (.ref 50)⟩] 4), #[]⟩ ::
    ⟨(.type "tuple"), none, (.seq #[] 0), #[]⟩ ::
    ⟨.none, none, (.fields #[]), #[]⟩ ::
    ⟨(.type "code"), none, (.fields #[(.str "NameFault" 230), (.str "NameFault" 231), (.str "/claim/cut.py" 232), (.int 11 0), (.int 0 0), (.int 0 0), (.int 0 0), (.int 0 0), (.ref 46), (.bool false), (.int 181 0), (.ref 47), .none, .none, .none, .none, (.int 233 0), (.int 11 0), (.str "/claim/cut.py" 234)]), #[]⟩ ::
    ⟨(.type "frame"), none, .plain, #[(some (.ref 48)), (some (.ref 3)), (some (.ref 45)), none, (some (.str "chancore.errors" 194)), none, (some (.ref 0))]⟩ ::
    ⟨(.type "tuple"), none, (.seq #[] 0), #[]⟩ ::
    ⟨(.type "dict"), none, (.dict #[⟨(PySem.PyData.keyHash P "__module__"), (.str "__module__" 235), (.str "chancore.errors" 194)⟩, ⟨(PySem.PyData.keyHash P "__firstlineno__"), (.str "__firstlineno__" 239), (.int 11 238)⟩, ⟨(PySem.PyData.keyHash P "__static_attributes__"), (.str "__static_attributes__" 240), (.ref 50)⟩, ⟨(PySem.PyData.keyHash P "__doc__"), (.str "__doc__" 241), .none⟩] 2), #[]⟩ ::
    ⟨(.type "type"), none, (.cls ⟨"NameFault", [(.ref 39)], [(.ref 52), (.ref 39), (.type "Exception"), (.type "BaseException"), (.type "object")], 51, "NameFault", true, [], [], false, none, false⟩), #[(some (.ref 43)), none, (some (.str "NameFault" 228)), (some (.str "NameFault" 236)), (some (.builtin "Exception.__new__")), (some (.bool true))]⟩ ::
    ⟨(.type "super"), none, (.fields #[(.ref 52), (.ref 52), (.ref 52)]), #[]⟩ ::
    ⟨(.type "builtin_function_or_method"), none, (.fields #[(.builtin "object.__init_subclass__"), (.ref 52)]), #[]⟩ ::
    ⟨(.type "tuple"), none, (.seq #[(.ref 39)] 0), #[]⟩ ::
    ⟨(.type "builtin_function_or_method"), none, (.fields #[(.builtin "type.__prepare__"), (.type "type")]), #[]⟩ ::
    ⟨(.type "dict"), none, (.dict #[⟨(PySem.PyData.keyHash P "__module__"), (.str "__module__" 251), (.str "chancore.errors" 194)⟩, ⟨(PySem.PyData.keyHash P "__qualname__"), (.str "__qualname__" 253), (.str "TypeFault" 252)⟩, ⟨(PySem.PyData.keyHash P "__firstlineno__"), (.str "__firstlineno__" 255), (.int 13 254)⟩, ⟨(PySem.PyData.keyHash P "__static_attributes__"), (.str "__static_attributes__" 256), (.ref 62)⟩] 4), #[]⟩ ::
    ⟨(.type "tuple"), none, (.seq #[] 0), #[]⟩ ::
    ⟨.none, none, (.fields #[]), #[]⟩ ::
    ⟨(.type "code"), none, (.fields #[(.str "TypeFault" 246), (.str "TypeFault" 247), (.str "/claim/cut.py" 248), (.int 13 0), (.int 0 0), (.int 0 0), (.int 0 0), (.int 0 0), (.ref 58), (.bool false), (.int 181 0), (.ref 59), .none, .none, .none, .none, (.int 249 0), (.int 13 0), (.str "/claim/cut.py" 250)]), #[]⟩ ::
    ⟨(.type "frame"), none, .plain, #[(some (.ref 60)), (some (.ref 3)), (some (.ref 57)), none, (some (.str "chancore.errors" 194)), none, (some (.ref 0))]⟩ ::
    ⟨(.type "tuple"), none, (.seq #[] 0), #[]⟩ ::
    ⟨(.type "dict"), none, (.dict #[⟨(PySem.PyData.keyHash P "__module__"), (.str "__module__" 251), (.str "chancore.errors" 194)⟩, ⟨(PySem.PyData.keyHash P "__firstlineno__"), (.str "__firstlineno__" 255), (.int 13 254)⟩, ⟨(PySem.PyData.keyHash P "__static_attributes__"), (.str "__static_attributes__" 256), (.ref 62)⟩, ⟨(PySem.PyData.keyHash P "__doc__"), (.str "__doc__" 257), .none⟩] 2), #[]⟩ ::
    ⟨(.type "type"), none, (.cls ⟨"TypeFault", [(.ref 39)], [(.ref 64), (.ref 39), (.type "Exception"), (.type "BaseException"), (.type "object")], 63, "TypeFault", true, [], [], false, none, false⟩), #[(some (.ref 55)), none, (some (.str "TypeFault" 244)), (some (.str "TypeFault" 252)), (some (.builtin "Exception.__new__")), (some (.bool true))]⟩ ::
    ⟨(.type "super"), none, (.fields #[(.ref 64), (.ref 64), (.ref 64)]), #[]⟩ ::
    ⟨(.type "builtin_function_or_method"), none, (.fields #[(.builtin "object.__init_subclass__"), (.ref 64)]), #[]⟩ ::
    ⟨(.type "tuple"), none, (.seq #[] 0), #[]⟩ ::
    ⟨(.type "builtin_function_or_method"), none, (.fields #[(.builtin "type.__prepare__"), (.type "type")]), #[]⟩ ::
    ⟨(.type "dict"), none, (.dict #[⟨(PySem.PyData.keyHash P "__module__"), (.str "__module__" 269), (.str "chancore.lookup" 260)⟩, ⟨(PySem.PyData.keyHash P "__qualname__"), (.str "__qualname__" 271), (.str "Reached" 270)⟩, ⟨(PySem.PyData.keyHash P "__firstlineno__"), (.str "__firstlineno__" 273), (.int 16 272)⟩, ⟨(PySem.PyData.keyHash P "__init__"), (.str "__init__" 282), (.ref 80)⟩, ⟨(PySem.PyData.keyHash P "__static_attributes__"), (.str "__static_attributes__" 285), (.ref 81)⟩] 5), #[]⟩ ::
    ⟨(.type "tuple"), none, (.seq #[] 0), #[]⟩ ::
    ⟨.none, none, (.fields #[(.int 18 0), (.int 4 0), (.ref 79)]), #[]⟩ ::
    ⟨(.type "code"), none, (.fields #[(.str "Reached" 264), (.str "Reached" 265), (.str "/claim/cut.py" 266), (.int 16 0), (.int 0 0), (.int 0 0), (.int 0 0), (.int 0 0), (.ref 70), (.bool false), (.int 181 0), (.ref 71), .none, .none, .none, .none, (.int 267 0), (.int 16 0), (.str "/claim/cut.py" 268)]), #[]⟩ ::
    ⟨(.type "frame"), none, .plain, #[(some (.ref 72)), (some (.ref 3)), (some (.ref 69)), none, (some (.str "chancore.lookup" 260)), none, (some (.ref 0))]⟩ ::
    ⟨(.type "tuple"), none, (.seq #[] 0), #[]⟩ ::
    ⟨.none, none, (.fields #[]), #[]⟩ ::
    ⟨(.type "tuple"), none, (.seq #[(.str "self" 277), (.str "told" 278), (.str "steps" 279)] 0), #[]⟩ ::
    ⟨(.type "tuple"), none, (.seq #[] 0), #[]⟩ ::
    ⟨.none, none, (.func ⟨"__init__", "Reached.__init__", p80, (.stmts b80), s80, 0, [], .none, .none, .none, .none, none, .none, .none, 0⟩), #[]⟩ ::
    ⟨(.type "code"), none, (.fields #[(.str "__init__" 274), (.str "Reached.__init__" 275), (.str "/claim/cut.py" 276), (.int 18 0), (.int 3 0), (.int 0 0), (.int 0 0), (.int 3 0), (.ref 74), (.bool true), (.int 181 0), (.ref 75), .none, (.ref 76), (.ref 77), (.ref 78), (.int 280 0), (.int 18 0), (.str "/claim/cut.py" 281)]), #[]⟩ ::
    ⟨(.type "function"), none, (.func ⟨"__init__", "Reached.__init__", p80, (.stmts b80), s80, 3, [], .none, .none, .none, (.str "chancore.lookup" 260), none, (.ref 79), .none, 0⟩), #[]⟩ ::
    ⟨(.type "tuple"), none, (.seq #[(.str "steps" 283), (.str "told" 284)] 0), #[]⟩ ::
    ⟨(.type "dict"), none, (.dict #[⟨(PySem.PyData.keyHash P "__module__"), (.str "__module__" 269), (.str "chancore.lookup" 260)⟩, ⟨(PySem.PyData.keyHash P "__firstlineno__"), (.str "__firstlineno__" 273), (.int 16 272)⟩, ⟨(PySem.PyData.keyHash P "__init__"), (.str "__init__" 282), (.ref 80)⟩, ⟨(PySem.PyData.keyHash P "__static_attributes__"), (.str "__static_attributes__" 285), (.ref 81)⟩, ⟨(PySem.PyData.keyHash P "__dict__"), (.str "__dict__" 287), (.ref 84)⟩, ⟨(PySem.PyData.keyHash P "__weakref__"), (.str "__weakref__" 289), (.ref 85)⟩, ⟨(PySem.PyData.keyHash P "__doc__"), (.str "__doc__" 290), .none⟩] 4), #[]⟩ ::
    ⟨(.type "type"), none, (.cls ⟨"Reached", [(.type "object")], [(.ref 83), (.type "object")], 82, "Reached", true, [], [], false, none, false⟩), #[none, none, (some (.str "Reached" 262)), (some (.str "Reached" 270)), (some (.builtin "object.__new__")), (some (.bool true))]⟩ ::
    ⟨(.type "getset_descriptor"), none, (.fields #[(.str "__dict__" 286), (.ref 83), (.builtin "function.__dict__"), (.builtin "function.__dict__#set")]), #[]⟩ ::
    ⟨(.type "getset_descriptor"), none, (.fields #[(.str "__weakref__" 288), (.ref 83), (.builtin "ExceptionGroup.__weakref__"), .none]), #[]⟩ ::
    ⟨(.type "super"), none, (.fields #[(.ref 83), (.ref 83), (.ref 83)]), #[]⟩ ::
    ⟨(.type "builtin_function_or_method"), none, (.fields #[(.builtin "object.__init_subclass__"), (.ref 83)]), #[]⟩ ::
    ⟨(.type "tuple"), none, (.seq #[] 0), #[]⟩ ::
    ⟨.none, none, (.fields #[]), #[]⟩ ::
    ⟨(.type "tuple"), none, (.seq #[(.str "told" 296)] 0), #[]⟩ ::
    ⟨(.type "tuple"), none, (.seq #[] 0), #[]⟩ ::
    ⟨.none, none, (.func ⟨"without_pointer", "without_pointer", p94, (.stmts b94), s94, 0, [], .none, .none, .none, .none, none, .none, .none, 0⟩), #[]⟩ ::
    ⟨(.type "code"), none, (.fields #[(.str "without_pointer" 293), (.str "without_pointer" 294), (.str "/claim/cut.py" 295), (.int 21 0), (.int 1 0), (.int 0 0), (.int 0 0), (.int 3 0), (.ref 88), (.bool true), (.int 181 0), (.ref 89), .none, (.ref 90), (.ref 91), (.ref 92), (.int 297 0), (.int 21 0), (.str "/claim/cut.py" 298)]), #[]⟩ ::
    ⟨(.type "function"), none, (.func ⟨"without_pointer", "without_pointer", p94, (.stmts b94), s94, 3, [], .none, .none, .none, (.str "chancore.lookup" 260), none, (.ref 93), .none, 0⟩), #[]⟩ ::
    ⟨(.type "tuple"), none, (.seq #[] 0), #[]⟩ ::
    ⟨.none, none, (.fields #[]), #[]⟩ ::
    ⟨(.type "tuple"), none, (.seq #[(.str "world" 303), (.str "told" 304)] 0), #[]⟩ ::
    ⟨(.type "tuple"), none, (.seq #[] 0), #[]⟩ ::
    ⟨.none, none, (.func ⟨"own_methods", "own_methods", p101, (.stmts b101), s101, 0, [], .none, .none, .none, .none, none, .none, .none, 0⟩), #[]⟩ ::
    ⟨(.type "code"), none, (.fields #[(.str "own_methods" 300), (.str "own_methods" 301), (.str "/claim/cut.py" 302), (.int 23 0), (.int 2 0), (.int 0 0), (.int 0 0), (.int 3 0), (.ref 95), (.bool true), (.int 181 0), (.ref 96), .none, (.ref 97), (.ref 98), (.ref 99), (.int 305 0), (.int 23 0), (.str "/claim/cut.py" 306)]), #[]⟩ ::
    ⟨(.type "function"), none, (.func ⟨"own_methods", "own_methods", p101, (.stmts b101), s101, 3, [], .none, .none, .none, (.str "chancore.lookup" 260), none, (.ref 100), .none, 0⟩), #[]⟩ ::
    ⟨(.type "tuple"), none, (.seq #[] 0), #[]⟩ ::
    ⟨.none, none, (.fields #[]), #[]⟩ ::
    ⟨.none, none, (.func ⟨"members_at", "members_at", p106, (.stmts b106), s106, 0, [], .none, .none, .none, .none, none, .none, .none, 0⟩), #[]⟩ ::
    ⟨(.type "code"), none, (.fields #[(.str "members_at" 308), (.str "members_at" 309), (.str "/claim/cut.py" 310), (.int 25 0), (.int 3 0), (.int 0 0), (.int 0 0), (.int 3 0), (.ref 102), (.bool true), (.int 181 0), (.ref 103), .none, .none, .none, (.ref 104), (.int 311 0), (.int 25 0), (.str "/claim/cut.py" 312)]), #[]⟩ ::
    ⟨(.type "function"), none, (.func ⟨"members_at", "members_at", p106, (.stmts b106), s106, 3, [], .none, .none, .none, (.str "chancore.lookup" 260), none, (.ref 105), .none, 0⟩), #[]⟩ ::
    ⟨(.type "tuple"), none, (.seq #[] 0), #[]⟩ ::
    ⟨.none, none, (.fields #[]), #[]⟩ ::
    ⟨(.type "tuple"), none, (.seq #[(.str "world" 317), (.str "reached" 318), (.str "base" 319), (.str "found" 320), (.str "k" 321), (.str "row" 322), (.str "is_pointer" 323)] 0), #[]⟩ ::
    ⟨(.type "tuple"), none, (.seq #[] 0), #[]⟩ ::
    ⟨.none, none, (.func ⟨"embedded_in", "embedded_in", p113, (.stmts b113), s113, 0, [], .none, .none, .none, .none, none, .none, .none, 0⟩), #[]⟩ ::
    ⟨(.type "code"), none, (.fields #[(.str "embedded_in" 314), (.str "embedded_in" 315), (.str "/claim/cut.py" 316), (.int 39 0), (.int 2 0), (.int 0 0), (.int 0 0), (.int 3 0), (.ref 107), (.bool true), (.int 181 0), (.ref 108), .none, (.ref 109), (.ref 110), (.ref 111), (.int 324 0), (.int 39 0), (.str "/claim/cut.py" 325)]), #[]⟩ ::
    ⟨(.type "function"), none, (.func ⟨"embedded_in", "embedded_in", p113, (.stmts b113), s113, 3, [], .none, .none, .none, (.str "chancore.lookup" 260), none, (.ref 112), .none, 0⟩), #[]⟩ ::
    ⟨(.type "tuple"), none, (.seq #[] 0), #[]⟩ ::
    ⟨(.type "builtin_function_or_method"), none, (.fields #[(.builtin "type.__prepare__"), (.type "type")]), #[]⟩ ::
    ⟨(.type "dict"), none, (.dict #[⟨(PySem.PyData.keyHash P "__module__"), (.str "__module__" 334), (.str "chancore.lookup" 260)⟩, ⟨(PySem.PyData.keyHash P "__qualname__"), (.str "__qualname__" 336), (.str "Levels" 335)⟩, ⟨(PySem.PyData.keyHash P "__firstlineno__"), (.str "__firstlineno__" 338), (.int 47 337)⟩, ⟨(PySem.PyData.keyHash P "__init__"), (.str "__init__" 347), (.ref 127)⟩, ⟨(PySem.PyData.keyHash P "go_on"), (.str "go_on" 357), (.ref 134)⟩, ⟨(PySem.PyData.keyHash P "__static_attributes__"), (.str "__static_attributes__" 361), (.ref 135)⟩] 6), #[]⟩ ::
    ⟨(.type "tuple"), none, (.seq #[] 0), #[]⟩ ::
    ⟨.none, none, (.fields #[(.int 49 0), (.int 4 0), (.ref 126), (.int 54 0), (.int 4 0), (.ref 133)]), #[]⟩ ::
    ⟨(.type "code"), none, (.fields #[(.str "Levels" 329), (.str "Levels" 330), (.str "/claim/cut.py" 331), (.int 47 0), (.int 0 0), (.int 0 0), (.int 0 0), (.int 0 0), (.ref 117), (.bool false), (.int 181 0), (.ref 118), .none, .none, .none, .none, (.int 332 0), (.int 47 0), (.str "/claim/cut.py" 333)]), #[]⟩ ::
    ⟨(.type "frame"), none, .plain, #[(some (.ref 119)), (some (.ref 3)), (some (.ref 116)), none, (some (.str "chancore.lookup" 260)), none, (some (.ref 0))]⟩ ::
    ⟨(.type "tuple"), none, (.seq #[] 0), #[]⟩ ::
    ⟨.none, none, (.fields #[]), #[]⟩ ::
    ⟨(.type "tuple"), none, (.seq #[(.str "self" 342), (.str "world" 343), (.str "told" 344)] 0), #[]⟩ ::
    ⟨(.type "tuple"), none, (.seq #[] 0), #[]⟩ ::
    ⟨.none, none, (.func ⟨"__init__", "Levels.__init__", p127, (.stmts b127), s127, 0, [], .none, .none, .none, .none, none, .none, .none, 0⟩), #[]⟩ ::
    ⟨(.type "code"), none, (.fields #[(.str "__init__" 339), (.str "Levels.__init__" 340), (.str "/claim/cut.py" 341), (.int 49 0), (.int 3 0), (.int 0 0), (.int 0 0), (.int 3 0), (.ref 121), (.bool true), (.int 181 0), (.ref 122), .none, (.ref 123), (.ref 124), (.ref 125), (.int 345 0), (.int 49 0), (.str "/claim/cut.py" 346)]), #[]⟩ ::
    ⟨(.type "function"), none, (.func ⟨"__init__", "Levels.__init__", p127, (.stmts b127), s127, 3, [], .none, .none, .none, (.str "chancore.lookup" 260), none, (.ref 126), .none, 0⟩), #[]⟩ ::
    ⟨(.type "tuple"), none, (.seq #[] 0), #[]⟩ ::
    ⟨.none, none, (.fields #[]), #[]⟩ ::
    ⟨(.type "tuple"), none, (.seq #[(.str "self" 351), (.str "reached" 352), (.str "later" 353), (.str "inner" 354)] 0), #[]⟩ ::
    ⟨(.type "tuple"), none, (.seq #[] 0), #[]⟩ ::
    ⟨.none, none, (.func ⟨"go_on", "Levels.go_on", p134, (.stmts b134), s134, 0, [], .none, .none, .none, .none, none, .none, .none, 0⟩), #[]⟩ ::
    ⟨(.type "code"), none, (.fields #[(.str "go_on" 348), (.str "Levels.go_on" 349), (.str "/claim/cut.py" 350), (.int 54 0), (.int 1 0), (.int 0 0), (.int 0 0), (.int 3 0), (.ref 128), (.bool true), (.int 181 0), (.ref 129), .none, (.ref 130), (.ref 131), (.ref 132), (.int 355 0), (.int 54 0), (.str "/claim/cut.py" 356)]), #[]⟩ ::
    ⟨(.type "function"), none, (.func ⟨"go_on", "Levels.go_on", p134, (.stmts b134), s134, 3, [], .none, .none, .none, (.str "chancore.lookup" 260), none, (.ref 133), .none, 0⟩), #[]⟩ ::
    ⟨(.type "tuple"), none, (.seq #[(.str "here" 358), (.str "seen" 359), (.str "world" 360)] 0), #[]⟩ ::
    ⟨(.type "dict"), none, (.dict #[⟨(PySem.PyData.keyHash P "__module__"), (.str "__module__" 334), (.str "chancore.lookup" 260)⟩, ⟨(PySem.PyData.keyHash P "__firstlineno__"), (.str "__firstlineno__" 338), (.int 47 337)⟩, ⟨(PySem.PyData.keyHash P "__init__"), (.str "__init__" 347), (.ref 127)⟩, ⟨(PySem.PyData.keyHash P "go_on"), (.str "go_on" 357), (.ref 134)⟩, ⟨(PySem.PyData.keyHash P "__static_attributes__"), (.str "__static_attributes__" 361), (.ref 135)⟩, ⟨(PySem.PyData.keyHash P "__dict__"), (.str "__dict__" 363), (.ref 138)⟩, ⟨(PySem.PyData.keyHash P "__weakref__"), (.str "__weakref__" 365), (.ref 139)⟩, ⟨(PySem.PyData.keyHash P "__doc__"), (.str "__doc__" 366), .none⟩] 4), #[]⟩ ::
    ⟨(.type "type"), none, (.cls ⟨"Levels", [(.type "object")], [(.ref 137), (.type "object")], 136, "Levels", true, [], [], false, none, false⟩), #[none, none, (some (.str "Levels" 327)), (some (.str "Levels" 335)), (some (.builtin "object.__new__")), (some (.bool true))]⟩ ::
    ⟨(.type "getset_descriptor"), none, (.fields #[(.str "__dict__" 362), (.ref 137), (.builtin "function.__dict__"), (.builtin "function.__dict__#set")]), #[]⟩ ::
    ⟨(.type "getset_descriptor"), none, (.fields #[(.str "__weakref__" 364), (.ref 137), (.builtin "ExceptionGroup.__weakref__"), .none]), #[]⟩ ::
    ⟨(.type "super"), none, (.fields #[(.ref 137), (.ref 137), (.ref 137)]), #[]⟩ ::
    ⟨(.type "builtin_function_or_method"), none, (.fields #[(.builtin "object.__init_subclass__"), (.ref 137)]), #[]⟩ ::
    ⟨(.type "tuple"), none, (.seq #[] 0), #[]⟩ ::
    ⟨.none, none, (.fields #[]), #[]⟩ ::
    ⟨(.type "tuple"), none, (.seq #[(.str "world" 372), (.str "told" 373), (.str "inner" 374), (.str "base" 375)] 0), #[]⟩ ::
    ⟨(.type "tuple"), none, (.seq #[] 0), #[]⟩ ::
    ⟨.none, none, (.func ⟨"start_type", "start_type", p148, (.stmts b148), s148, 0, [], .none, .none, .none, .none, none, .none, .none, 0⟩), #[]⟩ ::
    ⟨(.type "code"), none, (.fields #[(.str "start_type" 369), (.str "start_type" 370), (.str "/claim/cut.py" 371), (.int 64 0), (.int 2 0), (.int 0 0), (.int 0 0), (.int 3 0), (.ref 142), (.bool true), (.int 181 0), (.ref 143), .none, (.ref 144), (.ref 145), (.ref 146), (.int 376 0), (.int 64 0), (.str "/claim/cut.py" 377)]), #[]⟩ ::
    ⟨(.type "function"), none, (.func ⟨"start_type", "start_type", p148, (.stmts b148), s148, 3, [], .none, .none, .none, (.str "chancore.lookup" 260), none, (.ref 147), .none, 0⟩), #[]⟩ ::
    ⟨(.type "tuple"), none, (.seq #[] 0), #[]⟩ ::
    ⟨.none, none, (.fields #[]), #[]⟩ ::
    ⟨(.type "tuple"), none, (.seq #[(.str "world" 382), (.str "told" 383), (.str "name" 384), (.str "begun" 385), (.str "levels" 386), (.str "found" 387), (.str "reached" 388)] 0), #[]⟩ ::
    ⟨(.type "tuple"), none, (.seq #[] 0), #[]⟩ ::
    ⟨.none, none, (.func ⟨"find_member", "find_member", p155, (.stmts b155), s155, 0, [], .none, .none, .none, .none, none, .none, .none, 0⟩), #[]⟩ ::
    ⟨(.type "code"), none, (.fields #[(.str "find_member" 379), (.str "find_member" 380), (.str "/claim/cut.py" 381), (.int 72 0), (.int 3 0), (.int 0 0), (.int 0 0), (.int 3 0), (.ref 149), (.bool true), (.int 181 0), (.ref 150), .none, (.ref 151), (.ref 152), (.ref 153), (.int 389 0), (.int 72 0), (.str "/claim/cut.py" 390)]), #[]⟩ ::
    ⟨(.type "function"), none, (.func ⟨"find_member", "find_member", p155, (.stmts b155), s155, 3, [], .none, .none, .none, (.str "chancore.lookup" 260), none, (.ref 154), .none, 0⟩), #[]⟩ ::
    ⟨(.type "tuple"), none, (.seq #[] 0), #[]⟩ ::
    ⟨.none, none, (.fields #[]), #[]⟩ ::
    ⟨(.type "tuple"), none, (.seq #[(.str "world" 397), (.str "told" 398), (.str "levels" 399), (.str "found" 400), (.str "reached" 401), (.str "base" 402), (.str "name" 403), (.str "func" 404)] 0), #[]⟩ ::
    ⟨(.type "tuple"), none, (.seq #[] 0), #[]⟩ ::
    ⟨.none, none, (.func ⟨"names_of_methods", "names_of_methods", p162, (.stmts b162), s162, 0, [], .none, .none, .none, .none, none, .none, .none, 0⟩), #[]⟩ ::
    ⟨(.type "code"), none, (.fields #[(.str "names_of_methods" 394), (.str "names_of_methods" 395), (.str "/claim/cut.py" 396), (.int 88 0), (.int 2 0), (.int 0 0), (.int 0 0), (.int 3 0), (.ref 156), (.bool true), (.int 181 0), (.ref 157), .none, (.ref 158), (.ref 159), (.ref 160), (.int 405 0), (.int 88 0), (.str "/claim/cut.py" 406)]), #[]⟩ ::
    ⟨(.type "function"), none, (.func ⟨"names_of_methods", "names_of_methods", p162, (.stmts b162), s162, 3, [], .none, .none, .none, (.str "chancore.method_sets" 392), none, (.ref 161), .none, 0⟩), #[]⟩ :: []
noncomputable def topSa (w : World) (os : OsState) : SharedT := ⟨topTree (topPreL w.params) 0 .nil, 15, {}, Array.mk [], {}, 187, os⟩
noncomputable def topSm (w : World) (os : OsState) : SharedT := ⟨topTree (topMidL w.params) 0 .nil, 163, {}, Array.mk [], {}, 408, os⟩
noncomputable def topEnv : Env := { scope := topP.main.scope, locals := mainNs, globals := mainNs, cells := [], code := .ref 13, frame := some 14 }
theorem topPre : ∀ (w : World) (os : OsState), topGo treeTable topP w 11 (some (.ref 6)) 12 ⟨boot_heap w.params, Array.mk [], boot_drawn, boot_toks, os⟩ (topStub topP) =
    some ((topSa w os).abs, ⟨denote treeTable (.body (behindTheImports topP) topEnv), .body (behindTheImports topP) topEnv, ⟨0, 0, 0, 0⟩, [topFrame ⟨0, 0, 0, 0⟩]⟩) := fun w os => by kernel_rfl
theorem topBlock : ∀ (w : World) (os : OsState), segRunT treeTable topP w 11 (some (.ref 6)) 1 1 (topSa w os) (blockOf (behindTheImports topP) topEnv (.body (behindTheImports topP) topEnv) ⟨0, 0, 0, 0⟩ [topFrame ⟨0, 0, 0, 0⟩]) =
    some (.next, topSa w os, .body (behindTheImports topP) topEnv, ⟨0, 0, 0, 0⟩) := fun w os => by kernel_rfl
theorem topRun1 : ∀ (w : World) (os : OsState), segRunT treeTable topP w 11 (some (.ref 6)) 1 1500 (topSa w os) (piecesOf ((behindTheImports topP).take 16) topEnv (.body (behindTheImports topP) topEnv) ⟨0, 0, 0, 0⟩ [topFrame ⟨0, 0, 0, 0⟩]) =
    some (.next, topSm w os, .body (behindTheImports topP) topEnv, ⟨88, 0, 98, 24⟩) := fun w os => by kernel_rfl
theorem topRun2 : ∀ (w : World) (os : OsState), (segRunT treeTable topP w 11 (some (.ref 6)) 0 3000 (topSm w os) (restOf ((behindTheImports topP).drop 16) topEnv (.body (behindTheImports topP) topEnv) ⟨88, 0, 98, 24⟩ [topFrame ⟨0, 0, 0, 0⟩])).map
    (fun x => topLooked topP qv looseQ (boot_heap w.params) (fun s => recOk (RowW.records PySem.Challenge.rw_on0019_01.row.toRowW) s) rK.obs x.2.1.abs) = some (true, openGood qv looseQ, rK.val w) := fun w os => by kernel_rfl
theorem left : LeftO topP qv looseQ (fun s => recOk (RowW.records PySem.Challenge.rw_on0019_01.row.toRowW) s) rK.obs rK.val 4890 :=
  left_of_two (by kernel_rfl) (by decide) (fun s => rfl) topPre topBlock topRun1 topRun2 (by decide)
theorem hd (call : WalkO qv looseQ (fun _ _ => True) rK.says PySem.Challenge.rw_on0019_01.row.toRowW dL [] (fun f vs => PySem.call f vs)) : PySem.Challenge.rw_on0019_01.Holds := by
  refine holds_law (by decide +kernel) fun said => ?_
  refine holds_open (q := qv) (loose := looseQ) (Xt := fun s => recOk (RowW.records PySem.Challenge.rw_on0019_01.row.toRowW) s) (XP := fun _ _ => True) (N := 4890) left (Hook.of rK) (Hook.keeps rK) (fun _ _ => trivial) (fun _ _ _ _ _ => trivial) (by exact d_is) (by kernel_rfl) (by kernel_rfl) (fun s e => recFacts_of e) rfl said (by decide +kernel) ⟨rfl, rfl, rfl, rfl, rfl, by decide +kernel⟩ ?_ call
  w_witness2
end Mine
section
namespace Mine
/-- values as trees: ints, strs, tuples by content; all else as it stands -/
inductive AV where
  | c (v : Value)
  | i (x : Int)
  | s (x : Str)
  | t (l : List AV)
inductive AO where
  | lst (l : List AV)
  | dct (l : List (Str × AV))
  | ins (C d : Addr)
  | exc (C : Addr) (dd : Option Addr)
abbrev Store := Addr → Option AO
abbrev Vars := Str → Option AV
noncomputable def Store.set (σ : Store) (a : Addr) (o : AO) : Store := fun b => if b = a then some o else σ b
noncomputable def Store.del (σ : Store) (a : Addr) : Store := fun b => if b = a then none else σ b
noncomputable def Vars.set (m : Vars) (x : Str) (d : AV) : Vars := fun y => if y = x then some d else m y
theorem Store.set_self {σ : Store} {a : Addr} {o : AO} : σ.set a o a = some o := by simp [Store.set]
theorem Store.set_ne {σ : Store} {a b : Addr} {o : AO} (h : b ≠ a) : σ.set a o b = σ b := by simp [Store.set, h]
theorem Store.del_self {σ : Store} {a : Addr} : σ.del a a = none := by simp [Store.del]
theorem Store.del_ne {σ : Store} {a b : Addr} (h : b ≠ a) : σ.del a b = σ b := by simp [Store.del, h]
mutual
noncomputable def Rep (h : Heap) : AV → Value → Prop
  | .c w, v => v = w
  | .i x, v => ∃ t, v = .int x t
  | .s x, v => ∃ t, v = .str x t
  | .t l, v => ∃ a vs, v = .ref a ∧ IsTup h a vs.toArray ∧ RepL h l vs
noncomputable def RepL (h : Heap) : List AV → List Value → Prop
  | [], vs => vs = []
  | d :: l, vs => ∃ v r, vs = v :: r ∧ Rep h d v ∧ RepL h l r
end
noncomputable def Grow (h h' : Heap) : Prop := ∀ a items, IsTup h a items → IsTup h' a items
theorem Grow.refl (h : Heap) : Grow h h := fun _ _ x => x
theorem Grow.trans {h h' h'' : Heap} (x : Grow h h') (y : Grow h' h'') : Grow h h'' := fun a i t => y a i (x a i t)
mutual
theorem Rep.grow {h h' : Heap} (g : Grow h h') : ∀ {d : AV} {v : Value}, Rep h d v → Rep h' d v
  | .c _, _, x => by simpa only [Rep] using x
  | .i _, _, x => by simpa only [Rep] using x
  | .s _, _, x => by simpa only [Rep] using x
  | .t l, v, x => by
    simp only [Rep] at x ⊢
    obtain ⟨a, vs, e, ht, hr⟩ := x
    exact ⟨a, vs, e, g _ _ ht, RepL.grow g hr⟩
theorem RepL.grow {h h' : Heap} (g : Grow h h') : ∀ {l : List AV} {vs : List Value}, RepL h l vs → RepL h' l vs
  | [], _, x => by simpa only [RepL] using x
  | d :: l, vs, x => by
    simp only [RepL] at x ⊢
    obtain ⟨v, r, e, hd, hl⟩ := x
    exact ⟨v, r, e, Rep.grow g hd, RepL.grow g hl⟩
end
theorem RepL.length {h : Heap} : ∀ {l : List AV} {vs : List Value}, RepL h l vs → vs.length = l.length
  | [], _, x => by simp only [RepL] at x; subst x; rfl
  | d :: l, vs, x => by
    simp only [RepL] at x
    obtain ⟨v, r, e, hd, hl⟩ := x
    subst e
    simp [hl.length]
theorem RepL.get {h : Heap} : ∀ {l : List AV} {vs : List Value} {j : Nat} {d : AV}, RepL h l vs → l[j]? = some d → ∃ v, vs[j]? = some v ∧ Rep h d v
  | [], _, _, _, _, e => by simp at e
  | d :: l, vs, j, d', x, e => by
    simp only [RepL] at x
    obtain ⟨v, r, rfl, hd, hl⟩ := x
    cases j with
    | zero => simp at e; subst e; exact ⟨v, rfl, hd⟩
    | succ j => simp at e; obtain ⟨v', e', h'⟩ := hl.get e; exact ⟨v', by simpa using e', h'⟩
theorem RepL.append {h : Heap} : ∀ {l l' : List AV} {vs vs' : List Value}, RepL h l vs → RepL h l' vs' → RepL h (l ++ l') (vs ++ vs')
  | [], _, _, _, x, y => by simp only [RepL] at x; subst x; simpa using y
  | d :: l, _, vs, _, x, y => by
    simp only [RepL] at x
    obtain ⟨v, r, rfl, hd, hl⟩ := x
    simp only [List.cons_append, RepL]
    exact ⟨v, _, rfl, hd, hl.append y⟩
theorem RepL.nil {h : Heap} : RepL h [] [] := by simp only [RepL]
theorem RepL.cons {h : Heap} {d : AV} {v : Value} {l : List AV} {vs : List Value} (x : Rep h d v) (y : RepL h l vs) : RepL h (d :: l) (v :: vs) := by
  simp only [RepL]; exact ⟨v, vs, rfl, x, y⟩
/-- what a heap's object at an address is -/
noncomputable def ObjIs (prog : Program) (w : World) (h : Heap) (a : Addr) : AO → Prop
  | .lst l => ∃ vs n, h.get? a = some (listOf vs.toArray n) ∧ RepL h l vs
  | .dct l => ∃ kvs, h.DictOf (strKind prog w) a kvs ∧ kvs.map (·.1) = l.map (·.1) ∧ RepL h (l.map (·.2)) (kvs.map (·.2))
  | .ins C d => h.get? a = some (instObj C d)
  | .exc C dd => ∃ t : Addr, h.get? a = some { cls := .ref C, dict := dd, data := .fields #[.ref t, .none, .none, .none, .bool false, .none] }
theorem isTup_of_get {h h' : Heap} {a : Addr} {items : Array Value} (x : IsTup h a items) (e : ∀ o, h.get? a = some o → h'.get? a = some o) : IsTup h' a items :=
  let ⟨o, ho, r⟩ := x; ⟨o, e _ ho, r⟩
theorem dictOf_of_get {prog : Program} {w : World} {h h' : Heap} {a : Addr} {kvs : List (Str × Value)} (x : h.DictOf (strKind prog w) a kvs) (e : ∀ o, h.get? a = some o → h'.get? a = some o) :
    h'.DictOf (strKind prog w) a kvs := let ⟨o, es, ep, ho, r⟩ := x; ⟨o, es, ep, e _ ho, r⟩
theorem ObjIs.of_get {prog : Program} {w : World} {h h' : Heap} (g : Grow h h') {a : Addr} {o : AO} (e : ∀ x, h.get? a = some x → h'.get? a = some x) (q : ObjIs prog w h a o) : ObjIs prog w h' a o := by
  cases o with
  | lst l => obtain ⟨vs, n, hg, hr⟩ := q; exact ⟨vs, n, e _ hg, hr.grow g⟩
  | dct l => obtain ⟨kvs, hd, hk, hr⟩ := q; exact ⟨kvs, dictOf_of_get hd e, hk, hr.grow g⟩
  | ins C d => exact e _ q
  | exc C dd => obtain ⟨t, h1⟩ := q; exact ⟨t, e _ h1⟩
theorem ObjIs.alloc {prog : Program} {w : World} {h : Heap} {a : Addr} {o : AO} (q : ObjIs prog w h a o) : ∃ x, h.get? a = some x ∧ x.cls ≠ .type "tuple" := by
  cases o with
  | lst l => obtain ⟨vs, n, hg, hr⟩ := q; exact ⟨_, hg, by simp⟩
  | dct l => obtain ⟨kvs, ⟨o, es, ep, ho, hx, _⟩, hk, hr⟩ := q; exact ⟨o, ho, by rw [hx.1]; simp⟩
  | ins C d => exact ⟨_, q, by simp⟩
  | exc C dd => obtain ⟨t, h1⟩ := q; exact ⟨_, h1, by simp⟩
/-- the constants of a run -/
structure Bs where
  prog : Program
  w : World
  hT : Heap
/-- the constants of a frame's walk -/
structure Cx extends Bs where
  own : Addr → Prop
  G : Shared → Store → Prop
/-- the frames that are open -/
noncomputable def frs (A : Around) (b : Addr) : Prop := ∃ outer, A.frames = some outer ∧ ∃ e ∈ outer, e.frame = some b
structure Stp (own fr : Addr → Prop) (σ σ' : Store) (s s' : Shared) : Prop where
  keep : ∀ b o, s.heap.get? b = some o → σ b = none → ¬ own b → ¬ fr b → s'.heap.get? b = some o
  outk : ∀ b o, s.heap.get? b = some o → σ b = none → ¬ own b → fr b → ∃ sl, s'.heap.get? b = some { o with slots := sl }
  dom : ∀ b, σ' b ≠ none → σ b ≠ none ∨ s.heap.get? b = none
  mono : ∀ b o, s.heap.get? b = some o → ∃ o', s'.heap.get? b = some o'
  tup : Grow s.heap s'.heap
  same : ∃ h' tk, s' = { s with heap := h', toks := tk }
theorem Stp.refl {own fr : Addr → Prop} {σ : Store} {s : Shared} : Stp own fr σ σ s s :=
  ⟨fun _ _ e _ _ _ => e, fun _ o e _ _ _ => ⟨o.slots, e⟩, fun _ h => .inl h, fun _ o e => ⟨o, e⟩, .refl _, ⟨s.heap, s.toks, rfl⟩⟩
theorem Stp.trans {own fr : Addr → Prop} {σ σ' σ'' : Store} {s s' s'' : Shared} (x : Stp own fr σ σ' s s') (y : Stp own fr σ' σ'' s' s'') : Stp own fr σ σ'' s s'' := by
  have none' : ∀ b, s.heap.get? b ≠ none → s'.heap.get? b ≠ none := fun b hb => by
    obtain ⟨o, ho⟩ := Option.ne_none_iff_exists'.mp hb
    obtain ⟨o', ho'⟩ := x.mono b o ho
    rw [ho']; simp
  have nn : ∀ b o, s.heap.get? b = some o → σ b = none → σ' b = none := fun b o e hσ => by
    cases h : σ' b with
    | none => rfl
    | some q =>
      rcases x.dom b (by rw [h]; simp) with h' | h'
      · exact absurd hσ h'
      · rw [e] at h'; cases h'
  refine ⟨fun b o e hσ ho hf => ?_, fun b o e hσ ho hf => ?_, fun b hb => ?_, fun b o e => ?_, x.tup.trans y.tup, ?_⟩
  · exact y.keep b o (x.keep b o e hσ ho hf) (nn b o e hσ) ho hf
  · obtain ⟨sl, e'⟩ := x.outk b o e hσ ho hf
    obtain ⟨sl', e''⟩ := y.outk b _ e' (nn b o e hσ) ho hf
    exact ⟨sl', e''⟩
  · rcases y.dom b hb with h' | h'
    · exact x.dom b h'
    · by_cases q : s.heap.get? b = none
      · exact .inr q
      · exact absurd h' (none' b q)
  · obtain ⟨o', e'⟩ := x.mono b o e; exact y.mono b o' e'
  · obtain ⟨h', tk, rfl⟩ := x.same
    obtain ⟨h'', tk', rfl⟩ := y.same
    exact ⟨h'', tk', rfl⟩
structure Frs (X : Bs) (A : Around) (σ : Store) (s : Shared) : Prop where
  fr : ∃ outer, A.frames = some outer ∧ s.heap.FunFrames X.hT outer ∧ ∀ e ∈ outer, ∀ L, e.frame = some L → σ L = none
/-- the state of a walk: the program's part stands, the store tells the made objects -/
structure GI (X : Bs) (σ : Store) (s : Shared) : Prop where
  top : ∀ b o, X.hT.get? b = some o → s.heap.get? b = some o
  off : ∀ b, σ b ≠ none → X.hT.get? b = none
  tall : ∃ a o, X.hT.objs.size ≤ a ∧ s.heap.get? a = some o
  sim : ∀ a o, σ a = some o → ObjIs X.prog X.w s.heap a o
/-- an object of a frame's: its names, a cell -/
noncomputable def OwnObj (o : Obj) : Prop := (∃ es n, o.data = .dict es n) ∨ ∃ v, o.data = .cell v
theorem OwnObj.fields {o : Obj} (h : OwnObj o) : ∀ vs, o.data ≠ .fields vs := fun vs e => by
  rcases h with ⟨es, n, h⟩ | ⟨v, h⟩ <;> rw [h] at e <;> cases e
theorem OwnObj.seq {o : Obj} (h : OwnObj o) : ∀ vs n, o.data ≠ .seq vs n := fun vs n e => by
  rcases h with ⟨es, n, h⟩ | ⟨v, h⟩ <;> rw [h] at e <;> cases e
/-- a name that lives in a cell -/
noncomputable def InCell (env : Env) (x : Str) : Prop := env.kindOf x = some .cell ∨ env.kindOf x = some .free
/-- what is so of a frame, whatever the heap -/
structure EnvOk (X : Cx) (env : Env) : Prop where
  fn : env.scope.kind = .function
  gl : env.globals = mainGlobals
  bi : env.builtins = builtinsNs
  top : X.hT.objs.size ≤ env.locals
  ownL : X.own env.locals
  ownC : ∀ x ca, env.cells.lookup x = some ca → X.own ca
  celAt : ∀ x, InCell env x → ∃ ca, env.cells.lookup x = some ca
  apart : ∀ x y ca, env.cells.lookup x = some ca → env.cells.lookup y = some ca → x = y
noncomputable def LocOk (env : Env) (m : Vars) (h : Heap) : Prop := ∃ mc, h.Ns env.locals mc ∧ ∀ x d, m x = some d → env.kindOf x = some .local → ∃ v, mc x = some v ∧ Rep h d v
noncomputable def CelOk (env : Env) (m : Vars) (h : Heap) : Prop := ∀ x ca, env.cells.lookup x = some ca → ∃ o v0, h.get? ca = some o ∧ o.data = .cell v0 ∧ ∀ d, m x = some d → InCell env x → ∃ v, v0 = some v ∧ Rep h d v
structure FI (X : Cx) (env : Env) (m : Vars) (σ : Store) (s : Shared) : Prop where
  e : EnvOk X env
  own : ∀ b, X.own b → σ b = none ∧ X.hT.get? b = none ∧ ∃ o, s.heap.get? b = some o ∧ OwnObj o
  loc : LocOk env m s.heap
  cel : CelOk env m s.heap
structure Inv (X : Cx) (A : Around) (env : Env) (m : Vars) (σ : Store) (s : Shared) : Prop where
  g : GI X.toBs σ s
  f : FI X env m σ s
  fr : Frs X.toBs A σ s
  gh : X.G s σ
/-- the ghost goes along with each step -/
noncomputable def Cx.Ok (X : Cx) (A : Around) : Prop := ∀ σ σ' s s', GI X.toBs σ s → X.G s σ → Stp X.own (frs A) σ σ' s s' → X.G s' σ'
/-- what a step leaves -/
inductive PE (X : Cx) (A : Around) (env : Env) (m : Vars) (σ : Store) (Q : AV → Store → Prop) (s : Shared) (v : Value) (s' : Shared) : Prop
  | mk (d : AV) (σ' : Store) (r : Rep s'.heap d v) (i : Inv X A env m σ' s') (t : Stp X.own (frs A) σ σ' s s') (q : Q d σ')
inductive PL (X : Cx) (A : Around) (env : Env) (m : Vars) (σ : Store) (Q : List AV → Store → Prop) (s : Shared) (v : List Value) (s' : Shared) : Prop
  | mk (d : List AV) (σ' : Store) (r : RepL s'.heap d v) (i : Inv X A env m σ' s') (t : Stp X.own (frs A) σ σ' s s') (q : Q d σ')
inductive PB (X : Cx) (A : Around) (env : Env) (m : Vars) (σ : Store) (Q : Bool → Store → Prop) (s : Shared) (b : Bool) (s' : Shared) : Prop
  | mk (σ' : Store) (i : Inv X A env m σ' s') (t : Stp X.own (frs A) σ σ' s s') (q : Q b σ')
inductive PU (X : Cx) (A : Around) (env : Env) (σ : Store) (Q : Vars → Store → Prop) (s : Shared) (u : Unit) (s' : Shared) : Prop
  | mk (m' : Vars) (σ' : Store) (i : Inv X A env m' σ' s') (t : Stp X.own (frs A) σ σ' s s') (q : Q m' σ')
noncomputable def EV (X : Cx) (A : Around) (env : Env) (E : Value → Shared → Prop) (t : Sem Value) (m : Vars) (σ : Store) (Q : AV → Store → Prop) : Prop :=
  ∀ s, Inv X A env m σ s → wpAny (model X.prog X.w) A t (PE X A env m σ Q s) E s
noncomputable def EVL (X : Cx) (A : Around) (env : Env) (E : Value → Shared → Prop) (t : Sem (List Value)) (m : Vars) (σ : Store) (Q : List AV → Store → Prop) : Prop :=
  ∀ s, Inv X A env m σ s → wpAny (model X.prog X.w) A t (PL X A env m σ Q s) E s
noncomputable def BV (X : Cx) (A : Around) (env : Env) (E : Value → Shared → Prop) (t : Sem Bool) (m : Vars) (σ : Store) (Q : Bool → Store → Prop) : Prop :=
  ∀ s, Inv X A env m σ s → wpAny (model X.prog X.w) A t (PB X A env m σ Q s) E s
inductive AF where
  | next | brk | cont
  | ret (d : AV)
noncomputable def FlowIs (h : Heap) : AF → Flow → Prop
  | .next, f => f = .next
  | .brk, f => f = .brk
  | .cont, f => f = .cont
  | .ret d, f => ∃ v, f = .ret v ∧ Rep h d v
inductive PF (X : Cx) (A : Around) (env : Env) (σ : Store) (Q : AF → Vars → Store → Prop) (s : Shared) (f : Flow) (s' : Shared) : Prop
  | mk (fl : AF) (m' : Vars) (σ' : Store) (a : FlowIs s'.heap fl f) (i : Inv X A env m' σ' s') (t : Stp X.own (frs A) σ σ' s s') (q : Q fl m' σ')
noncomputable def ST (X : Cx) (A : Around) (env : Env) (E : Value → Shared → Prop) (t : Sem Flow) (m : Vars) (σ : Store) (Q : AF → Vars → Store → Prop) : Prop :=
  ∀ s, Inv X A env m σ s → wpAny (model X.prog X.w) A t (PF X A env σ Q s) E s
section
variable {X : Cx} {A : Around} {env : Env} {E : Value → Shared → Prop} {m : Vars} {σ : Store}
/-- what a step may do to the state: all facts come along -/
theorem Inv.step0 (ok : X.Ok A) {m' : Vars} {σ' : Store} {s s' : Shared} (I : Inv X A env m σ s) (S : Stp X.own (frs A) σ σ' s s')
    (hsim : ∀ a o, σ' a = some o → ObjIs X.prog X.w s'.heap a o)
    (hoff : ∀ b, σ' b ≠ none → σ b ≠ none ∨ X.hT.get? b = none)
    (hown : ∀ b, X.own b → ∃ o, s'.heap.get? b = some o ∧ OwnObj o)
    (loc : LocOk env m' s'.heap) (cel : CelOk env m' s'.heap) : Inv X A env m' σ' s' := by
  have none' : ∀ b o, s.heap.get? b = some o → σ b = none → σ' b = none := fun b o e h => by
    cases h' : σ' b with
    | none => rfl
    | some q =>
      rcases S.dom b (by rw [h']; simp) with z | z
      · exact absurd h z
      · rw [e] at z; cases z
  have nT : ∀ b o, X.hT.get? b = some o → ¬ frs A b := fun b o e hf => by
    obtain ⟨outer, h1, h2, h3⟩ := I.fr.fr
    obtain ⟨out, k1, en, k2, k3⟩ := hf
    rw [h1] at k1; cases k1
    clear h1 h3
    induction outer with
    | nil => cases k2
    | cons x r ih =>
      obtain ⟨hk, ⟨L, o', hf, hn, ho, hd⟩, hr⟩ := h2
      rcases List.mem_cons.mp k2 with rfl | k2
      · rw [hf] at k3; cases k3; rw [hn] at e; cases e
      · exact ih hr k2
  refine ⟨⟨fun b o e => ?_, fun b hb => ?_, let ⟨a, o, q, e⟩ := I.g.tall; let ⟨o', e'⟩ := S.mono a o e; ⟨a, o', q, e'⟩, hsim⟩, ⟨I.f.e, fun b hb => ?_, loc, cel⟩, ⟨?_⟩, ok _ _ _ _ I.g I.gh S⟩
  · have e' := I.g.top b o e
    refine S.keep b o e' ?_ (fun hb => ?_) (nT b o e)
    · cases h : σ b with
      | none => rfl
      | some q => have := I.g.off b (by rw [h]; simp); rw [e] at this; cases this
    · have := (I.f.own b hb).2.1; rw [e] at this; cases this
  · rcases hoff b hb with h | h
    · exact I.g.off b h
    · exact h
  · obtain ⟨h1, h2, o, h3, h4⟩ := I.f.own b hb
    exact ⟨none' b o h3 h1, h2, hown b hb⟩
  · obtain ⟨outer, h1, h2, h3⟩ := I.fr.fr
    have hlo : ∀ (l : List Env), s.heap.FunFrames X.hT l → ∀ e ∈ l, ∀ L, e.frame = some L → ∃ o, s.heap.get? L = some o := by
      intro l
      induction l with
      | nil => intro _ e he; cases he
      | cons x r ih =>
        rintro ⟨hk, ⟨L, o, hf, hn, ho, hd⟩, hr⟩ e he L' hL'
        rcases List.mem_cons.mp he with rfl | he
        · rw [hf] at hL'; cases hL'; exact ⟨o, ho⟩
        · exact ih hr e he L' hL'
    have kf : ∀ (l : List Env), (∀ e ∈ l, e ∈ outer) → s.heap.FunFrames X.hT l → (∀ e ∈ l, ∀ L, e.frame = some L → σ L = none) → s'.heap.FunFrames X.hT l := by
      intro l
      induction l with
      | nil => intro _ _ _; trivial
      | cons x r ih =>
        rintro hsub ⟨hk, ⟨L, o, hf, hn, ho, hd⟩, hr⟩ hl
        refine ⟨hk, ?_, ih (fun e he => hsub e (List.mem_cons_of_mem _ he)) hr fun e he => hl e (List.mem_cons_of_mem _ he)⟩
        by_cases hb : X.own L
        · obtain ⟨o', e', q'⟩ := hown L hb
          exact ⟨L, o', hf, hn, e', q'.fields⟩
        · obtain ⟨sl, e'⟩ := S.outk L o ho (hl x (List.mem_cons_self ..) L hf) hb ⟨outer, h1, x, hsub x (List.mem_cons_self ..), hf⟩
          exact ⟨L, _, hf, hn, e', hd⟩
    refine ⟨outer, h1, kf outer (fun _ h => h) h2 h3, fun e he L hL => ?_⟩
    obtain ⟨o, ho⟩ := hlo outer h2 e he L hL
    exact none' L o ho (h3 e he L hL)
theorem Inv.step (ok : X.Ok A) {σ' : Store} {s s' : Shared} (I : Inv X A env m σ s) (S : Stp X.own (frs A) σ σ' s s')
    (hsim : ∀ a o, σ' a = some o → ObjIs X.prog X.w s'.heap a o)
    (hoff : ∀ b, σ' b ≠ none → σ b ≠ none ∨ X.hT.get? b = none)
    (hown : ∀ b, X.own b → ∀ o, s.heap.get? b = some o → OwnObj o → ∃ sl, s'.heap.get? b = some { o with slots := sl }) : Inv X A env m σ' s' := by
  refine I.step0 ok S hsim hoff (fun b hb => ?_) ?_ ?_
  · obtain ⟨h1, h2, o, h3, h4⟩ := I.f.own b hb
    obtain ⟨sl, e⟩ := hown b hb o h3 h4
    exact ⟨_, e, h4⟩
  · obtain ⟨mc, hn, hm⟩ := I.f.loc
    refine ⟨mc, ?_, fun x d e k => let ⟨v, a, b⟩ := hm x d e k; ⟨v, a, b.grow S.tup⟩⟩
    obtain ⟨o, es, ep, ho, hd, r⟩ := hn
    obtain ⟨_, _, o', h3, h4⟩ := I.f.own _ I.f.e.ownL
    rw [ho] at h3; cases h3
    obtain ⟨sl, e⟩ := hown _ I.f.e.ownL o ho h4
    exact ⟨_, es, ep, e, hd, r⟩
  · intro x ca e
    obtain ⟨o, v0, h1, h2, h3⟩ := I.f.cel x ca e
    obtain ⟨_, _, o', h5, h6⟩ := I.f.own _ (I.f.e.ownC x ca e)
    rw [h1] at h5; cases h5
    obtain ⟨sl, e'⟩ := hown _ (I.f.e.ownC x ca e) o h1 h6
    exact ⟨_, v0, e', h2, fun d hd hc => let ⟨v, a, b⟩ := h3 d hd hc; ⟨v, a, b.grow S.tup⟩⟩
/-- a step that changes nothing that stood -/
theorem Stp.of_keeps {own fr : Addr → Prop} {s : Shared} {h' : Heap} {tk : Nat} (k : ∀ b o, s.heap.get? b = some o → h'.get? b = some o) : Stp own fr σ σ s { s with heap := h', toks := tk } :=
  ⟨fun b o e _ _ _ => k b o e, fun b o e _ _ _ => ⟨o.slots, k b o e⟩, fun _ h => .inl h, fun b o e => ⟨o, k b o e⟩, fun _ _ t => isTup_of_get t (k _), ⟨_, _, rfl⟩⟩
theorem Inv.keeps (ok : X.Ok A) {s : Shared} {h' : Heap} {tk : Nat} (I : Inv X A env m σ s) (k : ∀ b o, s.heap.get? b = some o → h'.get? b = some o) : Inv X A env m σ { s with heap := h', toks := tk } :=
  I.step ok (.of_keeps k) (fun a o e => (I.g.sim a o e).of_get (fun _ _ t => isTup_of_get t (k _)) (k a)) (fun _ h => .inl h) (fun b _ o e _ => ⟨o.slots, k b o e⟩)
theorem Inv.fresh {s : Shared} (I : Inv X A env m σ s) {a : Addr} (ha : s.heap.get? a = none) : σ a = none ∧ X.hT.get? a = none ∧ ¬ X.own a := by
  refine ⟨?_, ?_, fun h => ?_⟩
  · cases h : σ a with
    | none => rfl
    | some o => obtain ⟨x, hx, _⟩ := (I.g.sim a o h).alloc; rw [ha] at hx; cases hx
  · cases h : X.hT.get? a with
    | none => rfl
    | some o => have := I.g.top a o h; rw [ha] at this; cases this
  · obtain ⟨_, _, o, ho, _⟩ := I.f.own a h
    rw [ha] at ho; cases ho
/-- a new object is entered into the store -/
theorem Stp.of_alloc {own fr : Addr → Prop} {s : Shared} {h' : Heap} {tk : Nat} {a : Addr} {o : AO} (ha : s.heap.get? a = none) (k : ∀ b o, s.heap.get? b = some o → h'.get? b = some o) :
    Stp own fr σ (σ.set a o) s { s with heap := h', toks := tk } :=
  ⟨fun b o e _ _ _ => k b o e, fun b o e _ _ _ => ⟨o.slots, k b o e⟩, fun b h => by
    by_cases e : b = a
    · subst e; exact .inr ha
    · rw [Store.set_ne e] at h; exact .inl h, fun b o e => ⟨o, k b o e⟩, fun _ _ t => isTup_of_get t (k _), ⟨_, _, rfl⟩⟩
theorem Inv.alloc (ok : X.Ok A) {s : Shared} {h' : Heap} {tk : Nat} {a : Addr} {o : AO} (I : Inv X A env m σ s) (ha : s.heap.get? a = none) (k : ∀ b o, s.heap.get? b = some o → h'.get? b = some o)
    (ho : ObjIs X.prog X.w h' a o) : Inv X A env m (σ.set a o) { s with heap := h', toks := tk } := by
  have f := I.fresh ha
  refine I.step ok (.of_alloc ha k) (fun b o' e => ?_) (fun b h => ?_) (fun b _ o e _ => ⟨o.slots, k b o e⟩)
  · by_cases q : b = a
    · subst q; rw [Store.set_self] at e; cases e; exact ho
    · rw [Store.set_ne q] at e
      exact (I.g.sim b o' e).of_get (fun _ _ t => isTup_of_get t (k _)) (k b)
  · by_cases q : b = a
    · subst q; exact .inr f.2.1
    · rw [Store.set_ne q] at h; exact .inl h
/-- an object of the store is changed -/
theorem Stp.of_update {own fr : Addr → Prop} {s : Shared} {h' : Heap} {tk : Nat} {a : Addr} {o o' : AO} (g : ObjIs X.prog X.w s.heap a o) (hσ : σ a = some o) (hs : Heap.SameBut a s.heap h') (ho : ObjIs X.prog X.w h' a o') :
    Stp own fr σ (σ.set a o') s { s with heap := h', toks := tk } := by
  obtain ⟨x, hx, hc⟩ := g.alloc
  obtain ⟨y, hy, _⟩ := ho.alloc
  refine ⟨fun b o e h _ _ => ?_, fun b o e h _ _ => ⟨o.slots, ?_⟩, fun b h => ?_, fun b o e => ?_, fun b items t => ?_, ⟨_, _, rfl⟩⟩
  · have : b ≠ a := fun q => by subst q; rw [hσ] at h; cases h
    exact (hs.2 b this).trans e
  · have : b ≠ a := fun q => by subst q; rw [hσ] at h; cases h
    exact (hs.2 b this).trans e
  · by_cases q : b = a
    · subst q; rw [hσ]; exact .inl (by simp)
    · rw [Store.set_ne q] at h; exact .inl h
  · by_cases q : b = a
    · subst q; exact ⟨y, hy⟩
    · exact ⟨o, (hs.2 b q).trans e⟩
  · obtain ⟨ot, h1, h2, h3⟩ := t
    have : b ≠ a := fun q => by subst q; rw [hx] at h1; cases h1; exact hc h2
    exact ⟨ot, (hs.2 b this).trans h1, h2, h3⟩
theorem Inv.update (ok : X.Ok A) {s : Shared} {h' : Heap} {tk : Nat} {a : Addr} {o o' : AO} (I : Inv X A env m σ s) (hσ : σ a = some o) (hs : Heap.SameBut a s.heap h') (ho : ObjIs X.prog X.w h' a o') :
    Inv X A env m (σ.set a o') { s with heap := h', toks := tk } := by
  have S : Stp X.own (frs A) σ (σ.set a o') s { s with heap := h', toks := tk } := .of_update (I.g.sim a o hσ) hσ hs ho
  refine I.step ok S (fun b q e => ?_) (fun b h => ?_) (fun b hb x e _ => ?_)
  · by_cases z : b = a
    · subst z; rw [Store.set_self] at e; cases e; exact ho
    · rw [Store.set_ne z] at e
      exact (I.g.sim b q e).of_get S.tup fun x hx => (hs.2 b z).trans hx
  · by_cases z : b = a
    · subst z; rw [hσ]; exact .inl (by simp)
    · rw [Store.set_ne z] at h; exact .inl h
  · have : b ≠ a := fun q => by subst q; rw [(I.f.own b hb).1] at hσ; cases hσ
    exact ⟨x.slots, (hs.2 b this).trans e⟩
end
end Mine
end
section
namespace Mine
theorem Rep.int {h : Heap} {x : Int} {t : Tok} : Rep h (.i x) (.int x t) := by simp only [Rep]; exact ⟨t, rfl⟩
theorem Rep.str {h : Heap} {x : Str} {t : Tok} : Rep h (.s x) (.str x t) := by simp only [Rep]; exact ⟨t, rfl⟩
theorem Rep.val {h : Heap} {v : Value} : Rep h (.c v) v := by simp only [Rep]
structure Pg (X : Cx) (A : Around) (K : Frag) (p : Program) (loose : List Str) (mg mb : Str → Option Value) : Prop where
  ok : X.Ok A
  k : K.In X.hT
  t : TopRead p loose mg mb X.hT
section
variable {X : Cx} {A : Around} {env : Env} {E : Value → Shared → Prop} {m : Vars} {σ : Store}
theorem PE.lift {σ₁ : Store} {Q : AV → Store → Prop} {s s₁ s' : Shared} {v : Value} (S : Stp X.own (frs A) σ σ₁ s s₁) (h : PE X A env m σ₁ Q s₁ v s') : PE X A env m σ Q s v s' :=
  let ⟨d, σ', r, i, t, q⟩ := h; ⟨d, σ', r, i, S.trans t, q⟩
theorem PE.here {Q : AV → Store → Prop} {s : Shared} {v : Value} {d : AV} (r : Rep s.heap d v) (I : Inv X A env m σ s) (q : Q d σ) : PE X A env m σ Q s v s := ⟨d, σ, r, I, .refl, q⟩
theorem Inv.toks (ok : X.Ok A) {s : Shared} {tk : Nat} (I : Inv X A env m σ s) : Inv X A env m σ { s with toks := tk } := I.keeps (h' := s.heap) ok fun _ _ e => e
theorem PE.toks (ok : X.Ok A) {Q : AV → Store → Prop} {s : Shared} {v : Value} {d : AV} {tk : Nat} (r : Rep s.heap d v) (I : Inv X A env m σ s) (q : Q d σ) : PE X A env m σ Q s v { s with toks := tk } :=
  ⟨d, σ, r, I.toks ok, .of_keeps (h' := s.heap) fun _ _ e => e, q⟩
theorem PE.keeps (ok : X.Ok A) {Q : AV → Store → Prop} {s : Shared} {h' : Heap} {v : Value} {d : AV} {tk : Nat} (k : ∀ b o, s.heap.get? b = some o → h'.get? b = some o) (r : Rep h' d v) (I : Inv X A env m σ s) (q : Q d σ) :
    PE X A env m σ Q s v { s with heap := h', toks := tk } := ⟨d, σ, r, I.keeps ok k, .of_keeps k, q⟩
/-- one value in, one step -/
noncomputable def V1 (X : Cx) (A : Around) (env : Env) (E : Value → Shared → Prop) (f : Value → Sem Value) (a : AV) (m : Vars) (σ : Store) (Q : AV → Store → Prop) : Prop :=
  ∀ s va, Rep s.heap a va → Inv X A env m σ s → wpAny (model X.prog X.w) A (f va) (PE X A env m σ Q s) E s
noncomputable def V2 (X : Cx) (A : Around) (env : Env) (E : Value → Shared → Prop) (f : Value → Value → Sem Value) (a b : AV) (m : Vars) (σ : Store) (Q : AV → Store → Prop) : Prop :=
  ∀ s va vb, Rep s.heap a va → Rep s.heap b vb → Inv X A env m σ s → wpAny (model X.prog X.w) A (f va vb) (PE X A env m σ Q s) E s
noncomputable def VL (X : Cx) (A : Around) (env : Env) (E : Value → Shared → Prop) (f : List Value → Sem Value) (l : List AV) (m : Vars) (σ : Store) (Q : AV → Store → Prop) : Prop :=
  ∀ s vs, RepL s.heap l vs → Inv X A env m σ s → wpAny (model X.prog X.w) A (f vs) (PE X A env m σ Q s) E s
noncomputable def B1 (X : Cx) (A : Around) (env : Env) (E : Value → Shared → Prop) (f : Value → Sem Bool) (a : AV) (m : Vars) (σ : Store) (Q : Bool → Store → Prop) : Prop :=
  ∀ s va, Rep s.heap a va → Inv X A env m σ s → wpAny (model X.prog X.w) A (f va) (PB X A env m σ Q s) E s
/-- a step without a value -/
noncomputable def U1 (X : Cx) (A : Around) (env : Env) (E : Value → Shared → Prop) (f : Value → Sem Unit) (a : AV) (m : Vars) (σ : Store) (Q : Vars → Store → Prop) : Prop :=
  ∀ s va, Rep s.heap a va → Inv X A env m σ s → wpAny (model X.prog X.w) A (f va) (PU X A env σ Q s) E s
abbrev ev (X : Cx) (A : Around) (env : Env) (E : Value → Shared → Prop) (e : Expr) (m : Vars) (σ : Store) (Q : AV → Store → Prop) : Prop := EV X A env E (eval e env) m σ Q
abbrev tr (X : Cx) (A : Around) (env : Env) (E : Value → Shared → Prop) (e : Expr) (m : Vars) (σ : Store) (Q : Bool → Store → Prop) : Prop := BV X A env E (isTrue e env (eval e env)) m σ Q
theorem EV.mono {t : Sem Value} {Q Q' : AV → Store → Prop} (h : EV X A env E t m σ Q) (q : ∀ d σ', Q d σ' → Q' d σ') : EV X A env E t m σ Q' :=
  fun s I => wpAny_mono (h s I) (by rintro _ _ ⟨d, σ', r, i, t, z⟩; exact ⟨d, σ', r, i, t, q _ _ z⟩) fun _ _ x => x
theorem BV.mono {t : Sem Bool} {Q Q' : Bool → Store → Prop} (h : BV X A env E t m σ Q) (q : ∀ d σ', Q d σ' → Q' d σ') : BV X A env E t m σ Q' :=
  fun s I => wpAny_mono (h s I) (by rintro _ _ ⟨σ', i, t, z⟩; exact ⟨σ', i, t, q _ _ z⟩) fun _ _ x => x
theorem ST.mono {t : Sem Flow} {Q Q' : AF → Vars → Store → Prop} (h : ST X A env E t m σ Q) (q : ∀ f m' σ', Q f m' σ' → Q' f m' σ') : ST X A env E t m σ Q' :=
  fun s I => wpAny_mono (h s I) (by rintro _ _ ⟨f, m', σ', r, i, t, z⟩; exact ⟨f, m', σ', r, i, t, q _ _ _ z⟩) fun _ _ x => x
/-- a tree's value goes into a step -/
theorem EV.then1 {t : Sem Value} {f : Value → Sem Value} {Q : AV → Store → Prop} (h : EV X A env E t m σ fun a σ₁ => V1 X A env E f a m σ₁ Q) (s : Shared) (I : Inv X A env m σ s) :
    wpAny (model X.prog X.w) A t (fun v s₁ => wpAny (model X.prog X.w) A (f v) (PE X A env m σ Q s) E s₁) E s :=
  wpAny_mono (h s I) (by rintro v s₁ ⟨_, _, r, i, t, q⟩; exact wpAny_mono (q s₁ v r i) (fun _ _ x => x.lift t) fun _ _ x => x) fun _ _ x => x
-- names
theorem ev_local {x : Str} {pos : Pos} {d : AV} {Q : AV → Store → Prop} (hx : m x = some d) (hk : env.kindOf x = some .local) (q : Q d σ) (hd : (x == ("__debug__" : Str)) = false := by decide) :
    ev X A env E (.Name x pos) m σ Q := fun s I => by
  obtain ⟨mc, hn, hm⟩ := I.f.loc
  obtain ⟨v, hv, r⟩ := hm x d hx hk
  exact wpAny_Name (wpAny_loadName_local I.f.e.fn hk hn hv (PE.here r I q)) hd
theorem ev_cell {x : Str} {pos : Pos} {d : AV} {Q : AV → Store → Prop} (hx : m x = some d) (hk : env.kindOf x = some .cell) (q : Q d σ) (hd : (x == ("__debug__" : Str)) = false := by decide) :
    ev X A env E (.Name x pos) m σ Q := fun s I => by
  obtain ⟨ca, hc⟩ := I.f.e.celAt x (.inl hk)
  obtain ⟨o, v0, ho, hd', hv⟩ := I.f.cel x ca hc
  obtain ⟨v, rfl, r⟩ := hv d hx (.inl hk)
  exact wpAny_Name (wpAny_loadName_cell I.f.e.fn hk hc ⟨o, ho, hd'⟩ (PE.here r I q)) hd
variable {K : Frag} {p : Program} {loose : List Str} {mg mb : Str → Option Value}
theorem GI.keepT {s : Shared} (g : GI X.toBs σ s) : ∀ b o, X.hT.get? b = some o → s.heap.get? b = some o := g.top
theorem ev_global (P : Pg X A K p loose mg mb) {x : Str} {pos : Pos} {v : Value} {Q : AV → Store → Prop} (e : nsIn K mainGlobals x = some (some v)) (hk : env.kindOf x = some .globalImplicit) (q : Q (.c v) σ)
    (hd : (x == ("__debug__" : Str)) = false := by decide) : ev X A env E (.Name x pos) m σ Q := fun s I =>
  Calls.Name_function_global I.f.e.fn hk (Calls.loadGlobal_global (by rw [I.f.e.gl]; exact P.t.g.keeps I.g.top) (mg_of P.k P.t.g e) (PE.here (by simp only [Rep]) I q)) hd
theorem ev_builtin (P : Pg X A K p loose mg mb) {x : Str} {pos : Pos} {v : Value} {Q : AV → Store → Prop} (e : nsIn K mainGlobals x = some none) (hv : bootBuiltins x = some v) (hn : x ≠ "__name__") (hk : env.kindOf x = some .globalImplicit)
    (q : Q (.c v) σ) (hd : (x == ("__debug__" : Str)) = false := by decide) : ev X A env E (.Name x pos) m σ Q := fun s I =>
  Calls.Name_function_global I.f.e.fn hk (Calls.loadGlobal_builtin (by rw [I.f.e.gl]; exact P.t.g.keeps I.g.top) (mg_none_of P.k P.t.g e) (by rw [I.f.e.bi]; exact P.t.b.keeps I.g.top) ((P.t.builtins x hn).trans hv) (PE.here (by simp only [Rep]) I q)) hd
-- constants
theorem ev_int (ok : X.Ok A) {i : Int} {k : Nat} {pos : Pos} {Q : AV → Store → Prop} (q : Q (.i i) σ) : ev X A env E (.Constant (.int i) k pos) m σ Q := fun _ I =>
  wpAny_Constant_int (PE.toks ok Rep.int I q)
theorem ev_str (ok : X.Ok A) {x : Str} {k : Nat} {pos : Pos} {Q : AV → Store → Prop} (q : Q (.s x) σ) : ev X A env E (.Constant (.str x) k pos) m σ Q := fun _ I =>
  wpAny_Constant_str (PE.toks ok Rep.str I q)
theorem ev_bool {b : Bool} {k : Nat} {pos : Pos} {Q : AV → Store → Prop} (q : Q (.c (.bool b)) σ) : ev X A env E (.Constant (.bool b) k pos) m σ Q := fun _ I =>
  wpAny_Constant_bool (PE.here (by simp only [Rep]) I q)
theorem ev_none {k : Nat} {pos : Pos} {Q : AV → Store → Prop} (q : Q (.c .none) σ) : ev X A env E (.Constant .none k pos) m σ Q := fun _ I =>
  wpAny_Constant_none (PE.here (by simp only [Rep]) I q)
-- shapes
theorem ev_binop {l r : Expr} {op : Operator} {pos : Pos} {Q : AV → Store → Prop} (h : ev X A env E l m σ fun a σ₁ => ev X A env E r m σ₁ fun b σ₂ => V2 X A env E (binaryOp op) a b m σ₂ Q) : ev X A env E (.BinOp l op r pos) m σ Q :=
  fun s I => wpAny_BinOp (wpAny_mono (h s I) (by rintro va s₁ ⟨_, _, ra, i₁, t₁, q₁⟩; exact wpAny_mono (q₁ s₁ i₁) (fun vb s₂ ⟨_, _, rb, i₂, t₂, q₂⟩ =>
    wpAny_mono (q₂ s₂ va vb (ra.grow t₂.tup) rb i₂) (fun _ _ x => x.lift (t₁.trans t₂)) fun _ _ x => x) fun _ _ x => x) fun _ _ x => x)
theorem ev_cmp {l r : Expr} {op : CmpOp} {pos : Pos} {Q : AV → Store → Prop} (h : ev X A env E l m σ fun a σ₁ => ev X A env E r m σ₁ fun b σ₂ => V2 X A env E (compareOp op) a b m σ₂ Q)
    (hm : behindInMarks op r = false := by with_unfolding_all rfl) : ev X A env E (.Compare l [op] [r] pos) m σ Q :=
  fun s I => wpAny_Compare1 (wpAny_mono (h s I) (by rintro va s₁ ⟨_, _, ra, i₁, t₁, q₁⟩; exact wpAny_mono (q₁ s₁ i₁) (fun vb s₂ ⟨_, _, rb, i₂, t₂, q₂⟩ =>
    wpAny_mono (q₂ s₂ va vb (ra.grow t₂.tup) rb i₂) (fun _ _ x => x.lift (t₁.trans t₂)) fun _ _ x => x) fun _ _ x => x) fun _ _ x => x) hm
theorem ev_unary {e : Expr} {op : UnaryOp} {pos : Pos} {Q : AV → Store → Prop} (h : ev X A env E e m σ fun a σ₁ => V1 X A env E (unaryOp op) a m σ₁ Q) : ev X A env E (.UnaryOp op e pos) m σ Q :=
  fun s I => UnaryOp_ (h.then1 s I)
theorem ev_attr {e : Expr} {x : Str} {pos : Pos} {Q : AV → Store → Prop} (h : ev X A env E e m σ fun a σ₁ => V1 X A env E (fun o => getAttr o x true) a m σ₁ Q)
    (hb : eval (.Attribute e x pos) env = (do
          let o ← eval e env
          standAt pos.atName
          let r ← holding [o] (getAttr o x true)
          letTemporaryGo e o r
          pure r) := by rfl) : ev X A env E (.Attribute e x pos) m σ Q :=
  fun s I => Attribute_any_ (h.then1 s I) hb
theorem ev_sub {e i : Expr} {pos : Pos} {Q : AV → Store → Prop} (h : ev X A env E e m σ fun a σ₁ => ev X A env E i m σ₁ fun b σ₂ => V2 X A env E (subscriptTail e i) a b m σ₂ Q) : ev X A env E (.Subscript e i pos) m σ Q :=
  fun s I => Subscript_ (wpAny_mono (h s I) (by rintro va s₁ ⟨_, _, ra, i₁, t₁, q₁⟩; exact wpAny_mono (q₁ s₁ i₁) (fun vb s₂ ⟨_, _, rb, i₂, t₂, q₂⟩ =>
    wpAny_mono (q₂ s₂ va vb (ra.grow t₂.tup) rb i₂) (fun _ _ x => x.lift (t₁.trans t₂)) fun _ _ x => x) fun _ _ x => x) fun _ _ x => x)
theorem ev_ifexp {t b o : Expr} {pos : Pos} {Q : AV → Store → Prop} (h : tr X A env E t m σ fun c σ₁ => if c = true then ev X A env E b m σ₁ Q else ev X A env E o m σ₁ Q) : ev X A env E (.IfExp t b o pos) m σ Q :=
  fun s I => IfExp_ (wpAny_mono (h s I) (by
    rintro c s₁ ⟨_, i₁, t₁, q₁⟩
    split
    · rename_i hc; ((try dsimp only at q₁)); rw [if_pos hc] at q₁; exact wpAny_mono (q₁ s₁ i₁) (fun _ _ x => PE.lift t₁ x) fun _ _ x => x
    · rename_i hc; ((try dsimp only at q₁)); rw [if_neg hc] at q₁; exact wpAny_mono (q₁ s₁ i₁) (fun _ _ x => PE.lift t₁ x) fun _ _ x => x) fun _ _ x => x)
-- truth
theorem PB.lift {σ₁ : Store} {Q : Bool → Store → Prop} {s s₁ s' : Shared} {v : Bool} (S : Stp X.own (frs A) σ σ₁ s s₁) (h : PB X A env m σ₁ Q s₁ v s') : PB X A env m σ Q s v s' :=
  let ⟨σ', i, t, q⟩ := h; ⟨σ', i, S.trans t, q⟩
theorem tr_cmp {l r : Expr} {op : CmpOp} {pos : Pos} {Q : Bool → Store → Prop} (h : ev X A env E l m σ fun a σ₁ => ev X A env E r m σ₁ fun b σ₂ => V2 X A env E (compareOp op) a b m σ₂ fun d σ₃ => ∃ c, d = .c (.bool c) ∧ Q c σ₃)
    (hm : behindInMarks op r = false := by with_unfolding_all rfl) : tr X A env E (.Compare l [op] [r] pos) m σ Q :=
  fun s I => wpAny_isTrue_Compare1 (wpAny_mono (h s I) (by rintro va s₁ ⟨_, _, ra, i₁, t₁, q₁⟩; exact wpAny_mono (q₁ s₁ i₁) (fun vb s₂ ⟨_, _, rb, i₂, t₂, q₂⟩ =>
    wpAny_mono (q₂ s₂ va vb (ra.grow t₂.tup) rb i₂) (by
      rintro v s₃ ⟨d, σ₃, r₃, i₃, t₃, q₃⟩
      obtain ⟨c, rfl, q⟩ := q₃
      simp only [Rep] at r₃; subst r₃
      exact wpAny_truthy_bool ⟨σ₃, i₃, (t₁.trans t₂).trans t₃, q⟩) fun _ _ x => x) fun _ _ x => x) fun _ _ x => x) hm
theorem tr_not {e : Expr} {pos : Pos} {Q : Bool → Store → Prop} (h : tr X A env E e m σ fun c σ₁ => Q (!c) σ₁) : tr X A env E (.UnaryOp .Not e pos) m σ Q := fun s I => isTrue_not (wpAny_mono (h s I) (by rintro _ _ ⟨σ', i, t, q⟩; exact ⟨σ', i, t, q⟩) fun _ _ x => x)
theorem tr_and_cons {e : Expr} {rest : List Expr} {pos : Pos} {whole : Sem Value} {Q : Bool → Store → Prop} (h : tr X A env E e m σ fun c σ₁ => if c = true then BV X A env E (isTrue (.BoolOp .And rest pos) env whole) m σ₁ Q else Q false σ₁) :
    BV X A env E (isTrue (.BoolOp .And (e :: rest) pos) env whole) m σ Q := fun s I => isTrue_and (wpAny_mono (h s I) (by
    rintro c s₁ ⟨σ₁, i₁, t₁, q₁⟩
    split
    · rename_i hc; ((try dsimp only at q₁)); rw [if_pos hc] at q₁; exact wpAny_mono (q₁ s₁ i₁) (fun _ _ x => PB.lift t₁ x) fun _ _ x => x
    · rename_i hc; ((try dsimp only at q₁)); rw [if_neg hc] at q₁; exact ⟨σ₁, i₁, t₁, q₁⟩) fun _ _ x => x)
theorem tr_or_cons {e : Expr} {rest : List Expr} {pos : Pos} {whole : Sem Value} {Q : Bool → Store → Prop} (h : tr X A env E e m σ fun c σ₁ => if c = true then Q true σ₁ else BV X A env E (isTrue (.BoolOp .Or rest pos) env whole) m σ₁ Q) :
    BV X A env E (isTrue (.BoolOp .Or (e :: rest) pos) env whole) m σ Q := fun s I => isTrue_or (wpAny_mono (h s I) (by
    rintro c s₁ ⟨σ₁, i₁, t₁, q₁⟩
    split
    · rename_i hc; ((try dsimp only at q₁)); rw [if_pos hc] at q₁; exact ⟨σ₁, i₁, t₁, q₁⟩
    · rename_i hc; ((try dsimp only at q₁)); rw [if_neg hc] at q₁; exact wpAny_mono (q₁ s₁ i₁) (fun _ _ x => PB.lift t₁ x) fun _ _ x => x) fun _ _ x => x)
theorem tr_and_nil {pos : Pos} {whole : Sem Value} {Q : Bool → Store → Prop} (h : Q true σ) : BV X A env E (isTrue (.BoolOp .And [] pos) env whole) m σ Q := fun _ I => isTrue_and_nil ⟨σ, I, .refl, h⟩
theorem tr_or_nil {pos : Pos} {whole : Sem Value} {Q : Bool → Store → Prop} (h : Q false σ) : BV X A env E (isTrue (.BoolOp .Or [] pos) env whole) m σ Q := fun _ I => isTrue_or_nil ⟨σ, I, .refl, h⟩
theorem tr_plain {e : Expr} {Q : Bool → Store → Prop} (h : ev X A env E e m σ fun a σ₁ => B1 X A env E truthy a m σ₁ Q)
    (hb : isTrue e env (eval e env) = (do
          let v ← eval e env
          standAt e.pos
          holding [v] (truthy v)) := by rfl) : tr X A env E e m σ Q := fun s I =>
  isTrue_plain (wpAny_mono (h s I) (by rintro v s₁ ⟨_, _, r, i, t, q⟩; exact wpAny_mono (q s₁ v r i) (fun _ _ x => PB.lift t x) fun _ _ x => x) fun _ _ x => x) hb
theorem b1_bool {b : Bool} {Q : Bool → Store → Prop} (q : Q b σ) : B1 X A env E truthy (.c (.bool b)) m σ Q := fun s va r I => by
  simp only [Rep] at r; subst r; exact wpAny_truthy_bool ⟨σ, I, .refl, q⟩
-- boolean values
theorem ev_bool_one {e : Expr} {op : BoolOp} {pos : Pos} {Q : AV → Store → Prop} (h : ev X A env E e m σ Q) : ev X A env E (.BoolOp op [e] pos) m σ Q := fun s I => BoolOp_one (h s I)
theorem ev_and {e₁ e₂ : Expr} {rest : List Expr} {pos : Pos} {Q : AV → Store → Prop}
    (h : ev X A env E e₁ m σ fun a σ₁ => B1 X A env E truthy a m σ₁ fun c σ₂ => if c = true then ev X A env E (.BoolOp .And (e₂ :: rest) pos) m σ₂ Q else Q a σ₂) : ev X A env E (.BoolOp .And (e₁ :: e₂ :: rest) pos) m σ Q :=
  fun s I => BoolOp_and (wpAny_mono (h s I) (by rintro v s₁ ⟨_, _, r, i, t, q⟩; exact wpAny_mono (q s₁ v r i) (by
    rintro c s₂ ⟨σ₂, i₂, t₂, q₂⟩
    split
    · rename_i hc; ((try dsimp only at q₂)); rw [if_pos hc] at q₂; exact wpAny_mono (q₂ s₂ i₂) (fun _ _ x => PE.lift (t.trans t₂) x) fun _ _ x => x
    · rename_i hc; ((try dsimp only at q₂)); rw [if_neg hc] at q₂; exact ⟨_, σ₂, r.grow t₂.tup, i₂, t.trans t₂, q₂⟩) fun _ _ x => x) fun _ _ x => x)
theorem ev_or {e₁ e₂ : Expr} {rest : List Expr} {pos : Pos} {Q : AV → Store → Prop}
    (h : ev X A env E e₁ m σ fun a σ₁ => B1 X A env E truthy a m σ₁ fun c σ₂ => if c = true then Q a σ₂ else ev X A env E (.BoolOp .Or (e₂ :: rest) pos) m σ₂ Q) : ev X A env E (.BoolOp .Or (e₁ :: e₂ :: rest) pos) m σ Q :=
  fun s I => BoolOp_or (wpAny_mono (h s I) (by rintro v s₁ ⟨_, _, r, i, t, q⟩; exact wpAny_mono (q s₁ v r i) (by
    rintro c s₂ ⟨σ₂, i₂, t₂, q₂⟩
    split
    · rename_i hc; ((try dsimp only at q₂)); rw [if_pos hc] at q₂; exact ⟨_, σ₂, r.grow t₂.tup, i₂, t.trans t₂, q₂⟩
    · rename_i hc; ((try dsimp only at q₂)); rw [if_neg hc] at q₂; exact wpAny_mono (q₂ s₂ i₂) (fun _ _ x => PE.lift (t.trans t₂) x) fun _ _ x => x) fun _ _ x => x) fun _ _ x => x)
-- argument lists and displays
noncomputable def evs (X : Cx) (A : Around) (env : Env) (E : Value → Shared → Prop) (es : List Expr) (pos : Pos) (m : Vars) (σ : Store) (Q : List AV → Store → Prop) : Prop :=
  EVL X A env E (spliced (backTo pos (starEach es env))) m σ Q
theorem evs_nil {pos : Pos} {Q : List AV → Store → Prop} (q : Q [] σ) : evs X A env E [] pos m σ Q := fun _ I => spliced_none ⟨_, σ, .nil, I, .refl, q⟩
theorem evs_cons {e : Expr} {rest : List Expr} {pos : Pos} {Q : List AV → Store → Prop} (h : ev X A env E e m σ fun a σ₁ => evs X A env E rest pos m σ₁ fun l σ₂ => Q (a :: l) σ₂)
    (hs : starEach (e :: rest) env = (false, eval e env) :: starEach rest env := by rfl) : evs X A env E (e :: rest) pos m σ Q :=
  fun s I => spliced_more (wpAny_mono (h s I) (by rintro va s₁ ⟨_, _, ra, i₁, t₁, q₁⟩; exact wpAny_mono (q₁ s₁ i₁) (fun vs s₂ ⟨_, σ₂, rb, i₂, t₂, q₂⟩ =>
    ⟨_, σ₂, RepL.cons (ra.grow t₂.tup) rb, i₂, t₁.trans t₂, q₂⟩) fun _ _ x => x) fun _ _ x => x) hs
theorem Inv.newObj (ok : X.Ok A) {s : Shared} {o : Obj} (I : Inv X A env m σ s) : Inv X A env m σ { s with heap := s.heap.push o } := I.keeps (tk := s.toks) ok fun _ _ e => Heap.get?_push_of_some _ e
theorem none_at_top (h : Heap) : h.get? h.objs.size = none := by
  cases e : h.get? h.objs.size with
  | none => rfl
  | some o => exact absurd (Heap.lt_size e) (Nat.lt_irrefl _)
theorem ev_tuple (ok : X.Ok A) {es : List Expr} {k : Nat} {pos : Pos} {Q : AV → Store → Prop} (h : evs X A env E es pos m σ fun l σ₁ => l.length ≤ 1000 ∧ Q (.t l) σ₁) : ev X A env E (.Tuple es k pos) m σ Q := by
  intro s I
  refine Tuple_ (wpAny_mono (h s I) (fun vs s₁ h₁ => ?_) fun _ _ x => x)
  obtain ⟨l, σ₁, r, i, t, hl, q⟩ := h₁
  refine wpAny_newTuple ?_ (by rw [sizeLine_eq, r.length]; omega)
  have k : ∀ b o, s₁.heap.get? b = some o → (s₁.heap.push { cls := .type "tuple", data := .seq vs.toArray }).get? b = some o := fun _ _ e => Heap.get?_push_of_some _ e
  exact ⟨.t l, σ₁, ⟨_, vs, rfl, ⟨_, Heap.get?_push_size _ rfl, rfl, _, rfl⟩, r.grow fun _ _ x => isTup_of_get x (k _)⟩, i.newObj ok, t.trans (.of_keeps (tk := s₁.toks) k), q⟩
/-- a list is made -/
theorem vl_newList (ok : X.Ok A) {l : List AV} {Q : AV → Store → Prop} (hl : l.length ≤ 1000) (q : ∀ a, σ a = none → Q (.c (.ref a)) (σ.set a (.lst l))) : VL X A env E newList l m σ Q := by
  intro s vs r I
  refine wpAny_newList ?_ (by rw [sizeLine_eq, r.length]; omega)
  have k : ∀ b o, s.heap.get? b = some o → (s.heap.push { cls := .type "list", data := .seq vs.toArray }).get? b = some o := fun _ _ e => Heap.get?_push_of_some _ e
  have f := none_at_top s.heap
  refine ⟨.c (.ref s.heap.objs.size), σ.set s.heap.objs.size (.lst l), by simp only [Rep], ?_, .of_alloc (tk := s.toks) f k, q _ (I.fresh f).1⟩
  exact I.alloc (tk := s.toks) ok f k ⟨vs, 0, Heap.get?_push_size _ rfl, r.grow fun _ _ x => isTup_of_get x (k _)⟩
theorem ev_list (ok : X.Ok A) {es : List Expr} {pos : Pos} {Q : AV → Store → Prop} (h : evs X A env E es pos m σ fun l σ₁ => l.length ≤ 1000 ∧ ∀ a, σ₁ a = none → Q (.c (.ref a)) (σ₁.set a (.lst l))) : ev X A env E (.List es pos) m σ Q :=
  fun s I => List_ (wpAny_mono (h s I) (by rintro vs s₁ ⟨_, _, r, i, t, hl, q⟩; exact wpAny_mono (vl_newList ok hl q s₁ vs r i) (fun _ _ x => PE.lift t x) fun _ _ x => x) fun _ _ x => x)
end
end Mine
end
section
namespace Mine
section
variable {X : Cx} {A : Around} {env : Env} {E : Value → Shared → Prop} {m : Vars} {σ : Store}
/-- all that stands beside the frame and the program's part, as a ledger -/
noncomputable def allNews (hT : Heap) (L : Addr) (h : Heap) : List (Addr × Obj) :=
  (List.range h.objs.size).filterMap fun a => if a = L then none else match hT.get? a with
    | some _ => none
    | none => (h.get? a).map fun o => (a, o)
theorem allNews_mem {hT h : Heap} {L a : Addr} {o : Obj} : (a, o) ∈ allNews hT L h ↔ h.get? a = some o ∧ a ≠ L ∧ hT.get? a = none := by
  unfold allNews
  rw [List.mem_filterMap]
  constructor
  · rintro ⟨b, hb, e⟩
    split at e
    · cases e
    · rename_i hL
      split at e
      · cases e
      · rename_i hn
        cases q : h.get? b with
        | none => rw [q] at e; cases e
        | some o' => rw [q] at e; cases e; exact ⟨q, hL, hn⟩
  · rintro ⟨e, hL, hn⟩
    refine ⟨a, List.mem_range.mpr (Heap.lt_size e), ?_⟩
    rw [if_neg hL, hn, e]; rfl
theorem Inv.fr_news {s : Shared} (I : Inv X A env m σ s) : ∃ mc, Fr X.hT env.locals s.heap mc ∧ News X.hT env.locals s.heap (allNews X.hT env.locals s.heap) ∧
    ∀ x d, m x = some d → env.kindOf x = some .local → ∃ v, mc x = some v ∧ Rep s.heap d v := by
  obtain ⟨mc, hn, hm⟩ := I.f.loc
  exact ⟨mc, ⟨hn, I.g.top, I.f.e.top⟩, fun q hq => allNews_mem.mp hq, hm⟩
/-- the same ledger at a later heap: all stands that stood -/
theorem keep_of_news {s : Shared} {h' : Heap} {mc : Str → Option Value} {new : List (Addr × Obj)} (I : Inv X A env m σ s) (F : Fr X.hT env.locals h' mc) (N : News X.hT env.locals h' (new ++ allNews X.hT env.locals s.heap)) :
    ∀ b o, s.heap.get? b = some o → b ≠ env.locals → h'.get? b = some o := by
  intro b o e hb
  cases q : X.hT.get? b with
  | some o' =>
    have := I.g.top b o' q
    rw [e] at this; cases this
    exact F.keep b o q
  | none => exact (N (b, o) (List.mem_append_right _ (allNews_mem.mpr ⟨e, hb, q⟩))).1
theorem Inv.of_news (ok : X.Ok A) {s : Shared} {h' : Heap} {tk : Nat} {mc : Str → Option Value} {new : List (Addr × Obj)} (I : Inv X A env m σ s)
    (hm : ∀ x d, m x = some d → env.kindOf x = some .local → ∃ v, mc x = some v ∧ Rep s.heap d v)
    (F : Fr X.hT env.locals h' mc) (N : News X.hT env.locals h' (new ++ allNews X.hT env.locals s.heap)) :
    Inv X A env m σ { s with heap := h', toks := tk } ∧ Stp X.own (frs A) σ σ s { s with heap := h', toks := tk } ∧ ∀ b o, s.heap.get? b = some o → b ≠ env.locals → h'.get? b = some o := by
  have k := keep_of_news I F N
  have oL := I.f.own _ I.f.e.ownL
  obtain ⟨h1, h2, oo, h3, h4⟩ := oL
  obtain ⟨oN, es, ep, hN, hNd, hN2⟩ := F.ns
  have S : Stp X.own (frs A) σ σ s { s with heap := h', toks := tk } := by
    refine ⟨fun b o e _ hb _ => k b o e fun q => hb (by rw [q]; exact I.f.e.ownL), fun b o e _ hb _ => ⟨o.slots, k b o e fun q => hb (by rw [q]; exact I.f.e.ownL)⟩, fun _ h => .inl h, fun b o e => ?_, fun a items t => ?_, ⟨_, _, rfl⟩⟩
    · by_cases q : b = env.locals
      · subst q; exact ⟨oN, hN⟩
      · exact ⟨o, k b o e q⟩
    · obtain ⟨o, ho, hc, n, hd⟩ := t
      have : a ≠ env.locals := fun q => by subst q; rw [h3] at ho; cases ho; exact h4.seq _ _ hd
      exact ⟨o, k a o ho this, hc, n, hd⟩
  refine ⟨I.step0 ok S (fun a o e => ?_) (fun _ h => .inl h) (fun b hb => ?_) ⟨mc, F.ns, fun x d e q => let ⟨v, a, r⟩ := hm x d e q; ⟨v, a, r.grow S.tup⟩⟩ (fun x ca e => ?_), S, k⟩
  · refine (I.g.sim a o e).of_get S.tup fun x hx => k a x hx fun q => ?_
    rw [q, h1] at e; cases e
  · by_cases q : b = env.locals
    · subst q; exact ⟨oN, hN, .inl ⟨es, ep, hNd⟩⟩
    · obtain ⟨_, _, o, e, r⟩ := I.f.own b hb
      exact ⟨o, k b o e q, r⟩
  · obtain ⟨o, v0, e1, e2, e3⟩ := I.f.cel x ca e
    have : ca ≠ env.locals := fun q => by
      subst q
      obtain ⟨mc', ⟨oM, es', ep', hM, hMd, _⟩, _⟩ := I.f.loc
      rw [e1] at hM; cases hM; rw [hMd] at e2; cases e2
    exact ⟨o, v0, k ca o e1 this, e2, fun d hd hc => let ⟨v, a, r⟩ := e3 d hd hc; ⟨v, a, r.grow S.tup⟩⟩
end
end Mine
end
section
namespace Mine
section
variable {X : Cx} {A : Around} {env : Env} {E : Value → Shared → Prop} {m : Vars} {σ : Store}
theorem Rep.int' {h : Heap} {x : Int} {v : Value} (r : Rep h (.i x) v) : ∃ t, v = .int x t := by simpa only [Rep] using r
theorem Rep.str' {h : Heap} {x : Str} {v : Value} (r : Rep h (.s x) v) : ∃ t, v = .str x t := by simpa only [Rep] using r
theorem Rep.val' {h : Heap} {w v : Value} (r : Rep h (.c w) v) : v = w := by simpa only [Rep] using r
theorem Rep.tup' {h : Heap} {l : List AV} {v : Value} (r : Rep h (.t l) v) : ∃ a vs, v = .ref a ∧ IsTup h a vs.toArray ∧ RepL h l vs := by simpa only [Rep] using r
theorem Rep.tup {h : Heap} {l : List AV} {a : Addr} {vs : List Value} (t : IsTup h a vs.toArray) (r : RepL h l vs) : Rep h (.t l) (.ref a) := by simp only [Rep]; exact ⟨a, vs, rfl, t, r⟩
-- ints
theorem v2_int (op : Operator) (f : Int → Int → Int) {a b : Int} {Q : AV → Store → Prop} (ok : X.Ok A) (q : Q (.i (f a b)) σ)
    (h : ∀ (s : Shared) (t u : Tok) (Q' : Value → Shared → Prop), Q' (.int (f a b) s.toks) { s with toks := s.toks + 1 } → wpAny (model X.prog X.w) A (binaryOp op (.int a t) (.int b u)) Q' E s) :
    V2 X A env E (binaryOp op) (.i a) (.i b) m σ Q := fun s va vb ra rb I => by
  obtain ⟨t, rfl⟩ := ra.int'; obtain ⟨u, rfl⟩ := rb.int'
  exact h s t u _ (PE.toks ok Rep.int I q)
theorem v2_add {a b : Int} {Q : AV → Store → Prop} (ok : X.Ok A) (q : Q (.i (a + b)) σ) : V2 X A env E (binaryOp .Add) (.i a) (.i b) m σ Q := v2_int .Add (· + ·) ok q fun _ _ _ _ h => add_int h
theorem v2_sub {a b : Int} {Q : AV → Store → Prop} (ok : X.Ok A) (q : Q (.i (a - b)) σ) : V2 X A env E (binaryOp .Sub) (.i a) (.i b) m σ Q := v2_int .Sub (· - ·) ok q fun _ _ _ _ h => sub_int h
theorem v2_mul {a b : Int} {Q : AV → Store → Prop} (ok : X.Ok A) (hz : IntMulOk a b) (q : Q (.i (a * b)) σ) : V2 X A env E (binaryOp .Mult) (.i a) (.i b) m σ Q := v2_int .Mult (· * ·) ok q fun _ _ _ _ h => mul_int h hz
theorem v2_mod {a b : Int} {Q : AV → Store → Prop} (ok : X.Ok A) (hb : b ≠ 0) (q : Q (.i (a.fmod b)) σ) : V2 X A env E (binaryOp .Mod) (.i a) (.i b) m σ Q := v2_int .Mod Int.fmod ok q fun _ _ _ _ h => mod_int' hb h
theorem v2_pow {a b : Int} {Q : AV → Store → Prop} (ok : X.Ok A) (h0 : 0 ≤ b) (h1 : b ≤ 1000000) (h2 : a.natAbs < 2 ^ 64) (q : Q (.i (a ^ b.toNat)) σ) : V2 X A env E (binaryOp .Pow) (.i a) (.i b) m σ Q :=
  v2_int .Pow (fun a b => a ^ b.toNat) ok q fun _ _ _ _ h => pow_int_small h0 h1 h2 h
theorem v2_str (ok : X.Ok A) {a b : Str} {Q : AV → Store → Prop} (hz : a.length + b.length ≤ sizeLine) (q : Q (.s (a ++ b)) σ) : V2 X A env E (binaryOp .Add) (.s a) (.s b) m σ Q := fun s va vb ra rb I => by
  obtain ⟨t, rfl⟩ := ra.str'; obtain ⟨u, rfl⟩ := rb.str'
  exact add_str (fun _ _ => PE.toks ok Rep.str I q) hz
theorem v1_neg {a : Int} {Q : AV → Store → Prop} (ok : X.Ok A) (q : Q (.i (-a)) σ) : V1 X A env E (unaryOp .USub) (.i a) m σ Q := fun s va ra I => by
  obtain ⟨t, rfl⟩ := ra.int'
  exact neg_int (PE.toks ok Rep.int I q)
theorem v1_not {d : AV} {Q : AV → Store → Prop} (h : B1 X A env E truthy d m σ fun c σ' => Q (.c (.bool (!c))) σ') : V1 X A env E (unaryOp .Not) d m σ Q := fun s va ra I =>
  not_of (wpAny_mono (h s va ra I) (by rintro c s' ⟨σ', i, t, q⟩; exact ⟨_, σ', Rep.val, i, t, q⟩) fun _ _ x => x)
-- comparisons
theorem v2_cmpI (op : CmpOp) (f : Int → Int → Bool) {a b : Int} {Q : AV → Store → Prop} (q : Q (.c (.bool (f a b))) σ)
    (h : ∀ (s : Shared) (t u : Tok) (Q' : Value → Shared → Prop), Q' (.bool (f a b)) s → wpAny (model X.prog X.w) A (compareOp op (.int a t) (.int b u)) Q' E s) :
    V2 X A env E (compareOp op) (.i a) (.i b) m σ Q := fun s va vb ra rb I => by
  obtain ⟨t, rfl⟩ := ra.int'; obtain ⟨u, rfl⟩ := rb.int'
  exact h s t u _ (PE.here Rep.val I q)
theorem v2_eqI {a b : Int} {Q : AV → Store → Prop} (q : Q (.c (.bool (a == b))) σ) : V2 X A env E (compareOp .Eq) (.i a) (.i b) m σ Q := v2_cmpI .Eq (· == ·) q fun _ _ _ _ h => eq_int h
theorem v2_ltI {a b : Int} {Q : AV → Store → Prop} (q : Q (.c (.bool (decide (a < b)))) σ) : V2 X A env E (compareOp .Lt) (.i a) (.i b) m σ Q := v2_cmpI .Lt (fun a b => decide (a < b)) q fun _ _ _ _ h => lt_int h
theorem v2_gtI {a b : Int} {Q : AV → Store → Prop} (q : Q (.c (.bool (decide (b < a)))) σ) : V2 X A env E (compareOp .Gt) (.i a) (.i b) m σ Q := v2_cmpI .Gt (fun a b => decide (b < a)) q fun _ _ _ _ h => gt_int h
theorem v2_leI {a b : Int} {Q : AV → Store → Prop} (q : Q (.c (.bool (decide (a ≤ b)))) σ) : V2 X A env E (compareOp .LtE) (.i a) (.i b) m σ Q := v2_cmpI .LtE (fun a b => decide (a ≤ b)) q fun _ _ _ _ h => le_int h
theorem v2_geI {a b : Int} {Q : AV → Store → Prop} (q : Q (.c (.bool (decide (b ≤ a)))) σ) : V2 X A env E (compareOp .GtE) (.i a) (.i b) m σ Q := v2_cmpI .GtE (fun a b => decide (b ≤ a)) q fun _ _ _ _ h => ge_int h
theorem v2_eqS {a b : Str} {Q : AV → Store → Prop} (q : Q (.c (.bool (a == b))) σ) : V2 X A env E (compareOp .Eq) (.s a) (.s b) m σ Q := fun s va vb ra rb I => by
  obtain ⟨t, rfl⟩ := ra.str'; obtain ⟨u, rfl⟩ := rb.str'
  exact eq_str (PE.here Rep.val I q)
theorem v2_neS {a b : Str} {Q : AV → Store → Prop} (q : Q (.c (.bool (a != b))) σ) : V2 X A env E (compareOp .NotEq) (.s a) (.s b) m σ Q := fun s va vb ra rb I => by
  obtain ⟨t, rfl⟩ := ra.str'; obtain ⟨u, rfl⟩ := rb.str'
  exact ne_str (PE.here Rep.val I q)
/-- «x is None» -/
noncomputable def notNone : AV → Bool
  | .c .none => false
  | .c (.ref _) => true
  | .c (.bool _) => true
  | .c _ => false
  | _ => true
theorem v2_isNone {d : AV} {Q : AV → Store → Prop} (hd : notNone d = true) (q : Q (.c (.bool false)) σ) : V2 X A env E (compareOp .Is) d (.c .none) m σ Q := fun s va vb ra rb I => by
  cases rb.val'
  have fin : PE X A env m σ Q s (.bool false) s := PE.here Rep.val I q
  cases d with
  | i x => obtain ⟨t, rfl⟩ := ra.int'; exact wpAny_is_other rfl (by intro x; cases x) fin
  | s x => obtain ⟨t, rfl⟩ := ra.str'; exact wpAny_is_other rfl (by intro x; cases x) fin
  | t l => obtain ⟨a, vs, rfl, _, _⟩ := ra.tup'; exact wpAny_is_other rfl (by intro x; cases x) fin
  | c v => cases ra.val'; cases va <;> first | (cases hd; done) | exact wpAny_is_other rfl (by intro x; cases x) fin
theorem v2_isNoneT {Q : AV → Store → Prop} (q : Q (.c (.bool true)) σ) : V2 X A env E (compareOp .Is) (.c .none) (.c .none) m σ Q := fun s va vb ra rb I => by
  cases ra.val'; cases rb.val'
  exact wpAny_is_self rfl (PE.here Rep.val I q)
theorem v2_isNotNone {d : AV} {Q : AV → Store → Prop} (hd : notNone d = true) (q : Q (.c (.bool true)) σ) : V2 X A env E (compareOp .IsNot) d (.c .none) m σ Q := fun s va vb ra rb I => by
  cases rb.val'
  have fin : PE X A env m σ Q s (.bool true) s := PE.here Rep.val I q
  cases d with
  | i x => obtain ⟨t, rfl⟩ := ra.int'; exact wpAny_isNot_other rfl (by intro x; cases x) fin
  | s x => obtain ⟨t, rfl⟩ := ra.str'; exact wpAny_isNot_other rfl (by intro x; cases x) fin
  | t l => obtain ⟨a, vs, rfl, _, _⟩ := ra.tup'; exact wpAny_isNot_other rfl (by intro x; cases x) fin
  | c v => cases ra.val'; cases va <;> first | (cases hd; done) | exact wpAny_isNot_other rfl (by intro x; cases x) fin
theorem v2_isNotNoneF {Q : AV → Store → Prop} (q : Q (.c (.bool false)) σ) : V2 X A env E (compareOp .IsNot) (.c .none) (.c .none) m σ Q := fun s va vb ra rb I => by
  cases ra.val'; cases rb.val'
  exact wpAny_isNot_self rfl (PE.here Rep.val I q)
-- items
theorem v2_tup {value slice : Expr} {l : List AV} {k : Int} {j : Nat} {d : AV} {Q : AV → Store → Prop} (hlo : -(2 ^ 63) ≤ k) (hhi : k < 2 ^ 63) (hj : seqIndex? k l.length = some j) (hx : l[j]? = some d) (q : Q d σ)
    (hs : ∀ t u, subscripted slice false (.ref t) (.int k u) = operate [.ref t, .int k u] (getItem (.ref t) (.int k u)) := by intro _ _; with_unfolding_all rfl) : V2 X A env E (subscriptTail value slice) (.t l) (.i k) m σ Q := fun s va vb ra rb I => by
  obtain ⟨u, rfl⟩ := rb.int'
  obtain ⟨a, vs, rfl, ht, hr⟩ := ra.tup'
  obtain ⟨v, hv, r⟩ := hr.get hx
  exact item_tupleT ht hlo hhi (by rw [hr.length]; exact hj) hv (PE.here r I q) (hs a u)
theorem v2_lst {value slice : Expr} {a : Addr} {l : List AV} {k : Int} {d : AV} {Q : AV → Store → Prop} (hσ : σ a = some (.lst l)) (h0 : 0 ≤ k) (hhi : k < 2 ^ 63) (hx : l[k.toNat]? = some d) (q : Q d σ)
    (hs : ∀ u, subscripted slice false (.ref a) (.int k u) = operate [.ref a, .int k u] (getItem (.ref a) (.int k u)) := by intro _; with_unfolding_all rfl) : V2 X A env E (subscriptTail value slice) (.c (.ref a)) (.i k) m σ Q := fun s va vb ra rb I => by
  obtain ⟨u, rfl⟩ := rb.int'
  cases ra.val'
  obtain ⟨vs, n, hg, hr⟩ := I.g.sim a _ hσ
  obtain ⟨v, hv, r⟩ := hr.get hx
  have hL : s.heap.IsList a vs.toArray := ⟨_, hg, rfl, n, rfl⟩
  exact tail_any hL.typeIs slot_list_getitem.lookup (wpAny_getItem_list hL h0 hhi (by simpa using hv) (PE.here r I q)) (hs u)
theorem lookup_vals {h : Heap} : ∀ {l : List (Str × AV)} {kvs : List (Str × Value)} {x : Str}, kvs.map (·.1) = l.map (·.1) → RepL h (l.map (·.2)) (kvs.map (·.2)) →
    (match l.lookup x with | some d => ∃ v, valueAt kvs x = some v ∧ Rep h d v | none => valueAt kvs x = none)
  | [], kvs, x, hk, _ => by
    have : kvs = [] := by simpa using hk
    subst this; rfl
  | (k, d) :: l, kvs, x, hk, hr => by
    cases kvs with
    | nil => simp at hk
    | cons p r =>
      obtain ⟨k', v⟩ := p
      simp only [List.map_cons, List.cons.injEq] at hk
      simp only [List.map_cons, RepL] at hr
      obtain ⟨v', r', e, hd, hl⟩ := hr
      obtain ⟨rfl, rfl⟩ := List.cons.inj e
      obtain ⟨rfl, hk⟩ := hk
      have ih := lookup_vals (x := x) hk hl
      by_cases q : x = k'
      · subst q; simp [List.lookup_cons, valueAt]; exact hd
      · have hb : (x == k') = false := beq_eq_false_iff_ne.mpr q
        have hq : ¬ k' = x := fun z => q z.symm
        simp only [List.lookup_cons, hb]
        have hv : valueAt ((k', v) :: r) x = valueAt r x := by simp [valueAt, List.find?_cons, hq]
        simp only [hv]; exact ih
theorem v2_dct {value slice : Expr} {a : Addr} {l : List (Str × AV)} {x : Str} {d : AV} {Q : AV → Store → Prop} (ok : X.Ok A) (hσ : σ a = some (.dct l)) (hx : l.lookup x = some d) (q : Q d σ)
    (hs : ∀ u, subscripted slice false (.ref a) (.str x u) = operate [.ref a, .str x u] (getItem (.ref a) (.str x u)) := by intro _; with_unfolding_all rfl) : V2 X A env E (subscriptTail value slice) (.c (.ref a)) (.s x) m σ Q := fun s va vb ra rb I => by
  obtain ⟨u, rfl⟩ := rb.str'
  cases ra.val'
  obtain ⟨kvs, hd, hk, hr⟩ := I.g.sim a _ hσ
  have := lookup_vals (x := x) hk hr
  rw [hx] at this
  obtain ⟨v, hv, r⟩ := this
  exact tail_any hd.typeIs slot_dict_getitem.lookup (wpAny_getItem_of (strKind_is _ _ x u) hd.mapOf hv (PE.toks ok r I q)) (hs u)
theorem not_modules (I : Inv X A env m σ s) (hm : X.hT.get? sysModules ≠ none) {a : Addr} (h : σ a ≠ none) : (a == sysModules) = false := by
  cases e : a == sysModules with
  | false => rfl
  | true =>
    have : a = sysModules := by simpa using e
    subst this
    exact absurd (I.g.off _ h) hm
theorem v2_in {a : Addr} {l : List (Str × AV)} {x : Str} {Q : AV → Store → Prop} (ok : X.Ok A) (hm : X.hT.get? sysModules ≠ none) (hσ : σ a = some (.dct l)) (q : Q (.c (.bool (l.lookup x).isSome)) σ) : V2 X A env E (compareOp .In) (.s x) (.c (.ref a)) m σ Q := fun s va vb ra rb I => by
  obtain ⟨u, rfl⟩ := ra.str'
  cases rb.val'
  obtain ⟨kvs, hd, hk, hr⟩ := I.g.sim a _ hσ
  have := lookup_vals (x := x) hk hr
  refine wpAny_in_of (strKind_is _ _ x u) (not_modules I hm (by rw [hσ]; simp)) hd.mapOf (PE.toks ok ?_ I q)
  cases e : l.lookup x with
  | none => rw [e] at this; simp only at this; rw [this]; exact Rep.val
  | some d => rw [e] at this; obtain ⟨v, hv, r⟩ := this; rw [hv]; exact Rep.val
theorem v2_notin {a : Addr} {l : List (Str × AV)} {x : Str} {Q : AV → Store → Prop} (ok : X.Ok A) (hm : X.hT.get? sysModules ≠ none) (hσ : σ a = some (.dct l)) (q : Q (.c (.bool !(l.lookup x).isSome)) σ) : V2 X A env E (compareOp .NotIn) (.s x) (.c (.ref a)) m σ Q := fun s va vb ra rb I => by
  obtain ⟨u, rfl⟩ := ra.str'
  cases rb.val'
  obtain ⟨kvs, hd, hk, hr⟩ := I.g.sim a _ hσ
  have := lookup_vals (x := x) hk hr
  refine wpAny_notIn_of (strKind_is _ _ x u) (not_modules I hm (by rw [hσ]; simp)) hd.mapOf (PE.toks ok ?_ I q)
  cases e : l.lookup x with
  | none => rw [e] at this; simp only at this; rw [this]; exact Rep.val
  | some d => rw [e] at this; obtain ⟨v, hv, r⟩ := this; rw [hv]; exact Rep.val
end
end Mine
end
section
namespace Mine
noncomputable def put {α : Type} : List (Str × α) → Str → α → List (Str × α)
  | [], k, d => [(k, d)]
  | p :: r, k, d => if p.1 = k then (p.1, d) :: r else p :: put r k d
theorem put_keys {α : Type} (k : Str) (d : α) : ∀ l : List (Str × α), (put l k d).map (·.1) = if k ∈ l.map (·.1) then l.map (·.1) else l.map (·.1) ++ [k]
  | [] => by simp [put]
  | p :: r => by
    have ih := put_keys k d r
    by_cases h : p.1 = k
    · simp [put, h]
    · have h' : ¬ k = p.1 := fun e => h e.symm
      simp only [put, h, if_false, List.map_cons, ih, List.mem_cons, h', false_or]
      split <;> simp
theorem put_stored (k : Str) (v : Value) : ∀ l : List (Str × Value), (l.map (·.1)).Nodup → put l k v = stored l k v
  | [], _ => by simp [put, stored]
  | p :: r, hn => by
    have hn' := List.nodup_cons.mp (by simpa using hn : (p.1 :: r.map (·.1)).Nodup)
    have ih := put_stored k v r hn'.2
    by_cases h : p.1 = k
    · have hm := map_store_of_not_mem r k v (h ▸ hn'.1)
      simp only [put, h, if_true, stored, List.any_cons, decide_true, Bool.true_or, List.map_cons]
      rw [hm]
    · simp only [put, h, if_false, ih]
      unfold stored
      simp only [List.any_cons, List.map_cons, h, decide_false, Bool.false_or, if_false]
      split <;> rfl
theorem put_lookup {α : Type} (k x : Str) (d : α) : ∀ l : List (Str × α), (put l k d).lookup x = if x = k then some d else l.lookup x
  | [] => by
    by_cases h : x = k
    · subst h; simp [put, List.lookup_cons]
    · have : (x == k) = false := by simpa using h
      simp [put, List.lookup_cons, this, h]
  | p :: r => by
    obtain ⟨q, e⟩ := p
    have ih := put_lookup k x d r
    by_cases h : q = k
    · subst h
      by_cases hx : x = q
      · subst hx; simp [put, List.lookup_cons]
      · have : (x == q) = false := by simpa using hx
        simp [put, List.lookup_cons, this, hx]
    · by_cases hx : x = q
      · subst hx
        simp [put, h, List.lookup_cons]
      · have : (x == q) = false := by simpa using hx
        simp only [put, h, if_false, List.lookup_cons, this, ih]
noncomputable def RepD (h : Heap) (l : List (Str × AV)) (kvs : List (Str × Value)) : Prop := kvs.map (·.1) = l.map (·.1) ∧ RepL h (l.map (·.2)) (kvs.map (·.2))
theorem RepD.grow {h h' : Heap} (g : Grow h h') {l : List (Str × AV)} {kvs : List (Str × Value)} (r : RepD h l kvs) : RepD h' l kvs := ⟨r.1, r.2.grow g⟩
theorem RepD.put {h : Heap} {k : Str} {d : AV} {v : Value} (r : Rep h d v) : ∀ {l : List (Str × AV)} {kvs : List (Str × Value)}, RepD h l kvs → RepD h (Mine.put l k d) (Mine.put kvs k v)
  | [], kvs, ⟨hk, _⟩ => by
    have : kvs = [] := by simpa using hk
    subst this
    exact ⟨rfl, RepL.cons r .nil⟩
  | p :: l, kvs, ⟨hk, hr⟩ => by
    cases kvs with
    | nil => simp at hk
    | cons q kvs =>
      simp only [List.map_cons, List.cons.injEq] at hk
      simp only [List.map_cons, RepL] at hr
      obtain ⟨v', r', e, hd, hl⟩ := hr
      obtain ⟨rfl, rfl⟩ := List.cons.inj e
      have ih := RepD.put r (k := k) ⟨hk.2, hl⟩
      by_cases h : p.1 = k
      · have h' : q.1 = k := hk.1.trans h
        simp only [Mine.put, h, h', if_true]
        exact ⟨by simp [hk.2], RepL.cons r hl⟩
      · have h' : ¬ q.1 = k := fun e => h (hk.1 ▸ e)
        simp only [Mine.put, h, h', if_false]
        exact ⟨by simp [hk.1, ih.1], RepL.cons hd ih.2⟩
section
variable {prog : Program} {w : World} {h : Heap}
theorem strIs (x : Str) (v : Value) : (strKind prog w).is x v = v.isStr x := (isStr_of x v).symm
theorem dict_obj {d : Addr} {kvs : List (Str × Value)} (hd : h.DictOf (strKind prog w) d kvs) : ∃ od, h.get? d = some od ∧ (∀ name, lookIn name od = some (valueAt kvs name)) ∧ od.ExactDict ∧ ∃ es n, od.data = .dict es n ∧ KeysOf (strKind prog w) es ∧ Pairs (strKind prog w) es.toList kvs ∧ (kvs.map (·.1)).Nodup := by
  obtain ⟨o, es, ep, ho, hx, hda, hk, hp, hn⟩ := hd
  refine ⟨o, ho, fun name => ?_, hx, es, ep, hda, hk, hp, hn⟩
  unfold lookIn
  rw [hda]
  dsimp only
  have e1 : (fun e : DictEntry => e.key.isStr name) = fun e => (strKind prog w).is name e.key := funext fun e => (strIs name e.key).symm
  have hf := hp.find name
  rw [← e1] at hf
  cases q : es.toList.find? fun e => e.key.isStr name with
  | some e => rw [q] at hf; dsimp only; rw [← hf]; rfl
  | none =>
    rw [q] at hf
    dsimp only
    have : es.toList.any (·.refKey) = false := by
      rw [List.any_eq_false]
      intro e he
      obtain ⟨k, hk1, _⟩ := hk e (Array.mem_toList_iff.mp he)
      rw [strIs] at hk1
      cases hke : e.key <;> rw [hke] at hk1 <;> first | cases hk1 | simp [DictEntry.refKey, hke]
    rw [this, ← hf]; rfl
theorem put_dict {o : Obj} {es : Array DictEntry} {ep : Nat} {kvs : List (Str × Value)} {x : Str} {t : Tok} {v : Value} (hx : o.ExactDict) (hd : o.data = .dict es ep) (hk : KeysOf (strKind prog w) es) (hp : Pairs (strKind prog w) es.toList kvs) (hn : (kvs.map (·.1)).Nodup) :
    ∃ es' ep', (Obj.putName x (PyData.keyHash w.params x) (.str x t) v o).data = .dict es' ep' ∧ es'.size ≤ es.size + 1 ∧ (Obj.putName x (PyData.keyHash w.params x) (.str x t) v o).ExactDict ∧ KeysOf (strKind prog w) es' ∧ Pairs (strKind prog w) es'.toList (put kvs x v) ∧ ((put kvs x v).map (·.1)).Nodup := by
  obtain ⟨c, dd, dt, sl⟩ := o
  dsimp only at hd; subst hd
  have nd : ((put kvs x v).map (·.1)).Nodup := by
    rw [put_keys]
    split
    · exact hn
    · rename_i hm
      exact List.nodup_append.mpr ⟨hn, by simp, fun a ha b hb => by
        have : b = x := by simpa using hb
        subst this; exact fun e => hm (e ▸ ha)⟩
  rw [Obj.putName_eq]
  unfold Obj.putNameByArray
  dsimp only
  have e1 : (fun e : DictEntry => e.key.isStr x) = fun e => (strKind prog w).is x e.key := funext fun e => (strIs x e.key).symm
  rw [e1]
  have e2 : es.findIdx? (fun e => (strKind prog w).is x e.key) = es.toList.findIdx? (fun e => (strKind prog w).is x e.key) := by
    obtain ⟨l⟩ := es; rw [List.findIdx?_toArray]
  have e3 := hp.findIdx x
  rw [put_stored _ _ _ hn] at nd ⊢
  cases q : es.findIdx? (fun e => (strKind prog w).is x e.key) with
  | some i =>
    rw [e2] at q
    refine ⟨_, _, rfl, by simp, hx, hk.modify i v, ?_, nd⟩
    have hany : kvs.any (fun kv => decide (kv.1 = x)) = true := by
      rw [q] at e3
      have := (List.findIdx?_eq_some_iff_getElem.mp e3.symm)
      obtain ⟨hlt, hp1, _⟩ := this
      exact List.any_eq_true.mpr ⟨kvs[i], List.getElem_mem hlt, hp1⟩
    unfold stored
    rw [if_pos hany]
    have := hp.modify hn q v
    simpa using this
  | none =>
    rw [e2] at q
    have hkey : (strKind prog w).is x (.str x t) = true := strKind_is prog w x t
    refine ⟨_, _, rfl, by simp, hx, hk.push hkey v, ?_, nd⟩
    have hany : ¬ kvs.any (fun kv => decide (kv.1 = x)) = true := by
      rw [q] at e3
      intro z
      obtain ⟨kv, hm, hq⟩ := List.any_eq_true.mp z
      have := List.findIdx?_eq_none_iff.mp e3.symm kv hm
      rw [this] at hq; cases hq
    unfold stored
    rw [if_neg hany]
    have := hp.append hkey (PyData.keyHash w.params x) v
    simpa using this
end
section
variable {X : Cx} {A : Around} {env : Env} {E : Value → Shared → Prop} {m : Vars} {σ : Store} {K : Frag} {p : Program} {loose : List Str} {mg mb : Str → Option Value}
noncomputable def AV.handed : AV → Bool
  | .c v => handedIn v
  | _ => true
theorem Rep.handed {h : Heap} {d : AV} {v : Value} (r : Rep h d v) (e : d.handed = true) : handedIn v = true := by
  cases d with
  | c w => cases r.val'; exact e
  | i x => obtain ⟨t, rfl⟩ := r.int'; rfl
  | s x => obtain ⟨t, rfl⟩ := r.str'; rfl
  | t l => obtain ⟨a, vs, rfl, _⟩ := r.tup'; rfl
/-- a field of an own class's instances -/
noncomputable def fieldOk (K : Frag) (C : Addr) (name : Str) : Bool := plainGet K C name && hasDictIn K C && match findIn K (.ref C) name with
  | some attr => noGet K attr
  | none => false
theorem inst_at {s : Shared} {a C d : Addr} {l : List (Str × AV)} (I : Inv X A env m σ s) (h1 : σ a = some (.ins C d)) (h2 : σ d = some (.dct l)) :
    ∃ kvs od, InstAt s.heap a (instObj C d) C (some od) ∧ s.heap.DictOf (strKind X.prog X.w) d kvs ∧ RepD s.heap l kvs ∧ s.heap.get? d = some od ∧ ∀ name, lookIn name od = some (valueAt kvs name) := by
  have i1 := I.g.sim a _ h1
  obtain ⟨kvs, hd, hk, hr⟩ := I.g.sim d _ h2
  obtain ⟨od, ho, hl, _⟩ := dict_obj hd
  exact ⟨kvs, od, ⟨i1, rfl, rfl, ho⟩, hd, ⟨hk, hr⟩, ho, hl⟩
theorem v1_attr (P : Pg X A K p loose mg mb) {a C dd : Addr} {l : List (Str × AV)} {name : Str} {d : AV} {b : Bool} {Q : AV → Store → Prop} (h1 : σ a = some (.ins C dd)) (h2 : σ dd = some (.dct l)) (hf : fieldOk K C name = true) (hl : l.lookup name = some d) (hh : d.handed = true) (q : Q d σ) :
    V1 X A env E (fun o => getAttr o name b) (.c (.ref a)) m σ Q := fun s va ra I => by
  cases ra.val'
  obtain ⟨kvs, od, IA, hd, hr, ho, hlk⟩ := inst_at I h1 h2
  have := lookup_vals (x := name) hr.1 hr.2
  rw [hl] at this
  obtain ⟨v, hv, r⟩ := this
  unfold fieldOk at hf
  split at hf
  · rename_i attr ha
    simp only [Bool.and_eq_true] at hf
    obtain ⟨⟨f1, f2⟩, f3⟩ := hf
    exact get_value (P.k.keeps I.g.top) IA (plainGet_of f1).1 (findObj_own f2 ha f3 (by rw [hlk, hv])) (r.handed hh) (PE.toks P.ok r I q)
  · simp at hf
/-- a field may be stored -/
noncomputable def storeOk' (K : Frag) (C : Addr) (name : Str) : Bool := findIn K (.ref C) "__setattr__" == some (some (.builtin "object.__setattr__")) && plainOver K C && takerIn K C name == some none && hasDictIn K C
theorem set_attr (P : Pg X A K p loose mg mb) {s : Shared} {a C dd : Addr} {l : List (Str × AV)} {name : Str} {d : AV} {v : Value} {Q : Unit → Shared → Prop} (I : Inv X A env m σ s) (h1 : σ a = some (.ins C dd)) (h2 : σ dd = some (.dct l)) (hf : storeOk' K C name = true) (hz : l.length ≤ 1000) (r : Rep s.heap d v)
    (q : ∀ s', Inv X A env m (σ.set dd (.dct (put l name d))) s' → Stp X.own (frs A) σ (σ.set dd (.dct (put l name d))) s s' → Q () s') : wpAny (model X.prog X.w) A (setAttr (.ref a) name v) Q E s := by
  obtain ⟨kvs, od, IA, hd, hr, ho, hlk⟩ := inst_at I h1 h2
  obtain ⟨od', ho', _, hx, es, ep, hda, hk, hp, hn⟩ := dict_obj hd
  rw [ho] at ho'; cases ho'
  simp only [storeOk', Bool.and_eq_true, beq_iff_eq] at hf
  obtain ⟨⟨⟨f1, f2⟩, f3⟩, f4⟩ := hf
  have Xs := P.k.keeps I.g.top
  refine set_plain Xs IA f1 (osa_open (s := { s with toks := s.toks + 1 }) Xs IA f2 f3 fun b => ?_)
  obtain ⟨cd, hc, hd'⟩ := any_some f4
  obtain ⟨hx0, hcl, hno, -⟩ := IA
  refine wpAny_bind (wpAny_pure (wpAny_bind (wpAny_bind (wpAny_loadPart hx0 (wpAny_bind (looks_clsIn Xs hc _ _ _ _ (fun _ _ e => e) ?_))))))
  rw [hd']
  refine wpAny_pure (a := some dd) (wpAny_bind (wpAny_pure (wpAny_bind ?_)))
  unfold nsSet
  refine wpAny_bind (wpAny_bind (wpAny_askSetting (wpAny_pure (wpAny_bind (wpAny_mkText (wpAny_bind (wpAny_loadPart ho ?_)))))))
  rw [hda]
  dsimp only
  have c : aRefKeyMayBeTheName name es = false := by
    rw [aRefKeyMayBeTheName_at]
    have : es.any (·.refKey) = false := by
      rw [← Array.any_toList, List.any_eq_false]
      intro e he
      obtain ⟨k, hk1, _⟩ := hk e (Array.mem_toList_iff.mp he)
      rw [strIs] at hk1
      cases hke : e.key <;> rw [hke] at hk1 <;> first | cases hk1 | simp [DictEntry.refKey, hke]
    rw [this, Bool.and_false]
  rw [c]
  refine wpAny_updatePart ho ?_
  obtain ⟨es', ep', g1, g2, g3, g4, g5, g6⟩ := put_dict (x := name) (t := s.toks + 1) (v := v) hx hda hk hp hn
  have D' := Heap.get?_update_self (h := s.heap) (a := dd) (Obj.putName name (PyData.keyHash X.w.params name) (.str name (s.toks + 1)) v) ho (Obj.isFreed_of_dict g1)
  have esz : es.size ≤ 1000 := by
    have := hp.length
    have e2 : kvs.length = l.length := by simpa using congrArg List.length hr.1
    have e3 : es.toList.length = es.size := Array.length_toList
    omega
  refine wpAny_bind (wpAny_lookBehind D' (by rw [g1]; exact pastItsLine_dict (by rw [sizeLine_eq]; omega)) ?_)
  have hs : Heap.SameBut dd s.heap (s.heap.update dd (Obj.putName name (PyData.keyHash X.w.params name) (.str name (s.toks + 1)) v)) := Heap.SameBut.update ..
  have S0 : Grow s.heap (s.heap.update dd (Obj.putName name (PyData.keyHash X.w.params name) (.str name (s.toks + 1)) v)) := fun b items t => by
    obtain ⟨ot, z1, z2, z3⟩ := t
    have : b ≠ dd := fun e => by subst e; rw [ho] at z1; cases z1; rw [hx.1] at z2; simp at z2
    exact ⟨ot, (hs.2 b this).trans z1, z2, z3⟩
  have ob : ObjIs X.prog X.w (s.heap.update dd (Obj.putName name (PyData.keyHash X.w.params name) (.str name (s.toks + 1)) v)) dd (.dct (put l name d)) := by
    have rd := (hr.put (k := name) r).grow S0
    exact ⟨put kvs name v, ⟨_, es', ep', D', g3, g1, g4, g5, g6⟩, rd.1, rd.2⟩
  exact wpAny_pure (q _ (I.update (tk := s.toks + 1 + 1) P.ok h2 hs ob) (.of_update (I.g.sim dd _ h2) h2 hs ob))
end
end Mine
end
section
namespace Mine
/-- room for n calls within each other -/
structure Room (A : Around) (n : Nat) : Prop where
  h : A.handled = none
  d : A.depth + n < 1000
  u : A.units + 16 * n < 9900
theorem Room.deeper {A : Around} {n : Nat} (R : Room A (n + 1)) (env : Env) : Room (A.deeper env) n :=
  ⟨R.h, by show A.depth + 1 + n < 1000; have := R.d; omega, by show A.units + 3 + 16 * n < 9900; have := R.u; omega⟩
theorem Room.le {A : Around} {n k : Nat} (R : Room A n) (h : k ≤ n) : Room A k := ⟨R.h, by have := R.d; omega, by have := R.u; omega⟩
theorem Room.depth {A : Around} {n : Nat} (R : Room A n) : A.depth < recursionLimit := by have := R.d; show A.depth < 1000; omega
theorem Room.units {A : Around} {n : Nat} (R : Room A n) : A.units < cLine := by have := R.u; show A.units < 9900; omega
/-- what a call leaves -/
noncomputable def CR (B : Bs) (A : Around) (E : Value → Shared → Prop) (σ : Store) (Q : AV → Store → Prop) (s : Shared) (r : Result) (s' : Shared) : Prop := match r with
  | .ok (.ret v) => ∃ d σ', Rep s'.heap d v ∧ GI B σ' s' ∧ Stp (fun _ => False) (frs A) σ σ' s s' ∧ Q d σ'
  | .ok _ => False
  | .error e => E e s'
/-- a call on trees, seen from without -/
noncomputable def CV (B : Bs) (A : Around) (E : Value → Shared → Prop) (f : Value) (args : List AV) (σ : Store) (Q : AV → Store → Prop) : Prop :=
  ∀ s vs, RepL s.heap args vs → GI B σ s → Frs B A σ s → codeAny (model B.prog B.w) A (.call f ⟨vs, []⟩) (CR B A E σ Q s) s
section
variable {X : Cx} {A : Around} {env : Env} {E : Value → Shared → Prop} {m : Vars} {σ : Store} {K : Frag} {p : Program} {loose : List Str} {mg mb : Str → Option Value}
/-- what a step from without does within a frame -/
theorem Inv.outer (ok : X.Ok A) {σ' : Store} {s s' : Shared} (I : Inv X A env m σ s) (g : GI X.toBs σ' s') (S : Stp (fun _ => False) (frs A) σ σ' s s') : Inv X A env m σ' s' ∧ Stp X.own (frs A) σ σ' s s' := by
  have S' : Stp X.own (frs A) σ σ' s s' := ⟨fun b o e h _ hf => S.keep b o e h id hf, fun b o e h _ hf => S.outk b o e h id hf, S.dom, S.mono, S.tup, S.same⟩
  refine ⟨I.step ok S' g.sim (fun b hb => .inr (g.off b hb)) fun b hb o e _ => ?_, S'⟩
  by_cases hf : frs A b
  · exact S.outk b o e (I.f.own b hb).1 id hf
  · exact ⟨o.slots, S.keep b o e (I.f.own b hb).1 id hf⟩
theorem CV.vl {f : Value} {args : List AV} {Q : AV → Store → Prop} (ok : X.Ok A) (h : CV X.toBs A E f args σ Q) : VL X A env E (fun l => call f l) args m σ Q := fun s vs r I =>
  wpAny_call (codeAny_mono (h s vs r I.g I.fr) fun r s' h => by
    rcases r with e | (_ | _ | _ | v)
    · exact h
    · exact h
    · exact h
    · exact h
    · obtain ⟨d, σ', a, g, S, q⟩ := h
      obtain ⟨I', S'⟩ := I.outer ok g S
      exact ⟨d, σ', a, I', S', q⟩)
/-- the frame of a def -/
abbrev fenv (qual : Str) (scope : Scope) (f : Addr) (cdv : Value) (L : Addr) : Env := newEnv scope L mainGlobals (cellsFrom (L + 1) scope.names []) (qual ++ ".<locals>.") (some f) cdv none builtinsNs
/-- the frame's own objects -/
noncomputable def ownOf (scope : Scope) (L : Addr) (b : Addr) : Prop := b = L ∨ ∃ x, (cellsFrom (L + 1) scope.names []).lookup x = some b
/-- the constants of a plain def's walk -/
noncomputable def defX (B : Bs) (scope : Scope) (L : Addr) : Cx := { toBs := B, own := ownOf scope L, G := fun _ _ => True }
theorem defX_ok {B : Bs} {scope : Scope} {L : Addr} {A : Around} : (defX B scope L).Ok A := fun _ _ _ _ _ _ _ => trivial
theorem frs_deeper {A : Around} {env : Env} {b : Addr} {out : List Env} (h : A.frames = some out) : frs (A.deeper env) b ↔ env.frame = some b ∨ frs A b := by
  have e : (A.deeper env).frames = some (env :: out) := by unfold Around.deeper; rw [h]; rfl
  constructor
  · rintro ⟨outer, h1, x, h2, h3⟩
    rw [e] at h1; cases h1
    rcases List.mem_cons.mp h2 with rfl | h2
    · exact .inl h3
    · exact .inr ⟨out, h, x, h2, h3⟩
  · rintro (h1 | ⟨outer, h1, x, h2, h3⟩)
    · exact ⟨_, e, env, List.mem_cons_self .., h1⟩
    · rw [h] at h1; cases h1
      exact ⟨_, e, x, List.mem_cons_of_mem _ h2, h3⟩
noncomputable def bindsA : List (Str × AV) → Vars → Vars
  | [], m => m
  | p :: r, m => bindsA r (m.set p.1 p.2)
theorem bindsA_ok {h : Heap} (kind : Str → Option NameKind) : ∀ (names : List Str) (ds : List AV) (vs : List Value) (m : Vars) (mc cm : Str → Option Value), RepL h ds vs →
    (∀ x d, m x = some d → (kind x = some .local → ∃ v, mc x = some v ∧ Rep h d v) ∧ (kind x ≠ some .local → ∃ v, cm x = some v ∧ Rep h d v)) →
    ∀ x d, bindsA (names.zip ds) m x = some d → (kind x = some .local → ∃ v, bindL kind (names.zip vs) mc x = some v ∧ Rep h d v) ∧ (kind x ≠ some .local → ∃ v, bindC kind (names.zip vs) cm x = some v ∧ Rep h d v)
  | [], _, _, m, mc, cm, _, hm, x, d, e => by
    simp only [List.zip_nil_left, bindsA, bindL, bindC] at e ⊢
    exact hm x d e
  | n :: names, [], vs, m, mc, cm, r, hm, x, d, e => by
    have : vs = [] := by simpa only [RepL] using r
    subst this
    simp only [List.zip_nil_right, bindsA, bindL, bindC] at e ⊢
    exact hm x d e
  | n :: names, d0 :: ds, vs, m, mc, cm, r, hm, x, d, e => by
    simp only [RepL] at r
    obtain ⟨v, vs', rfl, r1, r2⟩ := r
    simp only [List.zip_cons_cons, bindsA, bindL, bindC] at e ⊢
    refine bindsA_ok kind names ds vs' (m.set n d0) _ _ r2 (fun y d' e' => ?_) x d e
    unfold Vars.set at e'
    by_cases q : y = n
    · subst q
      rw [if_pos rfl] at e'; cases e'
      refine ⟨fun k => ⟨v, by simp [k], r1⟩, fun k => ⟨v, by simp [k], r1⟩⟩
    · rw [if_neg q] at e'
      obtain ⟨h1, h2⟩ := hm y d' e'
      refine ⟨fun k => ?_, fun k => ?_⟩
      · obtain ⟨v', a, b⟩ := h1 k
        refine ⟨v', ?_, b⟩
        split
        · simp [q]; exact a
        · exact a
      · obtain ⟨v', a, b⟩ := h2 k
        refine ⟨v', ?_, b⟩
        split
        · exact a
        · simp [q]; exact a
/-- what an exception meets on its way out of a call -/
noncomputable def LV (prog : Program) (w : World) (A : Around) (env : Env) (E : Value → Shared → Prop) : Value → Shared → Prop := fun e s' => wpAny (model prog w) A (leaving env e) (fun _ s'' => E e s'') (fun e' s'' => E e' s'') s'
/-- the constants of a walk that knows its start -/
noncomputable def ghX (B : Bs) (scope : Scope) (L : Addr) (A : Around) (σ : Store) (s : Shared) : Cx := { toBs := B, own := ownOf scope L, G := fun s' σ' => Stp (ownOf scope L) (frs A) σ σ' s s' }
theorem ghX_ok {B : Bs} {scope : Scope} {L : Addr} {A : Around} {σ : Store} {s : Shared} : (ghX B scope L A σ s).Ok A := fun _ _ _ _ _ g S => Stp.trans g S
/-- how a call's start and its body's start stand -/
structure Enter (A : Around) (env : Env) (own : Addr → Prop) (σ : Store) (s s₁ : Shared) : Prop where
  keep : ∀ b o, s.heap.get? b = some o → s₁.heap.get? b = some o
  fresh : ∀ b, own b → s.heap.get? b = none
  frame : ∃ L outer, env.frame = some L ∧ own L ∧ A.frames = some outer ∧ (A.deeper env).frames = some (env :: outer)
  same : ∃ h' tk, s₁ = { s with heap := h', toks := tk }
/-- what stands where a first call begins -/
structure GI0 (X : Bs) (σ : Store) (s : Shared) : Prop where
  top : ∀ b o, X.hT.get? b = some o → s.heap.get? b = some o
  off : ∀ b, σ b ≠ none → X.hT.get? b = none
  low : X.hT.objs.size ≤ s.heap.objs.size
  sim : ∀ a o, σ a = some o → ObjIs X.prog X.w s.heap a o
theorem GI.to0 {X : Bs} {σ : Store} {s : Shared} (g : GI X σ s) : GI0 X σ s :=
  ⟨g.top, g.off, let ⟨_, _, t1, t2⟩ := g.tall; Nat.le_trans t1 (Nat.le_of_lt (Heap.lt_size t2)), g.sim⟩
theorem enter_core0 {B : Bs} {A : Around} {Er : Shared → Value → Shared → Prop} {σ : Store} {K : Frag} {p : Program} {loose : List Str} {mg mb : Str → Option Value} {n : Nat} (hk : K.In B.hT) (ht : TopRead p loose mg mb B.hT) (hr : Room A (n + 1))
    {f : Addr} {oc : Value} {od : Option Addr} {name qual : Str} {params : Arguments} {body : List Stmt} {scope : Scope} {dV kV doc pm cdv ct : Value} {an : Option Addr} {osl : Array (Option Value)} {names : List Str} {args extra : List AV} {xv : List Value} {Q : AV → Store → Prop}
    (ho : K.lookup f = some ⟨oc, od, .func (fnOf name qual params body scope dV kV doc pm an cdv ct), osl⟩) (hcd : codeIn K cdv qual = true)
    (hx : ∀ h, RepL h extra xv)
    (hb : ∀ s vs, vs.length = args.length → (∀ a o, K.lookup a = some o → s.heap.get? a = some o) → BindsTo s (fnOf name qual params body scope dV kV doc pm an cdv ct) ⟨vs, []⟩ (names.zip (vs ++ xv)))
    (hkind : names.all (fun x => scope.names.lookup x == some .local || scope.names.lookup x == some .cell) = true) (hfree : scope.names.all (fun x => x.2 != .free) = true)
    (hnd : ((cellsFrom 0 scope.names []).map (·.1)).Nodup)
    (h : ∀ L s s₁, Room (A.deeper (fenv qual scope f cdv L)) n → Enter A (fenv qual scope f cdv L) (ownOf scope L) σ s s₁ → Inv (ghX B scope L (A.deeper (fenv qual scope f cdv L)) σ s₁) (A.deeper (fenv qual scope f cdv L)) (fenv qual scope f cdv L) (bindsA (names.zip (args ++ extra)) fun _ => none) σ s₁ →
      wpAny (model B.prog B.w) (A.deeper (fenv qual scope f cdv L)) (execs body (fenv qual scope f cdv L)) (fun fl s'' => ∃ afl σ', FlowIs s''.heap afl fl ∧ GI B σ' s'' ∧ Stp (ownOf scope L) (frs (A.deeper (fenv qual scope f cdv L))) σ σ' s₁ s'' ∧ match afl with
      | .ret d => Q d σ'
      | _ => Q (.c .none) σ') (LV B.prog B.w (A.deeper (fenv qual scope f cdv L)) (fenv qual scope f cdv L) (Er s)) s₁)
    (hco : scope.isCoroutine = false := by rfl) (hgen : scope.isGenerator = false := by rfl) (hkf : scope.kind = .function := by rfl) :
    ∀ s vs, RepL s.heap args vs → GI0 B σ s → Frs B A σ s → codeAny (model B.prog B.w) A (.call (.ref f) ⟨vs, []⟩) (CR B A (Er s) σ Q s) s := by
  intro s vs r g fr
  have Xs : K.In s.heap := hk.keeps g.top
  refine codeAny_call_function hr.depth (Xs _ _ ho) rfl hco hgen rfl (codeRec_of Xs hcd) (hb s vs r.length Xs _ _ _ _ ?_)
  have hL : s.heap.get? s.heap.objs.size = none := none_at_top _
  have hTL : B.hT.objs.size ≤ s.heap.objs.size := g.low
  have fresh : ∀ b, s.heap.objs.size ≤ b → s.heap.get? b = none ∧ σ b = none ∧ B.hT.get? b = none := fun b hb => by
    have h1 : s.heap.get? b = none := by
      cases e : s.heap.get? b with
      | none => rfl
      | some o => exact absurd (Heap.lt_size e) (Nat.not_lt.mpr hb)
    refine ⟨h1, ?_, ?_⟩
    · cases e : σ b with
      | none => rfl
      | some o => obtain ⟨x, hx, _⟩ := (g.sim b o e).alloc; rw [h1] at hx; cases hx
    · cases e : B.hT.get? b with
      | none => rfl
      | some o => have := g.top b o e; rw [h1] at this; cases this
  have hlk : ∀ x ∈ names.zip (vs ++ xv), scope.names.lookup x.1 = some .local ∨ (scope.names.lookup x.1 = some .cell ∧ ((cellsFrom (s.heap.objs.size + 1) scope.names []).lookup x.1).isSome = true) := fun x hx => by
    have := List.all_eq_true.mp hkind x.1 (List.of_mem_zip hx).1
    rcases Bool.or_eq_true_iff.mp this with q | q
    · exact .inl (by simpa using q)
    · have q' : scope.names.lookup x.1 = some .cell := by simpa using q
      exact .inr ⟨q', cellsFrom_some _ _ _ (.inl q')⟩
  refine wpAny_newFunctionEnv_cells hkf hlk fun env' he s' x => ?_
  subst he
  refine ⟨(ht.nolimit.keeps g.top).keeps x.toInCall.keep, codeAny_func ?_⟩
  obtain ⟨h', tk, rfl⟩ := x.toInCall.same
  have hkeep := x.toInCall.keep
  have ownO : ∀ b, ownOf scope s.heap.objs.size b → s.heap.objs.size ≤ b ∧ ∃ o, h'.get? b = some o ∧ OwnObj o := fun b hb => by
    rcases hb with rfl | ⟨y, hy⟩
    · obtain ⟨o, es, ep, e1, e2, _⟩ := x.toInCall.ns
      exact ⟨Nat.le_refl _, o, e1, .inl ⟨es, ep, e2⟩⟩
    · obtain ⟨o, e1, e2⟩ := x.cell y b hy
      exact ⟨Nat.le_of_lt (x.above y b (mem_of_lookup hy)), o, e1, .inr ⟨_, e2⟩⟩
  have S0 : Stp (fun _ => False) (frs A) σ σ s { s with heap := h', toks := tk } := .of_keeps hkeep
  have g' : GI B σ { s with heap := h', toks := tk } := ⟨fun b o e => hkeep b o (g.top b o e), g.off, (let ⟨_, o, e1, _⟩ := ownO _ (.inl rfl); ⟨_, o, hTL, e1⟩), fun a o e => (g.sim a o e).of_get S0.tup (hkeep a)⟩
  obtain ⟨outer, f1, f2, f3⟩ := fr.fr
  have kf : ∀ (l : List Env), s.heap.FunFrames B.hT l → h'.FunFrames B.hT l := by
    intro l
    induction l with
    | nil => intro _; trivial
    | cons y r ih => rintro ⟨hk, ⟨L, o, hf, hn, ho, hd⟩, hr⟩; exact ⟨hk, ⟨L, o, hf, hn, hkeep L o ho, hd⟩, ih hr⟩
  have I : Inv (ghX B scope s.heap.objs.size (A.deeper (fenv qual scope f cdv s.heap.objs.size)) σ { s with heap := h', toks := tk }) (A.deeper (fenv qual scope f cdv s.heap.objs.size)) (fenv qual scope f cdv s.heap.objs.size) (bindsA (names.zip (args ++ extra)) fun _ => none) σ { s with heap := h', toks := tk } := by
    have bok := bindsA_ok (h := h') (fenv qual scope f cdv s.heap.objs.size).kindOf names (args ++ extra) (vs ++ xv) (fun _ => none) (fun _ => none) (fun _ => none) ((r.grow S0.tup).append (hx _)) (fun _ _ e => nomatch e)
    refine ⟨g', ⟨⟨hkf, rfl, rfl, hTL, .inl rfl, fun y ca e => .inr ⟨y, e⟩, fun y hy => ?_, fun y z ca e1 e2 => name_of_addr x.apart (mem_of_lookup e1) (mem_of_lookup e2)⟩, fun b hb => ?_, ⟨_, x.toInCall.ns, fun y d e k => (bok y d e).1 k⟩, fun y ca e => ?_⟩, ⟨fenv qual scope f cdv s.heap.objs.size :: outer, ?_, ⟨?_, ?_, kf outer f2⟩, ?_⟩, Stp.refl⟩
    · rcases hy with hy | hy
      · have := cellsFrom_some (x := y) scope.names (s.heap.objs.size + 1) [] (.inl hy)
        exact Option.isSome_iff_exists.mp this
      · have := List.all_eq_true.mp hfree (y, .free) (mem_of_lookup hy)
        simp at this
    · obtain ⟨h1, o, h2, h3⟩ := ownO b hb
      obtain ⟨z1, z2, z3⟩ := fresh b h1
      exact ⟨z2, z3, o, h2, h3⟩
    · obtain ⟨o, e1, e2⟩ := x.cell y ca e
      refine ⟨o, _, e1, e2, fun d hd hc => ?_⟩
      have hne : (fenv qual scope f cdv s.heap.objs.size).kindOf y ≠ some .local := fun z => by
        rcases hc with hc | hc <;> rw [hc] at z <;> cases z
      obtain ⟨v, q1, q2⟩ := (bok y d hd).2 hne
      exact ⟨v, q1, q2⟩
    · show (A.deeper _).frames = _
      unfold Around.deeper
      rw [f1]; rfl
    · show scope.kind ≠ .module
      rw [hkf]; decide
    · obtain ⟨_, o, e1, e2⟩ := ownO _ (.inl rfl)
      exact ⟨_, o, rfl, (fresh _ (Nat.le_refl _)).2.2, e1, e2.fields⟩
    · intro e he L hL
      rcases List.mem_cons.mp he with rfl | he
      · cases hL; exact (fresh _ (Nat.le_refl _)).2.1
      · exact f3 e he L hL
  have En : Enter A (fenv qual scope f cdv s.heap.objs.size) (ownOf scope s.heap.objs.size) σ s { s with heap := h', toks := tk } := ⟨hkeep, fun b hb => (fresh b (ownO b hb).1).1, ⟨_, outer, rfl, .inl rfl, f1, by unfold Around.deeper; rw [f1]; rfl⟩, ⟨_, _, rfl⟩⟩
  refine wpAny_mono (h s.heap.objs.size s _ (hr.deeper _) En I) (fun fl s'' hp => ?_) fun _ _ y => y
  obtain ⟨afl, σ', fi, I', S', q⟩ := hp
  have S2 : Stp (fun _ => False) (frs A) σ σ' s s'' := by
    refine ⟨fun b o e hσ _ hf => S'.keep b o (hkeep b o e) hσ (fun hb => ?_) fun hb => ?_, fun b o e hσ _ hf => S'.outk b o (hkeep b o e) hσ (fun hb => ?_) ((frs_deeper f1).mpr (.inr hf)), fun b hb => ?_, fun b o e => S'.mono b o (hkeep b o e), S0.tup.trans S'.tup, ?_⟩
    · exact absurd (Heap.lt_size e) (Nat.not_lt.mpr (ownO b hb).1)
    · rcases (frs_deeper f1).mp hb with z | z
      · cases z
        exact absurd (Heap.lt_size e) (Nat.lt_irrefl _)
      · exact hf z
    · exact absurd (Heap.lt_size e) (Nat.not_lt.mpr (ownO b hb).1)
    · rcases S'.dom b hb with z | z
      · exact .inl z
      · refine .inr ?_
        cases e : s.heap.get? b with
        | none => rfl
        | some o => have := hkeep b o e; rw [this] at z; cases z
    · obtain ⟨h2, tk2, rfl⟩ := S'.same
      exact ⟨h2, tk2, rfl⟩
  cases afl with
  | ret d =>
    obtain ⟨v, rfl, rv⟩ := fi
    exact ⟨d, σ', rv, I', S2, q⟩
  | next => cases fi; exact ⟨_, σ', Rep.val, I', S2, q⟩
  | brk => cases fi; exact ⟨_, σ', Rep.val, I', S2, q⟩
  | cont => cases fi; exact ⟨_, σ', Rep.val, I', S2, q⟩
theorem enter_core {B : Bs} {A : Around} {Er : Shared → Value → Shared → Prop} {σ : Store} {K : Frag} {p : Program} {loose : List Str} {mg mb : Str → Option Value} {n : Nat} (hk : K.In B.hT) (ht : TopRead p loose mg mb B.hT) (hr : Room A (n + 1))
    {f : Addr} {oc : Value} {od : Option Addr} {name qual : Str} {params : Arguments} {body : List Stmt} {scope : Scope} {dV kV doc pm cdv ct : Value} {an : Option Addr} {osl : Array (Option Value)} {names : List Str} {args extra : List AV} {xv : List Value} {Q : AV → Store → Prop}
    (ho : K.lookup f = some ⟨oc, od, .func (fnOf name qual params body scope dV kV doc pm an cdv ct), osl⟩) (hcd : codeIn K cdv qual = true)
    (hx : ∀ h, RepL h extra xv)
    (hb : ∀ s vs, vs.length = args.length → (∀ a o, K.lookup a = some o → s.heap.get? a = some o) → BindsTo s (fnOf name qual params body scope dV kV doc pm an cdv ct) ⟨vs, []⟩ (names.zip (vs ++ xv)))
    (hkind : names.all (fun x => scope.names.lookup x == some .local || scope.names.lookup x == some .cell) = true) (hfree : scope.names.all (fun x => x.2 != .free) = true)
    (hnd : ((cellsFrom 0 scope.names []).map (·.1)).Nodup)
    (h : ∀ L s s₁, Room (A.deeper (fenv qual scope f cdv L)) n → Enter A (fenv qual scope f cdv L) (ownOf scope L) σ s s₁ → Inv (ghX B scope L (A.deeper (fenv qual scope f cdv L)) σ s₁) (A.deeper (fenv qual scope f cdv L)) (fenv qual scope f cdv L) (bindsA (names.zip (args ++ extra)) fun _ => none) σ s₁ →
      wpAny (model B.prog B.w) (A.deeper (fenv qual scope f cdv L)) (execs body (fenv qual scope f cdv L)) (fun fl s'' => ∃ afl σ', FlowIs s''.heap afl fl ∧ GI B σ' s'' ∧ Stp (ownOf scope L) (frs (A.deeper (fenv qual scope f cdv L))) σ σ' s₁ s'' ∧ match afl with
      | .ret d => Q d σ'
      | _ => Q (.c .none) σ') (LV B.prog B.w (A.deeper (fenv qual scope f cdv L)) (fenv qual scope f cdv L) (Er s)) s₁)
    (hco : scope.isCoroutine = false := by rfl) (hgen : scope.isGenerator = false := by rfl) (hkf : scope.kind = .function := by rfl) :
    ∀ s vs, RepL s.heap args vs → GI B σ s → Frs B A σ s → codeAny (model B.prog B.w) A (.call (.ref f) ⟨vs, []⟩) (CR B A (Er s) σ Q s) s :=
  fun s vs r g fr => enter_core0 hk ht hr ho hcd hx hb hkind hfree hnd h hco hgen hkf s vs r g.to0 fr
/-- a def is entered -/
theorem CV.enter {B : Bs} {A : Around} {E : Value → Shared → Prop} {σ : Store} {K : Frag} {p : Program} {loose : List Str} {mg mb : Str → Option Value} {n : Nat} (hk : K.In B.hT) (ht : TopRead p loose mg mb B.hT) (hr : Room A (n + 1))
    {f : Addr} {oc : Value} {od : Option Addr} {name qual : Str} {params : Arguments} {body : List Stmt} {scope : Scope} {dV kV doc pm cdv ct : Value} {an : Option Addr} {osl : Array (Option Value)} {names : List Str} {args : List AV} {Q : AV → Store → Prop} (extra : List AV) (xv : List Value)
    (ho : K.lookup f = some ⟨oc, od, .func (fnOf name qual params body scope dV kV doc pm an cdv ct), osl⟩) (hcd : codeIn K cdv qual = true)
    (hx : ∀ h, RepL h extra xv)
    (hb : ∀ s vs, vs.length = args.length → (∀ a o, K.lookup a = some o → s.heap.get? a = some o) → BindsTo s (fnOf name qual params body scope dV kV doc pm an cdv ct) ⟨vs, []⟩ (names.zip (vs ++ xv)))
    (hkind : names.all (fun x => scope.names.lookup x == some .local || scope.names.lookup x == some .cell) = true) (hfree : scope.names.all (fun x => x.2 != .free) = true)
    (hnd : ((cellsFrom 0 scope.names []).map (·.1)).Nodup)
    (h : ∀ L E', Room (A.deeper (fenv qual scope f cdv L)) n → ST (defX B scope L) (A.deeper (fenv qual scope f cdv L)) (fenv qual scope f cdv L) E' (execs body (fenv qual scope f cdv L)) (bindsA (names.zip (args ++ extra)) fun _ => none) σ fun fl _ σ' => match fl with
      | .ret d => Q d σ'
      | _ => Q (.c .none) σ')
    (hco : scope.isCoroutine = false := by rfl) (hgen : scope.isGenerator = false := by rfl) (hkf : scope.kind = .function := by rfl) : CV B A E (.ref f) args σ Q :=
  enter_core (Er := fun _ => E) hk ht hr ho hcd hx hb hkind hfree hnd (fun L s s₁ R En I => wpAny_mono (h L _ R s₁ ⟨I.g, ⟨⟨I.f.e.fn, I.f.e.gl, I.f.e.bi, I.f.e.top, I.f.e.ownL, I.f.e.ownC, I.f.e.celAt, I.f.e.apart⟩, I.f.own, I.f.loc, I.f.cel⟩, I.fr, trivial⟩) (by rintro fl s'' ⟨afl, m', σ', fi, I', S', q⟩; exact ⟨afl, σ', fi, I'.g, S', q⟩) fun _ _ y => y) hco hgen hkf
end
/-- an object of an own class is made -/
theorem CV.cls {B : Bs} {A : Around} {E : Value → Shared → Prop} {σ : Store} {K : Frag} {n : Nat} (hk : K.In B.hT) (hr : Room A (n + 1)) {C fI : Addr} {args : List AV} {Q : AV → Store → Prop}
    (hm : makesIn K C = true) (hi : findIn K (.ref C) "__init__" = some (some (.ref fI))) (hf : isFn K (.ref fI) = true)
    (h : ∀ A' x dx, Room A' n → σ x = none → σ dx = none → x ≠ dx → CV B A' E (.ref fI) (.c (.ref x) :: args) ((σ.set dx (.dct [])).set x (.ins C dx)) fun d σ' => d = .c .none ∧ Q (.c (.ref x)) σ') : CV B A E (.ref C) args σ Q := by
  intro s vs r g fr
  have Xs : K.In s.heap := hk.keeps g.top
  obtain ⟨hh, gg, dd, tt, os⟩ := s
  refine make_core (makes_of Xs hm) (looks_findIn Xs hi) (fun self => bind_fn Xs self (beq_iff_eq.mp hf)) (.inl rfl) ?_
  have n1 : hh.get? hh.objs.size = none := none_at_top hh
  have n2 : hh.get? (hh.objs.size + 1) = none := by
    cases e : hh.get? (hh.objs.size + 1) with
    | none => rfl
    | some o => exact absurd (Heap.lt_size e) (Nat.not_lt.mpr (Nat.le_succ _))
  have fr1 : ∀ b, hh.get? b = none → σ b = none ∧ B.hT.get? b = none := fun b hb => by
    constructor
    · cases e : σ b with
      | none => rfl
      | some o => obtain ⟨x, hx, _⟩ := (g.sim b o e).alloc; rw [hb] at hx; cases hx
    · cases e : B.hT.get? b with
      | none => rfl
      | some o => have := g.top b o e; rw [hb] at this; cases this
  have ne : hh.objs.size + 1 ≠ hh.objs.size := by omega
  have k : ∀ b o, hh.get? b = some o → ((hh.push emptyDict).push (instObj C hh.objs.size)).get? b = some o := fun b o e => Heap.get?_push_of_some _ (Heap.get?_push_of_some _ e)
  have hd : ((hh.push emptyDict).push (instObj C hh.objs.size)).get? hh.objs.size = some emptyDict := Heap.get?_push_of_some _ (Heap.get?_push_size _ rfl)
  have hx : ((hh.push emptyDict).push (instObj C hh.objs.size)).get? (hh.objs.size + 1) = some (instObj C hh.objs.size) := by
    have := Heap.get?_push_size (hh.push emptyDict) (o := instObj C hh.objs.size) rfl
    rwa [Heap.size_push] at this
  have G : Grow hh ((hh.push emptyDict).push (instObj C hh.objs.size)) := fun _ _ t => isTup_of_get t (k _)
  let σ' : Store := (σ.set hh.objs.size (.dct [])).set (hh.objs.size + 1) (.ins C hh.objs.size)
  have S : Stp (fun _ => False) (frs A) σ σ' ⟨hh, gg, dd, tt, os⟩ ⟨(hh.push emptyDict).push (instObj C hh.objs.size), gg, dd, tt, os⟩ := by
    refine ⟨fun b o e _ _ _ => k b o e, fun b o e _ _ _ => ⟨o.slots, k b o e⟩, fun b hb => ?_, fun b o e => ⟨o, k b o e⟩, G, ⟨_, _, rfl⟩⟩
    by_cases q1 : b = hh.objs.size + 1
    · subst q1; exact .inr n2
    · by_cases q2 : b = hh.objs.size
      · subst q2; exact .inr n1
      · show σ b ≠ none ∨ _
        simp only [σ', Store.set_ne q1, Store.set_ne q2] at hb
        exact .inl hb
  have g' : GI B σ' ⟨(hh.push emptyDict).push (instObj C hh.objs.size), gg, dd, tt, os⟩ := by
    refine ⟨fun b o e => k b o (g.top b o e), fun b hb => ?_, let ⟨a, o, q, e⟩ := g.tall; ⟨a, o, q, k _ _ e⟩, fun a o e => ?_⟩
    · by_cases q1 : b = hh.objs.size + 1
      · subst q1; exact (fr1 _ n2).2
      · by_cases q2 : b = hh.objs.size
        · subst q2; exact (fr1 _ n1).2
        · simp only [σ', Store.set_ne q1, Store.set_ne q2] at hb
          exact g.off b hb
    · by_cases q1 : a = hh.objs.size + 1
      · subst q1
        simp only [σ', Store.set_self] at e; cases e
        exact hx
      · by_cases q2 : a = hh.objs.size
        · subst q2
          simp only [σ', Store.set_ne q1, Store.set_self] at e; cases e
          exact ⟨[], ⟨_, #[], 0, hd, ⟨rfl, rfl, rfl⟩, rfl, fun _ he => by simp at he, .nil, by simp⟩, rfl, RepL.nil⟩
        · simp only [σ', Store.set_ne q1, Store.set_ne q2] at e
          exact (g.sim a o e).of_get G (k a)
  have fr' : Frs B (A.under (.builtin "type.__call__" ⟨.ref C :: vs, []⟩)) σ' ⟨(hh.push emptyDict).push (instObj C hh.objs.size), gg, dd, tt, os⟩ := by
    obtain ⟨outer, f1, f2, f3⟩ := fr.fr
    have kf : ∀ (l : List Env), hh.FunFrames B.hT l → ((hh.push emptyDict).push (instObj C hh.objs.size)).FunFrames B.hT l ∧ ∀ e ∈ l, ∀ L, e.frame = some L → hh.get? L ≠ none := by
      intro l
      induction l with
      | nil => intro _; exact ⟨trivial, fun _ h => nomatch h⟩
      | cons y r ih =>
        rintro ⟨hk, ⟨L, o, hf, hn, ho, hd⟩, hr⟩
        refine ⟨⟨hk, ⟨L, o, hf, hn, k L o ho, hd⟩, (ih hr).1⟩, fun e he L' hL' => ?_⟩
        rcases List.mem_cons.mp he with rfl | he
        · rw [hf] at hL'; cases hL'; rw [ho]; simp
        · exact (ih hr).2 e he L' hL'
    refine ⟨outer, f1, (kf outer f2).1, fun e he L hL => ?_⟩
    have := (kf outer f2).2 e he L hL
    have q1 : L ≠ hh.objs.size + 1 := fun z => this (z ▸ n2)
    have q2 : L ≠ hh.objs.size := fun z => this (z ▸ n1)
    simp only [σ', Store.set_ne q1, Store.set_ne q2]
    exact f3 e he L hL
  have hr' : Room (A.under (.builtin "type.__call__" ⟨.ref C :: vs, []⟩)) n :=
    ⟨hr.h, by show A.depth + 1 + n < 1000; have := hr.d; omega, by show A.units + 1 + 16 * n < 9900; have := hr.u; omega⟩
  refine codeAny_mono (h _ (hh.objs.size + 1) hh.objs.size hr' (fr1 _ n2).1 (fr1 _ n1).1 ne _ (.ref (hh.objs.size + 1) :: vs) (RepL.cons Rep.val (r.grow G)) g' fr') fun r s' hp => ?_
  rcases r with e | (_ | _ | _ | v)
  · exact hp
  · exact hp
  · exact hp
  · exact hp
  · obtain ⟨d, σ'', a, g'', S'', rfl, q⟩ := hp
    exact ⟨a.val', _, σ'', Rep.val, g'', S.trans S'', q⟩
section
variable {X : Cx} {A : Around} {env : Env} {E : Value → Shared → Prop} {m : Vars} {σ : Store} {K : Frag} {p : Program} {loose : List Str} {mg mb : Str → Option Value}
theorem VL.lift1 {f : List Value → Sem Value} {Q : AV → Store → Prop} {l : List AV} {s₀ s₁ : Shared} {σ₀ : Store} {vs : List Value} (h : VL X A env E f l m σ Q) (r : RepL s₁.heap l vs) (I : Inv X A env m σ s₁) (S : Stp X.own (frs A) σ₀ σ s₀ s₁) :
    wpAny (model X.prog X.w) A (f vs) (PE X A env m σ₀ Q s₀) E s₁ := wpAny_mono (h s₁ vs r I) (fun _ _ x => x.lift S) fun _ _ x => x
/-- a name is called -/
theorem ev_call (P : Pg X A K p loose mg mb) {fe : Expr} {e : Expr} {rest : List Expr} {pos : Pos} {Q : AV → Store → Prop}
    (h : ev X A env E fe m σ fun f σ₁ => ∃ v, f = .c v ∧ keepIn K v = true ∧ evs X A env E (e :: rest) pos m σ₁ fun l σ₂ => VL X A env E (fun vs => call v vs) l m σ₂ Q)
    (he : eval (fe.Call (e :: rest) [] pos) env = (do let f ← eval fe env; callWith pos f [] (backTo pos (starEach (e :: rest) env)) (backToKw pos (keywordEach [] env))) := by rfl)
    (h1 : starEach (e :: rest) env = (false, eval e env) :: starEach rest env := by rfl) (h2 : ((backTo pos (starEach rest env)).any fun x => x.fst) = false := by rfl) : ev X A env E (.Call fe (e :: rest) [] pos) m σ Q := fun s I =>
  Call_ (wpAny_mono (h s I) (by
    rintro v s₁ ⟨_, _, r, i, t, w, hw, hk, q⟩
    subst hw
    cases r.val'
    exact callWith_K P.k hk (wpAny_mono (q s₁ i) (by rintro vs s₂ ⟨l, σ₂, r₂, i₂, t₂, q₂⟩; exact ⟨P.k.keeps i₂.g.top, q₂.lift1 r₂ i₂ (t.trans t₂)⟩) fun _ _ x => x) h1 h2) fun _ _ x => x) he
theorem ev_call0 (P : Pg X A K p loose mg mb) {fe : Expr} {pos : Pos} {Q : AV → Store → Prop}
    (h : ev X A env E fe m σ fun f σ₁ => ∃ v, f = .c v ∧ keepIn K v = true ∧ VL X A env E (fun vs => call v vs) [] m σ₁ Q)
    (he : eval (fe.Call [] [] pos) env = (do let f ← eval fe env; callWith pos f [] (backTo pos (starEach [] env)) (backToKw pos (keywordEach [] env))) := by rfl) : ev X A env E (.Call fe [] [] pos) m σ Q := fun s I =>
  Call_ (wpAny_mono (h s I) (by
    rintro v s₁ ⟨_, _, r, i, t, w, hw, hk, q⟩
    subst hw
    cases r.val'
    exact callWith_K0 (P.k.keeps i.g.top) hk (q.lift1 .nil i t)) fun _ _ x => x) he
/-- a built-in function or type is called -/
theorem ev_callB {fe : Expr} {e : Expr} {rest : List Expr} {pos : Pos} {Q : AV → Store → Prop}
    (h : ev X A env E fe m σ fun f σ₁ => ∃ id, f = .c (.builtin id) ∧ evs X A env E (e :: rest) pos m σ₁ fun l σ₂ => VL X A env E (fun vs => call (.builtin id) vs) l m σ₂ Q)
    (he : eval (fe.Call (e :: rest) [] pos) env = (do let f ← eval fe env; callWith pos f [] (backTo pos (starEach (e :: rest) env)) (backToKw pos (keywordEach [] env))) := by rfl)
    (h1 : starEach (e :: rest) env = (false, eval e env) :: starEach rest env := by rfl) (h2 : ((backTo pos (starEach rest env)).any fun x => x.fst) = false := by rfl) : ev X A env E (.Call fe (e :: rest) [] pos) m σ Q := fun s I =>
  Call_ (wpAny_mono (h s I) (by
    rintro v s₁ ⟨_, _, r, i, t, w, hw, q⟩
    subst hw
    cases r.val'
    exact callWith_method1 (first := []) (wpAny_mono (q s₁ i) (by rintro vs s₂ ⟨l, σ₂, r₂, i₂, t₂, q₂⟩; exact q₂.lift1 r₂ i₂ (t.trans t₂)) fun _ _ x => x) h1 h2) fun _ _ x => x) he
theorem ev_callT {fe : Expr} {e : Expr} {rest : List Expr} {pos : Pos} {Q : AV → Store → Prop}
    (h : ev X A env E fe m σ fun f σ₁ => ∃ T, f = .c (.type T) ∧ evs X A env E (e :: rest) pos m σ₁ fun l σ₂ => VL X A env E (fun vs => call (.type T) vs) l m σ₂ Q)
    (he : eval (fe.Call (e :: rest) [] pos) env = (do let f ← eval fe env; callWith pos f [] (backTo pos (starEach (e :: rest) env)) (backToKw pos (keywordEach [] env))) := by rfl)
    (h1 : starEach (e :: rest) env = (false, eval e env) :: starEach rest env := by rfl) (h2 : ((backTo pos (starEach rest env)).any fun x => x.fst) = false := by rfl) : ev X A env E (.Call fe (e :: rest) [] pos) m σ Q := fun s I =>
  Call_ (wpAny_mono (h s I) (by
    rintro v s₁ ⟨_, _, r, i, t, w, hw, q⟩
    subst hw
    cases r.val'
    exact PyProof.Rows.callWith_type1 (wpAny_mono (q s₁ i) (by rintro vs s₂ ⟨l, σ₂, r₂, i₂, t₂, q₂⟩; exact q₂.lift1 r₂ i₂ (t.trans t₂)) fun _ _ x => x) h1 h2) fun _ _ x => x) he
/-- a method of an object of an own class, that is a def -/
noncomputable def methOk (K : Frag) (C : Addr) (name : Str) (f : Addr) : Bool := plainGet K C name && findIn K (.ref C) name == some (some (.ref f)) && isFn K (.ref f) && keepIn K (.ref f)
theorem meth_at (P : Pg X A K p loose mg mb) {s : Shared} {a C dd f : Addr} {l : List (Str × AV)} {name : Str} {pl : Sem Bool} {Q : Value × List Value → Shared → Prop} (I : Inv X A env m σ s) (h1 : σ a = some (.ins C dd)) (h2 : σ dd = some (.dct l)) (hf : methOk K C name f = true) (hl : l.lookup name = none)
    (q : Q (.ref f, [.ref a]) s) : wpAny (model X.prog X.w) A (getMethod (.ref a) name pl) Q E s := by
  obtain ⟨kvs, od, IA, hd, hr, ho, hlk⟩ := inst_at I h1 h2
  have := lookup_vals (x := name) hr.1 hr.2
  rw [hl] at this
  simp only [methOk, Bool.and_eq_true, beq_iff_eq] at hf
  obtain ⟨⟨⟨f1, f2⟩, f3⟩, f4⟩ := hf
  exact method_fn (P.k.keeps I.g.top) IA (plainGet_of f1).1 (plainGet_of f1).2 f2 (beq_iff_eq.mp f3) (by show (lookIn name od).map _ = _; rw [hlk, this]; rfl) q
theorem ev_meth (P : Pg X A K p loose mg mb) {o : Expr} {name : Str} {apos pos : Pos} {e : Expr} {rest : List Expr} {Q : AV → Store → Prop}
    (h : ev X A env E o m σ fun d σ₁ => ∃ a C dd l f, d = .c (.ref a) ∧ σ₁ a = some (.ins C dd) ∧ σ₁ dd = some (.dct l) ∧ methOk K C name f = true ∧ l.lookup name = none ∧
      evs X A env E (e :: rest) pos m σ₁ fun as σ₂ => VL X A env E (fun vs => call (.ref f) vs) (.c (.ref a) :: as) m σ₂ Q)
    (he : ∀ pl : Sem Bool, True := by intro _; trivial)
    {pl : Sem Bool} (hm : eval ((o.Attribute name apos).Call (e :: rest) [] pos) env = (do
          let ov ← eval o env
          standAt apos.atName
          let __x ← holding [ov] (getMethod ov name pl)
          match __x with
            | (f, first) => callWith pos f first (backTo pos (starEach (e :: rest) env)) []) := by rfl)
    (h1 : starEach (e :: rest) env = (false, eval e env) :: starEach rest env := by rfl) (h2 : ((backTo pos (starEach rest env)).any fun x => x.fst) = false := by rfl) : ev X A env E (.Call (.Attribute o name apos) (e :: rest) [] pos) m σ Q := fun s I =>
  MethodCall_ (wpAny_mono (h s I) (by
    rintro v s₁ ⟨_, _, r, i, t, a, C, dd, l, f, hd, h3, h4, h5, h6, q⟩
    subst hd
    cases r.val'
    refine meth_at P i h3 h4 h5 h6 ?_
    have hk : keepIn K (.ref f) = true := by simp only [methOk, Bool.and_eq_true] at h5; exact h5.2
    exact callWith_K P.k hk (wpAny_mono (q s₁ i) (by rintro vs s₂ ⟨l, σ₂, r₂, i₂, t₂, q₂⟩; exact ⟨P.k.keeps i₂.g.top, q₂.lift1 (RepL.cons Rep.val r₂) i₂ (t.trans t₂)⟩) fun _ _ x => x) h1 h2) fun _ _ x => x) hm
theorem ev_meth0 (P : Pg X A K p loose mg mb) {o : Expr} {name : Str} {apos pos : Pos} {Q : AV → Store → Prop}
    (h : ev X A env E o m σ fun d σ₁ => ∃ a C dd l f, d = .c (.ref a) ∧ σ₁ a = some (.ins C dd) ∧ σ₁ dd = some (.dct l) ∧ methOk K C name f = true ∧ l.lookup name = none ∧
      VL X A env E (fun vs => call (.ref f) vs) [.c (.ref a)] m σ₁ Q)
    {pl : Sem Bool} (hm : eval ((o.Attribute name apos).Call [] [] pos) env = (do
          let ov ← eval o env
          standAt apos.atName
          let __x ← holding [ov] (getMethod ov name pl)
          match __x with
            | (f, first) => callWith pos f first (backTo pos (starEach [] env)) []) := by rfl) : ev X A env E (.Call (.Attribute o name apos) [] [] pos) m σ Q := fun s I =>
  MethodCall_ (wpAny_mono (h s I) (by
    rintro v s₁ ⟨_, _, r, i, t, a, C, dd, l, f, hd, h3, h4, h5, h6, q⟩
    subst hd
    cases r.val'
    refine meth_at P i h3 h4 h5 h6 ?_
    have hk : keepIn K (.ref f) = true := by simp only [methOk, Bool.and_eq_true] at h5; exact h5.2
    exact callWith_K0 (P.k.keeps i.g.top) hk (q.lift1 (RepL.cons Rep.val .nil) i t)) fun _ _ x => x) hm
end
end Mine
end
section
namespace Mine
section
variable {X : Cx} {A : Around} {env : Env} {E : Value → Shared → Prop} {m : Vars} {σ : Store} {K : Frag} {p : Program} {loose : List Str} {mg mb : Str → Option Value}
theorem RepL.reverse {h : Heap} : ∀ {l : List AV} {vs : List Value}, RepL h l vs → RepL h l.reverse vs.reverse
  | [], vs, r => by simp only [RepL] at r; subst r; exact .nil
  | d :: l, vs, r => by
    simp only [RepL] at r
    obtain ⟨v, r', rfl, h1, h2⟩ := r
    have := h2.reverse
    simp only [List.reverse_cons]
    exact this.append (.cons h1 .nil)
theorem Stp.of_own {b0 : Addr} {s : Shared} {h' : Heap} {tk : Nat} (hb : X.own b0) (I : Inv X A env m σ s) (hs : Heap.SameBut b0 s.heap h') (ho : ∃ o, h'.get? b0 = some o) : Stp X.own (frs A) σ σ s { s with heap := h', toks := tk } := by
  obtain ⟨h1, h2, oo, h3, h4⟩ := I.f.own _ hb
  refine ⟨fun b o e _ hn _ => ?_, fun b o e _ hn _ => ⟨o.slots, ?_⟩, fun _ h => .inl h, fun b o e => ?_, fun b items t => ?_, ⟨_, _, rfl⟩⟩
  · exact (hs.2 b fun q => hn (q ▸ hb)).trans e
  · exact (hs.2 b fun q => hn (q ▸ hb)).trans e
  · by_cases q : b = b0
    · subst q; exact ho
    · exact ⟨o, (hs.2 b q).trans e⟩
  · obtain ⟨ot, z1, z2, n, z3⟩ := t
    have : b ≠ b0 := fun q => by subst q; rw [h3] at z1; cases z1; exact h4.seq _ _ z3
    exact ⟨ot, (hs.2 b this).trans z1, z2, n, z3⟩
theorem Inv.ownStep (ok : X.Ok A) {b0 : Addr} {m' : Vars} {s : Shared} {h' : Heap} {tk : Nat} (hb : X.own b0) (I : Inv X A env m σ s) (hs : Heap.SameBut b0 s.heap h') (ho : ∃ o, h'.get? b0 = some o ∧ OwnObj o)
    (loc : LocOk env m' h') (cel : CelOk env m' h') : Inv X A env m' σ { s with heap := h', toks := tk } ∧ Stp X.own (frs A) σ σ s { s with heap := h', toks := tk } := by
  have S : Stp X.own (frs A) σ σ s { s with heap := h', toks := tk } := .of_own hb I hs (let ⟨o, e, _⟩ := ho; ⟨o, e⟩)
  refine ⟨I.step0 ok S (fun a o e => ?_) (fun _ h => .inl h) (fun b hb' => ?_) loc cel, S⟩
  · refine (I.g.sim a o e).of_get S.tup fun x hx => (hs.2 a fun q => ?_).trans hx
    rw [q, (I.f.own _ hb).1] at e; cases e
  · by_cases q : b = b0
    · subst q; exact ho
    · obtain ⟨_, _, o, e, r⟩ := I.f.own b hb'
      exact ⟨o, (hs.2 b q).trans e, r⟩
/-- a name of a frame's is bound -/
noncomputable def nameOk (env : Env) (x : Str) : Bool := env.kindOf x == some .local || env.kindOf x == some .cell
theorem store_name (ok : X.Ok A) {x : Str} {d : AV} {v : Value} {s : Shared} {Q : Unit → Shared → Prop} (I : Inv X A env m σ s) (hk : nameOk env x = true) (r : Rep s.heap d v)
    (q : ∀ s', Inv X A env (m.set x d) σ s' → Stp X.own (frs A) σ σ s s' → Q () s') : wpAny (model X.prog X.w) A (storeName env x v) Q E s := by
  have hp : (env.scope.kind == .class || (env.scope.kind == .module && env.locals != env.globals)) = false := by rw [I.f.e.fn]; rfl
  rcases Bool.or_eq_true_iff.mp hk with hk | hk
  · have hk : env.kindOf x = some .local := by simpa using hk
    obtain ⟨mc, hn, hm⟩ := I.f.loc
    refine wpAny_storeName_local hk hn (fun h' hn' hs => ?_) hp
    obtain ⟨o, es, ep, e1, e2, e3⟩ := id hn'
    have G : Grow s.heap h' := (Stp.of_own (tk := s.toks + 1) I.f.e.ownL I hs ⟨o, e1⟩).tup
    refine (fun z => q _ z.1 z.2) (I.ownStep ok (m' := m.set x d) (tk := s.toks + 1) I.f.e.ownL hs ⟨o, e1, .inl ⟨es, ep, e2⟩⟩ ⟨_, hn', fun y d' e k => ?_⟩ fun y ca e => ?_)
    · unfold Vars.set at e
      by_cases hy : y = x
      · rw [if_pos hy] at e; cases e; exact ⟨v, by simp [hy], r.grow G⟩
      · rw [if_neg hy] at e
        obtain ⟨v', a, b⟩ := hm y d' e k
        exact ⟨v', by simp [hy]; exact a, b.grow G⟩
    · obtain ⟨o', v0, f1, f2, f3⟩ := I.f.cel y ca e
      have : ca ≠ env.locals := fun z => by
        subst z
        obtain ⟨oM, es', ep', hM, hMd, _⟩ := hn
        rw [f1] at hM; cases hM; rw [hMd] at f2; cases f2
      refine ⟨o', v0, (hs.2 ca this).trans f1, f2, fun d' hd hc => ?_⟩
      unfold Vars.set at hd
      have hy : y ≠ x := fun z => by subst z; rcases hc with hc | hc <;> rw [hk] at hc <;> cases hc
      rw [if_neg hy] at hd
      obtain ⟨v', a, b⟩ := f3 d' hd hc
      exact ⟨v', a, b.grow G⟩
  · have hk : env.kindOf x = some .cell := by simpa using hk
    obtain ⟨ca, hc⟩ := I.f.e.celAt x (.inl hk)
    obtain ⟨o, v0, f1, f2, f3⟩ := I.f.cel x ca hc
    refine wpAny_storeName_cell I.f.e.fn hk hc ⟨o, f1, f2⟩ fun h' hn' hs => ?_
    obtain ⟨o2, e1, e2⟩ := hn'
    have oc := I.f.e.ownC x ca hc
    have G : Grow s.heap h' := (Stp.of_own (tk := s.toks) oc I hs ⟨o2, e1⟩).tup
    obtain ⟨mc, hn, hm⟩ := I.f.loc
    refine (fun z => q _ z.1 z.2) (I.ownStep ok (m' := m.set x d) (tk := s.toks) oc hs ⟨o2, e1, .inr ⟨_, e2⟩⟩ ⟨mc, ?_, fun y d' e k => ?_⟩ fun y ca' e => ?_)
    · obtain ⟨oM, es', ep', hM, hMd, rr⟩ := hn
      have : env.locals ≠ ca := fun z => by
        subst z; rw [f1] at hM; cases hM; rw [hMd] at f2; cases f2
      exact ⟨oM, es', ep', (hs.2 _ this).trans hM, hMd, rr⟩
    · unfold Vars.set at e
      have hy : y ≠ x := fun z => by subst z; rw [hk] at k; cases k
      rw [if_neg hy] at e
      obtain ⟨v', a, b⟩ := hm y d' e k
      exact ⟨v', a, b.grow G⟩
    · by_cases hy : y = x
      · subst hy
        rw [hc] at e; cases e
        refine ⟨o2, _, e1, e2, fun d' hd _ => ?_⟩
        unfold Vars.set at hd
        rw [if_pos rfl] at hd; cases hd
        exact ⟨v, rfl, r.grow G⟩
      · obtain ⟨o', v0', g1, g2, g3⟩ := I.f.cel y ca' e
        have : ca' ≠ ca := fun z => hy (I.f.e.apart y x ca (z ▸ e) hc)
        refine ⟨o', v0', (hs.2 _ this).trans g1, g2, fun d' hd hcc => ?_⟩
        unfold Vars.set at hd
        rw [if_neg hy] at hd
        obtain ⟨v', a, b⟩ := g3 d' hd hcc
        exact ⟨v', a, b.grow G⟩
/-- a target takes a tree -/
abbrev as (X : Cx) (A : Around) (env : Env) (E : Value → Shared → Prop) (t : Expr) (d : AV) (m : Vars) (σ : Store) (Q : Vars → Store → Prop) : Prop := U1 X A env E (fun v => assign t env v) d m σ Q
theorem as_name (ok : X.Ok A) {x : Str} {pos : Pos} {d : AV} {Q : Vars → Store → Prop} (hk : nameOk env x = true) (q : Q (m.set x d) σ) : as X A env E (.Name x pos) d m σ Q := fun s v r I =>
  wpAny_assign_Name (store_name ok I hk r fun s' I' S => ⟨_, _, I', S, q⟩)
/-- targets take trees, one by one -/
noncomputable def asL (X : Cx) (A : Around) (env : Env) (E : Value → Shared → Prop) (ts : List (Value → Sem Unit)) (ds : List AV) (m : Vars) (σ : Store) (Q : Vars → Store → Prop) : Prop :=
  ∀ s vs, RepL s.heap ds vs → Inv X A env m σ s → wpAny (model X.prog X.w) A (assignInOrder ts vs) (PU X A env σ Q s) E s
theorem asL_nil {ds : List AV} {Q : Vars → Store → Prop} (q : Q m σ) : asL X A env E [] ds m σ Q := fun s vs r I => wpAny_pure ⟨_, _, I, .refl, q⟩
theorem asL_cons {t : Value → Sem Unit} {ts : List (Value → Sem Unit)} {d : AV} {ds : List AV} {Q : Vars → Store → Prop} (h : U1 X A env E t d m σ fun m' σ' => asL X A env E ts ds m' σ' Q) : asL X A env E (t :: ts) (d :: ds) m σ Q := fun s vs r I => by
  simp only [RepL] at r
  obtain ⟨v, r', rfl, r1, r2⟩ := r
  show wpAny _ _ (do holding r' (t v); assignInOrder ts r') _ _ s
  exact wpAny_bind (wpAny_holding (wpAny_mono (h s v r1 I) (by
   rintro _ s₁ ⟨m₁, σ₁, I₁, S₁, q₁⟩
   exact wpAny_mono (q₁ s₁ r' (r2.grow S₁.tup) I₁)
    (by rintro _ s₂ ⟨m₂, σ₂, I₂, S₂, q₂⟩; exact ⟨m₂, σ₂, I₂, S₁.trans S₂, q₂⟩) fun _ _ x => x) fun _ _ x => x))
theorem get?_size_none {h : Heap} {b : Addr} {o : Obj} (e : h.get? b = some o) : b ≠ h.objs.size := Nat.ne_of_lt (Heap.lt_size e)
theorem keeps_of_extBut {h h' : Heap} (e : Heap.ExtBut h.objs.size h h') : ∀ b o, h.get? b = some o → h'.get? b = some o := fun b o x => e b o (get?_size_none x) x
theorem as_tuple (ok : X.Ok A) (hh : A.handled = none) {elts : List Expr} {k : Nat} {pos : Pos} {l : List AV} {Q : Vars → Store → Prop} (h : asL X A env E ((assignEach elts env).map (·.2)) l m σ Q)
    (hn : (assignEach elts env).length = l.length) (hstar : (assignEach elts env).findIdx? (·.1) = none := by rfl) : as X A env E (.Tuple elts k pos) (.t l) m σ Q := fun s v r I => by
  obtain ⟨a, vs, rfl, ht, hr⟩ := r.tup'
  refine wpAny_assign_Tuple hh ht (by rw [hn, List.size_toArray, hr.length]) hstar fun h' he => ?_
  have kp := keeps_of_extBut he
  have S : Stp X.own (frs A) σ σ s { s with heap := h', toks := s.toks } := .of_keeps kp
  exact wpAny_mono (h _ vs (hr.grow S.tup) (I.keeps ok kp)) (by rintro _ s₂ ⟨m₂, σ₂, I₂, S₂, q₂⟩; exact ⟨m₂, σ₂, I₂, S.trans S₂, q₂⟩) fun _ _ x => x
-- statements
abbrev x1 (X : Cx) (A : Around) (env : Env) (E : Value → Shared → Prop) (st : Stmt) (m : Vars) (σ : Store) (Q : AF → Vars → Store → Prop) : Prop := ST X A env E (exec st env) m σ Q
abbrev xs (X : Cx) (A : Around) (env : Env) (E : Value → Shared → Prop) (b : List Stmt) (m : Vars) (σ : Store) (Q : AF → Vars → Store → Prop) : Prop := ST X A env E (execs b env) m σ Q
theorem PF.lift {σ₁ : Store} {Q : AF → Vars → Store → Prop} {s s₁ s' : Shared} {f : Flow} (S : Stp X.own (frs A) σ σ₁ s s₁) (h : PF X A env σ₁ Q s₁ f s') : PF X A env σ Q s f s' :=
  let ⟨fl, m', σ', a, i, t, q⟩ := h; ⟨fl, m', σ', a, i, S.trans t, q⟩
theorem xs_nil {Q : AF → Vars → Store → Prop} (q : Q .next m σ) : xs X A env E [] m σ Q := fun s I => wpAny_execs_nil ⟨.next, m, σ, rfl, I, .refl, q⟩
/-- what follows a statement -/
noncomputable def Then (X : Cx) (A : Around) (env : Env) (E : Value → Shared → Prop) (rest : List Stmt) (Q : AF → Vars → Store → Prop) : AF → Vars → Store → Prop
  | .next, m, σ => xs X A env E rest m σ Q
  | .brk, m, σ => Q .brk m σ
  | .cont, m, σ => Q .cont m σ
  | .ret d, m, σ => Q (.ret d) m σ
theorem xs_cons {st : Stmt} {rest : List Stmt} {Q : AF → Vars → Store → Prop} (h : x1 X A env E st m σ (Then X A env E rest Q)) : xs X A env E (st :: rest) m σ Q := fun s I =>
  wpAny_execs_cons (wpAny_mono (h s I) (by
    rintro f s' ⟨fl, m', σ', a, i, t, q⟩
    cases fl with
    | next => cases a; exact wpAny_mono (q s' i) (fun _ _ x => PF.lift t x) fun _ _ x => x
    | brk => cases a; exact ⟨.brk, m', σ', rfl, i, t, q⟩
    | cont => cases a; exact ⟨.cont, m', σ', rfl, i, t, q⟩
    | ret d => obtain ⟨v, rfl, r⟩ := a; exact ⟨.ret d, m', σ', ⟨v, rfl, r⟩, i, t, q⟩) fun _ _ x => x)
theorem x_cont {pos : Pos} {Q : AF → Vars → Store → Prop} (q : Q .cont m σ) : x1 X A env E (.Continue pos) m σ Q := fun s I => by
  show wpAny _ _ ((do standAt pos; pure Flow.cont) : Sem Flow) _ _ s
  exact wpAny_bind (wpAny_standAt (wpAny_pure ⟨.cont, m, σ, rfl, I, .refl, q⟩))
theorem x_ret {e : Expr} {pos : Pos} {Q : AF → Vars → Store → Prop} (h : ev X A env E e m σ fun d σ' => Q (.ret d) m σ') : x1 X A env E (.Return (some e) pos) m σ Q := fun s I =>
  wpAny_Return_some (wpAny_mono (h s I) (by rintro v s' ⟨d, σ', r, i, t, q⟩; exact ⟨.ret d, m, σ', ⟨v, rfl, r⟩, i, t, q⟩) fun _ _ x => x)
theorem x_if {t : Expr} {b o : List Stmt} {pos : Pos} {Q : AF → Vars → Store → Prop} (h : tr X A env E t m σ fun c σ₁ => if c = true then xs X A env E b m σ₁ Q else xs X A env E o m σ₁ Q) : x1 X A env E (.If t b o pos) m σ Q := fun s I =>
  wpAny_If (wpAny_mono (h s I) (by
    rintro c s₁ ⟨σ₁, i₁, t₁, q₁⟩
    split
    · rename_i hc; (try dsimp only at q₁); rw [if_pos hc] at q₁; exact wpAny_mono (q₁ s₁ i₁) (fun _ _ x => PF.lift t₁ x) fun _ _ x => x
    · rename_i hc; (try dsimp only at q₁); rw [if_neg hc] at q₁; exact wpAny_mono (q₁ s₁ i₁) (fun _ _ x => PF.lift t₁ x) fun _ _ x => x) fun _ _ x => x)
theorem x_name (ok : X.Ok A) {x : Str} {p' pos : Pos} {e : Expr} {Q : AF → Vars → Store → Prop} (h : ev X A env E e m σ fun d σ' => Q .next (m.set x d) σ') (hk : nameOk env x = true)
    (hs : swapsWith e (some (.Name x p')) pos.line env = pure false := by rfl) : x1 X A env E (.Assign [.Name x p'] e pos) m σ Q := fun s I =>
  wpAny_Assign_Name (wpAny_mono (h s I) (by rintro v s₁ ⟨d, σ₁, r, i, t, q⟩; exact store_name ok i hk r fun s' I' S => ⟨.next, _, _, rfl, I', t.trans S, q⟩) fun _ _ x => x) hs
theorem x_tup {elts : List Expr} {k : Nat} {tp pos : Pos} {e : Expr} {Q : AF → Vars → Store → Prop} (h : ev X A env E e m σ fun d σ' => as X A env E (.Tuple elts k tp) d m σ' fun m' σ'' => Q .next m' σ'')
    (hs : swapsWithSole [.Tuple elts k tp] e pos.line env = pure false := by rfl) (hw : swappedStores [.Tuple elts k tp] e env = pure none := by rfl) : x1 X A env E (.Assign [.Tuple elts k tp] e pos) m σ Q := fun s I =>
  Assign_Tuple (wpAny_mono (h s I) (by rintro v s₁ ⟨d, σ₁, r, i, t, q⟩; exact wpAny_mono (q s₁ v r i) (by rintro _ s₂ ⟨m₂, σ₂, I₂, S₂, q₂⟩; exact ⟨.next, m₂, σ₂, rfl, I₂, t.trans S₂, q₂⟩) fun _ _ x => x) fun _ _ x => x) hs hw
theorem x_tupS (ok : X.Ok A) (hh : A.handled = none) {elts : List Expr} {k : Nat} {tp pos : Pos} {e : Expr} {names : List Str} {Q : AF → Vars → Store → Prop}
    (h : ev X A env E e m σ fun d σ' => ∃ l, d = .t l ∧ names.length = l.length ∧ asL X A env E (names.reverse.map fun n => bindName env n) l.reverse m σ' fun m' σ'' => Q .next m' σ'')
    (hw : swappedStores [.Tuple elts k tp] e env = pure (some names)) (hs : swapsWithSole [.Tuple elts k tp] e pos.line env = pure false := by rfl) : x1 X A env E (.Assign [.Tuple elts k tp] e pos) m σ Q := fun s I =>
  Assign_Tuple_swapped (wpAny_mono (h s I) (by
    rintro v s₁ ⟨d, σ₁, r, i, t, l, hd, hl, q⟩
    subst hd
    obtain ⟨a, vs, rfl, ht, hr⟩ := r.tup'
    have : names.length = vs.toArray.size := by rw [hl, List.size_toArray, hr.length]
    rw [this]
    refine wpAny_unpackItems_tuple hh ht fun h' he => ?_
    have kp := keeps_of_extBut he
    have S : Stp X.own (frs A) σ₁ σ₁ s₁ { s₁ with heap := h', toks := s₁.toks } := .of_keeps kp
    have hrev : RepL h' l.reverse vs.toArray.toList.reverse := (hr.grow S.tup).reverse
    exact wpAny_mono (q _ _ hrev (i.keeps ok kp)) (by rintro _ s₂ ⟨m₂, σ₂, I₂, S₂, q₂⟩; exact ⟨.next, m₂, σ₂, rfl, I₂, (t.trans S).trans S₂, q₂⟩) fun _ _ x => x) fun _ _ x => x) hs hw
theorem u_bind (ok : X.Ok A) {x : Str} {d : AV} {Q : Vars → Store → Prop} (hk : nameOk env x = true) (q : Q (m.set x d) σ) : U1 X A env E (fun v => bindName env x v) d m σ Q := fun s v r I =>
  wpAny_bindName (store_name ok I hk r fun s' I' S => ⟨_, _, I', S, q⟩)
/-- an item is stored -/
inductive PS (X : Cx) (A : Around) (env : Env) (m : Vars) (σ : Store) (Q : Store → Prop) (s : Shared) (u : Unit) (s' : Shared) : Prop
  | mk (σ' : Store) (i : Inv X A env m σ' s') (t : Stp X.own (frs A) σ σ' s s') (q : Q σ')
noncomputable def SI (X : Cx) (A : Around) (env : Env) (E : Value → Shared → Prop) (o i v : AV) (m : Vars) (σ : Store) (Q : Store → Prop) : Prop :=
  ∀ s vo vi vv, Rep s.heap o vo → Rep s.heap i vi → Rep s.heap v vv → Inv X A env m σ s → wpAny (model X.prog X.w) A (setItem vo vi vv) (PS X A env m σ Q s) E s
theorem x_sub {o i e : Expr} {p' pos : Pos} {Q : AF → Vars → Store → Prop} (h : ev X A env E e m σ fun v σ₁ => ev X A env E o m σ₁ fun vo σ₂ => ev X A env E i m σ₂ fun vi σ₃ => SI X A env E vo vi v m σ₃ fun σ' => Q .next m σ')
    (hs : swapsWith e (some (.Subscript o i p')) pos.line env = pure false := by rfl) : x1 X A env E (.Assign [.Subscript o i p'] e pos) m σ Q := fun s I =>
  wpAny_Assign_Subscript (wpAny_mono (h s I) (by
   rintro v s₁ ⟨d, σ₁, r₁, i₁, t₁, q₁⟩
   exact wpAny_mono (q₁ s₁ i₁) (by
   rintro vo s₂ ⟨d₂, σ₂, r₂, i₂, t₂, q₂⟩
   exact wpAny_mono (q₂ s₂ i₂) (fun vi s₃ ⟨d₃, σ₃, r₃, i₃, t₃, q₃⟩ =>
    wpAny_mono (q₃ s₃ vo vi v (r₂.grow t₃.tup) r₃ (r₁.grow (t₂.trans t₃).tup) i₃) (by rintro _ s₄ ⟨σ₄, i₄, t₄, q₄⟩; exact ⟨.next, m, σ₄, rfl, i₄, ((t₁.trans t₂).trans t₃).trans t₄, q₄⟩) fun _ _ x => x) fun _ _ x => x) fun _ _ x => x) fun _ _ x => x) hs
theorem x_attr (P : Pg X A K p loose mg mb) {o e : Expr} {name : Str} {p' pos : Pos} {Q : AF → Vars → Store → Prop} (h : ev X A env E e m σ fun d σ₁ => ev X A env E o m σ₁ fun od σ₂ => ∃ a C dd l, od = .c (.ref a) ∧ σ₂ a = some (.ins C dd) ∧ σ₂ dd = some (.dct l) ∧
      storeOk' K C name = true ∧ l.length ≤ 1000 ∧ Q .next m (σ₂.set dd (.dct (put l name d))))
    (hs : swapsWith e (some (.Attribute o name p')) pos.line env = pure false := by rfl) : x1 X A env E (.Assign [.Attribute o name p'] e pos) m σ Q := fun s I =>
  plainObj_wpAny_Assign_Attribute (wpAny_mono (h s I) (by
   rintro v s₁ ⟨d, σ₁, r₁, i₁, t₁, q₁⟩
   exact wpAny_mono (q₁ s₁ i₁) (by
    rintro vo s₂ ⟨d₂, σ₂, r₂, i₂, t₂, a, C, dd, l, hd, h1, h2, h3, h4, q₂⟩
    subst hd; cases r₂.val'
    exact set_attr P i₂ h1 h2 h3 h4 (r₁.grow t₂.tup) fun s' I' S' => ⟨.next, m, _, rfl, I', (t₁.trans t₂).trans S', q₂⟩) fun _ _ x => x) fun _ _ x => x) hs
/-- a value is dropped -/
theorem x_expr {e : Expr} {pos : Pos} {Q : AF → Vars → Store → Prop} (h : ev X A env E e m σ fun d σ' => d = .c .none ∧ Q .next m σ') (hi : interactive env = false := by rfl) (hs : swapsWith e none pos.line env = pure false := by rfl) :
    x1 X A env E (.Expr e pos) m σ Q := fun s I => wpAny_Expr (wpAny_mono (h s I) (by
      rintro v s₁ ⟨d, σ₁, r, i, t, hd, q⟩
      subst hd; cases r.val'
      exact ⟨.next, m, σ₁, rfl, i, t, q⟩) fun _ _ x => x) hi hs
end
end Mine
end
section
namespace Mine
/-- a step that touches hidden objects alone -/
structure Tw (S : List Addr) (s s' : Shared) : Prop where
  keep : ∀ b o, s.heap.get? b = some o → b ∉ S → s'.heap.get? b = some o
  notup : ∀ b ∈ S, ∀ items, ¬ IsTup s.heap b items
  same : ∃ h' tk, s' = { s with heap := h', toks := tk }
theorem Tw.tup {S : List Addr} {s s' : Shared} (T : Tw S s s') : Grow s.heap s'.heap := fun a items t => by
  have : a ∉ S := fun h => T.notup a h items t
  obtain ⟨o, ho, r⟩ := t
  exact ⟨o, T.keep a o ho this, r⟩
theorem Tw.of_keeps {s : Shared} {h' : Heap} {tk : Nat} (k : ∀ b o, s.heap.get? b = some o → h'.get? b = some o) : Tw [] s { s with heap := h', toks := tk } :=
  ⟨fun b o e _ => k b o e, (fun b h => nomatch h), ⟨_, _, rfl⟩⟩
section
variable {X : Cx} {A : Around} {env env₀ : Env} {E : Value → Shared → Prop} {m m₀ : Vars} {σ σ₀ : Store} {K : Frag} {p : Program} {loose : List Str} {mg mb : Str → Option Value}
theorem frames_alloc {B : Bs} {A : Around} {σ : Store} {s : Shared} (F : Frs B A σ s) : ∃ outer, A.frames = some outer ∧ ∀ e ∈ outer, ∀ L, e.frame = some L → ∃ o, s.heap.get? L = some o := by
  obtain ⟨outer, h1, h2, h3⟩ := F.fr
  refine ⟨outer, h1, ?_⟩
  clear h1 h3
  induction outer with
  | nil => intro _ he; cases he
  | cons x r ih =>
    obtain ⟨hk, ⟨L, o, hf, hn, ho, hd⟩, hr⟩ := h2
    intro e he L' hL'
    rcases List.mem_cons.mp he with rfl | he
    · rw [hf] at hL'; cases hL'; exact ⟨o, ho⟩
    · exact ih hr e he L' hL'
theorem frs_mono {B : Bs} {A : Around} {σ σ' : Store} {s s' : Shared} (F : Frs B A σ s) (k : ∀ outer, A.frames = some outer → ∀ e ∈ outer, ∀ L, e.frame = some L → ∀ o, s.heap.get? L = some o → σ L = none →
    (∃ o', s'.heap.get? L = some o' ∧ ((∀ vs, o.data ≠ .fields vs) → ∀ vs, o'.data ≠ .fields vs)) ∧ σ' L = none) : Frs B A σ' s' := by
  obtain ⟨outer, h1, h2, h3⟩ := F.fr
  replace k := k outer h1
  refine ⟨outer, h1, ?_, ?_⟩
  · clear h1
    induction outer with
    | nil => trivial
    | cons x r ih =>
      obtain ⟨hk, ⟨L, o, hf, hn, ho, hd⟩, hr⟩ := h2
      obtain ⟨⟨o', e1, e2⟩, _⟩ := k x (List.mem_cons_self ..) L hf o ho (h3 x (List.mem_cons_self ..) L hf)
      exact ⟨hk, ⟨L, o', hf, hn, e1, e2 hd⟩, ih hr (fun e he => h3 e (List.mem_cons_of_mem _ he)) fun e he => k e (List.mem_cons_of_mem _ he)⟩
  · intro e he L hL
    obtain ⟨o2, h4, h5⟩ := frames_alloc F
    rw [h1] at h4; cases h4
    obtain ⟨o, ho⟩ := h5 e he L hL
    exact (k e he L hL o ho (h3 e he L hL)).2
/-- hidden objects move: all facts come along -/
theorem tw (ok : X.Ok A) {S : List Addr} {s₀ s s' : Shared} (I₀ : Inv X A env₀ m₀ σ₀ s₀) (S0 : Stp X.own (frs A) σ₀ σ s₀ s) (I : Inv X A env m σ s) (T : Tw S s s') (fresh : ∀ b ∈ S, s₀.heap.get? b = none) (hσ : ∀ b ∈ S, σ b = none) :
    Inv X A env m σ s' ∧ Stp X.own (frs A) σ₀ σ s₀ s' := by
  have alloc0 : ∀ b o, s₀.heap.get? b = some o → b ∉ S := fun b o e h => by rw [fresh b h] at e; cases e
  have ownS : ∀ b, X.own b → b ∉ S := fun b hb => by obtain ⟨_, _, o, e, _⟩ := I₀.f.own b hb; exact alloc0 b o e
  have S' : Stp X.own (frs A) σ₀ σ s₀ s' := by
    refine ⟨fun b o e h ho hf => T.keep b o (S0.keep b o e h ho hf) (alloc0 b o e), fun b o e h ho hf => let ⟨sl, e'⟩ := S0.outk b o e h ho hf; ⟨sl, T.keep b _ e' (alloc0 b o e)⟩, S0.dom, fun b o e => let ⟨o', e'⟩ := S0.mono b o e; ⟨o', T.keep b o' e' (alloc0 b o e)⟩, S0.tup.trans T.tup, ?_⟩
    obtain ⟨h', tk, rfl⟩ := S0.same
    obtain ⟨h'', tk', rfl⟩ := T.same
    exact ⟨h'', tk', rfl⟩
  refine ⟨⟨⟨fun b o e => T.keep b o (I.g.top b o e) (alloc0 b o (I₀.g.top b o e)), I.g.off, let ⟨a, o, q, e⟩ := I₀.g.tall; let ⟨o', e'⟩ := S0.mono a o e; ⟨a, o', q, T.keep a o' e' (alloc0 a o e)⟩, fun a o e => ?_⟩, ⟨I.f.e, fun b hb => ?_, ?_, ?_⟩, ?_, ok _ _ _ _ I₀.g I₀.gh S'⟩, S'⟩
  · exact (I.g.sim a o e).of_get T.tup fun x hx => T.keep a x hx fun h => by rw [hσ a h] at e; cases e
  · obtain ⟨h1, h2, o, h3, h4⟩ := I.f.own b hb
    exact ⟨h1, h2, o, T.keep b o h3 (ownS b hb), h4⟩
  · obtain ⟨mc, ⟨o, es, ep, e1, r⟩, hm⟩ := I.f.loc
    exact ⟨mc, ⟨o, es, ep, T.keep _ o e1 (ownS _ I.f.e.ownL), r⟩, fun x d e k => let ⟨v, a, b⟩ := hm x d e k; ⟨v, a, b.grow T.tup⟩⟩
  · intro x ca e
    obtain ⟨o, v0, e1, e2, e3⟩ := I.f.cel x ca e
    exact ⟨o, v0, T.keep _ o e1 (ownS _ (I.f.e.ownC x ca e)), e2, fun d hd hc => let ⟨v, a, b⟩ := e3 d hd hc; ⟨v, a, b.grow T.tup⟩⟩
  · obtain ⟨out, f1, f2⟩ := frames_alloc I₀.fr
    refine frs_mono I.fr fun outer ho e he L hL o hLo hs => ?_
    rw [f1] at ho; cases ho
    obtain ⟨o0, e0⟩ := f2 e he L hL
    exact ⟨⟨o, T.keep L o hLo (alloc0 L o0 e0), id⟩, hs⟩
/-- an iterator over trees: hidden objects S, read objects R -/
structure Itr (X : Cx) (A : Around) (tg : Expr) (it : Value) (items : List AV) (S R : List Addr) (Kp : Store → Prop) (St : Nat → Shared → Prop) : Prop where
  item : ∀ i s σ env m d E (Q : Value → Shared → Prop), Inv X A env m σ s → Kp σ → St i s → items[i]? = some d →
    (∀ v s'', Tw S s s'' → Rep s''.heap d v → St (i + 1) s'' → Q v s'') →
    wpAny (model X.prog X.w) A (pyNext it) (fun r s' => match r with
      | none => False
      | some v => wpAny (model X.prog X.w) A (letOwnedTupleGo tg it v) (fun _ s'' => Q v s'') E s') E s
  done : ∀ i s σ env m E (Q : Option Value → Shared → Prop), Inv X A env m σ s → Kp σ → St i s → items[i]? = none →
    (∀ s', Tw S s s' → Q none s') → wpAny (model X.prog X.w) A (pyNext it) Q E s
  stay : ∀ i s s', St i s → (∀ b, b ∈ S ∨ b ∈ R → ∀ o, s.heap.get? b = some o → s'.heap.get? b = some o) → Grow s.heap s'.heap → St i s'
  self : ∀ i s σ env m E (Q : Value → Shared → Prop), Inv X A env m σ s → St i s → Q it s → wpAny (model X.prog X.w) A (pyIter it) Q E s
  live : ∀ i s, St i s → ∀ b, b ∈ S ∨ b ∈ R → ∃ o, s.heap.get? b = some o
  rd : ∀ b ∈ R, ∀ σ, Kp σ → σ b = none
/-- what an exception meets on its way out of a loop -/
noncomputable def LE (X : Cx) (A : Around) (env : Env) (E : Value → Shared → Prop) : Value → Shared → Prop := notedBy (model X.prog X.w) A env fun e s' => cameBackBy (model X.prog X.w) A env E e s'
/-- an iterator is at hand -/
inductive IQ (X : Cx) (A : Around) (env : Env) (tg : Expr) (m : Vars) (σ : Store) (Q : List AV → (Store → Prop) → Store → Prop) (s : Shared) (it : Value) (s₂ : Shared) : Prop
  | mk (items : List AV) (Kp : Store → Prop) (σ₁ : Store) (s₁ : Shared) (S : List Addr) (St : Nat → Shared → Prop) (i : Inv X A env m σ₁ s₁) (t : Stp X.own (frs A) σ σ₁ s s₁) (T : ∀ X' : Cx, X'.toBs = X.toBs → Itr X' A tg it items S [] Kp St)
    (st : St 0 s₂) (w : Tw [] s₁ s₂) (f : ∀ b ∈ S, s₁.heap.get? b = none) (k : Kp σ₁) (q : Q items Kp σ₁)
/-- an iterable is evaluated -/
noncomputable def ie (X : Cx) (A : Around) (env : Env) (E : Value → Shared → Prop) (tg iter : Expr) (m : Vars) (σ : Store) (Q : List AV → (Store → Prop) → Store → Prop) : Prop :=
  ∀ s, Inv X A env m σ s → wpAny (model X.prog X.w) A (eval iter env) (fun v s₁ => wpAny (model X.prog X.w) A (pyIter v) (IQ X A env tg m σ Q s) E s₁) E s
theorem st_none {own fr : Addr → Prop} {S : List Addr} {σa σb : Store} {sa sb : Shared} (t : Stp own fr σa σb sa sb) (h1 : ∀ b ∈ S, σa b = none) (h2 : ∀ b ∈ S, ∃ o, sa.heap.get? b = some o) : ∀ b ∈ S, σb b = none := fun b hb => by
  refine Classical.byContradiction fun e => ?_
  rcases t.dom b e with z | z
  · exact absurd (h1 b hb) z
  · obtain ⟨o, ho⟩ := h2 b hb; rw [ho] at z; cases z
/-- what a turn leaves -/
noncomputable def TurnQ (Q : AF → Vars → Store → Prop) (J : Nat → Vars → Store → Prop) (i : Nat) : AF → Vars → Store → Prop
  | .next, m, σ => J (i + 1) m σ
  | .cont, m, σ => J (i + 1) m σ
  | .brk, m, σ => Q .next m σ
  | .ret v, m, σ => Q (.ret v) m σ
noncomputable def WhileQ (Q : AF → Vars → Store → Prop) (J : Nat → Vars → Store → Prop) (n : Nat) : AF → Vars → Store → Prop
  | .next, m, σ => ∃ k, k < n ∧ J k m σ
  | .cont, m, σ => ∃ k, k < n ∧ J k m σ
  | .brk, m, σ => Q .next m σ
  | .ret v, m, σ => Q (.ret v) m σ
/-- a loop's turns -/
structure Turns (X : Cx) (A : Around) (env : Env) (E : Value → Shared → Prop) (tg : Expr) (body orelse : List Stmt) (items : List AV) (Kp : Store → Prop) (Q : AF → Vars → Store → Prop) (J : Nat → Vars → Store → Prop) : Prop where
  kp : ∀ i m' σ', i ≤ items.length → J i m' σ' → Kp σ'
  turn : ∀ i d' m' σ', items[i]? = some d' → J i m' σ' → as X A env (LE X A env E) tg d' m' σ' fun m₂ σ₂ => xs X A env (LE X A env E) body m₂ σ₂ (TurnQ Q J i)
  fin : ∀ m' σ', J items.length m' σ' → xs X A env (LE X A env E) orelse m' σ' Q
theorem loop_core (ok : X.Ok A) {tg : Expr} {body orelse : List Stmt} {items : List AV} {Kp : Store → Prop} {Q : AF → Vars → Store → Prop} {J : Nat → Vars → Store → Prop} (W : Turns X A env E tg body orelse items Kp Q J)
    {it : Value} {S R : List Addr} {St : Nat → Shared → Prop} (T : Itr X A tg it items S R Kp St) {s₁ s₂ : Shared} {σ₁ : Store} (i₁ : Inv X A env m σ₁ s₁) (tw0 : Tw [] s₁ s₂) (fr : ∀ b ∈ S, s₁.heap.get? b = none) (rO : ∀ b ∈ R, ¬ X.own b ∧ ¬ frs A b)
    (st0 : St 0 s₂) (j0 : J 0 m σ₁) : codeAny (model X.prog X.w) A (.forLoop tg it body orelse env) (fun r s' => match r with
      | .ok f => PF X A env σ₁ Q s₁ f s'
      | .error e => cameBackBy (model X.prog X.w) A env E e s') s₂ := by
  obtain ⟨jk, jb, ja⟩ := W
  obtain ⟨i₂, t₂⟩ := tw ok i₁ .refl i₁ tw0 (fun b h => nomatch h) (fun b h => nomatch h)
  have σS : ∀ b ∈ S, σ₁ b = none := fun b hb => (i₁.fresh (fr b hb)).1
  have nown : ∀ b ∈ S, ¬ X.own b := fun b hb => (i₁.fresh (fr b hb)).2.2
  have nfrS : ∀ b ∈ S, ¬ frs A b := fun b hb hf => by
    obtain ⟨out, h1, h2⟩ := frames_alloc i₁.fr
    obtain ⟨out', k1, en, k2, k3⟩ := hf
    rw [h1] at k1; cases k1
    obtain ⟨o, ho⟩ := h2 en k2 b k3
    rw [fr b hb] at ho; cases ho
  refine codeAny_forLoop_any (fun n s' => ∃ i m' σ', n = items.length + 1 - i ∧ i ≤ items.length ∧ J i m' σ' ∧ Inv X A env m' σ' s' ∧ Stp X.own (frs A) σ₁ σ' s₁ s' ∧ St i s' ∧ (∀ b ∈ S, σ' b = none)) ?_ (items.length + 1)
    ⟨0, m, σ₁, rfl, Nat.zero_le _, j0, i₂, t₂, st0, σS⟩
  rintro n s' ⟨i, m', σ', rfl, hi, hj, I', S', st, σS'⟩
  cases hd : items[i]? with
  | none =>
    have : i = items.length := Nat.le_antisymm hi (by simpa using hd)
    subst this
    refine T.done _ s' σ' env m' _ _ I' (jk _ _ _ hi hj) st hd fun s₃ tw3 => ?_
    obtain ⟨I₃, S₃⟩ := tw ok i₁ S' I' tw3 fr σS'
    exact wpAny_mono (ja m' σ' hj s₃ I₃) (by rintro f s₄ ⟨fl, m₄, σ₄, a, i₄, t₄, q⟩; exact ⟨fl, m₄, σ₄, a, i₄, S₃.trans t₄, q⟩) fun _ _ x => x
  | some d' =>
    have hlt : i < items.length := (List.getElem?_eq_some_iff.mp hd).1
    refine wpAny_mono (T.item i s' σ' env m' d' _ (fun v s₃ => wpAny (model X.prog X.w) A (assign tg env v) (fun _ s₂ => wpAny (model X.prog X.w) A (execs body env) (fun f s₃ => match f with
          | .next | .cont => ∃ k, k < items.length + 1 - i ∧ ∃ i m' σ', k = items.length + 1 - i ∧ i ≤ items.length ∧ J i m' σ' ∧ Inv X A env m' σ' s₃ ∧ Stp X.own (frs A) σ₁ σ' s₁ s₃ ∧ St i s₃ ∧ (∀ b ∈ S, σ' b = none)
          | .brk => PF X A env σ₁ Q s₁ .next s₃
          | .ret v => PF X A env σ₁ Q s₁ (.ret v) s₃) (LE X A env E) s₂) (LE X A env E) s₃) I' (jk _ _ _ hi hj) st hd fun v s₃ tw3 r₃ st3 => ?_) (fun r s₃ hr => ?_) fun _ _ x => x
    · obtain ⟨I₃, S₃⟩ := tw ok i₁ S' I' tw3 fr σS'
      refine wpAny_mono (jb i d' m' σ' hd hj s₃ v r₃ I₃) (fun _ s₄ h₄ => ?_) fun _ _ x => x
      obtain ⟨m₄, σ₄, I₄, S₄, q₄⟩ := h₄
      refine wpAny_mono (q₄ s₄ I₄) (fun f s₅ h₅ => ?_) fun _ _ x => x
      obtain ⟨fl, m₅, σ₅, a₅, I₅, S₅, q₅⟩ := h₅
      have al3 := T.live _ s₃ st3
      have S45 := S₄.trans S₅
      have σS5 : ∀ b ∈ S, σ₅ b = none := st_none S45 σS' fun b hb => al3 b (.inl hb)
      have rst : ∀ b ∈ R, σ' b = none := fun b hb => T.rd b hb _ (jk _ _ _ hi hj)
      have st5 : St (i + 1) s₅ := T.stay _ s₃ s₅ st3 (fun b hb o e => by
        rcases hb with hb | hb
        · exact S45.keep b o e (σS' b hb) (nown b hb) (nfrS b hb)
        · exact S45.keep b o e (rst b hb) (rO b hb).1 (rO b hb).2) S45.tup
      cases fl with
      | next => cases a₅; exact ⟨items.length + 1 - (i + 1), by omega, i + 1, m₅, σ₅, rfl, hlt, q₅, I₅, S₃.trans S45, st5, σS5⟩
      | cont => cases a₅; exact ⟨items.length + 1 - (i + 1), by omega, i + 1, m₅, σ₅, rfl, hlt, q₅, I₅, S₃.trans S45, st5, σS5⟩
      | brk => cases a₅; exact ⟨.next, m₅, σ₅, rfl, I₅, S₃.trans S45, q₅⟩
      | ret d₅ => obtain ⟨v₅, rfl, r₅⟩ := a₅; exact ⟨.ret d₅, m₅, σ₅, ⟨v₅, rfl, r₅⟩, I₅, S₃.trans S45, q₅⟩
    · cases r with
      | none => exact hr.elim
      | some v => exact wpAny_mono hr (fun _ s₄ h₄ => h₄) fun _ _ x => x
theorem x_for (ok : X.Ok A) {tg iter : Expr} {body orelse : List Stmt} {pos : Pos} {Q : AF → Vars → Store → Prop}
    (h : ie X A env E tg iter m σ fun items Kp σ₁ => ∃ J, J 0 m σ₁ ∧ Turns X A env E tg body orelse items Kp Q J)
    (hs : ∀ x, foldedSetIterable iter env x = pure x := by intro _; rfl) : x1 X A env E (.For tg iter body orelse pos) m σ Q := fun s I => by
  refine wpAny_For (wpAny_mono (h s I) (fun v s₁ h₁ => wpAny_mono h₁ (fun it s₂ h₂ => ?_) fun _ _ x => x) fun _ _ x => x) hs
  obtain ⟨items, Kp, σ₁, s₁, S, St, i₁, t₁, T, st0, tw0, fr, kp, J, j0, W⟩ := h₂
  refine codeAny_mono (loop_core ok W (T X rfl) i₁ tw0 fr (fun b h => nomatch h) st0 j0) fun r s' hr => ?_
  cases r with
  | ok f => exact PF.lift t₁ hr
  | error e => exact hr
/-- an object is set aside: it stays as it is -/
theorem Inv.del {s : Shared} (ok : X.Ok A) (I : Inv X A env m σ s) (d : Addr) : Inv X A env m (σ.del d) s ∧ Stp X.own (frs A) σ (σ.del d) s s := by
  have hd : ∀ {b}, σ.del d b ≠ none → σ b ≠ none := fun {b} h => by unfold Store.del at h; split at h <;> first | exact absurd rfl h | exact h
  have S : Stp X.own (frs A) σ (σ.del d) s s := ⟨fun _ _ e _ _ _ => e, fun _ o e _ _ _ => ⟨o.slots, e⟩, fun _ h => .inl (hd h), fun _ o e => ⟨o, e⟩, .refl _, ⟨s.heap, s.toks, rfl⟩⟩
  exact ⟨I.step ok S (fun a o e => I.g.sim a o (by unfold Store.del at e; split at e <;> first | cases e | exact e)) (fun b h => .inl (hd h)) (fun _ _ o e _ => ⟨o.slots, e⟩), S⟩
theorem Inv.undel {s s' : Shared} (ok : X.Ok A) (I : Inv X A env m₀ σ s) {d : Addr} {o : AO} (hσ : σ d = some o) (I' : Inv X A env m σ₀ s') (S : Stp X.own (frs A) (σ.del d) σ₀ s s') :
    Inv X A env m (σ₀.set d o) s' ∧ Stp X.own (frs A) σ (σ₀.set d o) s s' := by
  have hn : ¬ X.own d := fun h => by rw [(I.f.own d h).1] at hσ; cases hσ
  have hnf : ¬ frs A d := fun hf => by
    obtain ⟨outer, f1, f2, f3⟩ := I.fr.fr
    obtain ⟨out', k1, en, k2, k3⟩ := hf
    rw [f1] at k1; cases k1
    have := f3 en k2 d k3
    rw [hσ] at this; cases this
  have hk : ∀ x, s.heap.get? d = some x → s'.heap.get? d = some x := fun x e => S.keep d x e Store.del_self hn hnf
  have ob : ObjIs X.prog X.w s'.heap d o := (I.g.sim d o hσ).of_get S.tup hk
  have hd : ∀ {b}, σ.del d b ≠ none → σ b ≠ none := fun {b} h => by unfold Store.del at h; split at h <;> first | exact absurd rfl h | exact h
  have S' : Stp X.own (frs A) σ (σ₀.set d o) s s' := by
    refine ⟨fun b x e h hb hf => S.keep b x e ?_ hb hf, fun b x e h hb hf => S.outk b x e ?_ hb hf, fun b h => ?_, S.mono, S.tup, S.same⟩
    · unfold Store.del; split <;> first | rfl | exact h
    · unfold Store.del; split <;> first | rfl | exact h
    · by_cases q : b = d
      · subst q; rw [hσ]; exact .inl (by simp)
      · rw [Store.set_ne q] at h
        exact (S.dom b h).imp hd id
  have hsim : ∀ a o', (σ₀.set d o) a = some o' → ObjIs X.prog X.w s'.heap a o' := fun a o' e => by
    by_cases q : a = d
    · subst q; rw [Store.set_self] at e; cases e; exact ob
    · rw [Store.set_ne q] at e; exact I'.g.sim a o' e
  have hset : ∀ b, b ≠ d → σ₀ b = none → (σ₀.set d o) b = none := fun b h e => by rw [Store.set_ne h]; exact e
  refine ⟨⟨⟨I'.g.top, fun b h => ?_, I'.g.tall, hsim⟩, ⟨I'.f.e, fun b hb => ?_, I'.f.loc, I'.f.cel⟩, ?_, ok _ _ _ _ I.g I.gh S'⟩, S'⟩
  · by_cases q : b = d
    · subst q; exact I.g.off b (by rw [hσ]; simp)
    · rw [Store.set_ne q] at h; exact I'.g.off b h
  · obtain ⟨h1, h2, h3⟩ := I'.f.own b hb
    exact ⟨hset b (fun e => hn (e ▸ hb)) h1, h2, h3⟩
  · obtain ⟨outer, f1, f2, f3⟩ := I.fr.fr
    refine frs_mono I'.fr fun outer' ho e he L hL x hx hs => ⟨⟨x, hx, id⟩, hset L (fun z => ?_) hs⟩
    rw [f1] at ho; cases ho
    have := f3 e he L hL
    rw [z, hσ] at this; cases this
/-- a loop over an object of the store that stays as it is -/
theorem x_for_aside (ok : X.Ok A) {tg iter : Expr} {body orelse : List Stmt} {pos : Pos} {Q : AF → Vars → Store → Prop}
    (h : ∀ s, Inv X A env m σ s → wpAny (model X.prog X.w) A (eval iter env) (fun v s₁ => ∃ σ₁ d o, Inv X A env m σ₁ s₁ ∧ Stp X.own (frs A) σ σ₁ s s₁ ∧ σ₁ d = some o ∧
      wpAny (model X.prog X.w) A (pyIter v) (fun it s₂ => ∃ items Kp S R St J, Itr X A tg it items S R Kp St ∧ St 0 s₂ ∧ Tw [] s₁ s₂ ∧ (∀ b ∈ S, s₁.heap.get? b = none) ∧ (∀ b ∈ R, ¬ X.own b ∧ ¬ frs A b) ∧
        J 0 m (σ₁.del d) ∧ Turns X A env E tg body orelse items Kp (fun fl m' σ' => Q fl m' (σ'.set d o)) J) E s₁) E s)
    (hs : ∀ x, foldedSetIterable iter env x = pure x := by intro _; rfl) : x1 X A env E (.For tg iter body orelse pos) m σ Q := fun s I => by
  refine wpAny_For (wpAny_mono (h s I) (fun v s₁ ⟨σ₁, d, o, I₁, S₁, hσ, h₁⟩ => wpAny_mono h₁ (fun it s₂ h₂ => ?_) fun _ _ x => x) fun _ _ x => x) hs
  obtain ⟨items, Kp, S, R, St, J, T, st0, tw0, fr, rO, j0, W⟩ := h₂
  refine codeAny_mono (loop_core ok W T (I₁.del ok d).1 tw0 fr rO st0 j0) fun r s' hr => ?_
  cases r with
  | ok f =>
    obtain ⟨fl, m', σ', a, I', S', q⟩ := hr
    obtain ⟨I'', S''⟩ := Inv.undel ok I₁ hσ I' S'
    exact ⟨fl, m', _, a, I'', S₁.trans S'', q⟩
  | error e => exact hr
/-- a while: an invariant and a measure -/
theorem x_while {test : Expr} {body orelse : List Stmt} {pos : Pos} {Q : AF → Vars → Store → Prop} (J : Nat → Vars → Store → Prop) (n : Nat) (j0 : J n m σ)
    (hb : ∀ n m' σ', J n m' σ' → tr X A env (LE X A env E) test m' σ' fun c σ₁ => if c = true then xs X A env (LE X A env E) body m' σ₁ (WhileQ Q J n)
      else xs X A env (LE X A env E) orelse m' σ₁ Q) : x1 X A env E (.While test body orelse pos) m σ Q := fun s I => by
  refine wpAny_While (codeAny_whileLoop (fun n s' => ∃ m' σ', J n m' σ' ∧ Inv X A env m' σ' s' ∧ Stp X.own (frs A) σ σ' s s') ?_ n ⟨m, σ, j0, I, .refl⟩)
  rintro n s' ⟨m', σ', hj, I', S'⟩
  refine wpAny_mono (hb n m' σ' hj s' I') (fun c s₁ h₁ => ?_) fun _ _ x => x
  obtain ⟨σ₁, I₁, S₁, q₁⟩ := h₁
  cases c with
  | false =>
    simp only [Bool.false_eq_true, if_false] at q₁ ⊢
    exact wpAny_mono (q₁ s₁ I₁) (by rintro f s₄ ⟨fl, m₄, σ₄, a, i₄, t₄, q⟩; exact ⟨fl, m₄, σ₄, a, i₄, (S'.trans S₁).trans t₄, q⟩) fun _ _ x => x
  | true =>
    simp only [if_true] at q₁ ⊢
    refine wpAny_mono (q₁ s₁ I₁) (fun f s₂ h₂ => ?_) fun _ _ x => x
    obtain ⟨fl, m₂, σ₂, a, I₂, S₂, q⟩ := h₂
    have SS := (S'.trans S₁).trans S₂
    cases fl with
    | next => cases a; obtain ⟨k, hk, hj'⟩ := q; exact ⟨k, hk, m₂, σ₂, hj', I₂, SS⟩
    | cont => cases a; obtain ⟨k, hk, hj'⟩ := q; exact ⟨k, hk, m₂, σ₂, hj', I₂, SS⟩
    | brk => cases a; exact ⟨.next, m₂, σ₂, rfl, I₂, SS, q⟩
    | ret d => obtain ⟨v, rfl, r⟩ := a; exact ⟨.ret d, m₂, σ₂, ⟨v, rfl, r⟩, I₂, SS, q⟩
end
end Mine
end
section
open AutoSeq1 (wpAny_loadPart')
namespace Mine
noncomputable def ownKinds : List String := ["enumerate", "zip", "dict_itemiterator", "dict_reverseitemiterator", "odict_iterator", "itertools.zip_longest", "itertools.pairwise"]
theorem owned_skip {M : Model} {A : Around} {E : Value → Shared → Prop} {s : Shared} {tg : Expr} {I : Addr} {v : Value} {o : Obj} {n : String} {Q : Unit → Shared → Prop} (ho : s.heap.get? I = some o) (hc : o.cls = .type n) (hn : ownKinds.contains n = false) (hQ : Q () s) :
    wpAny M A (letOwnedTupleGo tg (.ref I) v) Q E s := by
  unfold letOwnedTupleGo
  split
  · cases v <;> try exact wpAny_pure hQ
    refine wpAny_bind (wpAny_load ho ?_)
    rw [hc]
    cases hd : o.data <;> try exact wpAny_pure hQ
    rename_i vs
    show wpAny _ _ (if (ownKinds.contains n && _) = true then _ else _) _ _ _
    rw [hn, Bool.false_and, if_neg (by decide)]
    exact wpAny_pure hQ
  · cases v <;> try exact wpAny_pure hQ
    refine wpAny_bind (wpAny_load ho ?_)
    rw [hc]
    cases hd : o.data <;> try exact wpAny_pure hQ
    rename_i vs
    show wpAny _ _ (if (ownKinds.contains n && _) = true then _ else _) _ _ _
    rw [hn, Bool.false_and, if_neg (by decide)]
    exact wpAny_pure hQ
  · exact wpAny_pure hQ
theorem Tw.one {I : Addr} {s : Shared} {h' : Heap} {tk : Nat} {o : Obj} (ho : s.heap.get? I = some o) (hc : o.cls ≠ .type "tuple") (k : Heap.ExtBut I s.heap h') : Tw [I] s { s with heap := h', toks := tk } := by
  refine ⟨fun b x e hb => k b x (fun z => hb (by simp [z])) e, fun b hb items t => ?_, ⟨_, _, rfl⟩⟩
  have : b = I := by simpa using hb
  subst this
  obtain ⟨o', e1, e2, _⟩ := t
  rw [ho] at e1; cases e1; exact hc e2
section
variable {X : Cx} {A : Around} {env env₀ : Env} {E : Value → Shared → Prop} {m m₀ : Vars} {σ σ₀ : Store} {K : Frag} {p : Program} {loose : List Str} {mg mb : Str → Option Value}
theorem itr_list (hh : A.handled = none) {tg : Expr} {I a : Addr} {items : List AV} : Itr X A tg (.ref I) items [I] [] (fun σ => σ a = some (.lst items)) (fun i s => s.heap.IsListIter I a i) where
  item := fun i s σ env m d E Q inv kp hit hd hQ => by
    obtain ⟨vs, n, hg, hr⟩ := inv.g.sim a _ kp
    obtain ⟨v, hv, r⟩ := hr.get hd
    have hL : s.heap.IsList a vs.toArray := ⟨_, hg, rfl, n, rfl⟩
    refine wpAny_pyNext_list_item hit hL (x := v) (by simpa using hv) fun h' hit' hs => ?_
    obtain ⟨o, ho, hc, hd'⟩ := id hit
    obtain ⟨o2, ho2, hc2, hd2⟩ := id hit'
    have T : Tw [I] s { s with heap := h' } := Tw.one (tk := s.toks) ho (by rw [hc]; decide) hs.extBut
    exact owned_skip ho2 hc2 (by decide) (hQ v _ T (r.grow T.tup) hit')
  done := fun i s σ env m E Q inv kp hit hd hQ => by
    obtain ⟨vs, n, hg, hr⟩ := inv.g.sim a _ kp
    have hL : s.heap.IsList a vs.toArray := ⟨_, hg, rfl, n, rfl⟩
    obtain ⟨o, ho, hc, hd'⟩ := id hit
    exact wpAny_pyNext_list_end hh hit hL (by have := hr.length; simp at hd ⊢; omega) fun h' he => hQ _ (Tw.one (tk := s.toks) ho (by rw [hc]; decide) he)
  stay := fun i s s' hit k _ => by
    obtain ⟨o, ho, r⟩ := hit
    exact ⟨o, k I (.inl (by simp)) o ho, r⟩
  self := fun i s σ env m E Q inv hit hQ => wpAny_pyIter_listiter hit hQ
  live := fun i s hit b hb => by
    have : b = I := by simpa using hb
    subst this
    obtain ⟨o, ho, _⟩ := hit; exact ⟨o, ho⟩
  rd := fun b hb => nomatch hb
theorem itr_tup (hh : A.handled = none) {tg : Expr} {I a : Addr} {items : List AV} {vs : List Value} : Itr X A tg (.ref I) items [I] [] (fun _ => True) (fun i s => s.heap.IsTupleIter I a i ∧ IsTup s.heap a vs.toArray ∧ RepL s.heap items vs) where
  item := fun i s σ env m d E Q inv kp ⟨hit, ht, hr⟩ hd hQ => by
    obtain ⟨v, hv, r⟩ := hr.get hd
    refine wpAny_pyNext_tuple_item hit ht (x := v) (by simpa using hv) fun h' hit' hs => ?_
    obtain ⟨o, ho, hc, hd'⟩ := id hit
    obtain ⟨o2, ho2, hc2, hd2⟩ := id hit'
    have T : Tw [I] s { s with heap := h' } := Tw.one (tk := s.toks) ho (by rw [hc]; decide) hs.extBut
    exact owned_skip ho2 hc2 (by decide) (hQ v _ T (r.grow T.tup) ⟨hit', T.tup _ _ ht, hr.grow T.tup⟩)
  done := fun i s σ env m E Q inv kp ⟨hit, ht, hr⟩ hd hQ => by
    obtain ⟨o, ho, hc, hd'⟩ := id hit
    exact wpAny_pyNext_tuple_end hh hit ht (by have := hr.length; simp at hd ⊢; omega) fun h' he => hQ _ (Tw.one (tk := s.toks) ho (by rw [hc]; decide) he)
  stay := fun i s s' ⟨hit, ht, hr⟩ k g => by
    obtain ⟨o, ho, r⟩ := hit
    exact ⟨⟨o, k I (.inl (by simp)) o ho, r⟩, g _ _ ht, hr.grow g⟩
  self := fun i s σ env m E Q inv hit hQ => wpAny_pyIter_tupleiter hit.1 hQ
  live := fun i s hit b hb => by
    have : b = I := by simpa using hb
    subst this
    obtain ⟨⟨o, ho, _⟩, _⟩ := hit; exact ⟨o, ho⟩
  rd := fun b hb => nomatch hb
noncomputable def rangeItems (lo : Int) (n : Nat) : List AV := (List.range n).map fun k : Nat => AV.i (lo + (k : Int))
theorem itr_range (hh : A.handled = none) {tg : Expr} {I : Addr} {lo : Int} {n : Nat} : Itr X A tg (.ref I) (rangeItems lo n) [I] [] (fun _ => True) (fun i s => IsRangeIter s.heap I (lo + (i : Int)) ((n : Int) - (i : Int)) 1) where
  item := fun i s σ env m d E Q inv kp hit hd hQ => by
    have hlt : i < n := by
      have := (List.getElem?_eq_some_iff.mp hd).1
      simpa [rangeItems] using this
    have hd' : d = .i (lo + (i : Int)) := by
      simp [rangeItems, hlt] at hd; exact hd.symm
    subst hd'
    refine wpAny_pyNext_range_item hit (by omega) fun h' hit' hs => ?_
    have T : Tw [I] s { s with heap := h', toks := s.toks + 1 } := Tw.one (tk := s.toks + 1) hit (by simp) hs.extBut
    refine owned_skip hit' rfl (by decide) (hQ _ _ T Rep.int ?_)
    have e1 : lo + ((i + 1 : Nat) : Int) = lo + (i : Int) + 1 := by omega
    have e2 : (n : Int) - ((i + 1 : Nat) : Int) = (n : Int) - (i : Int) - 1 := by omega
    show IsRangeIter h' I _ _ 1
    rw [e1, e2]; exact hit'
  done := fun i s σ env m E Q inv kp hit hd hQ => by
    have hge : n ≤ i := by simpa [rangeItems] using hd
    exact wpAny_pyNext_range_end hh hit (by omega) fun h' he => hQ _ (Tw.one (tk := s.toks) hit (by simp) he)
  stay := fun i s s' hit k _ => k I (.inl (by simp)) _ hit
  self := fun i s σ env m E Q inv hit hQ => wpAny_pyIter_rangeiter hit hQ
  live := fun i s hit b hb => by
    have : b = I := by simpa using hb
    subst this
    exact ⟨_, hit⟩
  rd := fun b hb => nomatch hb
theorem itr_keys (hh : A.handled = none) {tg : Expr} {I d : Addr} {kvs : List (Str × Value)} {ep : Nat} : Itr X A tg (.ref I) (kvs.map fun q => .s q.1) [I] [d] (fun σ => σ d = none)
    (fun i s => s.heap.IsKeyIter I d i kvs.length ep ∧ s.heap.DictAt (strKind X.prog X.w) d kvs ep) where
  item := fun i s σ env m dd E Q inv kp ⟨hit, hm⟩ hd hQ => by
    obtain ⟨⟨k, v⟩, hk, rfl⟩ : ∃ q, kvs[i]? = some q ∧ (AV.s q.1) = dd := by simpa using hd
    refine wpAny_pyNext_dict_item hit hm hk fun key h' hkey hit' hs => ?_
    obtain ⟨o, ho, hc, hd'⟩ := id hit
    obtain ⟨o2, ho2, hc2, hd2⟩ := id hit'
    have hne : d ≠ I := fun z => by
      subst z
      obtain ⟨od, es, e1, e2, _⟩ := hm
      rw [ho] at e1; cases e1; rw [e2.1] at hc; simp at hc
    have T : Tw [I] s { s with heap := h' } := Tw.one (tk := s.toks) ho (by rw [hc]; decide) hs.extBut
    refine owned_skip ho2 hc2 (by decide) (hQ key _ T ?_ ⟨hit', hm.extBut hs.extBut hne⟩)
    rw [strIs] at hkey
    cases key <;> first | (simp [Value.isStr] at hkey; done) | skip
    rename_i y t
    have : y = k := by simpa [Value.isStr] using hkey
    subst this
    exact Rep.str
  done := fun i s σ env m E Q inv kp ⟨hit, hm⟩ hd hQ => by
    obtain ⟨o, ho, hc, hd'⟩ := id hit
    exact wpAny_pyNext_dict_end hh hit hm (by simpa using hd) fun h' he => hQ _ (Tw.one (tk := s.toks) ho (by rw [hc]; decide) he)
  stay := fun i s s' ⟨hit, hm⟩ k _ => by
    obtain ⟨o, ho, r⟩ := hit
    obtain ⟨od, es, e1, r2⟩ := hm
    exact ⟨⟨o, k I (.inl (by simp)) o ho, r⟩, ⟨od, es, k d (.inr (by simp)) od e1, r2⟩⟩
  self := fun i s σ env m E Q inv hit hQ => wpAny_pyIter_keyiter hit.1 hQ
  live := fun i s ⟨hit, hm⟩ b hb => by
    rcases hb with hb | hb
    · have : b = I := by simpa using hb
      subst this
      obtain ⟨o, ho, _⟩ := hit; exact ⟨o, ho⟩
    · have : b = d := by simpa using hb
      subst this
      obtain ⟨od, es, e1, r2⟩ := hm
      exact ⟨od, e1⟩
  rd := fun b hb σ h => by
    have : b = d := by simpa using hb
    subst this; exact h
end
end Mine
end
section
open AutoSeq1 (wpAny_loadPart')
namespace Mine
section
variable {prog : Program} {w : World} {A : Around} {E : Value → Shared → Prop} {s : Shared}
theorem nextOf_tup_item {it t : Addr} {i : Nat} {items : Array Value} {x : Value} {Q : Value → Shared → Prop} (hit : s.heap.IsTupleIter it t i)
    (ht : IsTup s.heap t items) (hx : items[i]? = some x)
    (hQ : ∀ h', h'.IsTupleIter it t (i + 1) → Heap.SameBut it s.heap h' → Q x { s with heap := h' }) :
    wpAny (model prog w) A (Builtin.SmallTypes.nextOf (.ref it)) Q E s := by
  obtain ⟨o, ho, hc, hd⟩ := id hit
  obtain ⟨ol, hol, _, nl, hdl⟩ := ht
  unfold Builtin.SmallTypes.nextOf
  refine wpAny_bind (wpAny_callSpecial?_slot (name := Str.ofString "__next__") hit.typeIs F.slot_tuple_iterator_next
    (wpAny_call_entry F.slot_tuple_iterator_next hit.typeIs F.entry_tuple_iterator_next ?_ (F.args_tuple_iterator_next_1 _)))
  show wpAny _ _ (field (.ref it) 0 >>= _) _ _ s
  refine wpAny_bind (wpAny_field ho hd (x := .ref t) rfl ?_)
  show wpAny _ _ (if (Value.ref t == Value.none) = true then _ else _) _ _ s
  rw [if_neg (show ¬ ((Value.ref t == Value.none) = true) from Bool.false_ne_true)]
  show wpAny _ _ (field (.ref it) 1 >>= _) _ _ s
  refine wpAny_bind (wpAny_field ho hd (x := .int i 0) rfl ?_)
  show wpAny _ _ (seqItems? (.ref t) >>= _) _ _ s
  refine wpAny_bind (wpAny_seqItems hol hdl ?_)
  simp only [Int.toNat_natCast, hx]
  refine wpAny_bind (wpAny_setField ho hd (by simp) (wpAny_pure ⟨x, rfl, wpAny_pure (hQ _ ?_ (Heap.SameBut.update ..))⟩))
  exact ⟨_, Heap.get?_update_self _ ho (Obj.isFreed_of_fields (Obj.data_mapFields hd _)), (Obj.cls_mapFields ..).trans hc, by
    rw [Obj.data_mapFields hd]; simp [rawInt]⟩
theorem nextOf_tup_end {it t : Addr} {i : Nat} {items : Array Value} {Q : Value → Shared → Prop} (hh : A.handled = none)
    (hit : s.heap.IsTupleIter it t i) (ht : IsTup s.heap t items) (hx : items[i]? = none)
    (hE : ∀ h' e, Heap.ExtBut it s.heap h' → (∃ o, h'.get? e = some o ∧ o.cls = .type "StopIteration") → E (.ref e) { s with heap := h' }) :
    wpAny (model prog w) A (Builtin.SmallTypes.nextOf (.ref it)) Q E s := by
  obtain ⟨o, ho, hc, hd⟩ := id hit
  obtain ⟨ol, hol, _, nl, hdl⟩ := ht
  unfold Builtin.SmallTypes.nextOf
  refine wpAny_bind (wpAny_callSpecial?_slot (name := Str.ofString "__next__") hit.typeIs F.slot_tuple_iterator_next
    (wpAny_call_entry F.slot_tuple_iterator_next hit.typeIs F.entry_tuple_iterator_next ?_ (F.args_tuple_iterator_next_1 _)))
  show wpAny _ _ (field (.ref it) 0 >>= _) _ _ s
  refine wpAny_bind (wpAny_field ho hd (x := .ref t) rfl ?_)
  show wpAny _ _ (if (Value.ref t == Value.none) = true then _ else _) _ _ s
  rw [if_neg (show ¬ ((Value.ref t == Value.none) = true) from Bool.false_ne_true)]
  show wpAny _ _ (field (.ref it) 1 >>= _) _ _ s
  refine wpAny_bind (wpAny_field ho hd (x := .int i 0) rfl ?_)
  show wpAny _ _ (seqItems? (.ref t) >>= _) _ _ s
  refine wpAny_bind (wpAny_seqItems hol hdl ?_)
  simp only [Int.toNat_natCast, hx]
  refine wpAny_bind (wpAny_rule (wpAny_bind (wpAny_setField ho hd (by simp) ?_)))
  show wpAny _ _ (newExc (.type "StopIteration") [] >>= _) _ _ _
  refine wpAny_bind ?_
  simp only [newExc, newTuple]
  refine wpAny_bind (wpAny_newObj_type ?_ (by size_fits))
  refine wpAny_bind (m := firstArgMember _ _) (wpAny_of_eq (a := Value.none) (by first | rfl | (simp only [firstArgMember]; rfl)) ?_)
  refine wpAny_newObj_type ?_ (by size_fits)
  simp only [raiseNew]
  refine wpAny_bind (wpAny_handled ?_)
  first | rw [show A.in1.handled = none from hh] | rw [hh]
  refine wpAny_bind (wpAny_pure (wpAny_throw ?_))
  exact hE _ _ (((Heap.SameBut.update ..).extBut.push _).push _) ⟨_, Heap.get?_push_size _ rfl, rfl⟩
end
theorem tup_at {h h' : Heap} {t : Addr} {items : Array Value} (x : IsTup h t items) (e : ∀ o, h.get? t = some o → h'.get? t = some o) : IsTup h' t items := let ⟨o, ho, r⟩ := x; ⟨o, e _ ho, r⟩
theorem draws_tup {prog : Program} {w : World} {A : Around} (hh : A.handled = none) (it t : Addr) (hne : t ≠ it) (items : Array Value) :
    Draws prog w A it [it, t] items.size (fun i v => items[i]? = some v) (fun i h => h.IsTupleIter it t i ∧ IsTup h t items) where
  live := fun _ _ st => let ⟨o, ho, _⟩ := st.1; ⟨o, ho⟩
  frame := fun _ _ _ st hk => ⟨st.1.at fun o e => hk it (by simp) o e, tup_at st.2 fun o e => hk t (by simp) o e⟩
  item := fun i s Q E hi st hQ => by
    refine nextOf_tup_item st.1 st.2 (x := items[i]) (by simp [hi]) fun h' hit' hs' => ?_
    exact hQ _ h' s.toks (by simp [hi]) ⟨hit', st.2.extBut hs'.extBut hne⟩ hs'
  done := fun s Q E st hE => nextOf_tup_end hh st.1 st.2 (by simp) hE
theorem meets_enum_tup (l : Addr) (items : Array Value) (n : Nat) (dct : Option Addr) (sl : Array (Option Value)) :
    Meets (Builtin.«enumerate.__new__» ⟨[.type "enumerate", .ref l], []⟩) (fun _ R s => s.heap.get? l = some { cls := .type "tuple", dict := dct, data := .seq items n, slots := sl } ∧
      R (.ok (.ret (.ref (s.heap.push { cls := .type "tuple_iterator", data := .fields #[.ref l, .int 0 0] }).objs.size)))
        { s with heap := (s.heap.push { cls := .type "tuple_iterator", data := .fields #[.ref l, .int 0 0] }).push { cls := .type "enumerate", data := .fields #[.none, .bool false, .ref s.heap.objs.size, rawInt 0, .none, .none] } }) :=
  .of_wp fun prog w A R s h => by
    obtain ⟨hp, g, d, tk, os⟩ := s; obtain ⟨hl, h⟩ := h
    have hsub := sub_enumerate
    have hL : Heap.IsTuple (Shared.heap ⟨hp, g, d, tk, os⟩) l items := ⟨_, hl, rfl, n, rfl⟩
    wp_walk using wpAny_loadPart' hl
    refine wpAny_stack_any fun st => wpAny_pure ?_
    split
    · rename_i c _ _ _ _ _
      cases (c == Value.type "enumerate")
      · wp_walk using wpAny_loadPart' hl, wpAny_pyIter_tuple hL
        exact ⟨_, rfl, h⟩
      · wp_walk using wpAny_loadPart' hl, wpAny_pyIter_tuple hL
        exact ⟨_, rfl, h⟩
    · wp_walk using wpAny_loadPart' hl, wpAny_pyIter_tuple hL
      exact ⟨_, rfl, h⟩
section
variable {prog : Program} {w : World} {A : Around} {E : Value → Shared → Prop} {s : Shared}
theorem call_enum_tup {l : Addr} {items : Array Value} {Q : Value → Shared → Prop} (hL : IsTup s.heap l items)
    (h : ∀ h', IsEnum h' (s.heap.objs.size + 1) s.heap.objs.size 0 .none → h'.IsTupleIter s.heap.objs.size l 0 →
      (∀ b o, s.heap.get? b = some o → h'.get? b = some o) → Q (.ref (s.heap.objs.size + 1)) { s with heap := h' }) :
    wpAny (model prog w) A (call (.type "enumerate") [.ref l]) Q E s := by
  obtain ⟨⟨c, dct, dt, sl⟩, hl, hc, n, hd⟩ := hL
  replace hc : c = .type "tuple" := hc
  replace hd : dt = .seq items n := hd
  subst hc hd
  refine callType_new F.called_enumerate (by decide) (F.typeCall_enumerate_1 _) (F.newCall_enumerate_1 _) (fun obj => F.args_object_init_2 obj _) F.entry_enumerate_new
    (meets_enum_tup l items n dct sl) ⟨hl, ?_⟩
  have hz : (s.heap.push { cls := .type "tuple_iterator", data := .fields #[.ref l, .int 0 0] }).objs.size = s.heap.objs.size + 1 := Heap.size_push ..
  show _ ∧ _
  rw [hz]
  have he : IsEnum ((s.heap.push { cls := .type "tuple_iterator", data := .fields #[.ref l, .int 0 0] }).push
      { cls := .type "enumerate", data := .fields #[.none, .bool false, .ref s.heap.objs.size, rawInt 0, .none, .none] }) (s.heap.objs.size + 1) s.heap.objs.size 0 .none := by
    have := Heap.get?_push_size (s.heap.push { cls := .type "tuple_iterator", data := .fields #[.ref l, .int 0 0] })
      (o := { cls := .type "enumerate", data := .fields #[.none, .bool false, .ref s.heap.objs.size, rawInt 0, .none, .none] }) rfl
    rw [hz] at this; exact this
  refine ⟨⟨_, he, rfl⟩, h _ he ⟨_, Heap.get?_push_of_some _ (Heap.get?_push_size _ rfl), rfl, rfl⟩ fun b o x => Heap.get?_push_of_some _ (Heap.get?_push_of_some _ x)⟩
end
section
variable {X : Cx} {A : Around} {env env₀ : Env} {E : Value → Shared → Prop} {m m₀ : Vars} {σ σ₀ : Store} {K : Frag} {p : Program} {loose : List Str} {mg mb : Str → Option Value}
noncomputable def enumItems (l : List AV) : List AV := l.mapIdx fun k d => .t [.i (k : Int), d]
theorem tupIter_at {h h' : Heap} {a t : Addr} {i : Nat} (x : h.IsTupleIter a t i) (e : ∀ o, h.get? a = some o → h'.get? a = some o) : h'.IsTupleIter a t i := let ⟨o, ho, r⟩ := x; ⟨o, e _ ho, r⟩
theorem itr_enum (hh : A.handled = none) {elts : List Expr} {kk : Nat} {tp : Pos} {e I a : Addr} {items : List AV} {vs : List Value} (hei : e ≠ I) :
    Itr X A (.Tuple elts kk tp) (.ref e) (enumItems items) [e, I] [] (fun _ => True) (fun i s => (∃ old, IsEnum s.heap e I i old) ∧ s.heap.IsTupleIter I a i ∧ IsTup s.heap a vs.toArray ∧ RepL s.heap items vs) where
  item := fun i s σ env m d E Q inv kp ⟨⟨old, he⟩, hit, ht, hr⟩ hd hQ => by
    obtain ⟨d0, hd0, rfl⟩ : ∃ d0, items[i]? = some d0 ∧ AV.t [.i (i : Int), d0] = d := by
      simp [enumItems, List.getElem?_mapIdx] at hd
      obtain ⟨x, h1, h2⟩ := hd
      exact ⟨x, h1, h2⟩
    obtain ⟨v, hv, r⟩ := hr.get hd0
    obtain ⟨oI, hoI, hcI, _⟩ := id hit
    obtain ⟨ot, hot, hct, _⟩ := id ht
    have hne : a ≠ I := fun z => by subst z; rw [hoI] at hot; cases hot; rw [hcI] at hct; simp at hct
    have hea : e ≠ a := fun z => by subst z; rw [he] at hot; cases hot; simp at hct
    have hlt : i < vs.toArray.size := by
      have := (List.getElem?_eq_some_iff.mp hv).1
      simpa using this
    refine wpAny_pyNext_enum_itemD (draws_tup (w := X.w) (prog := X.prog) (A := A.in1) hh I a hne vs.toArray) he ⟨hit, ht⟩ hlt hei (by simp [hei, hea]) fun x h' tk hP ho hs' hT hsz hk => ?_
    have hx : x = v := by
      have : vs[i]? = some x := by simpa using hP
      rw [hv] at this; cases this; rfl
    subst hx
    refine wpAny_letOwnedTupleGo_enum ho fun h'' he'' hs'' => ?_
    have heH : e < s.heap.objs.size := Heap.lt_size he
    have hIH : I < s.heap.objs.size := Heap.lt_size hoI
    have keep : ∀ b o, s.heap.get? b = some o → b ∉ [e, I] → h''.get? b = some o := fun b o x hb => by
      simp at hb
      exact (hs''.2 b hb.1).trans (hk b o hb.1 hb.2 x)
    have T : Tw [e, I] s { s with heap := h'', toks := tk + 1 } := by
      refine ⟨keep, fun b hb its t => ?_, ⟨_, _, rfl⟩⟩
      obtain ⟨o', e1, e2, _⟩ := t
      rcases List.mem_cons.mp hb with rfl | hb
      · rw [he] at e1; cases e1; simp at e2
      · have : b = I := by simpa using hb
        subst this
        rw [hoI] at e1; cases e1; rw [hcI] at e2; simp at e2
    have tT : IsTup h'' s.heap.objs.size ([.int i tk, x] : List Value).toArray := ⟨_, (hs''.2 _ (Nat.ne_of_gt heH)).trans hT, rfl, _, rfl⟩
    refine hQ _ _ T (Rep.tup tT (.cons Rep.int (.cons (r.grow T.tup) .nil))) ⟨⟨x, ?_⟩, ?_, T.tup _ _ ht, hr.grow T.tup⟩
    · have : ((i + 1 : Nat) : Int) = (i : Int) + 1 := by omega
      rw [this]; exact he''
    · exact tupIter_at hs'.1 fun o y => (hs''.2 _ hei.symm).trans y
  done := fun i s σ env m E Q inv kp ⟨⟨old, he⟩, hit, ht, hr⟩ hd hQ => by
    obtain ⟨oI, hoI, hcI, _⟩ := id hit
    obtain ⟨ot, hot, hct, _⟩ := id ht
    have hne : a ≠ I := fun z => by subst z; rw [hoI] at hot; cases hot; rw [hcI] at hct; simp at hct
    have hge : vs.toArray.size ≤ i := by
      have : items.length ≤ i := by simpa [enumItems] using hd
      have := hr.length
      simp; omega
    have hit' : s.heap.IsTupleIter I a i := hit
    unfold pyNext
    have hT : s.TypeIs (.ref e) "enumerate" := ⟨_, he, rfl⟩
    refine wpAny_bind (wpAny_attempt (wpAny_callSpecial?_slot (name := Str.ofString "__next__") hT F.slot_enumerate_next
      (wpAny_call_entry F.slot_enumerate_next hT F.entry_enumerate_next ?_ (F.args_enumerate_next_1 _))))
    show wpAny _ _ (field (.ref e) 2 >>= _) _ _ _
    refine wpAny_bind (wpAny_field he rfl (x := .ref I) rfl ?_)
    refine wpAny_bind (nextOf_tup_end hh hit ht (by simpa using hge) fun h' x he' hx' => ?_)
    obtain ⟨o, ho, hc⟩ := hx'
    refine wpAny_bind (wpAny_isInstance (T := "StopIteration") (b := true) ⟨o, ho, hc⟩ isSubtype_stop ?_)
    refine wpAny_pure (hQ _ ⟨fun b o x hb => he' b o (fun z => hb (by simp [z])) x, fun b hb its t => ?_, ⟨_, s.toks, rfl⟩⟩)
    obtain ⟨o', e1, e2, _⟩ := t
    rcases List.mem_cons.mp hb with rfl | hb
    · rw [he] at e1; cases e1; simp at e2
    · have : b = I := by simpa using hb
      subst this
      rw [hoI] at e1; cases e1; rw [hcI] at e2; simp at e2
  stay := fun i s s' ⟨⟨old, he⟩, hit, ht, hr⟩ k g => ⟨⟨old, k e (.inl (by simp)) _ he⟩, tupIter_at hit fun o x => k I (.inl (by simp)) o x, g _ _ ht, hr.grow g⟩
  self := fun i s σ env m E Q inv ⟨⟨old, he⟩, _⟩ hQ => wpAny_pyIter_enum he hQ
  live := fun i s ⟨⟨old, he⟩, hit, _⟩ b hb => by
    rcases hb with hb | hb
    · rcases List.mem_cons.mp hb with rfl | hb
      · exact ⟨_, he⟩
      · have : b = I := by simpa using hb
        subst this
        obtain ⟨o, ho, _⟩ := hit; exact ⟨o, ho⟩
    · cases hb
  rd := fun b hb => nomatch hb
-- iterables
theorem IQ.lift {tg : Expr} {σ₁ : Store} {Q : List AV → (Store → Prop) → Store → Prop} {s s₁ s' : Shared} {v : Value} (S : Stp X.own (frs A) σ σ₁ s s₁) (h : IQ X A env tg m σ₁ Q s₁ v s') : IQ X A env tg m σ Q s v s' :=
  by
  obtain ⟨items, Kp, σ₂, s₂, S', St, a, b, c1, c2, c3, c4, c5, c6⟩ := h; exact ⟨items, Kp, σ₂, s₂, S', St, a, S.trans b, c1, c2, c3, c4, c5, c6⟩
theorem iq_list (hh : A.handled = none) {tg : Expr} {a : Addr} {l : List AV} {s : Shared} {Q : List AV → (Store → Prop) → Store → Prop} (I : Inv X A env m σ s) (hσ : σ a = some (.lst l)) (q : Q l (fun σ => σ a = some (.lst l)) σ) :
    wpAny (model X.prog X.w) A (pyIter (.ref a)) (IQ X A env tg m σ Q s) E s := by
  obtain ⟨vs, n, hg, hr⟩ := I.g.sim a _ hσ
  have hL : s.heap.IsList a vs.toArray := ⟨_, hg, rfl, n, rfl⟩
  refine wpAny_pyIter_list hL ?_
  have k : ∀ b o, s.heap.get? b = some o → (s.heap.push { cls := .type "list_iterator", data := .fields #[.ref a, .int 0 0] }).get? b = some o := fun _ _ e => Heap.get?_push_of_some _ e
  exact ⟨l, _, σ, s, [s.heap.objs.size], _, I, .refl, fun _ _ => itr_list hh, ⟨_, Heap.get?_push_size _ rfl, rfl, rfl⟩, Tw.of_keeps (tk := s.toks) k, fun b hb => by
    have : b = s.heap.objs.size := by simpa using hb
    subst this; exact none_at_top _, hσ, q⟩
theorem iq_tup (hh : A.handled = none) {tg : Expr} {v : Value} {l : List AV} {s : Shared} {Q : List AV → (Store → Prop) → Store → Prop} (I : Inv X A env m σ s) (r : Rep s.heap (.t l) v) (q : Q l (fun _ => True) σ) :
    wpAny (model X.prog X.w) A (pyIter v) (IQ X A env tg m σ Q s) E s := by
  obtain ⟨a, vs, rfl, ht, hr⟩ := r.tup'
  refine wpAny_pyIter_tuple ht ?_
  have k : ∀ b o, s.heap.get? b = some o → (s.heap.push { cls := .type "tuple_iterator", data := .fields #[.ref a, .int 0 0] }).get? b = some o := fun _ _ e => Heap.get?_push_of_some _ e
  have T : Tw [] s { s with heap := s.heap.push { cls := .type "tuple_iterator", data := .fields #[.ref a, .int 0 0] } } := Tw.of_keeps (tk := s.toks) k
  exact ⟨l, _, σ, s, [s.heap.objs.size], _, I, .refl, fun _ _ => itr_tup hh, ⟨⟨_, Heap.get?_push_size _ rfl, rfl, rfl⟩, T.tup _ _ ht, hr.grow T.tup⟩, T, fun b hb => by
    have : b = s.heap.objs.size := by simpa using hb
    subst this; exact none_at_top _, trivial, q⟩
theorem ie_list (hh : A.handled = none) {tg iter : Expr} {Q : List AV → (Store → Prop) → Store → Prop} (h : ev X A env E iter m σ fun d σ₁ => ∃ a l, d = .c (.ref a) ∧ σ₁ a = some (.lst l) ∧ Q l (fun σ => σ a = some (.lst l)) σ₁) : ie X A env E tg iter m σ Q := fun s I =>
  wpAny_mono (h s I) (by
    rintro v s₁ ⟨d, σ₁, r, i, t, a, l, hd, hσ, q⟩
    subst hd; cases r.val'
    exact wpAny_mono (iq_list hh i hσ q) (fun _ _ x => x.lift t) fun _ _ x => x) fun _ _ x => x
theorem ie_tup (hh : A.handled = none) {tg iter : Expr} {Q : List AV → (Store → Prop) → Store → Prop} (h : ev X A env E iter m σ fun d σ₁ => ∃ l, d = .t l ∧ Q l (fun _ => True) σ₁) : ie X A env E tg iter m σ Q := fun s I =>
  wpAny_mono (h s I) (by
    rintro v s₁ ⟨d, σ₁, r, i, t, l, hd, q⟩
    subst hd
    exact wpAny_mono (iq_tup hh i r q) (fun _ _ x => x.lift t) fun _ _ x => x) fun _ _ x => x
/-- a type's call that makes an iterable -/
noncomputable def IL (X : Cx) (A : Around) (env : Env) (E : Value → Shared → Prop) (T : String) (tg : Expr) (l : List AV) (m : Vars) (σ : Store) (Q : List AV → (Store → Prop) → Store → Prop) : Prop :=
  ∀ s vs, RepL s.heap l vs → Inv X A env m σ s → wpAny (model X.prog X.w) A (call (.type T) vs) (fun v s₁ => wpAny (model X.prog X.w) A (pyIter v) (IQ X A env tg m σ Q s) E s₁) E s
theorem ie_callT {T : String} {tg fe e : Expr} {rest : List Expr} {pos : Pos} {Q : List AV → (Store → Prop) → Store → Prop}
    (h : ev X A env E fe m σ fun f σ₁ => f = .c (.type T) ∧ evs X A env E (e :: rest) pos m σ₁ fun l σ₂ => IL X A env E T tg l m σ₂ Q)
    (he : eval (fe.Call (e :: rest) [] pos) env = (do let f ← eval fe env; callWith pos f [] (backTo pos (starEach (e :: rest) env)) (backToKw pos (keywordEach [] env))) := by rfl)
    (h1 : starEach (e :: rest) env = (false, eval e env) :: starEach rest env := by rfl) (h2 : ((backTo pos (starEach rest env)).any fun x => x.fst) = false := by rfl) : ie X A env E tg (.Call fe (e :: rest) [] pos) m σ Q := fun s I =>
  Call_ (wpAny_mono (h s I) (by
    rintro v s₁ ⟨_, _, r, i, t, hw, q⟩
    subst hw
    cases r.val'
    exact PyProof.Rows.callWith_type1 (wpAny_mono (q s₁ i) (by rintro vs s₂ ⟨l, σ₂, r₂, i₂, t₂, q₂⟩; exact wpAny_mono (q₂ s₂ vs r₂ i₂) (fun _ _ x => wpAny_mono x (fun _ _ y => y.lift (t.trans t₂)) fun _ _ y => y) fun _ _ x => x) fun _ _ x => x) h1 h2) fun _ _ x => x) he
theorem il_range (hh : A.handled = none) {tg : Expr} {n : Int} {Q : List AV → (Store → Prop) → Store → Prop} (h0 : 0 ≤ n) (h1 : n < 1000) (q : Q (rangeItems 0 n.toNat) (fun _ => True) σ) : IL X A env E "range" tg [.i n] m σ Q := fun s vs r I => by
  simp only [RepL] at r
  obtain ⟨v, r', rfl, r1, r2⟩ := r
  subst r2
  obtain ⟨t, rfl⟩ := r1.int'
  refine call_range_1 ?_
  have hr := IsRange.new s.heap 0 n 1 s.toks t (s.toks + 1)
  refine wpAny_pyIter_range hr (small_one (by omega) (by omega) (by omega) (by omega)) ?_
  have k : ∀ b o, s.heap.get? b = some o → ((s.heap.push { cls := .type "range", data := .fields #[.int 0 s.toks, .int n t, .int 1 (s.toks + 1)] }).push { cls := .type "range_iterator", data := .fields #[rawInt 0, rawInt (Builtin.Range.rangeSize 0 n 1), rawInt 1] }).get? b = some o :=
    fun _ _ e => Heap.get?_push_of_some _ (Heap.get?_push_of_some _ e)
  have hz : (s.heap.push { cls := .type "range", data := .fields #[.int 0 s.toks, .int n t, .int 1 (s.toks + 1)] }).objs.size = s.heap.objs.size + 1 := Heap.size_push ..
  refine ⟨_, _, σ, s, [_], _, I, .refl, fun _ _ => itr_range hh, ?_, Tw.of_keeps (tk := s.toks + 1 + 1) k, fun b hb => ?_, trivial, q⟩
  · have := Heap.get?_push_size (s.heap.push { cls := .type "range", data := .fields #[.int 0 s.toks, .int n t, .int 1 (s.toks + 1)] }) (o := { cls := .type "range_iterator", data := .fields #[rawInt 0, rawInt (Builtin.Range.rangeSize 0 n 1), rawInt 1] }) rfl
    rw [rangeSize_one] at this ⊢
    have e : (if (0 : Int) < n then n - 0 else 0) = ((n.toNat : Nat) : Int) - ((0 : Nat) : Int) := by split <;> omega
    rw [e] at this ⊢
    exact this
  · have : b = (s.heap.push { cls := .type "range", data := .fields #[.int 0 s.toks, .int n t, .int 1 (s.toks + 1)] }).objs.size := by simpa using hb
    rw [this, hz]
    cases e : s.heap.get? (s.heap.objs.size + 1) with
    | none => rfl
    | some o => exact absurd (Heap.lt_size e) (Nat.not_lt.mpr (Nat.le_succ _))
theorem il_enum (hh : A.handled = none) {elts : List Expr} {kk : Nat} {tp : Pos} {l : List AV} {Q : List AV → (Store → Prop) → Store → Prop} (q : Q (enumItems l) (fun _ => True) σ) : IL X A env E "enumerate" (.Tuple elts kk tp) [.t l] m σ Q := fun s vs r I => by
  simp only [RepL] at r
  obtain ⟨v, r', rfl, r1, r2⟩ := r
  subst r2
  obtain ⟨a, vs, rfl, ht, hr⟩ := r1.tup'
  refine call_enum_tup ht fun h' he hit k => wpAny_pyIter_enum he ?_
  have T : Tw [] s { s with heap := h' } := Tw.of_keeps (tk := s.toks) k
  refine ⟨_, _, σ, s, [_, _], _, I, .refl, fun _ _ => itr_enum hh (Nat.succ_ne_self _), ⟨⟨_, he⟩, hit, T.tup _ _ ht, hr.grow T.tup⟩, T, fun b hb => ?_, trivial, q⟩
  have : b = s.heap.objs.size + 1 ∨ b = s.heap.objs.size := by simpa using hb
  cases e : s.heap.get? b with
  | none => rfl
  | some o =>
    have h := Heap.lt_size e
    rcases this with rfl | rfl
    · exact absurd h (Nat.not_lt.mpr (Nat.le_succ _))
    · exact absurd h (Nat.lt_irrefl _)
end
end Mine
end
section
namespace Mine
theorem loop_comp {prog : Program} {w : World} {A : Around} {elt iter tg : Expr} {ifs : List Expr} {scope : Scope} {pos : Pos} {it acc : Value} {env : Env} {R : Result → Shared → Prop} {s : Shared} (I : Nat → Shared → Prop)
    (turn : ∀ n s, I n s → wpAny (model prog w) A (pyNext it) (fun r s₁ => r = none ∧ R (.ok .next) s₁) (notedBy (model prog w) A env fun e s' => R (.error e) s') s ∨ ∃ G : Value → Shared → Prop,
      wpAny (model prog w) A (pyNext it) (fun r s₁ => match r with
        | none => False
        | some v => wpAny (model prog w) A (letOwnedTupleGo tg it v) (fun _ s₁' => G v s₁') (notedBy (model prog w) A env fun e s' => R (.error e) s') s₁) (notedBy (model prog w) A env fun e s' => R (.error e) s') s ∧
      ∀ v s₁', G v s₁' → wpAny (model prog w) A (assign tg env v) (fun _ s₂ =>
          wpAny (model prog w) A (forIn ifs true fun c r => if r = true then do let ok ← isTrue c env (eval c env); pure (ForInStep.yield ok) else pure (ForInStep.yield r)) (fun ok s₃ =>
            if ok = true then wpAny (model prog w) A (eval elt env) (fun x s₄ =>
              wpAny (model prog w) A (call (.builtin "list.append") [acc, x]) (fun _ s₅ => ∃ m, m < n ∧ I m s₅) (notedBy (model prog w) A env fun e s' => R (.error e) s') s₄) (notedBy (model prog w) A env fun e s' => R (.error e) s') s₃
            else ∃ m, m < n ∧ I m s₃) (notedBy (model prog w) A env fun e s' => R (.error e) s') s₂) (notedBy (model prog w) A env fun e s' => R (.error e) s') s₁')
    (n : Nat) (h : I n s) : codeAny (model prog w) A (.compLoop (.ListComp elt [⟨tg, iter, ifs, 0⟩] scope pos) 0 it acc env) R s := by
  refine codeAny_loop rfl I (fun n s hI => ?_) n h
  show wpAny _ A ((compTurn (.ListComp elt [⟨tg, iter, ifs, 0⟩] scope pos) 0 it acc env).onRaise (fun x => do noteFrame x env; theTreesLotGoes x)) _ _ s
  refine wpAny_noted ?_
  rw [compTurn_list]
  rcases turn n s hI with hd | ⟨G, hg, ht⟩
  · refine wpAny_bind (wpAny_standAt (wpAny_bind (wpAny_mono hd (fun r s₁ h₁ => ?_) fun _ _ h' => h')))
    obtain ⟨rfl, h₁⟩ := h₁
    exact wpAny_pure h₁
  · refine wpAny_bind (wpAny_standAt (wpAny_bind (wpAny_mono hg (fun r s₁ h₁ => ?_) fun _ _ h' => h')))
    cases r with
    | none => exact h₁.elim
    | some v =>
      refine wpAny_bind (wpAny_mono h₁ (fun _ s₁' h₁' => ?_) fun _ _ h' => h')
      refine wpAny_bind (wpAny_mono (ht v s₁' h₁') (fun _ s₂ h₂ => wpAny_bind (wpAny_mono h₂ (fun ok s₃ h₃ => ?_) fun _ _ h' => h')) fun _ _ h' => h')
      cases ok with
      | false => exact wpAny_pure ⟨rfl, h₃⟩
      | true =>
        exact wpAny_bind (wpAny_bind (wpAny_mono h₃ (fun x s₄ h₄ => wpAny_bind (wpAny_mono h₄ (fun _ s₅ h₅ => wpAny_pure (wpAny_pure ⟨rfl, h₅⟩)) fun _ _ h' => h')) fun _ _ h' => h'))
/-- the captured cells -/
structure Clos (names : List (Str × NameKind)) (env : Env) (cl : List (Str × Addr)) : Prop where
  sub : ∀ x ca, cl.lookup x = some ca → env.cells.lookup x = some ca ∧ (x, NameKind.free) ∈ names
  has : ∀ x, (x, NameKind.free) ∈ names → ∃ ca, cl.lookup x = some ca
theorem clos_go {env : Env} (names0 : List (Str × NameKind)) : ∀ (names : List (Str × NameKind)) (acc : List (Str × Addr)), (∀ y ∈ names, y ∈ names0) →
    (∀ x, (x, NameKind.free) ∈ names → ∃ ca, env.cells.lookup x = some ca) → (∀ x ca, acc.lookup x = some ca → env.cells.lookup x = some ca ∧ (x, NameKind.free) ∈ names0) →
    ∃ cl, (forIn names acc fun (x : Str × NameKind) r => (do
      let cs := r
      if x.2 == .free then do
        let a ← cellOf env x.1
        let cs := (x.1, a) :: cs
        pure (ForInStep.yield cs)
      else pure (ForInStep.yield cs) : Sem (ForInStep (List (Str × Addr))))) = pure cl ∧ (∀ x ca, cl.lookup x = some ca → env.cells.lookup x = some ca ∧ (x, NameKind.free) ∈ names0) ∧
      (∀ x, (x, NameKind.free) ∈ names → ∃ ca, cl.lookup x = some ca) ∧ ∀ x, (∃ ca, acc.lookup x = some ca) → ∃ ca, cl.lookup x = some ca
  | [], acc, _, _, ha => ⟨acc, rfl, ha, (fun _ h => nomatch h), fun _ h => h⟩
  | (n, k) :: r, acc, hs, hf, ha => by
    rw [List.forIn_cons]
    dsimp only
    by_cases hk : k = .free
    · subst hk
      obtain ⟨ca, hca⟩ := hf n (List.mem_cons_self ..)
      have e : cellOf env n = pure ca := by unfold cellOf; rw [hca]
      simp only [beq_self_eq_true, if_true, e, pure_bind]
      have ha' : ∀ x c, List.lookup x ((n, ca) :: acc) = some c → env.cells.lookup x = some c ∧ (x, NameKind.free) ∈ names0 := fun x c h => by
        rw [List.lookup_cons] at h
        cases q : x == n with
        | true =>
          rw [q] at h; cases h
          have : x = n := by simpa using q
          subst this
          exact ⟨hca, hs _ (List.mem_cons_self ..)⟩
        | false => rw [q] at h; exact ha x c h
      obtain ⟨cl, e1, e2, e3, e4⟩ := clos_go names0 r ((n, ca) :: acc) (fun y hy => hs y (List.mem_cons_of_mem _ hy)) (fun x hx => hf x (List.mem_cons_of_mem _ hx)) ha'
      refine ⟨cl, e1, e2, fun x hx => ?_, fun x hx => ?_⟩
      · rcases List.mem_cons.mp hx with h | h
        · cases h; exact e4 n ⟨ca, by simp [List.lookup_cons]⟩
        · exact e3 x h
      · refine e4 x ?_
        rw [List.lookup_cons]
        cases x == n with
        | true => exact ⟨_, rfl⟩
        | false => exact hx
    · have hb : (k == NameKind.free) = false := by simpa using hk
      simp only [hb, Bool.false_eq_true, if_false, pure_bind]
      obtain ⟨cl, e1, e2, e3, e4⟩ := clos_go names0 r acc (fun y hy => hs y (List.mem_cons_of_mem _ hy)) (fun x hx => hf x (List.mem_cons_of_mem _ hx)) ha
      refine ⟨cl, e1, e2, fun x hx => ?_, e4⟩
      rcases List.mem_cons.mp hx with h | h
      · cases h; exact absurd rfl hk
      · exact e3 x h
theorem clos_of {scope : Scope} {env : Env} (h : ∀ x, (x, NameKind.free) ∈ scope.names → ∃ ca, env.cells.lookup x = some ca) : ∃ cl, closureFor scope env = pure cl ∧ Clos scope.names env cl := by
  obtain ⟨cl, e1, e2, e3, _⟩ := clos_go (env := env) scope.names scope.names [] (fun _ h => h) h (fun x ca e => by simp at e)
  refine ⟨cl, ?_, e2, e3⟩
  unfold closureFor
  dsimp only
  rw [bind_pure]
  exact e1
theorem relabel_cell {env : Env} : ∀ {names : List (Str × NameKind)} {x : Str} {k : NameKind}, k ≠ .local → k ≠ .globalImplicit → (∀ y ∈ names, y.2 ≠ .cell) → (k = .cell ∨ k = .free) →
    (names.map fun (n, k) => if (k == NameKind.free && env.scope.kind == .function && env.kindOf n == some .cell) then (n, NameKind.cell) else (n, k)).lookup x = some k → (x, NameKind.free) ∈ names
  | [], _, _, _, _, _, _, h => by simp at h
  | (n, k0) :: r, x, k, h1, h2, h3, h4, h => by
    rw [List.map_cons] at h
    have ih := @relabel_cell env r x k h1 h2 (fun y hy => h3 y (List.mem_cons_of_mem _ hy)) h4
    dsimp only at h
    split at h
    · rename_i hc
      rw [List.lookup_cons] at h
      cases q : x == n with
      | true =>
        have : x = n := by simpa using q
        subst this
        have : k0 = .free := by simp at hc; exact hc.1.1
        subst this; exact List.mem_cons_self ..
      | false => rw [q] at h; exact List.mem_cons_of_mem _ (ih h)
    · rw [List.lookup_cons] at h
      cases q : x == n with
      | true =>
        have : x = n := by simpa using q
        subst this
        rw [q] at h; cases h
        rcases h4 with h4 | h4
        · subst h4; exact absurd rfl (h3 _ (List.mem_cons_self ..))
        · subst h4; exact List.mem_cons_self ..
      | false => rw [q] at h; exact List.mem_cons_of_mem _ (ih h)
section
variable {X : Cx} {A : Around} {env env₀ : Env} {E : Value → Shared → Prop} {m m₀ mi : Vars} {σ σ₀ σ₁ σ' : Store} {s s₁ s' : Shared} {scope : Scope} {cl : List (Str × Addr)} {C : Addr}
noncomputable def compX (X : Cx) (cl : List (Str × Addr)) (C : Addr) : Cx := { toBs := X.toBs, own := fun b => b = C ∨ ∃ x, cl.lookup x = some b, G := fun _ _ => True }
theorem compX_ok : (compX X cl C).Ok A := fun _ _ _ _ _ _ _ => trivial
/-- the captured names are as without -/
noncomputable def Capt (cenv : Env) (mi m : Vars) : Prop := ∀ x, InCell cenv x → mi x = m x
/-- what a comprehension's scope is like -/
noncomputable def scopeOk (scope : Scope) (env : Env) : Bool := scope.kind == .function && (scope.names.all fun y => y.2 != .cell) && (scope.names.all fun y => y.2 != .free || env.kindOf y.1 == some .cell) &&
  (scope.names.all fun y => scope.names.lookup y.1 == some y.2)
structure ScOk (scope : Scope) (env : Env) : Prop where
  k : scope.kind = .function
  nc : ∀ y ∈ scope.names, y.2 ≠ .cell
  fr : ∀ x, (x, NameKind.free) ∈ scope.names → env.kindOf x = some .cell
  lo : ∀ y ∈ scope.names, scope.names.lookup y.1 = some y.2
theorem scopeOk.out (h : scopeOk scope env = true) : ScOk scope env := by
  simp only [scopeOk, Bool.and_eq_true, List.all_eq_true] at h
  obtain ⟨⟨⟨h1, h2⟩, h3⟩, h4⟩ := h
  refine ⟨by simpa using h1, fun y hy => by simpa using h2 y hy, fun x hx => by simpa using h3 _ hx, fun y hy => by simpa using h4 y hy⟩
theorem inCell_free (h : ScOk scope env) {x : Str} (hx : InCell (compEnvC scope cl C env) x) : (x, NameKind.free) ∈ scope.names := by
  rcases hx with hx | hx
  · exact relabel_cell (k := .cell) (by simp) (by simp) h.nc (.inl rfl) hx
  · exact relabel_cell (k := .free) (by simp) (by simp) h.nc (.inr rfl) hx
theorem relabel_free (hf : env.scope.kind = .function) {x : Str} (hk : env.kindOf x = some .cell) : ∀ {names : List (Str × NameKind)}, names.lookup x = some .free →
    (names.map fun (n, k) => if (k == NameKind.free && env.scope.kind == .function && env.kindOf n == some .cell) then (n, NameKind.cell) else (n, k)).lookup x = some .cell
  | [], h => by simp at h
  | (n, k0) :: r, h => by
    rw [List.map_cons]
    rw [List.lookup_cons] at h
    dsimp only
    cases q : x == n with
    | true =>
      have : x = n := by simpa using q
      subst this
      rw [q] at h; cases h
      rw [if_pos (by simp [hf, hk])]
      simp [List.lookup_cons]
    | false =>
      rw [q] at h
      split <;> (rw [List.lookup_cons, q]; exact relabel_free hf hk h)
theorem comp_in (I : Inv X A env m σ s) (H : Clos scope.names env cl) (hs : ScOk scope env) (hC : s.heap.get? C = none) (hCt : X.hT.objs.size ≤ C) {h' : Heap} {tk : Nat} (k : ∀ b o, s.heap.get? b = some o → h'.get? b = some o) (hn : h'.Ns C fun _ => none) :
    Inv (compX X cl C) A (compEnvC scope cl C env) (fun x => if (compEnvC scope cl C env).kindOf x = some .local then none else m x) σ { s with heap := h', toks := tk } := by
  have g : Grow s.heap h' := fun _ _ t => isTup_of_get t (k _)
  have fC := I.fresh hC
  refine ⟨⟨fun b o e => k b o (I.g.top b o e), I.g.off, let ⟨a, o, q, e⟩ := I.g.tall; ⟨a, o, q, k _ _ e⟩, fun a o e => (I.g.sim a o e).of_get g (k a)⟩,
    ⟨⟨hs.k, I.f.e.gl, I.f.e.bi, hCt, .inl rfl, fun x ca e => .inr ⟨x, e⟩, fun x hx => H.has x (inCell_free hs hx), fun x y ca e1 e2 => I.f.e.apart x y ca (H.sub x ca e1).1 (H.sub y ca e2).1⟩, fun b hb => ?_, ⟨_, hn, fun x d e kx => ?_⟩, fun x ca e => ?_⟩, ?_, trivial⟩
  · rcases hb with rfl | ⟨x, hx⟩
    · obtain ⟨o, es, ep, e1, e2, _⟩ := hn
      exact ⟨fC.1, fC.2.1, o, e1, .inl ⟨es, ep, e2⟩⟩
    · obtain ⟨h1, h2, o, h3, h4⟩ := I.f.own b (I.f.e.ownC x b (H.sub x b hx).1)
      exact ⟨h1, h2, o, k b o h3, h4⟩
  · have : (none : Option AV) = some d := by rw [← e]; exact (if_pos kx).symm
    cases this
  · obtain ⟨o, v0, e1, e2, e3⟩ := I.f.cel x ca (H.sub x ca e).1
    refine ⟨o, v0, k ca o e1, e2, fun d hd hc => ?_⟩
    have nl : (compEnvC scope cl C env).kindOf x ≠ some .local := fun z => by rcases hc with hc | hc <;> rw [z] at hc <;> cases hc
    replace hd : m x = some d := by rw [← hd]; exact (if_neg nl).symm
    obtain ⟨v, a, b⟩ := e3 d hd (.inl (hs.fr x (inCell_free hs hc)))
    exact ⟨v, a, b.grow g⟩
  · exact frs_mono I.fr fun outer ho e he L hL o hLo hs => ⟨⟨o, k L o hLo, id⟩, hs⟩
theorem comp_back (ok : X.Ok A) (I₁ : Inv X A env m σ₁ s₁) (H : Clos scope.names env cl) (hs : ScOk scope env) (hC : s₁.heap.get? C = none) (I' : Inv (compX X cl C) A (compEnvC scope cl C env) mi σ' s') (hm : Capt (compEnvC scope cl C env) mi m)
    (S : Stp (compX X cl C).own (frs A) σ₁ σ' s₁ s') : Inv X A env m σ' s' ∧ Stp X.own (frs A) σ₁ σ' s₁ s' := by
  have al : ∀ b o, s₁.heap.get? b = some o → b ≠ C := fun b o e z => by rw [z, hC] at e; cases e
  have S' : Stp X.own (frs A) σ₁ σ' s₁ s' := by
    have no : ∀ b o, s₁.heap.get? b = some o → ¬ X.own b → ¬ (compX X cl C).own b := fun b o e hb => by
      rintro (z | ⟨x, hx⟩)
      · exact al b o e z
      · exact hb (I₁.f.e.ownC x b (H.sub x b hx).1)
    exact ⟨fun b o e h hb hf => S.keep b o e h (no b o e hb) hf, fun b o e h hb hf => S.outk b o e h (no b o e hb) hf, S.dom, S.mono, S.tup, S.same⟩
  have kd : ∀ b o, s₁.heap.get? b = some o → σ₁ b = none → ¬ (compX X cl C).own b → ∃ sl, s'.heap.get? b = some { o with slots := sl } := fun b o e h hb => by
    by_cases hf : frs A b
    · exact S.outk b o e h hb hf
    · exact ⟨o.slots, S.keep b o e h hb hf⟩
  have σn : ∀ b o, s₁.heap.get? b = some o → σ₁ b = none → σ' b = none := fun b o e h => by
    refine Classical.byContradiction fun z => ?_
    rcases S.dom b z with q | q
    · exact q h
    · rw [e] at q; cases q
  refine ⟨⟨I'.g, ⟨I₁.f.e, fun b hb => ?_, ?_, fun x ca e => ?_⟩, I'.fr, ok _ _ _ _ I₁.g I₁.gh S'⟩, S'⟩
  · obtain ⟨h1, h2, o, h3, h4⟩ := I₁.f.own b hb
    refine ⟨σn b o h3 h1, h2, ?_⟩
    by_cases q : (compX X cl C).own b
    · exact (I'.f.own b q).2.2
    · obtain ⟨sl, e⟩ := kd b o h3 h1 q
      exact ⟨_, e, h4⟩
  · obtain ⟨mc, ⟨o, es, ep, e1, e2, r⟩, hmc⟩ := I₁.f.loc
    have nq : ¬ (compX X cl C).own env.locals := by
      rintro (z | ⟨x, hx⟩)
      · exact al _ o e1 z
      · obtain ⟨o', v0, f1, f2, _⟩ := I₁.f.cel x _ (H.sub x _ hx).1
        rw [e1] at f1; cases f1; rw [e2] at f2; cases f2
    obtain ⟨sl, e9⟩ := kd _ o e1 (I₁.f.own _ I₁.f.e.ownL).1 nq
    refine ⟨mc, ⟨_, es, ep, e9, e2, r⟩, fun x d e k => let ⟨v, a, b⟩ := hmc x d e k; ⟨v, a, b.grow S.tup⟩⟩
  · obtain ⟨o, v0, e1, e2, e3⟩ := I₁.f.cel x ca e
    by_cases q : cl.lookup x = some ca
    · obtain ⟨o', v0', f1, f2, f3⟩ := I'.f.cel x ca q
      refine ⟨o', v0', f1, f2, fun d hd hc => ?_⟩
      have fx := (H.sub x ca q).2
      have hk : env.kindOf x = some .cell := hs.fr x fx
      have ic : InCell (compEnvC scope cl C env) x := .inl (relabel_free I₁.f.e.fn hk (hs.lo _ fx))
      exact f3 d (by rw [hm x ic]; exact hd) ic
    · have nq : ¬ (compX X cl C).own ca := by
        rintro (z | ⟨y, hy⟩)
        · exact al _ o e1 z
        · have := I₁.f.e.apart x y ca e (H.sub y ca hy).1
          subst this; exact q hy
      obtain ⟨sl, e9⟩ := kd _ o e1 (I₁.f.own _ (I₁.f.e.ownC x ca e)).1 nq
      refine ⟨_, v0, e9, e2, fun d hd hc => let ⟨v, a, b⟩ := e3 d hd hc; ⟨v, a, b.grow S.tup⟩⟩
end
end Mine
end
section
namespace Mine
section
variable {X : Cx} {A : Around} {env env₀ : Env} {E : Value → Shared → Prop} {m m₀ mi : Vars} {σ σ₀ σ₁ σ' : Store} {K : Frag} {p : Program} {loose : List Str} {mg mb : Str → Option Value}
theorem RepL.length' {h : Heap} {l : List AV} {vs : List Value} (r : RepL h l vs) : vs.toArray.size = l.length := by rw [List.size_toArray]; exact r.length
theorem upd_keep {s : Shared} {a : Addr} {f : Obj → Obj} : Heap.SameBut a s.heap (s.heap.update a f) := Heap.SameBut.update ..
theorem grow_upd {h : Heap} {a : Addr} {vs : Array Value} {n : Nat} {f : Obj → Obj} (hg : h.get? a = some (listOf vs n)) : Grow h (h.update a f) := fun b items t => by
  obtain ⟨o, e1, e2, e3⟩ := t
  have : b ≠ a := fun z => by subst z; rw [hg] at e1; cases e1; simp at e2
  exact ⟨o, (Heap.get?_update_other h f (Ne.symm this)).trans e1, e2, e3⟩
/-- a list of the store is changed in place -/
theorem list_upd (ok : X.Ok A) {s : Shared} {a : Addr} {l l' : List AV} {vs vs' : List Value} {n : Nat} {f : Array Value → Array Value} {Q : AV → Store → Prop} (I : Inv X A env m σ s) (hσ : σ a = some (.lst l)) (hg : s.heap.get? a = some (listOf vs.toArray n))
    (hf : f vs.toArray = vs'.toArray) (hr : RepL s.heap l' vs') (q : Q (.c .none) (σ.set a (.lst l'))) : PE X A env m σ Q s .none { s with heap := s.heap.update a (Obj.mapSeq f) } := by
  have e := IsL.update (n := n) hg f
  rw [hf] at e
  have ob : ObjIs X.prog X.w (s.heap.update a (Obj.mapSeq f)) a (.lst l') := ⟨vs', _, e, hr.grow (grow_upd hg)⟩
  exact ⟨_, _, Rep.val, I.update (tk := s.toks) ok hσ upd_keep ob, .of_update (I.g.sim a _ hσ) hσ upd_keep ob, q⟩
theorem vl_append (ok : X.Ok A) {a : Addr} {l : List AV} {d : AV} {Q : AV → Store → Prop} (hσ : σ a = some (.lst l)) (hz : l.length ≤ 1000) (q : Q (.c .none) (σ.set a (.lst (l ++ [d])))) :
    VL X A env E (fun vs => call (.builtin "list.append") vs) [.c (.ref a), d] m σ Q := fun s vs r I => by
  simp only [RepL] at r
  obtain ⟨v, r', rfl, r1, v2, r'', rfl, r2, rfl⟩ := r
  cases r1.val'
  obtain ⟨vs, n, hg, hr⟩ := I.g.sim a _ hσ
  refine call_meets F.slot_list_append ⟨_, hg, rfl⟩ F.entry_list_append (F.args_list_append_2 _ _) (list_append a vs.toArray n v2 (by rw [sizeLine_eq, hr.length']; omega)) ⟨hg, ?_⟩
  exact list_upd ok I hσ hg (vs' := vs ++ [v2]) (by simp) (hr.append (.cons r2 .nil)) q
theorem vl_extend (ok : X.Ok A) {a b : Addr} {l l2 : List AV} {Q : AV → Store → Prop} (hσ : σ a = some (.lst l)) (hσ2 : σ b = some (.lst l2)) (hz : l.length + l2.length ≤ 1000) (q : Q (.c .none) (σ.set a (.lst (l ++ l2)))) :
    VL X A env E (fun vs => call (.builtin "list.extend") vs) [.c (.ref a), .c (.ref b)] m σ Q := fun s vs r I => by
  simp only [RepL] at r
  obtain ⟨v, r', rfl, r1, v2, r'', rfl, r2, rfl⟩ := r
  cases r1.val'; cases r2.val'
  obtain ⟨vs, n, hg, hr⟩ := I.g.sim a _ hσ
  obtain ⟨vs2, n2, hg2, hr2⟩ := I.g.sim b _ hσ2
  refine call_meets F.slot_list_extend ⟨_, hg, rfl⟩ F.entry_list_extend (F.args_list_extend_2 _ _) (AutoSeq1.list_extend_list_list_0 a vs.toArray n b vs2.toArray n2 ?_ (by rw [sizeLine_eq, hr.length']; omega) (by rw [sizeLine_eq, hr.length', hr2.length']; omega)) ⟨hg, hg2, ?_⟩
  · rw [hr.length', hr2.length']
    intro h
    have : Builtin.List.listTooLong (l.length + l2.length) = true := (Bool.and_eq_true_iff.mp h).2
    unfold Builtin.List.listTooLong at this
    simp [sizeLine_eq] at this
    omega
  · exact list_upd ok I hσ hg (vs' := vs ++ vs2) (by simp) (hr.append hr2) q
noncomputable def insAt (l : List AV) (k : Nat) (d : AV) : List AV := l.take k ++ d :: l.drop k
theorem RepL.take {h : Heap} : ∀ {l : List AV} {vs : List Value} (k : Nat), RepL h l vs → RepL h (l.take k) (vs.take k)
  | [], vs, k, r => by simp only [RepL] at r; subst r; simpa using RepL.nil
  | d :: l, vs, 0, r => by simpa using RepL.nil
  | d :: l, vs, k + 1, r => by
    simp only [RepL] at r
    obtain ⟨v, r', rfl, h1, h2⟩ := r
    exact .cons h1 (h2.take k)
theorem RepL.drop {h : Heap} : ∀ {l : List AV} {vs : List Value} (k : Nat), RepL h l vs → RepL h (l.drop k) (vs.drop k)
  | [], vs, k, r => by simp only [RepL] at r; subst r; simpa using RepL.nil
  | d :: l, vs, 0, r => by simpa using r
  | d :: l, vs, k + 1, r => by
    simp only [RepL] at r
    obtain ⟨v, r', rfl, h1, h2⟩ := r
    exact h2.drop k
theorem vl_insert (ok : X.Ok A) {a : Addr} {l : List AV} {k : Int} {d : AV} {Q : AV → Store → Prop} (hσ : σ a = some (.lst l)) (hz : l.length ≤ 1000) (h0 : 0 ≤ k) (h1 : k ≤ l.length) (q : Q (.c .none) (σ.set a (.lst (insAt l k.toNat d)))) :
    VL X A env E (fun vs => call (.builtin "list.insert") vs) [.c (.ref a), .i k, d] m σ Q := fun s vs r I => by
  simp only [RepL] at r
  obtain ⟨v, r', rfl, r1, v2, r'', rfl, r2, v3, r''', rfl, r3, rfl⟩ := r
  cases r1.val'
  obtain ⟨t, rfl⟩ := r2.int'
  obtain ⟨vs, n, hg, hr⟩ := I.g.sim a _ hσ
  refine call_meets F.slot_list_insert ⟨_, hg, rfl⟩ F.entry_list_insert (F.args_list_insert_3 _ _ _) (AutoSeq1.list_insert_list_int_val_1 a vs.toArray n k t v3 ?_ (by rw [sizeLine_eq, hr.length']; omega)) ⟨hg, ?_⟩
  · unfold Builtin.List.listFitsIndex
    simp
    omega
  · refine list_upd ok I hσ hg (l' := insAt l k.toNat d) (vs' := vs.take k.toNat ++ v3 :: vs.drop k.toNat) ?_ ?_ q
    · have hl := hr.length
      have : ¬ k < 0 := by omega
      simp only [this, if_false]
      have e : min k.toNat vs.toArray.size = k.toNat := by rw [List.size_toArray]; omega
      rw [e]
      apply Array.ext'
      simp [List.extract]
      exact List.take_of_length_le (by simp)
    · exact (hr.take _).append (.cons r3 (hr.drop _))
/-- a method of a list -/
theorem ev_lmeth {id : String} {o : Expr} {name : Str} {apos pos : Pos} {e : Expr} {rest : List Expr} {Q : AV → Store → Prop} (slot : Slot "list" name id) (hty : typeOf (.builtin id) = pure (.type "method_descriptor"))
    (h : ev X A env E o m σ fun d σ₁ => ∃ a l, d = .c (.ref a) ∧ σ₁ a = some (.lst l) ∧ evs X A env E (e :: rest) pos m σ₁ fun as σ₂ => VL X A env E (fun vs => call (.builtin id) vs) (.c (.ref a) :: as) m σ₂ Q)
    {pl : Sem Bool} (hm : eval ((o.Attribute name apos).Call (e :: rest) [] pos) env = (do
          let ov ← eval o env
          standAt apos.atName
          let __x ← holding [ov] (getMethod ov name pl)
          match __x with
            | (f, first) => callWith pos f first (backTo pos (starEach (e :: rest) env)) []) := by rfl)
    (h1 : starEach (e :: rest) env = (false, eval e env) :: starEach rest env := by rfl) (h2 : ((backTo pos (starEach rest env)).any fun x => x.fst) = false := by rfl) : ev X A env E (.Call (.Attribute o name apos) (e :: rest) [] pos) m σ Q := fun s I =>
  MethodCall_ (wpAny_mono (h s I) (by
    rintro v s₁ ⟨_, _, r, i, t, a, l, hd, h3, q⟩
    subst hd
    cases r.val'
    obtain ⟨vs, n, hg, hr⟩ := i.g.sim a _ h3
    refine getMethod_builtin ⟨_, hg, rfl⟩ PySem.F.plainAttrs_list slot hty (fun b hb => by cases hb; exact ⟨_, hg, rfl⟩) ?_
    exact callWith_method1 (wpAny_mono (q s₁ i) (by rintro vs s₂ ⟨l, σ₂, r₂, i₂, t₂, q₂⟩; exact q₂.lift1 (RepL.cons Rep.val r₂) i₂ (t.trans t₂)) fun _ _ x => x) h1 h2) fun _ _ x => x) hm
theorem v2_ladd (ok : X.Ok A) {a b : Addr} {l l2 : List AV} {Q : AV → Store → Prop} (hσ : σ a = some (.lst l)) (hσ2 : σ b = some (.lst l2)) (hz : l.length + l2.length ≤ 1000) (q : ∀ c, σ c = none → Q (.c (.ref c)) (σ.set c (.lst (l ++ l2)))) :
    V2 X A env E (binaryOp .Add) (.c (.ref a)) (.c (.ref b)) m σ Q := fun s va vb ra rb I => by
  cases ra.val'; cases rb.val'
  obtain ⟨vs, n, hg, hr⟩ := I.g.sim a _ hσ
  obtain ⟨vs2, n2, hg2, hr2⟩ := I.g.sim b _ hσ2
  refine P.add_list (n := n) (n2 := n2) hg hg2 ?_ (by rw [sizeLine_eq, hr.length', hr2.length']; omega)
  have e : vs.toArray ++ vs2.toArray = (vs ++ vs2).toArray := by simp
  rw [e]
  have k : ∀ b o, s.heap.get? b = some o → (s.heap.push { cls := .type "list", data := .seq (vs ++ vs2).toArray }).get? b = some o := fun _ _ e => Heap.get?_push_of_some _ e
  have f := none_at_top s.heap
  refine ⟨.c (.ref s.heap.objs.size), σ.set s.heap.objs.size (.lst (l ++ l2)), Rep.val, ?_, .of_alloc (tk := s.toks) f k, q _ (I.fresh f).1⟩
  exact I.alloc (tk := s.toks) ok f k ⟨vs ++ vs2, 0, Heap.get?_push_size _ rfl, (hr.append hr2).grow fun _ _ x => isTup_of_get x (k _)⟩
theorem v2_tadd (ok : X.Ok A) {l l2 : List AV} {Q : AV → Store → Prop} (hz : l.length + l2.length ≤ 1000) (q : Q (.t (l ++ l2)) σ) : V2 X A env E (binaryOp .Add) (.t l) (.t l2) m σ Q := fun s va vb ra rb I => by
  obtain ⟨a, vs, rfl, ht, hr⟩ := ra.tup'
  obtain ⟨b, ws, rfl, ht2, hr2⟩ := rb.tup'
  obtain ⟨⟨cls, dd, data, sl⟩, ho, hc, n, hd⟩ := id ht
  obtain ⟨⟨cls2, dd2, data2, sl2⟩, ho2, hc2, n2, hd2⟩ := id ht2
  simp only at hc hd hc2 hd2
  subst hc hd hc2 hd2
  by_cases hv : vs = []
  · subst hv
    have : l = [] := by have := hr.length; simpa using this.symm
    subst this
    exact concat_meets ⟨_, ho, rfl⟩ ⟨_, ho2, rfl⟩ noFill_tuple_add seq_tuple_add PySem.F.slot_tuple_add PySem.F.entry_tuple_add (PySem.F.args_tuple_add_2 _ _)
      (tuple_addW0 a b _ ws.toArray n n2 dd dd2 sl sl2 (by simp)) ⟨ho, ho2, PE.here rb I q⟩
  · by_cases hw : ws = []
    · subst hw
      have : l2 = [] := by have := hr2.length; simpa using this.symm
      subst this
      exact concat_meets ⟨_, ho, rfl⟩ ⟨_, ho2, rfl⟩ noFill_tuple_add seq_tuple_add PySem.F.slot_tuple_add PySem.F.entry_tuple_add (PySem.F.args_tuple_add_2 _ _)
        (tuple_addW1 a b vs.toArray _ n n2 dd dd2 sl sl2 (by simpa using hv) (by simp)) ⟨ho, ho2, PE.here ra I (by simpa using q)⟩
    · refine concat_meets ⟨_, ho, rfl⟩ ⟨_, ho2, rfl⟩ noFill_tuple_add seq_tuple_add PySem.F.slot_tuple_add PySem.F.entry_tuple_add (PySem.F.args_tuple_add_2 _ _)
        (tuple_addW2 a b vs.toArray ws.toArray n n2 dd dd2 sl sl2 (by simpa using hv) (by simpa using hw) (by rw [hr.length', hr2.length', sizeLine_eq]; omega)) ⟨ho, ho2, ?_⟩
      have e : vs.toArray ++ ws.toArray = (vs ++ ws).toArray := by simp
      rw [e]
      have k : ∀ b o, s.heap.get? b = some o → (s.heap.push { cls := .type "tuple", data := .seq (vs ++ ws).toArray }).get? b = some o := fun _ _ e => Heap.get?_push_of_some _ e
      exact PE.keeps (tk := s.toks) ok k (Rep.tup ⟨_, Heap.get?_push_size _ rfl, rfl, _, rfl⟩ ((hr.append hr2).grow fun _ _ x => isTup_of_get x (k _))) I q
-- lengths
theorem vl_lenL (ok : X.Ok A) {a : Addr} {l : List AV} {Q : AV → Store → Prop} (hσ : σ a = some (.lst l)) (hz : l.length ≤ 1000) (q : Q (.i (l.length : Int)) σ) : VL X A env E (fun vs => call (.builtin "len") vs) [.c (.ref a)] m σ Q := fun s vs r I => by
  simp only [RepL] at r
  obtain ⟨v, r', rfl, r1, rfl⟩ := r
  cases r1.val'
  obtain ⟨vs, n, hg, hr⟩ := I.g.sim a _ hσ
  have hL : s.heap.IsList a vs.toArray := ⟨_, hg, rfl, n, rfl⟩
  refine Calls.call_len_list hL (by rw [hr.length']; omega) ?_
  rw [hr.length']
  exact PE.toks ok Rep.int I q
theorem vl_lenT (ok : X.Ok A) {l : List AV} {Q : AV → Store → Prop} (hz : l.length ≤ 1000) (q : Q (.i (l.length : Int)) σ) : VL X A env E (fun vs => call (.builtin "len") vs) [.t l] m σ Q := fun s vs r I => by
  simp only [RepL] at r
  obtain ⟨v, r', rfl, r1, rfl⟩ := r
  obtain ⟨a, vs, rfl, ht, hr⟩ := r1.tup'
  refine len_tuple ht (by rw [hr.length']; omega) ?_
  rw [hr.length']
  exact PE.toks ok Rep.int I q
-- ints
theorem vl_int {n : Int} {Q : AV → Store → Prop} (q : Q (.i n) σ) : VL X A env E (fun vs => call (.type "int") vs) [.i n] m σ Q := fun s vs r I => by
  simp only [RepL] at r
  obtain ⟨v, r', rfl, r1, rfl⟩ := r
  obtain ⟨t, rfl⟩ := r1.int'
  exact call_int_int (PE.here Rep.int I q)
theorem vl_intB (ok : X.Ok A) {b : Bool} {Q : AV → Store → Prop} (q : Q (.i (if b then 1 else 0)) σ) : VL X A env E (fun vs => call (.type "int") vs) [.c (.bool b)] m σ Q := fun s vs r I => by
  simp only [RepL] at r
  obtain ⟨v, r', rfl, r1, rfl⟩ := r
  cases r1.val'
  exact call_int_bool (PE.toks ok Rep.int I q)
theorem vl_max (ok : X.Ok A) (hh : A.handled = none) {a b : Int} {Q : AV → Store → Prop} (q : Q (.i (max a b)) σ) : VL X A env E (fun vs => call (.builtin "max") vs) [.i a, .i b] m σ Q := fun s vs r I => by
  simp only [RepL] at r
  obtain ⟨v, r', rfl, r1, v2, r'', rfl, r2, rfl⟩ := r
  obtain ⟨t, rfl⟩ := r1.int'; obtain ⟨u, rfl⟩ := r2.int'
  refine max_two_ints hh fun h' tk k => ?_
  split
  · rename_i h
    have : max a b = b := by omega
    rw [this] at q
    exact PE.keeps ok k Rep.int I q
  · rename_i h
    have : max a b = a := by omega
    rw [this] at q
    exact PE.keeps ok k Rep.int I q
theorem vl_min (ok : X.Ok A) (hh : A.handled = none) {a b : Int} {Q : AV → Store → Prop} (q : Q (.i (min a b)) σ) : VL X A env E (fun vs => call (.builtin "min") vs) [.i a, .i b] m σ Q := fun s vs r I => by
  simp only [RepL] at r
  obtain ⟨v, r', rfl, r1, v2, r'', rfl, r2, rfl⟩ := r
  obtain ⟨t, rfl⟩ := r1.int'; obtain ⟨u, rfl⟩ := r2.int'
  refine min_two_ints hh fun h' tk k => ?_
  split
  · rename_i h
    have : min a b = b := by omega
    rw [this] at q
    exact PE.keeps ok k Rep.int I q
  · rename_i h
    have : min a b = a := by omega
    rw [this] at q
    exact PE.keeps ok k Rep.int I q
theorem vl_tuple (ok : X.Ok A) {a : Addr} {l : List AV} {Q : AV → Store → Prop} (hσ : σ a = some (.lst l)) (hz : l.length ≤ 1000) (q : Q (.t l) σ) : VL X A env E (fun vs => call (.type "tuple") vs) [.c (.ref a)] m σ Q := fun s vs r I => by
  simp only [RepL] at r
  obtain ⟨v, r', rfl, r1, rfl⟩ := r
  cases r1.val'
  obtain ⟨vs, n, hg, hr⟩ := I.g.sim a _ hσ
  have hL : s.heap.IsList a vs.toArray := ⟨_, hg, rfl, n, rfl⟩
  refine call_tuple_list hL (fun h' k => ?_) (by rw [sizeLine_eq, hr.length']; omega)
  have k' : ∀ b o, s.heap.get? b = some o → (h'.push { cls := .type "tuple", data := .seq vs.toArray }).get? b = some o := fun _ _ e => Heap.get?_push_of_some _ (k _ _ e)
  exact PE.keeps (tk := s.toks) ok k' (Rep.tup ⟨_, Heap.get?_push_size _ rfl, rfl, _, rfl⟩ (hr.grow fun _ _ x => isTup_of_get x (k' _))) I q
end
end Mine
end
section
namespace Mine
section
variable {X : Cx} {A : Around} {env env₀ : Env} {E : Value → Shared → Prop} {m m₀ mi : Vars} {σ σ₀ σ₁ σ' : Store} {K : Frag} {p : Program} {loose : List Str} {mg mb : Str → Option Value}
/-- a comprehension's tests -/
noncomputable def ts (X : Cx) (A : Around) (env : Env) (E : Value → Shared → Prop) (ifs : List Expr) (m : Vars) (σ : Store) (Q : Bool → Store → Prop) : Prop := match ifs with
  | [] => Q true σ
  | [c] => tr X A env E c m σ Q
  | _ => False
theorem ts_run {ifs : List Expr} {Q : Bool → Store → Prop} (h : ts X A env E ifs m σ Q) (s : Shared) (I : Inv X A env m σ s) :
    wpAny (model X.prog X.w) A (forIn ifs true fun c r => if r = true then do let ok ← isTrue c env (eval c env); pure (ForInStep.yield ok) else pure (ForInStep.yield r)) (PB X A env m σ Q s) E s := by
  match ifs, h with
  | [], h => exact wpAny_tests_nil ⟨σ, I, .refl, h⟩
  | [c], h => exact wpAny_tests_one (h s I)
theorem stp_tw {own fr : Addr → Prop} {S : List Addr} {s₀ s s' : Shared} (S0 : Stp own fr σ₀ σ s₀ s) (T : Tw S s s') (fresh : ∀ b ∈ S, s₀.heap.get? b = none) : Stp own fr σ₀ σ s₀ s' := by
  have alloc0 : ∀ b o, s₀.heap.get? b = some o → b ∉ S := fun b o e h => by rw [fresh b h] at e; cases e
  refine ⟨fun b o e h ho hf => T.keep b o (S0.keep b o e h ho hf) (alloc0 b o e), fun b o e h ho hf => let ⟨sl, e'⟩ := S0.outk b o e h ho hf; ⟨sl, T.keep b _ e' (alloc0 b o e)⟩, S0.dom, fun b o e => let ⟨o', e'⟩ := S0.mono b o e; ⟨o', T.keep b o' e' (alloc0 b o e)⟩, S0.tup.trans T.tup, ?_⟩
  obtain ⟨h', tk, rfl⟩ := S0.same
  obtain ⟨h'', tk', rfl⟩ := T.same
  exact ⟨h'', tk', rfl⟩
/-- hidden objects move, seen from a frame made later -/
theorem inv_tw {S : List Addr} {s s' : Shared} (I : Inv X A env m σ s) (T : Tw S s s') (hσ : ∀ b ∈ S, σ b = none) (hT : ∀ b ∈ S, X.hT.get? b = none) (how : ∀ b ∈ S, ¬ X.own b)
    (hfr : ∀ outer, A.frames = some outer → ∀ e ∈ outer, ∀ L, e.frame = some L → L ∉ S) (tall : ∃ a o, X.hT.objs.size ≤ a ∧ s'.heap.get? a = some o) (gh : X.G s' σ) : Inv X A env m σ s' := by
  have nS : ∀ b, X.own b → b ∉ S := fun b hb h => how b h hb
  refine ⟨⟨fun b o e => T.keep b o (I.g.top b o e) (fun h => by rw [hT b h] at e; cases e), I.g.off, tall, fun a o e => ?_⟩, ⟨I.f.e, fun b hb => ?_, ?_, ?_⟩, ?_, gh⟩
  · exact (I.g.sim a o e).of_get T.tup fun x hx => T.keep a x hx fun h => by rw [hσ a h] at e; cases e
  · obtain ⟨h1, h2, o, h3, h4⟩ := I.f.own b hb
    exact ⟨h1, h2, o, T.keep b o h3 (nS b hb), h4⟩
  · obtain ⟨mc, ⟨o, es, ep, e1, r⟩, hm⟩ := I.f.loc
    exact ⟨mc, ⟨o, es, ep, T.keep _ o e1 (nS _ I.f.e.ownL), r⟩, fun x d e k => let ⟨v, a, b⟩ := hm x d e k; ⟨v, a, b.grow T.tup⟩⟩
  · intro x ca e
    obtain ⟨o, v0, e1, e2, e3⟩ := I.f.cel x ca e
    exact ⟨o, v0, T.keep _ o e1 (nS _ (I.f.e.ownC x ca e)), e2, fun d hd hc => let ⟨v, a, b⟩ := e3 d hd hc; ⟨v, a, b.grow T.tup⟩⟩
  · exact frs_mono I.fr fun outer ho e he L hL o hLo hs => ⟨⟨o, T.keep L o hLo (hfr outer ho e he L hL), id⟩, hs⟩
/-- a comprehension's turns; the frame within is cenv, the list at D -/
structure CTurns (X : Cx) (A : Around) (env : Env) (m : Vars) (scope : Scope) (cl : List (Str × Addr)) (C D : Addr) (tg : Expr) (ifs : List Expr) (elt : Expr) (items : List AV) (Kp : Store → Prop) (J : Nat → List AV → Store → Prop) : Prop where
  kp : ∀ i ys σ', i ≤ items.length → J i ys σ' → Kp σ' ∧ σ' D = some (.lst ys) ∧ ys.length ≤ i
  turn : ∀ E i d' ys mi σ', items[i]? = some d' → J i ys σ' → Capt (compEnvC scope cl C env) mi m → as (compX X cl C) A (compEnvC scope cl C env) E tg d' mi σ' fun m₂ σ₂ => Capt (compEnvC scope cl C env) m₂ m ∧
    ts (compX X cl C) A (compEnvC scope cl C env) E ifs m₂ σ₂ fun c σ₃ => if c = true then ev (compX X cl C) A (compEnvC scope cl C env) E elt m₂ σ₃ fun y σ₄ => σ₄ D = some (.lst ys) ∧ J (i + 1) (ys ++ [y]) (σ₄.set D (.lst (ys ++ [y]))) else J (i + 1) ys σ₃
/-- what is known when a comprehension's loop ends -/
noncomputable def CEnd (X : Cx) (A : Around) (env : Env) (m : Vars) (σ : Store) (s : Shared) (C D : Addr) (J : List AV → Store → Prop) (s' : Shared) : Prop :=
  ∃ ys σ', J ys σ' ∧ Inv X A env m σ' s' ∧ Stp X.own (frs A) σ σ' s s' ∧ (∃ mc, s'.heap.Ns C mc) ∧ σ' C = none ∧ ¬ X.own C ∧ X.hT.get? C = none ∧ s.heap.get? C = none ∧ ¬ frs A C
theorem comp_loop (ok : X.Ok A) (hh : A.handled = none) {tg elt iter : Expr} {ifs : List Expr} {scope : Scope} {pos : Pos} {items : List AV} {Kp : Store → Prop} {it : Value} {S : List Addr} {St : Nat → Shared → Prop} {s₁ s₂ : Shared} {cl : List (Str × Addr)} (H : Clos scope.names env cl)
    (hsc : ScOk scope env) (hz : items.length ≤ 1000) (T : ∀ X' : Cx, X'.toBs = X.toBs → Itr X' A tg it items S [] Kp St) (I₁ : Inv X A env m σ₁ s₁) (tw0 : Tw [] s₁ s₂) (fr : ∀ b ∈ S, s₁.heap.get? b = none) (st0 : St 0 s₂)
    {RR : Value → Addr → Result → Shared → Prop} (JJ : ∀ C D, σ₁ D = none → ∃ J, J 0 [] (σ₁.set D (.lst [])) ∧ CTurns X A env m scope cl C D tg ifs elt items Kp J ∧
      ∀ s', CEnd X A env m σ₁ s₁ C D (J items.length) s' → RR (.ref D) C (.ok .next) s') :
    wpAny (model X.prog X.w) A (newList []) (fun acc s₃ => wpAny (model X.prog X.w) A (newFunctionEnv scope env.globals cl [] env.qual none .none (some env)) (fun cenv s₄ =>
      codeAny (model X.prog X.w) A (.compStart (.ListComp elt [⟨tg, iter, ifs, 0⟩] scope pos) 0 it acc { cenv with scope := relabel scope env }) (RR acc cenv.locals) s₄) E s₃) E s₂ := by
  obtain ⟨i₂, t₂⟩ := tw ok I₁ .refl I₁ tw0 (fun b h => nomatch h) (fun b h => nomatch h)
  refine wpAny_newList ?_ (by simp)
  have fD := none_at_top s₂.heap
  have kD : ∀ b o, s₂.heap.get? b = some o → (s₂.heap.push { cls := .type "list", data := .seq ([] : List Value).toArray }).get? b = some o := fun _ _ e => Heap.get?_push_of_some _ e
  have i₃ : Inv X A env m (σ₁.set s₂.heap.objs.size (.lst [])) { s₂ with heap := s₂.heap.push { cls := .type "list", data := .seq ([] : List Value).toArray } } := i₂.alloc (tk := s₂.toks) ok fD kD ⟨[], 0, Heap.get?_push_size _ rfl, .nil⟩
  have t₃ : Stp X.own (frs A) σ₁ (σ₁.set s₂.heap.objs.size (.lst [])) s₂ { s₂ with heap := s₂.heap.push { cls := .type "list", data := .seq ([] : List Value).toArray } } := .of_alloc (tk := s₂.toks) fD kD
  have hDn := (i₂.fresh fD).1
  generalize hD : s₂.heap.objs.size = D at *
  generalize hs₃ : ({ s₂ with heap := s₂.heap.push { cls := .type "list", data := .seq ([] : List Value).toArray } } : Shared) = s₃ at *
  refine wpAny_newFunctionEnv hsc.nc (by intro y hy; simp at hy) (fun h₄ hn hs => ?_) hsc.k
  have fC := none_at_top s₃.heap
  have kC : ∀ b o, s₃.heap.get? b = some o → h₄.get? b = some o := fun b o e => (hs.2 b (get?_size_none e)).trans (Heap.get?_push_of_some _ e)
  have hCt : X.hT.objs.size ≤ s₃.heap.objs.size := by
    obtain ⟨a, o, h1, h2⟩ := i₃.g.tall
    exact Nat.le_trans h1 (Nat.le_of_lt (Heap.lt_size h2))
  have hn' : h₄.Ns s₃.heap.objs.size fun _ => none := by simpa using hn
  have i₄ := comp_in (tk := s₃.toks + ([] : List (Str × Value)).length) i₃ H hsc fC hCt kC hn'
  obtain ⟨J, j0, W, hend⟩ := JJ s₃.heap.objs.size D hDn
  have hC1 : s₁.heap.get? s₃.heap.objs.size = none := by
    cases e : s₁.heap.get? s₃.heap.objs.size with
    | none => rfl
    | some o =>
      obtain ⟨o', e'⟩ := (t₂.trans t₃).mono _ o e
      rw [fC] at e'; cases e'
  have t₄ : Stp (compX X cl s₃.heap.objs.size).own (frs A) σ₁ (σ₁.set D (.lst [])) s₁ { s₃ with heap := h₄, toks := s₃.toks + ([] : List (Str × Value)).length } := by
    refine ⟨fun b o e h hb _ => ?_, fun b o e h hb _ => ⟨o.slots, ?_⟩, fun b hb => ?_, fun b o e => ?_, ?_, ?_⟩
    · subst hs₃
      exact kC b o (kD b o (tw0.keep b o e (by simp)))
    · subst hs₃
      exact kC b o (kD b o (tw0.keep b o e (by simp)))
    · rcases t₃.dom b hb with z | z
      · exact .inl z
      · refine .inr ?_
        cases e : s₁.heap.get? b with
        | none => rfl
        | some o => rw [tw0.keep b o e (by simp)] at z; cases z
    · subst hs₃
      exact ⟨o, kC b o (kD b o (tw0.keep b o e (by simp)))⟩
    · subst hs₃
      exact fun b items t => isTup_of_get t fun o e => kC b o (kD b o (tw0.keep b o e (by simp)))
    · subst hs₃
      obtain ⟨h', tk, rfl⟩ := tw0.same
      exact ⟨_, _, rfl⟩
  have Tin := T (compX X cl s₃.heap.objs.size) rfl
  have alS : ∀ b ∈ S, ∃ o, s₂.heap.get? b = some o := fun b hb => Tin.live 0 s₂ st0 b (.inl hb)
  have alS3 : ∀ b ∈ S, ∃ o, s₃.heap.get? b = some o := fun b hb => by
    obtain ⟨o, e⟩ := alS b hb
    subst hs₃; exact ⟨o, kD b o e⟩
  have σS : ∀ b ∈ S, (σ₁.set D (.lst [])) b = none := fun b hb => by
    obtain ⟨o, e⟩ := alS b hb
    have : b ≠ D := fun z => by rw [z, fD] at e; cases e
    rw [Store.set_ne this]
    exact (I₁.fresh (fr b hb)).1
  have hTS : ∀ b ∈ S, X.hT.get? b = none := fun b hb => (I₁.fresh (fr b hb)).2.1
  have nown : ∀ b ∈ S, ¬ (compX X cl s₃.heap.objs.size).own b := fun b hb => by
    rintro (z | ⟨x, hx⟩)
    · obtain ⟨o, e⟩ := alS3 b hb
      rw [z, fC] at e; cases e
    · exact (I₁.fresh (fr b hb)).2.2 (I₁.f.e.ownC x b (H.sub x b hx).1)
  have hfr : ∀ outer, A.frames = some outer → ∀ e ∈ outer, ∀ L, e.frame = some L → L ∉ S := fun outer ho e he L hL h => by
    obtain ⟨out, f1, f2⟩ := frames_alloc I₁.fr
    rw [f1] at ho; cases ho
    obtain ⟨o, e'⟩ := f2 e he L hL
    rw [fr L h] at e'; cases e'
  have nfrS : ∀ b ∈ S, ¬ frs A b := fun b hb hf => by
    obtain ⟨out', k1, en, k2, k3⟩ := hf
    exact hfr out' k1 en k2 b k3 hb
  have tall : ∀ {σx : Store} {sx sy : Shared}, Stp (compX X cl s₃.heap.objs.size).own (frs A) σ₁ σx s₁ sx → Tw S sx sy → ∃ a o, X.hT.objs.size ≤ a ∧ sy.heap.get? a = some o := fun {σx sx sy} S' tw3 => by
    obtain ⟨a, o, q, e⟩ := I₁.g.tall
    obtain ⟨o', e'⟩ := S'.mono a o e
    exact ⟨a, o', q, tw3.keep a o' e' fun h => by rw [fr a h] at e; cases e⟩
  have st4 : St 0 { s₃ with heap := h₄, toks := s₃.toks + ([] : List (Str × Value)).length } := by
    subst hs₃
    exact Tin.stay 0 s₂ _ st0 (fun b hb o e => kC b o (kD b o e)) fun b items t => isTup_of_get t fun o e => kC b o (kD b o e)
  have loop : codeAny (model X.prog X.w) A (.compLoop (.ListComp elt [⟨tg, iter, ifs, 0⟩] scope pos) 0 it (.ref D) (compEnvC scope cl s₃.heap.objs.size env)) (RR (.ref D) s₃.heap.objs.size) { s₃ with heap := h₄, toks := s₃.toks + ([] : List (Str × Value)).length } := by
    refine loop_comp (fun n s' => ∃ i ys mi σ', n = items.length + 1 - i ∧ i ≤ items.length ∧ J i ys σ' ∧ Capt (compEnvC scope cl s₃.heap.objs.size env) mi m ∧ Inv (compX X cl s₃.heap.objs.size) A (compEnvC scope cl s₃.heap.objs.size env) mi σ' s' ∧ Stp (compX X cl s₃.heap.objs.size).own (frs A) σ₁ σ' s₁ s' ∧ St i s' ∧ (∀ b ∈ S, σ' b = none)) ?_ (items.length + 1)
      ⟨0, [], _, _, rfl, Nat.zero_le _, j0, fun x hx => ?_, i₄, t₄, st4, σS⟩
    · rintro n s' ⟨i, ys, mi, σ', rfl, hi, hj, hm, I', S', st, σS'⟩
      cases hd : items[i]? with
      | none =>
        have : i = items.length := Nat.le_antisymm hi (by simpa using hd)
        subst this
        refine .inl (Tin.done _ s' σ' _ mi _ _ I' (W.kp _ _ _ hi hj).1 st hd fun s₅ tw3 => ⟨rfl, ?_⟩)
        have S5 := stp_tw S' tw3 fr
        have I5 := inv_tw I' tw3 σS' hTS nown hfr (tall S' tw3) trivial
        obtain ⟨I6, S6⟩ := comp_back ok I₁ H hsc hC1 I5 hm S5
        have hCown := I5.f.own s₃.heap.objs.size (.inl rfl)
        have fr1 := I₁.fresh hC1
        obtain ⟨mc, hmc, _⟩ := I5.f.loc
        exact hend s₅ ⟨ys, σ', hj, I6, S6, ⟨mc, hmc⟩, hCown.1, fr1.2.2, fr1.2.1, hC1, fun hf => by
          obtain ⟨out, f1, f2⟩ := frames_alloc I₁.fr
          obtain ⟨out', k1, en, k2, k3⟩ := hf
          rw [f1] at k1; cases k1
          obtain ⟨o, ho⟩ := f2 en k2 _ k3
          rw [hC1] at ho; cases ho⟩
      | some d' =>
        have hlt : i < items.length := (List.getElem?_eq_some_iff.mp hd).1
        refine .inr ⟨fun v s₅ => Tw S s' s₅ ∧ Rep s₅.heap d' v ∧ St (i + 1) s₅, Tin.item i s' σ' _ mi d' _ _ I' (W.kp _ _ _ hi hj).1 st hd fun v s₅ tw3 r₅ st5 => ⟨tw3, r₅, st5⟩, fun v s₅ ⟨tw3, r₅, st5⟩ => ?_⟩
        have S5 := stp_tw S' tw3 fr
        have I5 := inv_tw I' tw3 σS' hTS nown hfr (tall S' tw3) trivial
        refine wpAny_mono (W.turn _ i d' ys mi σ' hd hj hm s₅ v r₅ I5) (fun _ s₆ h₆ => ?_) fun _ _ x => x
        obtain ⟨m₆, σ₆, I₆, S₆, hm₆, q₆⟩ := h₆
        refine wpAny_mono (ts_run q₆ s₆ I₆) (fun c s₇ h₇ => ?_) fun _ _ x => x
        obtain ⟨σ₇, I₇, S₇, q₇⟩ := h₇
        have S57 := S₆.trans S₇
        have al5 := fun b (hb : b ∈ S) => Tin.live _ s₅ st5 b (.inl hb)
        cases c with
        | false =>
          simp only [Bool.false_eq_true, if_false] at q₇ ⊢
          have σS7 := st_none S57 σS' al5
          exact ⟨items.length + 1 - (i + 1), by omega, i + 1, ys, m₆, σ₇, rfl, hlt, q₇, hm₆, I₇, S5.trans S57, Tin.stay _ s₅ s₇ st5 (fun b hb o e => by
            rcases hb with hb | hb
            · exact S57.keep b o e (σS' b hb) (nown b hb) (nfrS b hb)
            · cases hb) S57.tup, σS7⟩
        | true =>
          simp only [if_true] at q₇ ⊢
          refine wpAny_mono (q₇ s₇ I₇) (fun y s₈ h₈ => ?_) fun _ _ x => x
          obtain ⟨dy, σ₈, r₈, I₈, S₈, hD8, q₈⟩ := h₈
          have hlen : ys.length ≤ 1000 := Nat.le_trans (W.kp _ _ _ hi hj).2.2 (Nat.le_trans hi hz)
          refine wpAny_mono (vl_append (env := compEnvC scope cl s₃.heap.objs.size env) (compX_ok (X := X) (cl := cl) (C := s₃.heap.objs.size)) (A := A) (m := m₆) (d := dy) hD8 hlen (Q := fun d σ' => d = .c .none ∧ σ' = σ₈.set D (.lst (ys ++ [dy]))) ⟨rfl, rfl⟩ s₈ [.ref D, y] (.cons Rep.val (.cons r₈ .nil)) I₈) (fun _ s₉ h₉ => ?_) fun _ _ x => x
          obtain ⟨_, σ₉, _, I₉, S₉, _, rfl⟩ := h₉
          have S59 := (S57.trans S₈).trans S₉
          have σS9 := st_none S59 σS' al5
          exact ⟨items.length + 1 - (i + 1), by omega, i + 1, ys ++ [dy], m₆, _, rfl, hlt, q₈, hm₆, I₉, S5.trans S59, Tin.stay _ s₅ s₉ st5 (fun b hb o e => by
            rcases hb with hb | hb
            · exact S59.keep b o e (σS' b hb) (nown b hb) (nfrS b hb)
            · cases hb) S59.tup, σS9⟩
    · have nl : (compEnvC scope cl s₃.heap.objs.size env).kindOf x ≠ some .local := fun z => by rcases hx with hc | hc <;> rw [z] at hc <;> cases hc
      exact if_neg nl
  exact codeAny_compStart_list loop (Tin.self 0 _ _ _ _ _ _ i₄ st4 loop)
theorem tw_frame {s' : Shared} {C : Addr} {h' : Heap} (hn : ∃ mc, s'.heap.Ns C mc) (hs : Heap.SameBut C s'.heap h') : Tw [C] s' { s' with heap := h' } := by
  obtain ⟨mc, o, es, ep, e1, e2, _⟩ := hn
  refine ⟨fun b x e hb => hs.extBut b x (fun z => hb (by simp [z])) e, fun b hb its t => ?_, ⟨h', s'.toks, rfl⟩⟩
  have : b = C := by simpa using hb
  subst this
  obtain ⟨o', f1, _, n, f3⟩ := t
  rw [e1] at f1; cases f1; rw [e2] at f3; cases f3
theorem ev_comp (ok : X.Ok A) (hh : A.handled = none) {tg elt iter : Expr} {ifs : List Expr} {scope : Scope} {pos : Pos} {Q : AV → Store → Prop} (hsc : scopeOk scope env = true)
    (h : ie X A env E tg iter m σ fun items Kp σ₁ => items.length ≤ 1000 ∧ ∀ C D cl, Clos scope.names env cl → σ₁ D = none → ∃ J, J 0 [] (σ₁.set D (.lst [])) ∧ CTurns X A env m scope cl C D tg ifs elt items Kp J ∧ ∀ ys σ', J items.length ys σ' → σ' D = some (.lst ys) → Q (.c (.ref D)) σ')
    (hs : ∀ x, foldedSetIterable iter env x = pure x := by intro _; rfl) : ev X A env E (.ListComp elt [⟨tg, iter, ifs, 0⟩] scope pos) m σ Q := fun s I => by
  have sc := scopeOk.out hsc
  obtain ⟨cl, hcl, H⟩ := clos_of (scope := scope) (env := env) fun x hx => I.f.e.celAt x (.inl (sc.fr x hx))
  show wpAny _ _ (eval _ env) _ _ s
  rw [eval_ListComp]
  refine wpAny_comprehension_free (use := none) rfl hs hcl sc.k (fun x hx hl => hl ▸ sc.lo x hx) (wpAny_mono (h s I) (fun xv s₁ h₁ => wpAny_mono h₁ (fun it s₂ h₂ => ?_) fun _ _ e => e) fun _ _ e => e)
  obtain ⟨items, Kp, σ₁, s₁, S, St, i₁, t₁, T, st0, tw0, fr, kp, hz, hJ⟩ := h₂
  refine comp_loop (E := E) (iter := iter) (pos := pos) (RR := fun acc C => compPost (model X.prog X.w) A E none (PE X A env m σ Q s) acc C) ok hh H sc hz T i₁ tw0 fr st0 fun C D hD => ?_
  · obtain ⟨J, j0, W, hend⟩ := hJ C D cl H hD
    refine ⟨J, j0, W, fun s' hc => ?_⟩
    obtain ⟨ys, σ', hj, I', S', ⟨mc, hmc⟩, c1, c2, c3, c4, c5⟩ := hc
    refine ⟨mc, hmc, fun h' hs' => ?_⟩
    obtain ⟨o, es, ep, e1, e2, e3⟩ := hmc
    have T1 : Tw [C] s' { s' with heap := h' } := tw_frame ⟨mc, ⟨o, es, ep, e1, e2, e3⟩⟩ hs'
    have fC : ∀ b ∈ [C], s₁.heap.get? b = none := fun b hb => by
      have : b = C := by simpa using hb
      subst this; exact c4
    obtain ⟨I2, S2⟩ := tw ok i₁ S' I' T1 fC (fun b hb => by
      have : b = C := by simpa using hb
      subst this; exact c1)
    exact ⟨.c (.ref D), σ', Rep.val, I2, t₁.trans S2, hend ys σ' hj (W.kp _ _ _ (Nat.le_refl _) hj).2.1⟩
/-- a list that a comprehension makes is bound to a name of the frame's -/
theorem x_comp (ok : X.Ok A) (hh : A.handled = none) {y : Str} {py apos : Pos} {tg elt iter : Expr} {ifs : List Expr} {scope : Scope} {pos : Pos} {Q : AF → Vars → Store → Prop} (hsc : scopeOk scope env = true) (hy : nameOk env y = true)
    (h : ie X A env E tg iter m σ fun items Kp σ₁ => items.length ≤ 1000 ∧ ∀ C D cl, Clos scope.names env cl → σ₁ D = none → ∃ J, J 0 [] (σ₁.set D (.lst [])) ∧ CTurns X A env m scope cl C D tg ifs elt items Kp J ∧ ∀ ys σ', J items.length ys σ' → σ' D = some (.lst ys) → Q .next (m.set y (.c (.ref D))) σ')
    (hsw : swapsWith (.ListComp elt [⟨tg, iter, ifs, 0⟩] scope pos) (some (.Name y py)) apos.line env = pure true)
    (hs : ∀ x, foldedSetIterable iter env x = pure x := by intro _; rfl) : x1 X A env E (.Assign [.Name y py] (.ListComp elt [⟨tg, iter, ifs, 0⟩] scope pos) apos) m σ Q := fun s I => by
  have sc := scopeOk.out hsc
  obtain ⟨cl, hcl, H⟩ := clos_of (scope := scope) (env := env) fun x hx => I.f.e.celAt x (.inl (sc.fr x hx))
  show wpAny _ _ (exec _ env) _ _ s
  rw [exec_Assign_Name_used _ _ _ _ hsw]
  refine wpAny_bind (wpAny_standAt (wpAny_bind ?_))
  show wpAny _ A (do let _ ← comprehension (.ListComp elt [⟨tg, iter, ifs, 0⟩] scope pos) scope env _ (newList []) false (eval iter env) (some (assign (.Name y py) env))) _ _ s
  refine wpAny_bind (wpAny_mono (wpAny_comprehension_free (use := some (assign (.Name y py) env)) (Q := fun _ s' => PF X A env σ Q s .next s') rfl hs hcl sc.k (fun x hx hl => hl ▸ sc.lo x hx)
    (wpAny_mono (h s I) (fun xv s₁ h₁ => wpAny_mono h₁ (fun it s₂ h₂ => ?_) fun _ _ e => e) fun _ _ e => e)) (fun _ s' hq => wpAny_pure (wpAny_pure hq)) fun _ _ e => e)
  obtain ⟨items, Kp, σ₁, s₁, S, St, i₁, t₁, T, st0, tw0, fr, kp, hz, hJ⟩ := h₂
  refine comp_loop (E := E) (iter := iter) (pos := pos) (RR := fun acc C => compPost (model X.prog X.w) A E (some (assign (.Name y py) env)) (fun _ s' => PF X A env σ Q s .next s') acc C) ok hh H sc hz T i₁ tw0 fr st0 fun C D hD => ?_
  obtain ⟨J, j0, W, hend⟩ := hJ C D cl H hD
  refine ⟨J, j0, W, fun s' hc => ?_⟩
  obtain ⟨ys, σ', hj, I', S', ⟨mc, hmc⟩, c1, c2, c3, c4, c5⟩ := hc
  refine wpAny_mono (as_name (E := E) (pos := py) ok hy (Q := fun m' σ₂ => m' = m.set y (.c (.ref D)) ∧ σ₂ = σ') ⟨rfl, rfl⟩ s' (.ref D) Rep.val I') (fun _ s'' h'' => ?_) fun _ _ x => x
  obtain ⟨m₂, σ₂, I₂, S₂, rfl, rfl⟩ := h''
  obtain ⟨o, es, ep, e1, e2, e3⟩ := hmc
  have hC : s''.heap.Ns C mc := ⟨o, es, ep, S₂.keep C o e1 c1 c2 c5, e2, e3⟩
  refine ⟨mc, hC, fun h' hs' => ?_⟩
  have T1 := tw_frame ⟨mc, hC⟩ hs'
  have fC : ∀ b ∈ [C], s₁.heap.get? b = none := fun b hb => by
    have : b = C := by simpa using hb
    subst this; exact c4
  have σC : σ₂ C = none := c1
  obtain ⟨I3, S3⟩ := tw ok i₁ (S'.trans S₂) I₂ T1 fC (fun b hb => by
    have : b = C := by simpa using hb
    subst this; exact σC)
  exact ⟨.next, _, σ₂, rfl, I3, t₁.trans S3, hend ys σ₂ hj (W.kp _ _ _ (Nat.le_refl _) hj).2.1⟩
end
end Mine
end
section
namespace Mine
section
variable {X : Cx} {A : Around} {env env₀ : Env} {E : Value → Shared → Prop} {m m₀ mi : Vars} {σ σ₀ σ₁ σ' : Store} {K : Frag} {p : Program} {loose : List Str} {mg mb : Str → Option Value}
-- items stored
theorem RepL.set {h : Heap} {d : AV} {v : Value} (r : Rep h d v) : ∀ {l : List AV} {vs : List Value} (k : Nat), RepL h l vs → RepL h (l.set k d) (vs.set k v)
  | [], vs, k, q => by simp only [RepL] at q; subst q; simpa using RepL.nil
  | d0 :: l, vs, 0, q => by
    simp only [RepL] at q
    obtain ⟨v0, r', rfl, h1, h2⟩ := q
    exact .cons r h2
  | d0 :: l, vs, k + 1, q => by
    simp only [RepL] at q
    obtain ⟨v0, r', rfl, h1, h2⟩ := q
    exact .cons h1 (h2.set r k)
theorem si_lst (ok : X.Ok A) {a : Addr} {l : List AV} {k : Int} {d : AV} {Q : Store → Prop} (hσ : σ a = some (.lst l)) (h0 : 0 ≤ k) (h1 : k < l.length) (hz : l.length ≤ 1000) (q : Q (σ.set a (.lst (l.set k.toNat d)))) :
    SI X A env E (.c (.ref a)) (.i k) d m σ Q := fun s vo vi vv ro ri rv I => by
  cases ro.val'
  obtain ⟨t, rfl⟩ := ri.int'
  obtain ⟨vs, n, hg, hr⟩ := I.g.sim a _ hσ
  refine ki_setAt hg h0 (by omega) (by rw [hr.length']; exact h1) ?_
  have := list_upd ok I hσ hg (f := (·.setIfInBounds k.toNat vv)) (l' := l.set k.toNat d) (vs' := vs.set k.toNat vv) (Q := fun _ σ' => σ' = σ.set a (.lst (l.set k.toNat d))) (by simp) (hr.set rv _) rfl
  obtain ⟨_, σ', _, I', S', rfl⟩ := this
  exact ⟨_, I', S', q⟩
theorem si_dct (ok : X.Ok A) {a : Addr} {l : List (Str × AV)} {x : Str} {d : AV} {Q : Store → Prop} (hσ : σ a = some (.dct l)) (hz : l.length ≤ 1000) (q : Q (σ.set a (.dct (put l x d)))) :
    SI X A env E (.c (.ref a)) (.s x) d m σ Q := fun s vo vi vv ro ri rv I => by
  cases ro.val'
  obtain ⟨t, rfl⟩ := ri.str'
  obtain ⟨kvs, hd, hk, hr⟩ := I.g.sim a _ hσ
  have hlen : kvs.length = l.length := by simpa using congrArg List.length hk
  refine wpAny_setItem_pairs (strKind_is X.prog X.w x t) hd (fun h' hm hs => ?_) (by rw [sizeLine_eq]; omega)
  obtain ⟨o, es, ep, e1, ex, e2, e3, e4, nd⟩ := hd
  have hnt : Grow s.heap h' := fun b its u => by
    obtain ⟨ob, z1, z2, z3⟩ := u
    have : b ≠ a := fun z => by subst z; rw [e1] at z1; cases z1; rw [ex.1] at z2; simp at z2
    exact ⟨ob, (hs.2 b this).trans z1, z2, z3⟩
  have rd : RepD h' (put l x d) (put kvs x vv) := (RepD.grow hnt ⟨hk, hr⟩).put (rv.grow hnt)
  rw [put_stored _ _ _ nd] at rd
  have ob : ObjIs X.prog X.w h' a (.dct (put l x d)) := ⟨_, hm, rd.1, rd.2⟩
  exact ⟨_, I.update (tk := s.toks + 1) ok hσ hs ob, .of_update (I.g.sim a _ hσ) hσ hs ob, q⟩
-- displays of dicts
theorem ev_dict0 (ok : X.Ok A) {pos : Pos} {Q : AV → Store → Prop} (q : ∀ a, σ a = none → Q (.c (.ref a)) (σ.set a (.dct []))) : ev X A env E (.Dict [] [] pos) m σ Q := fun s I => by
  show wpAny _ _ (do standAt pos; newDict) _ _ s
  refine wpAny_bind (wpAny_standAt ?_)
  show wpAny _ _ (do let a ← alloc { cls := .type "dict", data := .dict #[] }; pure (Value.ref a)) _ _ s
  refine wpAny_bind (wpAny_alloc (wpAny_pure ?_))
  have k : ∀ b o, s.heap.get? b = some o → (s.heap.push { cls := .type "dict", data := .dict #[] }).get? b = some o := fun _ _ e => Heap.get?_push_of_some _ e
  have f := none_at_top s.heap
  refine ⟨.c (.ref s.heap.objs.size), σ.set s.heap.objs.size (.dct []), Rep.val, ?_, .of_alloc (tk := s.toks) f k, q _ (I.fresh f).1⟩
  exact I.alloc (tk := s.toks) ok f k ⟨[], ⟨_, #[], 0, Heap.get?_push_size _ rfl, ⟨rfl, rfl, rfl⟩, rfl, fun _ he => by simp at he, .nil, by simp⟩, rfl, RepL.nil⟩
/-- the pairs of a display -/
noncomputable def evp (X : Cx) (A : Around) (env : Env) (E : Value → Shared → Prop) : List (Expr × Expr) → Vars → Store → (List (Str × AV) → Store → Prop) → Prop
  | [], _, σ, Q => Q [] σ
  | (k, v) :: r, m, σ, Q => ev X A env E k m σ fun dk σ₁ => ∃ x, dk = .s x ∧ ev X A env E v m σ₁ fun dv σ₂ => evp X A env E r m σ₂ fun l σ₃ => Q ((x, dv) :: l) σ₃
noncomputable def puts (l : List (Str × AV)) : List (Str × AV) := l.foldl (fun acc q => put acc q.1 q.2) []
theorem evp_run {pos : Pos} : ∀ {l : List (Expr × Expr)} {m : Vars} {σ : Store} {Q : List (Str × AV) → Store → Prop}, evp X A env E l m σ Q → ∀ s, Inv X A env m σ s →
    wpAny (model X.prog X.w) A (evalPairs (l.map fun q => (eval q.1 env, do let x ← eval q.2 env; standAt pos; pure x))) (fun vs s' => ∃ ds kvs σ', Carries (strKind X.prog X.w) vs kvs ∧ RepD s'.heap ds kvs ∧ Inv X A env m σ' s' ∧ Stp X.own (frs A) σ σ' s s' ∧ Q ds σ') E s
  | [], m, σ, Q, h, s, I => evalPairs_nil ⟨[], [], σ, trivial, ⟨rfl, RepL.nil⟩, I, .refl, h⟩
  | (k, v) :: r, m, σ, Q, h, s, I => by
    refine evalPairs_cons (wpAny_mono (h s I) (fun kv s₁ ⟨dk, σ₁, r₁, i₁, t₁, x, hx, h₁⟩ => ?_) fun _ _ e => e)
    subst hx
    obtain ⟨t, rfl⟩ := r₁.str'
    refine wpAny_bind (wpAny_mono (h₁ s₁ i₁) (fun vv s₂ ⟨dv, σ₂, r₂, i₂, t₂, h₂⟩ => wpAny_bind (wpAny_standAt (wpAny_pure ?_))) fun _ _ e => e)
    refine wpAny_mono (evp_run (pos := pos) h₂ s₂ i₂) (fun vs s₃ ⟨ds, kvs, σ₃, c, rd, i₃, t₃, q⟩ => ?_) fun _ _ e => e
    exact ⟨(x, dv) :: ds, (x, vv) :: kvs, σ₃, ⟨strKind_is _ _ x t, rfl, c⟩, ⟨by simp [rd.1], RepL.cons (r₂.grow t₃.tup) rd.2⟩, i₃, (t₁.trans t₂).trans t₃, q⟩
theorem repD_puts {h : Heap} : ∀ {l : List (Str × AV)} {kvs : List (Str × Value)} {l0 : List (Str × AV)} {k0 : List (Str × Value)}, RepD h l kvs → RepD h l0 k0 → (k0.map (·.1)).Nodup → RepD h (l.foldl (fun acc q => put acc q.1 q.2) l0) (merged k0 kvs)
  | [], kvs, l0, k0, ⟨hk, _⟩, r0, _ => by
    have : kvs = [] := by simpa using hk
    subst this; exact r0
  | p :: l, kvs, l0, k0, ⟨hk, hr⟩, r0, nd => by
    cases kvs with
    | nil => simp at hk
    | cons q kvs =>
      simp only [List.map_cons, List.cons.injEq] at hk
      simp only [List.map_cons, RepL] at hr
      obtain ⟨v', r', e, hd, hl⟩ := hr
      obtain ⟨rfl, rfl⟩ := List.cons.inj e
      have h1 := r0.put (k := p.1) hd
      have e1 : put k0 p.1 q.2 = stored k0 q.1 q.2 := by rw [← hk.1]; exact put_stored _ _ _ nd
      have nd' : ((stored k0 q.1 q.2).map (·.1)).Nodup := by
        rw [← e1, put_keys]
        split
        · exact nd
        · rename_i hm
          exact List.nodup_append.mpr ⟨nd, by simp, fun a ha b hb => by
            have : b = p.1 := by simpa using hb
            subst this; exact fun e => hm (e ▸ ha)⟩
      rw [e1] at h1
      exact repD_puts (l := l) (kvs := kvs) ⟨hk.2, hl⟩ h1 nd'
theorem ev_dict (ok : X.Ok A) {l : List (Expr × Expr)} {keys : List (Option Expr)} {values : List Expr} {pos : Pos} {Q : AV → Store → Prop} (h0 : l ≠ []) (hlen : l.length ≤ 15)
    (hshape : (evalEachOpt keys env).zip ((evalEach values env).map fun v => do let x ← v; standAt pos; pure x) = (l.map fun q => (eval q.1 env, (do let x ← eval q.2 env; standAt pos; pure x : Sem Value))).map fun p => (some p.1, p.2))
    (h : ∀ D, σ D = none → evp X A env E l m (σ.set D (.dct [])) fun ds σ' => σ' D = some (.dct []) ∧ Q (.c (.ref D)) (σ'.set D (.dct (puts ds)))) : ev X A env E (.Dict keys values pos) m σ Q := fun s I => by
  have k : ∀ b o, s.heap.get? b = some o → (s.heap.push { cls := .type "dict", data := .dict #[] }).get? b = some o := fun _ _ e => Heap.get?_push_of_some _ e
  have f := none_at_top s.heap
  have i₁ : Inv X A env m (σ.set s.heap.objs.size (.dct [])) { s with heap := s.heap.push { cls := .type "dict", data := .dict #[] } } :=
    I.alloc (tk := s.toks) ok f k ⟨[], ⟨_, #[], 0, Heap.get?_push_size _ rfl, ⟨rfl, rfl, rfl⟩, rfl, fun _ he => by simp at he, .nil, by simp⟩, rfl, RepL.nil⟩
  refine wpAny_Dict_pairs (knd := strKind X.prog X.w) hshape (by simpa using h0) (by simpa using hlen) (wpAny_mono (evp_run (h _ (I.fresh f).1) _ i₁) (fun vs s₁ h₁ => ?_) fun _ _ e => e)
  obtain ⟨ds, kvs, σ', c, rd, i₂, t₂, hD, q⟩ := h₁
  obtain ⟨kv0, hd0, hk0, _⟩ := i₂.g.sim _ _ hD
  have : kv0 = [] := by simpa using hk0
  subst this
  refine ⟨kvs, c, hd0, fun h' hm hs => ?_⟩
  obtain ⟨o, es, ep, e1, ex, e2, e3, e4, nd⟩ := hd0
  have hnt : Grow s₁.heap h' := fun b its u => by
    obtain ⟨ob, z1, z2, z3⟩ := u
    have : b ≠ s.heap.objs.size := fun z => by rw [z, e1] at z1; cases z1; rw [ex.1] at z2; simp at z2
    exact ⟨ob, (hs.2 b this).trans z1, z2, z3⟩
  have rp := repD_puts (rd.grow hnt) (l0 := []) (k0 := []) ⟨rfl, RepL.nil⟩ (by simp)
  have ob : ObjIs X.prog X.w h' s.heap.objs.size (.dct (puts ds)) := ⟨_, hm, rp.1, rp.2⟩
  exact ⟨_, _, Rep.val, i₂.update (tk := s₁.toks + vs.length) ok hD hs ob, ((Stp.of_alloc (tk := s.toks) f k).trans t₂).trans (.of_update (i₂.g.sim _ _ hD) hD hs ob), q⟩
-- equality
mutual
noncomputable def AV.eqv : Nat → AV → Bool
  | _, .c (.bool _) => true
  | _, .c .none => true
  | _, .c _ => false
  | _, .i _ => true
  | _, .s _ => true
  | 0, .t _ => false
  | n + 1, .t l => AV.eqvL n l
noncomputable def AV.eqvL : Nat → List AV → Bool
  | _, [] => true
  | n, d :: l => AV.eqv n d && AV.eqvL n l
end
theorem eqvL_at {n : Nat} : ∀ {l : List AV} {j : Nat} {d : AV}, AV.eqvL n l = true → l[j]? = some d → AV.eqv n d = true
  | [], _, _, _, e => by simp at e
  | d :: l, 0, d', h, e => by
    simp at e; subst e
    simp only [AV.eqvL, Bool.and_eq_true] at h; exact h.1
  | d :: l, j + 1, d', h, e => by
    simp at e
    simp only [AV.eqvL, Bool.and_eq_true] at h
    exact eqvL_at h.2 e
theorem rep_eq {s : Shared} : ∀ {n : Nat} {d : AV} {v w : Value} {A : Around}, AV.eqv n d = true → A.units + n < cLine → Rep s.heap d v → Rep s.heap d w → SeqAt.EqAt A s v w true
  | n, .c x, v, w, A, h, hu, r1, r2 => by cases r1.val'; cases r2.val'; exact SeqAt.EqAt.same _
  | n, .i x, v, w, A, h, hu, r1, r2 => by
    obtain ⟨t, rfl⟩ := r1.int'; obtain ⟨u, rfl⟩ := r2.int'
    have := SeqAt.EqAt.int_int (A := A) (s := s) x t x u
    simpa using this
  | n, .s x, v, w, A, h, hu, r1, r2 => by
    obtain ⟨t, rfl⟩ := r1.str'; obtain ⟨u, rfl⟩ := r2.str'
    have := SeqAt.EqAt.str_str (A := A) (s := s) x t x u
    simpa using this
  | 0, .t l, v, w, A, h, hu, r1, r2 => by simp [AV.eqv] at h
  | n + 1, .t l, v, w, A, h, hu, r1, r2 => by
    obtain ⟨a, vs, rfl, ha, hr⟩ := r1.tup'; obtain ⟨b, ws, rfl, hb, hr2⟩ := r2.tup'
    by_cases e : a = b
    · subst e; exact SeqAt.EqAt.same _
    refine SeqAt.EqAt.of_refs e ?_
    have hl : vs.length = ws.length := by rw [hr.length, hr2.length]
    have := SeqAt.RcAt.tuples (A := A) (s := s) (l := a) (b := b) (items := vs.toArray) (items2 := ws.toArray) (e := fun _ => true) ha hb (by omega) fun j h1 h2 => by
      have h1' : j < l.length := by rw [← hr.length]; simpa using h1
      obtain ⟨v, hv, q1⟩ := hr.get (List.getElem?_eq_getElem h1')
      obtain ⟨w, hw, q2⟩ := hr2.get (List.getElem?_eq_getElem h1')
      have e1 : vs.toArray[j] = v := by
        have := List.getElem?_eq_some_iff.mp hv
        obtain ⟨_, z⟩ := this; simpa using z
      have e2 : ws.toArray[j] = w := by
        have := List.getElem?_eq_some_iff.mp hw
        obtain ⟨_, z⟩ := this; simpa using z
      rw [e1, e2]
      exact rep_eq (n := n) (eqvL_at (by simpa only [AV.eqv] using h) (List.getElem?_eq_getElem h1')) (by show A.units + 1 + n < cLine; omega) q1 q2
    have e1 : ((List.range (min vs.toArray.size ws.toArray.size)).all fun _ => true) = true := List.all_eq_true.mpr fun _ _ => rfl
    have e2 : (vs.toArray.size == ws.toArray.size) = true := by simp [hl]
    rw [e1, e2] at this
    exact this
/-- two dicts hold the same -/
noncomputable def Same (l l2 : List (Str × AV)) : Prop := l.length = l2.length ∧ ∀ q ∈ l, l2.lookup q.1 = some q.2 ∧ AV.eqv 8 q.2 = true
theorem same_hits {A : Around} {s : Shared} (hu : A.units + 16 < cLine) {l2 : List (Str × AV)} {kb : List (Str × Value)} (rb : RepD s.heap l2 kb) : ∀ {l : List (Str × AV)} {ka : List (Str × Value)}, RepD s.heap l ka → (∀ q ∈ l, l2.lookup q.1 = some q.2 ∧ AV.eqv 8 q.2 = true) → KeqHits A.in1 s kb ka true
  | [], ka, ⟨hk, _⟩, _ => by
    have : ka = [] := by simpa using hk
    subst this; exact .nil
  | p :: l, ka, ⟨hk, hr⟩, h => by
    cases ka with
    | nil => simp at hk
    | cons q ka =>
      simp only [List.map_cons, List.cons.injEq] at hk
      simp only [List.map_cons, RepL] at hr
      obtain ⟨v', r', e, hd, hl⟩ := hr
      obtain ⟨rfl, rfl⟩ := List.cons.inj e
      obtain ⟨h1, h2⟩ := h p (List.mem_cons_self ..)
      have := lookup_vals (x := p.1) rb.1 rb.2
      rw [h1] at this
      obtain ⟨v, hv, r⟩ := this
      have ih := same_hits hu rb ⟨hk.2, hl⟩ fun q hq => h q (List.mem_cons_of_mem _ hq)
      have := KeqHits.hit (A := A.in1) (s := s) (kb := kb) (k := q.1) (v := q.2) (y := v) (r := ka) (by rw [hk.1]; exact hv) (rep_eq (n := 8) h2 (by show A.units + 1 + 8 < cLine; omega) hd r) ih
      simpa using this
theorem v2_dne (hm : X.hT.get? sysModules ≠ none) (hu : A.units + 16 < cLine) {a b : Addr} {l l2 : List (Str × AV)} {Q : AV → Store → Prop} (hσ : σ a = some (.dct l)) (hσ2 : σ b = some (.dct l2)) (h : Same l l2) (q : Q (.c (.bool false)) σ) :
    V2 X A env E (compareOp .NotEq) (.c (.ref a)) (.c (.ref b)) m σ Q := fun s va vb ra rb I => by
  cases ra.val'; cases rb.val'
  obtain ⟨ka, da, r1⟩ := I.g.sim a _ hσ
  obtain ⟨kb, db, r2⟩ := I.g.sim b _ hσ2
  have e1 : ka.length = l.length := by simpa using congrArg List.length r1.1
  have e2 : kb.length = l2.length := by simpa using congrArg List.length r2.1
  refine keq_ne (r := true) (not_modules I hm (by rw [hσ]; simp)) (not_modules I hm (by rw [hσ2]; simp)) da db (by omega) (fun _ => same_hits hu ⟨r2.1, r2.2⟩ ⟨r1.1, r1.2⟩ h.2) ?_
  have : (!(ka.length == kb.length && true)) = false := by simp [e1, e2, h.1]
  rw [this]
  exact PE.here Rep.val I q
theorem v2_deq (hm : X.hT.get? sysModules ≠ none) (hu : A.units + 16 < cLine) {a b : Addr} {l l2 : List (Str × AV)} {Q : AV → Store → Prop} (hσ : σ a = some (.dct l)) (hσ2 : σ b = some (.dct l2)) (h : Same l l2) (q : Q (.c (.bool true)) σ) :
    V2 X A env E (compareOp .Eq) (.c (.ref a)) (.c (.ref b)) m σ Q := fun s va vb ra rb I => by
  cases ra.val'; cases rb.val'
  obtain ⟨ka, da, r1⟩ := I.g.sim a _ hσ
  obtain ⟨kb, db, r2⟩ := I.g.sim b _ hσ2
  have e1 : ka.length = l.length := by simpa using congrArg List.length r1.1
  have e2 : kb.length = l2.length := by simpa using congrArg List.length r2.1
  refine keq_eq (r := true) (not_modules I hm (by rw [hσ]; simp)) (not_modules I hm (by rw [hσ2]; simp)) da db (by omega) (fun _ => same_hits hu ⟨r2.1, r2.2⟩ ⟨r1.1, r1.2⟩ h.2) ?_
  have : (ka.length == kb.length && true) = true := by simp [e1, e2, h.1]
  rw [this]
  exact PE.here Rep.val I q
/-- a list against the empty one -/
theorem v2_lne (hu : A.units < cLine) {a b : Addr} {l : List AV} {Q : AV → Store → Prop} (hσ : σ a = some (.lst l)) (hσ2 : σ b = some (.lst [])) (q : Q (.c (.bool (!l.isEmpty))) σ) :
    V2 X A env E (compareOp .NotEq) (.c (.ref a)) (.c (.ref b)) m σ Q := fun s va vb ra rb I => by
  cases ra.val'; cases rb.val'
  obtain ⟨vs, n, hg, hr⟩ := I.g.sim a _ hσ
  obtain ⟨ws, n2, hg2, hr2⟩ := I.g.sim b _ hσ2
  have hL : s.heap.IsList a vs.toArray := ⟨_, hg, rfl, n, rfl⟩
  have hL2 : s.heap.IsList b ws.toArray := ⟨_, hg2, rfl, n2, rfl⟩
  have : ws = [] := by have := hr2.length; simpa using this
  subst this
  cases l with
  | nil =>
    have : vs = [] := by have := hr.length; simpa using this
    subst this
    have := SeqAt.RcNeAt.lists (A := A) (s := s) (e := fun _ => true) hL hL2 rfl hu (by intro j h1; simp at h1)
    refine this X.prog X.w E _ ?_
    simpa using PE.here (A := A) (X := X) (env := env) (m := m) Rep.val I q
  | cons d l =>
    have hz : (vs.toArray.size != ([] : List Value).toArray.size) = true := by
      have := hr.length
      simp at this
      simp
      intro z; rw [z] at this; simp at this
    have := SeqAt.RcNeAt.lists_lengths (A := A) (s := s) hL hL2 hz hu
    refine this X.prog X.w E _ ?_
    simpa using PE.here (A := A) (X := X) (env := env) (m := m) Rep.val I q
-- «in»
noncomputable def strsIn (x : Str) : List AV → Bool
  | [] => false
  | .s y :: l => (y == x) || strsIn x l
  | _ :: l => strsIn x l
noncomputable def allStr : List AV → Bool
  | [] => true
  | .s _ :: l => allStr l
  | _ => false
noncomputable def vStr : Value → Str
  | .str x _ => x
  | _ => ""
theorem strs_any {h : Heap} (x : Str) : ∀ {l : List AV} {vs : List Value}, allStr l = true → RepL h l vs → vs.any (fun v => vStr v == x) = strsIn x l ∧ ∀ v ∈ vs, ∃ y t, v = .str y t
  | [], vs, _, r => by simp only [RepL] at r; subst r; simp [strsIn]
  | .s y :: l, vs, ha, r => by
    simp only [RepL] at r
    obtain ⟨v, r', rfl, h1, h2⟩ := r
    obtain ⟨t, rfl⟩ := h1.str'
    obtain ⟨i1, i2⟩ := strs_any x (by simpa [allStr] using ha) h2
    refine ⟨by rw [List.any_cons, i1]; rfl, fun v hv => ?_⟩
    rcases List.mem_cons.mp hv with rfl | hv
    · exact ⟨y, t, rfl⟩
    · exact i2 v hv
  | .c _ :: l, vs, ha, r => by simp [allStr] at ha
  | .i _ :: l, vs, ha, r => by simp [allStr] at ha
  | .t _ :: l, vs, ha, r => by simp [allStr] at ha
theorem v2_inT {l : List AV} {x : Str} {Q : AV → Store → Prop} (ha : allStr l = true) (q : Q (.c (.bool (strsIn x l))) σ) : V2 X A env E (compareOp .In) (.s x) (.t l) m σ Q := fun s va vb ra rb I => by
  obtain ⟨u, rfl⟩ := ra.str'
  obtain ⟨b, ws, rfl, hb, hr⟩ := rb.tup'
  obtain ⟨i1, i2⟩ := strs_any x ha hr
  refine SeqAt.in_tupleAt (fun v => vStr v == x) hb (fun y hy => ?_) ?_
  · obtain ⟨z, t, rfl⟩ := i2 y (by simpa using hy)
    exact SeqAt.EqAt.str_str z t x u
  · have : ws.toArray.any (fun v => vStr v == x) = strsIn x l := by rw [← i1]; simp
    rw [this]
    exact PE.here Rep.val I q
theorem v2_notinL {a : Addr} {l : List AV} {x : Str} {Q : AV → Store → Prop} (hσ : σ a = some (.lst l)) (ha : allStr l = true) (q : Q (.c (.bool (!strsIn x l))) σ) : V2 X A env E (compareOp .NotIn) (.s x) (.c (.ref a)) m σ Q := fun s va vb ra rb I => by
  obtain ⟨u, rfl⟩ := ra.str'
  cases rb.val'
  obtain ⟨ws, n, hg, hr⟩ := I.g.sim a _ hσ
  have hL : s.heap.IsList a ws.toArray := ⟨_, hg, rfl, n, rfl⟩
  obtain ⟨i1, i2⟩ := strs_any x ha hr
  refine SeqAt.notIn_listAt (fun v => vStr v == x) hL (fun y hy => ?_) ?_
  · obtain ⟨z, t, rfl⟩ := i2 y (by simpa using hy)
    exact SeqAt.EqAt.str_str z t x u
  · have : ws.toArray.any (fun v => vStr v == x) = strsIn x l := by rw [← i1]; simp
    rw [this]
    exact PE.here Rep.val I q
noncomputable def vBool : Value → Bool
  | .bool b => b
  | _ => false
theorem bools_any {h : Heap} : ∀ {l : List Bool} {vs : List Value}, RepL h (l.map fun b => .c (.bool b)) vs → vs = l.map .bool
  | [], vs, r => by simpa [RepL] using r
  | b :: l, vs, r => by
    simp only [List.map_cons, RepL] at r
    obtain ⟨v, r', rfl, h1, h2⟩ := r
    cases h1.val'
    simp [bools_any h2]
theorem v2_inB {a : Addr} {l : List Bool} {Q : AV → Store → Prop} (hσ : σ a = some (.lst (l.map fun b => .c (.bool b)))) (q : Q (.c (.bool (l.any id))) σ) : V2 X A env E (compareOp .In) (.c (.bool true)) (.c (.ref a)) m σ Q := fun s va vb ra rb I => by
  cases ra.val'; cases rb.val'
  obtain ⟨ws, n, hg, hr⟩ := I.g.sim a _ hσ
  have hL : s.heap.IsList a ws.toArray := ⟨_, hg, rfl, n, rfl⟩
  have := bools_any hr
  subst this
  refine SeqAt.in_listAt (fun v => vBool v == true) hL (fun y hy => ?_) ?_
  · obtain ⟨z, _, rfl⟩ := List.mem_map.mp (List.mem_toArray.mp hy)
    exact SeqAt.EqAt.bool_bool z true
  · have : (l.map Value.bool).toArray.any (fun v => vBool v == true) = l.any id := by
      simp [List.any_map]
      congr 1
    rw [this]
    exact PE.here Rep.val I q
end
end Mine
end
section
namespace Mine
section
variable {X : Cx} {A : Around} {env env₀ : Env} {E : Value → Shared → Prop} {m m₀ mi : Vars} {σ σ₀ σ₁ σ' : Store} {K : Frag} {p : Program} {loose : List Str} {mg mb : Str → Option Value}
theorem v2_fdiv (ok : X.Ok A) {a b : Int} {Q : AV → Store → Prop} (hb : b ≠ 0) (hs : b.natAbs < 1073741824) (q : Q (.i (a.fdiv b)) σ) : V2 X A env E (binaryOp .FloorDiv) (.i a) (.i b) m σ Q :=
  v2_int .FloorDiv Int.fdiv ok q fun _ _ _ _ h => floordiv_int hb h (.inl (PyProof.noPylong_small hs))
/-- a tree that the program's part holds -/
noncomputable def repIn (K : Frag) : Nat → AV → Value → Bool
  | _, .c w, v => v == w
  | _, .i x, .int y _ => x == y
  | _, .s x, .str y _ => x == y
  | n + 1, .t l, .ref a => match K.lookup a with
    | some ⟨.type "tuple", _, .seq vs _, _⟩ => l.length == vs.size && (l.zip vs.toList).all fun q => repIn K n q.1 q.2
    | _ => false
  | _, _, _ => false
theorem repL_zip {h : Heap} {f : AV → Value → Bool} (hf : ∀ d v, f d v = true → Rep h d v) : ∀ {l : List AV} {vs : List Value}, l.length = vs.length → ((l.zip vs).all fun q => f q.1 q.2) = true → RepL h l vs
  | [], [], _, _ => .nil
  | [], _ :: _, e, _ => by simp at e
  | _ :: _, [], e, _ => by simp at e
  | d :: l, v :: vs, e, h => by
    simp only [List.zip_cons_cons, List.all_cons, Bool.and_eq_true] at h
    exact .cons (hf d v h.1) (repL_zip hf (by simpa using e) h.2)
theorem repIn_ok {K : Frag} {h : Heap} (hk : K.In h) : ∀ {n : Nat} {d : AV} {v : Value}, repIn K n d v = true → Rep h d v
  | n, .c w, v, e => by
    have : v = w := by unfold repIn at e; simpa using e
    subst this; exact Rep.val
  | n, .i x, v, e => by
    cases v <;> first | (simp [repIn] at e; done) | skip
    rename_i y t
    have : x = y := by simpa [repIn] using e
    subst this; exact Rep.int
  | n, .s x, v, e => by
    cases v <;> first | (simp [repIn] at e; done) | skip
    rename_i y t
    have : x = y := by simpa [repIn] using e
    subst this; exact Rep.str
  | 0, .t l, v, e => by cases v <;> simp [repIn] at e
  | n + 1, .t l, v, e => by
    cases v <;> first | (simp [repIn] at e; done) | skip
    rename_i a
    unfold repIn at e
    split at e
    · rename_i o dd vs nn sl ho
      simp only [Bool.and_eq_true, beq_iff_eq] at e
      exact Rep.tup (vs := vs.toList) ⟨_, hk _ _ ho, rfl, nn, by simp⟩ (repL_zip (fun d v q => repIn_ok hk q) (by simpa using e.1) e.2)
    · cases e
theorem ev_glob (P : Pg X A K p loose mg mb) {x : Str} {pos : Pos} {d : AV} {v : Value} {n : Nat} {Q : AV → Store → Prop} (e : nsIn K mainGlobals x = some (some v)) (hr : repIn K n d v = true) (hk : env.kindOf x = some .globalImplicit) (q : Q d σ)
    (hd : (x == ("__debug__" : Str)) = false := by decide) : ev X A env E (.Name x pos) m σ Q := fun s I =>
  Calls.Name_function_global I.f.e.fn hk (Calls.loadGlobal_global (by rw [I.f.e.gl]; exact P.t.g.keeps I.g.top) (mg_of P.k P.t.g e) (PE.here ((repIn_ok P.k hr).grow fun _ _ t => isTup_of_get t (I.g.top _)) I q)) hd
-- a text's end
noncomputable def cutV (x : Str) (k : Int) : Str := if (slicePicked x (some (k, 0)) none none).length == x.length then x else ⟨((slicePicked x (some (k, 0)) none none).filterMap (x.cps[·]?)).toArray⟩
-- an object enters the store late
theorem Inv.enter (ok : X.Ok A) {s s' : Shared} {D : Addr} {o : AO} (I : Inv X A env m σ s) (S : Stp X.own (frs A) σ σ s s') (I' : Inv X A env m₀ σ s') (fD : s.heap.get? D = none) (ho : ObjIs X.prog X.w s'.heap D o) :
    Inv X A env m₀ (σ.set D o) s' ∧ Stp X.own (frs A) σ (σ.set D o) s s' := by
  have f := I.fresh fD
  have S' : Stp X.own (frs A) σ (σ.set D o) s s' := ⟨S.keep, S.outk, fun b hb => by
    by_cases q : b = D
    · subst q; exact .inr fD
    · rw [Store.set_ne q] at hb; exact .inl hb, S.mono, S.tup, S.same⟩
  refine ⟨I.step0 ok S' (fun a o' e => ?_) (fun b hb => ?_) (fun b hb => (I'.f.own b hb).2.2) I'.f.loc I'.f.cel, S'⟩
  · by_cases q : a = D
    · subst q; rw [Store.set_self] at e; cases e; exact ho
    · rw [Store.set_ne q] at e; exact I'.g.sim a o' e
  · by_cases q : b = D
    · subst q; exact .inr f.2.1
    · rw [Store.set_ne q] at hb; exact .inl hb
/-- a dict's keys, sorted -/
theorem vl_sorted (ok : X.Ok A) (hm : X.hT.get? sysModules ≠ none) (hh : A.handled = none) {d : Addr} {l : List (Str × AV)} {Q : AV → Store → Prop} (hσ : σ d = some (.dct l)) (hz : l.length < 64)
    (q : ∀ (a : Addr) (ks : List Str), σ a = none → ks.Perm (l.map (·.1)) → Q (.c (.ref a)) (σ.set a (.lst (ks.map .s)))) : VL X A env E (fun vs => call (.builtin "sorted") vs) [.c (.ref d)] m σ Q := fun s vs r I => by
  simp only [RepL] at r
  obtain ⟨v, r', rfl, r1, rfl⟩ := r
  cases r1.val'
  obtain ⟨kvs, hd, hk, hr⟩ := I.g.sim d _ hσ
  have hlen : kvs.length = l.length := by simpa using congrArg List.length hk
  obtain ⟨ep, hat⟩ := hd.dictAt
  obtain ⟨mc, F, N, hmc⟩ := I.fr_news
  refine kdu_sorted (kdl_dict (knd := strKind X.prog X.w) (kvs := kvs) (ep := ep) (not_modules I hm (by rw [hσ]; simp))) hh F N hat (by rw [sizeLine_eq]; omega) fun D h' tk vs F' N' lo hl hv => ?_
  have hS : ∃ ss, StrsAre vs ss ∧ ss = kvs.map (·.1) := by
    refine ⟨_, ?_, rfl⟩
    clear hat hd hk hr F N F' N' hlen
    induction vs generalizing kvs with
    | nil => have : kvs = [] := by simpa using hl.symm
             subst this; exact .nil
    | cons v vs ih =>
      cases kvs with
      | nil => simp at hl
      | cons q kvs =>
        obtain ⟨k, x, hx, hkk⟩ := hv 0 v rfl
        have hx' : q = (k, x) := by simpa using hx
        subst hx'
        rw [strIs] at hkk
        cases v <;> first | (simp [Value.isStr] at hkk; done) | skip
        rename_i y t
        have : y = k := by simpa [Value.isStr] using hkk
        subst this
        exact .cons y t (ih kvs (by simpa using hl) fun j v hj => by simpa using hv (j + 1) v (by simpa using hj))
  obtain ⟨ss, hS, hss⟩ := hS
  have hoL : h'.get? D = some (seqObj "list" vs.toArray 0) := (N' _ (List.mem_cons_self ..)).1
  have hDL : D ≠ env.locals := (N' _ (List.mem_cons_self ..)).2.1
  have hDT : X.hT.get? D = none := (N' _ (List.mem_cons_self ..)).2.2
  refine wpAny_call_entry slot_list_sort ⟨_, hoL, rfl⟩ entry_list_sort (list_sort_treeK strKind_oneLt hoL hS.keysOf (fun v₁ v₂ rest e => keyKind_strs (by rw [← e]; exact hS)) (by omega) fun st' hp hs => ⟨_, rfl, ?_⟩) (args_list_sort _)
  obtain ⟨ss', h1, h2, h3⟩ := sorted_out_str hS hp hs
  obtain ⟨e, he⟩ := sortedHeap_at (out := (arrOf st').map (·.2)) hoL
  have hD : s.heap.get? D = none := by
    cases q : s.heap.get? D with
    | none => rfl
    | some o => exact absurd (lo (D, o) (allNews_mem.mpr ⟨q, hDL, hDT⟩)) (Nat.lt_irrefl _)
  obtain ⟨I1, S1, k1⟩ := I.of_news (tk := tk) (new := [(D, listOf vs.toArray 0)]) ok hmc F' N'
  have T : Tw [D] { s with heap := h', toks := tk } { s with heap := sortedHeap h' D vs ((arrOf st').map (·.2)), toks := tk } := by
    refine ⟨fun b o eb hb => ?_, fun b hb its t => ?_, ⟨_, _, rfl⟩⟩
    · have hne : b ≠ D := fun z => hb (by simp [z])
      exact (sortedHeap_old hne (Heap.lt_size eb)).trans eb
    · have : b = D := by simpa using hb
      subst this
      obtain ⟨o', e1, e2, _⟩ := t
      rw [hoL] at e1; cases e1; simp [seqObj] at e2
  obtain ⟨I2, S2⟩ := tw ok I S1 I1 T (fun b hb => by
    have : b = D := by simpa using hb
    subst this; exact hD) (fun b hb => by
    have : b = D := by simpa using hb
    subst this; exact (I.fresh hD).1)
  have hrep : RepL (sortedHeap h' D vs ((arrOf st').map (·.2))) (ss'.map .s) ((arrOf st').map (·.2)).toList := by
    clear hp hs he T I2 S2 h2 h3
    generalize ((arrOf st').map (·.2)).toList = out at h1
    generalize sortedHeap h' D vs ((arrOf st').map (·.2)) = hh'
    induction h1 with
    | nil => exact .nil
    | cons y t _ ih => exact .cons Rep.str ih
  have ob : ObjIs X.prog X.w (sortedHeap h' D vs ((arrOf st').map (·.2))) D (.lst (ss'.map .s)) := ⟨_, e, by rw [he], hrep⟩
  obtain ⟨I3, S3⟩ := Inv.enter ok I S2 I2 hD ob
  exact ⟨_, _, Rep.val, I3, S3, q D ss' (I.fresh hD).1 (by rw [← hk, ← hss]; exact h2)⟩
/-- a loop over a dict's keys -/
theorem x_for_keys (ok : X.Ok A) (hm : X.hT.get? sysModules ≠ none) (hh : A.handled = none) {tg iter : Expr} {body orelse : List Stmt} {pos : Pos} {Q : AF → Vars → Store → Prop}
    (h : ev X A env E iter m σ fun d σ₁ => ∃ a l, d = .c (.ref a) ∧ σ₁ a = some (.dct l) ∧ ∃ J, J 0 m (σ₁.del a) ∧ Turns X A env E tg body orelse (l.map fun q => .s q.1) (fun σ => σ a = none) (fun fl m' σ' => Q fl m' (σ'.set a (.dct l))) J)
    (hs : ∀ x, foldedSetIterable iter env x = pure x := by intro _; rfl) : x1 X A env E (.For tg iter body orelse pos) m σ Q :=
  x_for_aside ok (fun s I => wpAny_mono (h s I) (by
    rintro v s₁ ⟨d, σ₁, r, i, t, a, l, hd, hσ, J, j0, W⟩
    subst hd; cases r.val'
    obtain ⟨kvs, hD, hk, hr⟩ := i.g.sim a _ hσ
    obtain ⟨ep, hat⟩ := hD.dictAt
    refine ⟨σ₁, a, _, i, t, hσ, ?_⟩
    refine wpAny_pyIter_dict (knd := strKind X.prog X.w) (not_modules i hm (by rw [hσ]; simp)) hat ?_
    have kp : ∀ b o, s₁.heap.get? b = some o → (s₁.heap.push { cls := .type "dict_keyiterator", data := .fields #[.ref a, .int 0 0, .int kvs.length 0, .int ep 0] }).get? b = some o := fun _ _ e => Heap.get?_push_of_some _ e
    have e1 : (kvs.map fun q => AV.s q.1) = l.map fun q => AV.s q.1 := by
      have := congrArg (List.map AV.s) hk
      rw [List.map_map, List.map_map] at this
      exact this
    refine ⟨_, _, [s₁.heap.objs.size], [a], _, J, itr_keys (kvs := kvs) (ep := ep) hh, ⟨⟨_, Heap.get?_push_size _ rfl, rfl, rfl⟩, hat.push _⟩, Tw.of_keeps (tk := s₁.toks) kp, fun b hb => ?_, fun b hb => ?_, j0, by rw [e1]; exact W⟩
    · have : b = s₁.heap.objs.size := by simpa using hb
      subst this; exact none_at_top _
    · have : b = a := by simpa using hb
      subst this
      refine ⟨(fun z => by rw [(i.f.own _ z).1] at hσ; cases hσ), fun hf => ?_⟩
      obtain ⟨outer, f1, f2, f3⟩ := i.fr.fr
      obtain ⟨out', k1, en, k2, k3⟩ := hf
      rw [f1] at k1; cases k1
      have := f3 en k2 _ k3
      rw [hσ] at this; cases this) fun _ _ e => e) hs
end
end Mine
end
section
namespace Mine
/-- an own class below Exception -/
noncomputable def excCd : Data → Option ClassData
  | .cls cd => some cd
  | _ => none
noncomputable def excShape (K : Frag) (C : Addr) : Bool := ((K.lookup C).bind fun o => (excCd o.data).map fun cd => o.cls == .type "type" && cd.mro == .ref C :: cd.mro.tail && o.slots.size == 6 && o.slots[4]? == some (some (.builtin "Exception.__new__")) && !cd.hasDel
    && cd.mro.tail.contains (.type "Exception") && cd.mro.tail.contains (.type "BaseException") && !cd.mro.tail.contains (.type "AttributeError") && !cd.mro.tail.contains (.type "NameError")) == some true
  && specialIn K (.ref C) "__call__" == some (some (.builtin "type.__call__")) && instIn K (.ref C) (.type "type") == some true
structure ExcAt (M : Model) (h : Heap) (C : Addr) (bm : List Value) : Prop where
  obj : ∃ nm q N bs hdct sn sub ab col dd k0 k1 k2 k3 k5, h.get? C = some (excClassObj nm q C N bs bm hdct sn sub ab col dd k0 k1 k2 k3 k5 "Exception.__new__")
  exc : bm.contains (.type "Exception") = true
  base : bm.contains (.type "BaseException") = true
  noA : bm.contains (.type "AttributeError") = false
  noN : bm.contains (.type "NameError") = false
  call : Looks M h (specialOf (.ref C) "__call__") (some (.builtin "type.__call__"))
  typ : Looks M h (isInstance (.ref C) (.type "type")) true
theorem slots6 {sl : Array (Option Value)} {v : Option Value} (h : sl.size = 6) (e : sl[4]? = some v) : ∃ k0 k1 k2 k3 k5, sl = #[k0, k1, k2, k3, v, k5] := by
  obtain ⟨l⟩ := sl
  rcases l with _ | ⟨k0, _ | ⟨k1, _ | ⟨k2, _ | ⟨k3, _ | ⟨k4, _ | ⟨k5, _ | ⟨k6, l⟩⟩⟩⟩⟩⟩⟩ <;> simp at h
  simp at e
  subst e
  exact ⟨k0, k1, k2, k3, k5, rfl⟩
theorem excCd_is {d : Data} {cd : ClassData} (h : excCd d = some cd) : d = .cls cd := by
  cases d <;> first | (cases h; rfl) | cases h
theorem exc_of {K : Frag} {M : Model} {h : Heap} (X : K.In h) {C : Addr} (e : excShape K C = true) : ∃ bm, ExcAt M h C bm := by
  unfold excShape at e
  simp only [Bool.and_eq_true, beq_iff_eq] at e
  obtain ⟨⟨e, e1⟩, e2⟩ := e
  obtain ⟨o, ho, e⟩ := Option.bind_eq_some_iff.mp e
  obtain ⟨cd, hcd, e⟩ := Option.map_eq_some_iff.mp e
  simp only [Bool.and_eq_true, beq_iff_eq, Bool.not_eq_true'] at e
  obtain ⟨⟨⟨⟨⟨⟨⟨⟨e3, e4⟩, e5⟩, e6⟩, hdel⟩, h1⟩, h2⟩, h3⟩, h4⟩ := e
  obtain ⟨k0, k1, k2, k3, k5, hsl⟩ := slots6 e5 e6
  obtain ⟨oc, dd, da, sl⟩ := o
  have hda := excCd_is hcd
  dsimp only at e3 hda hsl
  subst e3 hda hsl
  obtain ⟨nm, bs, mro, ns, qn, hd, sn, sub, ab, col, del⟩ := cd
  dsimp only at e4 hdel h1 h2 h3 h4
  subst hdel
  generalize mro.tail = bm at *
  subst e4
  exact ⟨bm, ⟨nm, qn, ns, bs, hd, sn, sub, ab, col, dd, k0, k1, k2, k3, k5, X _ _ ho⟩, h1, h2, h3, h4, looks_specialIn X e1, looks_instIn X e2⟩
section
variable {prog : Program} {w : World} {A : Around} {E : Value → Shared → Prop} {R : Result → Shared → Prop} {h : Heap} {g : Array GenState} {d : Drawn} {t : Nat} {os : OsState} {C : Addr} {bm : List Value}
theorem exc_new (Y : ExcAt (model prog w) h C bm) {v : Value}
    (hq : R (.ok (.ret (.ref (h.objs.size + 1)))) ⟨(h.push { cls := .type "tuple", data := .seq [v].toArray }).push
      { cls := .ref C, data := .fields #[.ref h.objs.size, .none, .none, .none, .bool false, .none] }, g, d, t, os⟩) :
    codeAny (model prog w) A (.call (.builtin "Exception.__new__") ⟨[.ref C, v], []⟩) R ⟨h, g, d, t, os⟩ := by
  have Fn := PySem.F.excBase_Exception
  obtain ⟨⟨nm, q, N, bs, hdct, sn, sub, ab, col, dd, k0, k1, k2, k3, k5, hC⟩, h1, h2, h3, h4, call, typ⟩ := Y
  have hcB : (Value.ref C :: bm).contains (.type "Exception") = true := by rw [List.contains_cons, h1, Bool.or_true]
  have hcA : (Value.ref C :: bm).contains (.type "AttributeError") = false := by rw [List.contains_cons, h3]; rfl
  have hcN : (Value.ref C :: bm).contains (.type "NameError") = false := by rw [List.contains_cons, h4]; rfl
  refine codeAny_call_builtin_code (Code.quiet_builtin _ Fn.quiet) ?_
  have hstar := Fn.noStar
  simp only [checkBuiltinCall, Fn.newKind, Fn.newSplit, Fn.newRow]
  repeat (first | refine wpAny_loadPart_at hC ?_ | (refine wpAny_isSubtype_exc hC ?_; rw [hcB]) | refine wpAny_staticBase_exc hC ?_ | refine wpAny_madeBy_exc hC ?_ | simp only [bne_self_eq_false, Bool.false_eq_true, if_false] | wp_step)
  have hends := Fn.ends
  refine PySem.codeAny_builtinAt Fn.entry ?_
  unfold Builtin.«BaseException.__new__»
  refine PySem.wpAt_bind ?_
  show PySem.wpAt _ _ _ (stack >>= _) _ _ _
  refine PySem.wpAt_bind (PySem.wpAt_stack fun p below => PySem.wpAt_of_wpAny ?_)
  wp_walk
  refine PySem.wpAt_of_wpAny ?_
  rw [Fn.owner]
  repeat (first | with_reducible refine wpAny_madeHere_exc Fn.canon hC ?_ | with_reducible refine wpAny_loadPart_at hC ?_ | (with_reducible refine wpAny_isSubtype_exc hC ?_; first | rw [hcB] | rw [hcA] | rw [hcN]) | wp_step)
  show R _ _
  rw [Heap.size_push]
  exact hq
/-- an own exception with an own def for its start is made -/
theorem exc_make {K : Frag} (X : K.In h) (Y : ExcAt (model prog w) h C bm) {fI : Addr} {v : Value} (hi : findIn K (.ref C) "__init__" = some (some (.ref fI))) (hf : isFn K (.ref fI) = true)
    (hq : codeAny (model prog w) (A.under (.builtin "type.__call__" ⟨[.ref C, v], []⟩)) (.call (.ref fI) ⟨[.ref (h.objs.size + 1), v], []⟩) (InitBack (h.objs.size + 1) R) ⟨(h.push { cls := .type "tuple", data := .seq [v].toArray }).push
      { cls := .ref C, data := .fields #[.ref h.objs.size, .none, .none, .none, .bool false, .none] }, g, d, t, os⟩) :
    codeAny (model prog w) A (.call (.ref C) ⟨[v], []⟩) R ⟨h, g, d, t, os⟩ := by
  have Y' := Y
  obtain ⟨⟨nm, q, N, bs, hdct, sn, sub, ab, col, dd, k0, k1, k2, k3, k5, hC⟩, h1, h2, h3, h4, call, typ⟩ := Y
  refine codeAny_of_tree ?_
  show wpAny _ _ (callAny (.ref C) _) _ _ _
  refine nd_load hC ?_
  show wpAny _ _ (callAny.viaDunder (.ref C) _) _ _ _
  unfold callAny.viaDunder
  refine wpAny_bind (call.at ?_)
  dsimp only
  rw [tc_bind]
  refine wpAny_bind (wpAny_pure (wpAny_bind (wpAny_pure ?_)))
  refine wpAny_pure (a := Fin.again (.call (.builtin "type.__call__") ⟨[.ref C, v], []⟩)) (And.intro rfl ?_)
  refine codeAny_call_builtin_at (Code.quiet_builtin _ (by decide +kernel)) entry_typeCall (check_slot tc_kind tc_split typ (tc_args _ _ _) ?_)
  unfold Builtin.«type.__call__»
  repeat (first | with_reducible refine wpAny_loadPart_at hC ?_ | with_reducible refine wpAny_madeBy_exc hC ?_ | with_reducible refine wpAny_call ?_ | wp_step)
  refine exc_new Y' ?_
  show wpAny _ _ _ _ _ _
  have k : ∀ b o, h.get? b = some o → ((h.push { cls := .type "tuple", data := .seq [v].toArray }).push { cls := .ref C, data := .fields #[.ref h.objs.size, .none, .none, .none, .bool false, .none] }).get? b = some o := fun b o e => Heap.get?_push_of_some _ (Heap.get?_push_of_some _ e)
  have hC₁ := k _ _ hC
  have hget : ((h.push { cls := .type "tuple", data := .seq [v].toArray }).push
      { cls := .ref C, data := .fields #[.ref h.objs.size, .none, .none, .none, .bool false, .none] }).get? (h.objs.size + 1) = some
      { cls := .ref C, data := .fields #[.ref h.objs.size, .none, .none, .none, .bool false, .none] } := by heap_get
  have hcC : (Value.ref C :: bm).contains (.ref C) = true := by simp
  have t1 : Looks (model prog w) ((h.push { cls := .type "tuple", data := .seq [v].toArray }).push { cls := .ref C, data := .fields #[.ref h.objs.size, .none, .none, .none, .bool false, .none] }) (typeOf (.ref (h.objs.size + 1))) (.ref C) := (Looks.ld hget).andThen .now
  have i1 := (looks_findIn (M := model prog w) X hi).keeps k
  have b1 := (bind_fn (M := model prog w) X (.ref (h.objs.size + 1)) (beq_iff_eq.mp hf)).keeps k
  have s1 : Looks (model prog w) ((h.push { cls := .type "tuple", data := .seq [v].toArray }).push { cls := .ref C, data := .fields #[.ref h.objs.size, .none, .none, .none, .bool false, .none] }) (isSubtype (.ref C) (.ref C)) true := by
    intro A Q E s k q
    obtain ⟨hh, gg, ddd, tt, oos⟩ := s
    refine wpAny_isSubtype_exc (k _ _ hC₁) ?_
    rw [hcC]; exact q
  unfold isInstance callSpecial? specialOf
  repeat (first | with_reducible refine wpAny_call ?_ | lk)
  refine codeAny_mono hq fun r s' z => ?_
  rcases r with e | (v | _ | _ | _) <;> first | exact z | exact z.elim | skip
  obtain ⟨rfl, z⟩ := z
  exact wpAny_pure (wpAny_pure z)
/-- its start over -/
theorem exc_init (Y : ExcAt (model prog w) h C bm) {e : Addr} {dd : Option Addr} {t0 : Addr} {v : Value} {Q : Value → Shared → Prop} (he : h.get? e = some { cls := .ref C, dict := dd, data := .fields #[.ref t0, .none, .none, .none, .bool false, .none] })
    (q : Q .none ⟨(h.push { cls := .type "tuple", data := .seq [v].toArray }).update e (Obj.mapFields (·.setIfInBounds 0 (.ref h.objs.size))), g, d, t, os⟩) :
    wpAny (model prog w) A (call (.builtin "Exception.__init__") [.ref e, v]) Q E ⟨h, g, d, t, os⟩ := by
  have F := PySem.F.excBase_Exception
  obtain ⟨⟨nm, qn, N, bs, hdct, sn, sub, ab, col, dd, k0, k1, k2, k3, k5, hC⟩, h1, h2, h3, h4, call, typ⟩ := Y
  have hcB : (Value.ref C :: bm).contains (.type "Exception") = true := by rw [List.contains_cons, h1, Bool.or_true]
  refine wpAny_call (codeAny_call_builtin F.init.plain F.initEntry ?_)
  have hshort := F.noStar
  simp only [checkBuiltinCall, F.initKind, F.initSplit, F.initRow]
  repeat (first | (with_reducible refine wpAny_loadPart_at he ?_) | with_reducible refine wpAny_loadPart_at hC ?_ | (with_reducible refine wpAny_isSubtype_exc hC ?_; rw [hcB]) | wp_step)
  wp_walk
  all_goals exact q
end
end Mine
end
section
namespace Mine
theorem UpToSlots.grow {h h' : Heap} (x : h.UpToSlots h') : Grow h h' := fun a items ⟨o, ho, hc, n, hd⟩ => by
  obtain ⟨sl, e⟩ := x a o ho fun vs q => by rw [hd] at q; cases q
  exact ⟨_, e, hc, n, hd⟩
/-- an exception of an own class on its way out of a call -/
noncomputable def Thrown (B : Bs) (A : Around) (C : Addr) (P : Store → Prop) (σ : Store) (s : Shared) (e : Value) (s' : Shared) : Prop :=
  ∃ σ' a base a0 outer, e = .ref a ∧ A.frames = some outer ∧ Heap.FlyingW base outer a (.ref C) a0 s'.heap ∧ P σ' ∧
    ∀ h', base.StaysIn h' → s'.heap.UpToSlots h' → GI B σ' { s' with heap := h' } ∧ Stp (fun _ => False) (frs A) σ σ' s { s' with heap := h' }
theorem frames_data {h base : Heap} : ∀ {l : List Env}, h.FunFrames base l → ∀ e ∈ l, ∀ L, e.frame = some L → base.get? L = none ∧ ∃ o, h.get? L = some o ∧ ∀ vs, o.data ≠ .fields vs
  | [], _, _, he, _, _ => nomatch he
  | x :: r, ⟨hk, ⟨L, o, hf, hn, ho, hd⟩, hr⟩, e, he, L', hL' => by
    rcases List.mem_cons.mp he with rfl | he
    · rw [hf] at hL'; cases hL'; exact ⟨hn, o, ho, hd⟩
    · exact frames_data hr e he L' hL'
theorem frames_hide {h base : Heap} {as : List Addr} : ∀ {l : List Env}, h.FunFrames base l → (∀ e ∈ l, ∀ L, e.frame = some L → L ∈ as) → h.FunFrames (hideAll h as) l
  | [], _, _ => trivial
  | x :: r, ⟨hk, ⟨L, o, hf, hn, ho, hd⟩, hr⟩, hm => ⟨hk, ⟨L, o, hf, hideAll_none as (hm x (List.mem_cons_self ..) L hf), ho, hd⟩, frames_hide hr fun e he => hm e (List.mem_cons_of_mem _ he)⟩
section
variable {B : Bs} {A : Around} {σ : Store} {scope : Scope} {L : Addr} {env : Env} {C : Addr} {P : Store → Prop} {s s₁ : Shared} {E : Value → Shared → Prop}
theorem throw_out (En : Enter A env (ownOf scope L) σ s s₁) (hloc : env.frame = some env.locals) {m : Vars} {σr : Store} {sr : Shared} {e : Addr} {dd : Option Addr} (I : Inv (ghX B scope L (A.deeper env) σ s₁) (A.deeper env) env m σr sr)
    (he : σr e = some (.exc C dd)) (hσ : σ e = none) (hP : P (σr.del e)) : LV B.prog B.w (A.deeper env) env (Thrown B A C P σ s) (.ref e) sr := by
  obtain ⟨L', outer, hf, hown, hA, hA'⟩ := En.frame
  obtain ⟨t, hget⟩ := I.g.sim e _ he
  obtain ⟨outer', F1, F2, F3⟩ := I.fr.fr
  rw [hA'] at F1; cases F1
  have al : ∀ b o, s.heap.get? b = some o → s₁.heap.get? b = some o := En.keep
  have gh : Stp (ownOf scope L) (frs (A.deeper env)) σ σr s₁ sr := I.gh
  have fe : s.heap.get? e = none := by
    rcases gh.dom e (by rw [he]; simp) with z | z
    · exact absurd hσ z
    · cases q : s.heap.get? e with
      | none => rfl
      | some o => have := al e o q; rw [z] at this; cases this
  let as := e :: (env :: outer).filterMap (·.frame)
  have hin : ∀ x ∈ env :: outer, ∀ M, x.frame = some M → M ∈ as := fun x hx M hM => List.mem_cons_of_mem _ (List.mem_filterMap.mpr ⟨x, hx, hM⟩)
  have hout : ∀ b, b ∈ as → b = e ∨ frs (A.deeper env) b := fun b hb => by
    rcases List.mem_cons.mp hb with z | z
    · exact .inl z
    · obtain ⟨x, hx, hM⟩ := List.mem_filterMap.mp z
      exact .inr ⟨_, hA', x, hx, hM⟩
  refine wpAny_leaving_firstW (base := hideAll sr.heap as) (a0 := .ref t) hA' (frames_hide F2 hin) hf hget (fun b o h => of_hideAll as h) (hideAll_none as (List.mem_cons_self ..)) rfl rfl rfl fun h' hL => ?_
  obtain ⟨k1, ⟨_, _, k2⟩, k3, k4⟩ := hL
  have st : ∀ b o, sr.heap.get? b = some o → b ≠ e → ¬ frs (A.deeper env) b → h'.get? b = some o := fun b o h h1 h2 => k1 b o (hideAll_get as h fun hm => (hout b hm).elim h1 h2)
  refine ⟨σr.del e, e, hideAll sr.heap as, .ref t, outer, rfl, hA, ⟨k1, hideAll_none as (List.mem_cons_self ..), k2, k3⟩, hP, fun h'' b1 b2 => ?_⟩
  have st2 : ∀ b o, sr.heap.get? b = some o → b ≠ e → ¬ frs (A.deeper env) b → h''.get? b = some o := fun b o h h1 h2 => b1 b o (hideAll_get as h fun hm => (hout b hm).elim h1 h2)
  have up : sr.heap.UpToSlots h'' := Heap.UpToSlots.trans k4 b2
  have nfr : ∀ b, frs (A.deeper env) b → B.hT.get? b = none ∧ σr b = none ∧ ∃ o, sr.heap.get? b = some o ∧ ∀ vs, o.data ≠ .fields vs := fun b ⟨out, q1, x, q2, q3⟩ => by
    rw [hA'] at q1; cases q1
    obtain ⟨z1, z2⟩ := frames_data F2 x q2 b q3
    exact ⟨z1, F3 x q2 b q3, z2⟩
  have hdel : ∀ b o, (σr.del e) b = some o → b ≠ e ∧ σr b = some o := fun b o h => by
    unfold Store.del at h
    split at h
    · cases h
    · rename_i q; exact ⟨q, h⟩
  have hdel' : ∀ b, (σr.del e) b ≠ none → σr b ≠ none := fun b h => by
    obtain ⟨o, ho⟩ := Option.ne_none_iff_exists'.mp h
    rw [(hdel b o ho).2]; simp
  refine ⟨⟨fun b o h => ?_, fun b h => I.g.off b (hdel' b h), ?_, fun b o h => ?_⟩, ⟨fun b o h hb _ hn => ?_, fun b o h hb _ hn => ?_, fun b h => ?_, fun b o h => ?_, fun a items x => ?_, ?_⟩⟩
  · refine st2 b o (I.g.top b o h) (fun z => ?_) fun z => ?_
    · subst z; have : B.hT.get? b = none := I.g.off _ (by rw [he]; simp)
      rw [this] at h; cases h
    · rw [(nfr b z).1] at h; cases h
  · obtain ⟨_, _, o, ho, hd⟩ := I.f.own _ I.f.e.ownL
    obtain ⟨sl, z⟩ := up _ o ho hd.fields
    exact ⟨_, _, I.f.e.top, z⟩
  · obtain ⟨h1, h2⟩ := hdel b o h
    exact (I.g.sim b o h2).of_get (UpToSlots.grow up) fun x hx => st2 b x hx h1 fun z => by rw [(nfr b z).2.1] at h2; cases h2
  · have nown : ¬ ownOf scope L b := fun z => by rw [En.fresh b z] at h; cases h
    have nf : ¬ frs (A.deeper env) b := fun z => by
      rcases (frs_deeper hA).mp z with z | z
      · rw [hf] at z; cases z; exact nown hown
      · exact hn z
    exact st2 b o (gh.keep b o (al b o h) hb nown nf) (fun z => by subst z; rw [fe] at h; cases h) nf
  · have nown : ¬ ownOf scope L b := fun z => by rw [En.fresh b z] at h; cases h
    have nf : frs (A.deeper env) b := (frs_deeper hA).mpr (.inr hn)
    obtain ⟨sl, z⟩ := gh.outk b o (al b o h) hb nown nf
    obtain ⟨_, _, o', ho', hd⟩ := nfr b nf
    rw [z] at ho'; cases ho'
    obtain ⟨sl', z'⟩ := up b _ z hd
    exact ⟨sl', z'⟩
  · rcases gh.dom b (hdel' b h) with z | z
    · exact .inl z
    · refine .inr ?_
      cases q : s.heap.get? b with
      | none => rfl
      | some o => have := al b o q; rw [z] at this; cases this
  · obtain ⟨o', ho'⟩ := gh.mono b o (al b o h)
    have hbe : b ≠ e := fun z => by subst z; rw [fe] at h; cases h
    by_cases hfr : frs (A.deeper env) b
    · obtain ⟨_, _, o2, q2, q3⟩ := nfr b hfr
      rw [ho'] at q2; cases q2
      obtain ⟨sl, z⟩ := up b _ ho' q3
      exact ⟨_, z⟩
    · exact ⟨o', st2 b o' ho' hbe hfr⟩
  · refine UpToSlots.grow up a items (gh.tup a items ?_)
    obtain ⟨o, ho, r⟩ := x
    exact ⟨o, al a o ho, r⟩
  · obtain ⟨h1, tk1, rfl⟩ := En.same
    obtain ⟨h2, tk2, rfl⟩ := gh.same
    exact ⟨h'', tk2, rfl⟩
/-- a call that may throw -/
noncomputable def CT (B : Bs) (A : Around) (C : Addr) (P : Store → Prop) (f : Value) (args : List AV) (σ : Store) (Q : AV → Store → Prop) : Prop :=
  ∀ s vs, RepL s.heap args vs → GI B σ s → Frs B A σ s → codeAny (model B.prog B.w) A (.call f ⟨vs, []⟩) (CR B A (Thrown B A C P σ s) σ Q s) s
theorem CT.enter {K : Frag} {p : Program} {loose : List Str} {mg mb : Str → Option Value} {n : Nat} (hk : K.In B.hT) (ht : TopRead p loose mg mb B.hT) (hr : Room A (n + 1))
    {f : Addr} {oc : Value} {od : Option Addr} {name qual : Str} {params : Arguments} {body : List Stmt} {scope : Scope} {dV kV doc pm cdv ct : Value} {an : Option Addr} {osl : Array (Option Value)} {names : List Str} {args : List AV} {Q : AV → Store → Prop} (extra : List AV) (xv : List Value)
    (ho : K.lookup f = some ⟨oc, od, .func (fnOf name qual params body scope dV kV doc pm an cdv ct), osl⟩) (hcd : codeIn K cdv qual = true)
    (hx : ∀ h, RepL h extra xv)
    (hb : ∀ s vs, vs.length = args.length → (∀ a o, K.lookup a = some o → s.heap.get? a = some o) → BindsTo s (fnOf name qual params body scope dV kV doc pm an cdv ct) ⟨vs, []⟩ (names.zip (vs ++ xv)))
    (hkind : names.all (fun x => scope.names.lookup x == some .local || scope.names.lookup x == some .cell) = true) (hfree : scope.names.all (fun x => x.2 != .free) = true)
    (hnd : ((cellsFrom 0 scope.names []).map (·.1)).Nodup)
    (h : ∀ L E' s₁, Room (A.deeper (fenv qual scope f cdv L)) n →
      (∀ m σr sr e dd, Inv (ghX B scope L (A.deeper (fenv qual scope f cdv L)) σ s₁) (A.deeper (fenv qual scope f cdv L)) (fenv qual scope f cdv L) m σr sr → σr e = some (.exc C dd) → σ e = none → P (σr.del e) →
        LE (ghX B scope L (A.deeper (fenv qual scope f cdv L)) σ s₁) (A.deeper (fenv qual scope f cdv L)) (fenv qual scope f cdv L) E' (.ref e) sr) →
      ST (ghX B scope L (A.deeper (fenv qual scope f cdv L)) σ s₁) (A.deeper (fenv qual scope f cdv L)) (fenv qual scope f cdv L) E' (execs body (fenv qual scope f cdv L)) (bindsA (names.zip (args ++ extra)) fun _ => none) σ fun fl _ σ' => match fl with
      | .ret d => Q d σ'
      | _ => Q (.c .none) σ')
    (hco : scope.isCoroutine = false := by rfl) (hgen : scope.isGenerator = false := by rfl) (hkf : scope.kind = .function := by rfl) : CT B A C P (.ref f) args σ Q :=
  enter_core (Er := Thrown B A C P σ) hk ht hr ho hcd hx hb hkind hfree hnd (fun L s s₁ R En I => wpAny_mono (h L _ s₁ R (fun m σr sr e dd I' he hσ hP => PassesOwn.leaving _ _ (throw_out En rfl I' he hσ hP)) s₁ I)
    (by rintro fl s'' ⟨afl, m', σ', fi, I', S', q⟩; exact ⟨afl, σ', fi, I'.g, S', q⟩) fun _ _ y => y) hco hgen hkf
end
section
variable {X : Cx} {A : Around} {env : Env} {E : Value → Shared → Prop} {m : Vars} {σ : Store} {K : Frag} {p : Program} {loose : List Str} {mg mb : Str → Option Value}
theorem CT.vl {C : Addr} {P : Store → Prop} {f : Value} {args : List AV} {Q : AV → Store → Prop} (ok : X.Ok A) (h : CT X.toBs A C P f args σ Q) (hE : ∀ s e s', Inv X A env m σ s → Thrown X.toBs A C P σ s e s' → E e s') : VL X A env E (fun l => call f l) args m σ Q := fun s vs r I =>
  wpAny_call (codeAny_mono (h s vs r I.g I.fr) fun r s' h => by
    rcases r with e | (_ | _ | _ | v)
    · exact hE s e s' I h
    · exact h
    · exact h
    · exact h
    · obtain ⟨d, σ', a, g, S, q⟩ := h
      obtain ⟨I', S'⟩ := I.outer ok g S
      exact ⟨d, σ', a, I', S', q⟩)
/-- an own exception is raised -/
theorem x_raise (Pk : Pg X A K p loose mg mb) (hh : A.handled = none) {C : Addr} (hs : excShape K C = true) {ex : Expr} {pos : Pos} {Q : AF → Vars → Store → Prop} {R : Addr → Store → Prop}
    (h : ev X A env E ex m σ fun d σ' => ∃ e dd, d = .c (.ref e) ∧ σ' e = some (.exc C dd) ∧ R e σ') (hE : ∀ s' σ' e dd, Inv X A env m σ' s' → σ' e = some (.exc C dd) → R e σ' → E (.ref e) s') :
    x1 X A env E (.Raise (some ex) none pos) m σ Q := fun s I => by
  rw [arm_exec_Raise]
  refine wpAny_bind (wpAny_standAt ?_)
  show wpAny _ _ (raiseStmt env (some (do let v ← eval ex env; standAt pos; pure v)) none) _ _ _
  unfold raiseStmt
  refine wpAny_bind (wpAny_bind (wpAny_mono (h s I) (fun v s₁ h₁ => wpAny_bind (wpAny_standAt (wpAny_pure ?_))) fun _ _ x => x))
  obtain ⟨d, σ', r, I', S', e, dd, hd, he, hR⟩ := h₁
  subst hd
  cases r.val'
  obtain ⟨bm, Y⟩ := exc_of (M := model X.prog X.w) (Pk.k.keeps I'.g.top) hs
  obtain ⟨⟨nm, q, N, bs, hdct, sn, sub, ab, col, dd', k0, k1, k2, k3, k5, hC⟩, h1, h2, h3, h4, call, typ⟩ := Y
  obtain ⟨t, hget⟩ := I'.g.sim e _ he
  have hcB : (Value.ref C :: bm).contains (.type "BaseException") = true := by rw [List.contains_cons, h2, Bool.or_true]
  have hfin := hE s₁ σ' e dd I' he hR
  obtain ⟨hp, g, dr, tk, os⟩ := s₁
  repeat (first | with_reducible refine wpAny_loadPart_at hget ?_ | with_reducible refine wpAny_loadPart_at hC ?_ | (with_reducible refine wpAny_isSubtype_exc hC ?_; rw [hcB]) | wp_step)
  exact wpAny_raiseNew_none hh hfin
end
end Mine
end
section
namespace Mine
theorem deeper_frames {A : Around} {env : Env} {outer : List Env} (h : (A.deeper env).frames = some outer) : ∃ o, outer = env :: o := by
  unfold Around.deeper at h
  cases q : A.frames with
  | none => rw [q] at h; cases h
  | some l => rw [q] at h; cases h; exact ⟨_, rfl⟩
section
variable {B : Bs} {A₀ : Around} {env : Env} {E : Value → Shared → Prop} {m : Vars} {σ : Store} {K : Frag} {p : Program} {loose : List Str} {mg mb : Str → Option Value} {scope : Scope} {L : Addr}
/-- a try whose body returns, or throws what the handler takes -/
theorem x_try (Pk : Pg (defX B scope L) (A₀.deeper env) K p loose mg mb) {C : Addr} {P : Store → Prop} (hs : excShape K C = true) {x : Str} {np p1 p2 p3 p4 : Pos} {kk : Nat} {body : List Stmt} {Q : AF → Vars → Store → Prop} (hf : env.frame = some env.locals)
    (ex : nsIn K mainGlobals x = some (some (.ref C))) (hkx : env.kindOf x = some .globalImplicit)
    (hbody : ∀ s₀ E₁, (∀ m' σ' s' e s'', Inv (ghX B scope L (A₀.deeper env) σ s₀) (A₀.deeper env) env m' σ' s' → Thrown B (A₀.deeper env) C P σ' s' e s'' → E₁ e s'') →
      xs (ghX B scope L (A₀.deeper env) σ s₀) (A₀.deeper env) env E₁ body m σ fun fl m' σ' => match fl with | .ret d => Q (.ret d) m' σ' | _ => False)
    (hq : ∀ m' σ', P σ' → Q (.ret (.c .none)) m' σ') (hd : (x == ("__debug__" : Str)) = false := by decide) :
    x1 (defX B scope L) (A₀.deeper env) env E (.Try body [.ExceptHandler (some (.Name x np)) none [.Return (some (.Constant .none kk p1)) p2] p3] [] [] p4) m σ Q := fun s I => by
  rw [arm_exec_Try]
  refine wpAny_bind (wpAny_standAt (wpAny_tryStmt_except ?_))
  have I0 : Inv (ghX B scope L (A₀.deeper env) σ s) (A₀.deeper env) env m σ s := ⟨I.g, ⟨⟨I.f.e.fn, I.f.e.gl, I.f.e.bi, I.f.e.top, I.f.e.ownL, I.f.e.ownC, I.f.e.celAt, I.f.e.apart⟩, I.f.own, I.f.loc, I.f.cel⟩, I.fr, .refl⟩
  refine wpAny_mono (hbody s (fun e s₁ => wpAny (model B.prog B.w) (A₀.deeper env) (noteFrame e env) (fun _ s₂ => wpAny (model B.prog B.w) (A₀.deeper env) (setFlight e none) (fun _ s₃ => wpAny (model B.prog B.w) (A₀.deeper env) (handleBy e env _) _ E s₃) E s₂) E s₁) ?_ s I0) (fun f s₁ ⟨fl, m', σ', a, I', S', q⟩ => ?_) (fun _ _ x => x)
  · intro m' σ' s' e s'' I' ⟨σt, a, base, a0, outer, he, hA, hfl, hP, hst⟩
    subst he
    obtain ⟨o, rfl⟩ := deeper_frames hA
    refine wpAny_looks_onW hA hf hfl fun h₄ held up₄ => wpAny_landsW held fun h₅ hfl₅ up₅ => ?_
    obtain ⟨g₅, _⟩ := hst h₅ hfl₅.1 (up₄.trans up₅)
    refine wpAny_handleBy_cons (codeAny_handlers_test ?_) (by intro q; cases q)
    refine Calls.Name_function_global I'.f.e.fn hkx (Calls.loadGlobal_global (by rw [I'.f.e.gl]; exact Pk.t.g.keeps g₅.top) (mg_of Pk.k Pk.t.g ex) ?_) hd
    obtain ⟨bm, Y⟩ := exc_of (M := model B.prog B.w) (Pk.k.keeps g₅.top) hs
    obtain ⟨⟨nm, q, N, bs, hdct, sn, sub, ab, col, dd', k0, k1, k2, k3, k5, hC⟩, h1, h2, h3, h4, call, typ⟩ := Y
    obtain ⟨ob, hob, hobc⟩ := hfl₅.there
    refine wpAny_excMatches_sub_self hC hob hobc h2 (codeAny_handlers_suite ?_)
    refine lands_againW hfl₅ fun h₆ hfl₆ up₆ => ?_
    obtain ⟨g₆, S₆⟩ := hst h₆ hfl₆.1 ((up₄.trans up₅).trans up₆)
    refine wpAny_execs_cons (wpAny_Return_some (wpAny_Constant_none ?_))
    obtain ⟨I₆, S₆'⟩ := I'.outer ghX_ok g₆ S₆
    exact ⟨.ret (.c .none), m', σt, ⟨_, rfl, Rep.val⟩, ⟨I₆.g, ⟨⟨I₆.f.e.fn, I₆.f.e.gl, I₆.f.e.bi, I₆.f.e.top, I₆.f.e.ownL, I₆.f.e.ownC, I₆.f.e.celAt, I₆.f.e.apart⟩, I₆.f.own, I₆.f.loc, I₆.f.cel⟩, I₆.fr, trivial⟩, Stp.trans I'.gh S₆', hq m' σt hP⟩
  · cases fl with
    | ret d =>
      obtain ⟨v, rfl, r⟩ := a
      exact ⟨.ret d, m', σ', ⟨v, rfl, r⟩, ⟨I'.g, ⟨⟨I'.f.e.fn, I'.f.e.gl, I'.f.e.bi, I'.f.e.top, I'.f.e.ownL, I'.f.e.ownC, I'.f.e.celAt, I'.f.e.apart⟩, I'.f.own, I'.f.loc, I'.f.cel⟩, I'.fr, trivial⟩, S', q⟩
    | next => exact q.elim
    | brk => exact q.elim
    | cont => exact q.elim
end
/-- an own exception is made -/
theorem CV.exc {B : Bs} {A : Around} {E : Value → Shared → Prop} {σ : Store} {K : Frag} {n : Nat} (hk : K.In B.hT) (hr : Room A (n + 1)) {C fI : Addr} {d : AV} {Q : AV → Store → Prop}
    (hs : excShape K C = true) (hi : findIn K (.ref C) "__init__" = some (some (.ref fI))) (hf : isFn K (.ref fI) = true)
    (h : ∀ A' x, Room A' n → σ x = none → CV B A' E (.ref fI) [.c (.ref x), d] (σ.set x (.exc C none)) fun d σ' => d = .c .none ∧ Q (.c (.ref x)) σ') : CV B A E (.ref C) [d] σ Q := by
  intro s vs r g fr
  have Xs : K.In s.heap := hk.keeps g.top
  obtain ⟨hh, gg, dd, tt, os⟩ := s
  simp only [RepL] at r
  obtain ⟨v, r', rfl, r1, rfl⟩ := r
  obtain ⟨bm, Y⟩ := exc_of (M := model B.prog B.w) Xs hs
  refine exc_make Xs Y hi hf ?_
  have n1 : hh.get? hh.objs.size = none := none_at_top hh
  have n2 : hh.get? (hh.objs.size + 1) = none := by
    cases e : hh.get? (hh.objs.size + 1) with
    | none => rfl
    | some o => exact absurd (Heap.lt_size e) (Nat.not_lt.mpr (Nat.le_succ _))
  have fr1 : ∀ b, hh.get? b = none → σ b = none ∧ B.hT.get? b = none := fun b hb => by
    constructor
    · cases e : σ b with
      | none => rfl
      | some o => obtain ⟨x, hx, _⟩ := (g.sim b o e).alloc; rw [hb] at hx; cases hx
    · cases e : B.hT.get? b with
      | none => rfl
      | some o => have := g.top b o e; rw [hb] at this; cases this
  let h2 : Heap := (hh.push { cls := .type "tuple", data := .seq [v].toArray }).push { cls := .ref C, data := .fields #[.ref hh.objs.size, .none, .none, .none, .bool false, .none] }
  have k : ∀ b o, hh.get? b = some o → h2.get? b = some o := fun b o e => Heap.get?_push_of_some _ (Heap.get?_push_of_some _ e)
  have hx : h2.get? (hh.objs.size + 1) = some { cls := .ref C, data := .fields #[.ref hh.objs.size, .none, .none, .none, .bool false, .none] } := by
    have := Heap.get?_push_size (hh.push { cls := .type "tuple", data := .seq [v].toArray }) (o := { cls := .ref C, data := .fields #[.ref hh.objs.size, .none, .none, .none, .bool false, .none] }) rfl
    rwa [Heap.size_push] at this
  have G : Grow hh h2 := fun _ _ t => isTup_of_get t (k _)
  let σ' : Store := σ.set (hh.objs.size + 1) (.exc C none)
  have S : Stp (fun _ => False) (frs A) σ σ' ⟨hh, gg, dd, tt, os⟩ ⟨h2, gg, dd, tt, os⟩ := by
    refine ⟨fun b o e _ _ _ => k b o e, fun b o e _ _ _ => ⟨o.slots, k b o e⟩, fun b hb => ?_, fun b o e => ⟨o, k b o e⟩, G, ⟨_, _, rfl⟩⟩
    by_cases q1 : b = hh.objs.size + 1
    · subst q1; exact .inr n2
    · simp only [σ', Store.set_ne q1] at hb
      exact .inl hb
  have g' : GI B σ' ⟨h2, gg, dd, tt, os⟩ := by
    refine ⟨fun b o e => k b o (g.top b o e), fun b hb => ?_, let ⟨a, o, q, e⟩ := g.tall; ⟨a, o, q, k _ _ e⟩, fun a o e => ?_⟩
    · by_cases q1 : b = hh.objs.size + 1
      · subst q1; exact (fr1 _ n2).2
      · simp only [σ', Store.set_ne q1] at hb
        exact g.off b hb
    · by_cases q1 : a = hh.objs.size + 1
      · subst q1
        simp only [σ', Store.set_self] at e; cases e
        exact ⟨_, hx⟩
      · simp only [σ', Store.set_ne q1] at e
        exact (g.sim a o e).of_get G (k a)
  have fr' : Frs B (A.under (.builtin "type.__call__" ⟨[.ref C, v], []⟩)) σ' ⟨h2, gg, dd, tt, os⟩ := by
    obtain ⟨outer, f1, f2, f3⟩ := fr.fr
    have kf : ∀ (l : List Env), hh.FunFrames B.hT l → h2.FunFrames B.hT l ∧ ∀ e ∈ l, ∀ L, e.frame = some L → hh.get? L ≠ none := by
      intro l
      induction l with
      | nil => intro _; exact ⟨trivial, fun _ h => nomatch h⟩
      | cons y r ih =>
        rintro ⟨hk, ⟨L, o, hf, hn, ho, hd⟩, hr⟩
        refine ⟨⟨hk, ⟨L, o, hf, hn, k L o ho, hd⟩, (ih hr).1⟩, fun e he L' hL' => ?_⟩
        rcases List.mem_cons.mp he with rfl | he
        · rw [hf] at hL'; cases hL'; rw [ho]; simp
        · exact (ih hr).2 e he L' hL'
    refine ⟨outer, f1, (kf outer f2).1, fun e he L hL => ?_⟩
    have := (kf outer f2).2 e he L hL
    have q1 : L ≠ hh.objs.size + 1 := fun z => this (z ▸ n2)
    simp only [σ', Store.set_ne q1]
    exact f3 e he L hL
  have hr' : Room (A.under (.builtin "type.__call__" ⟨[.ref C, v], []⟩)) n :=
    ⟨hr.h, by show A.depth + 1 + n < 1000; have := hr.d; omega, by show A.units + 1 + 16 * n < 9900; have := hr.u; omega⟩
  refine codeAny_mono (h _ (hh.objs.size + 1) hr' (fr1 _ n2).1 _ [.ref (hh.objs.size + 1), v] (RepL.cons Rep.val (.cons (r1.grow G) .nil)) g' fr') fun r s' hp => ?_
  rcases r with e | (_ | _ | _ | v)
  · exact hp
  · exact hp
  · exact hp
  · exact hp
  · obtain ⟨d, σ'', a, g'', S'', rfl, q⟩ := hp
    exact ⟨a.val', _, σ'', Rep.val, g'', S.trans S'', q⟩
section
variable {X : Cx} {A : Around} {env : Env} {E : Value → Shared → Prop} {m : Vars} {σ : Store} {K : Frag} {p : Program} {loose : List Str} {mg mb : Str → Option Value}
/-- Exception's own start -/
theorem ev_binit (P : Pg X A K p loose mg mb) {o : Expr} {apos pos : Pos} {e1 e2 : Expr} {Q : AV → Store → Prop}
    (h : ev X A env E o m σ fun d σ₁ => d = .c (.type "Exception") ∧ evs X A env E [e1, e2] pos m σ₁ fun l σ₂ => ∃ e C dd d, l = [.c (.ref e), d] ∧ σ₂ e = some (.exc C dd) ∧ excShape K C = true ∧ Q (.c .none) σ₂)
    (hfi : findCls K (.type "Exception") (.type "type") "__init__" = some (.val (.builtin "Exception.__init__")))
    {pl : Sem Bool} (hm : eval ((o.Attribute "__init__" apos).Call [e1, e2] [] pos) env = (do
          let ov ← eval o env
          standAt apos.atName
          let __x ← holding [ov] (getMethod ov "__init__" pl)
          match __x with
            | (f, first) => callWith pos f first (backTo pos (starEach [e1, e2] env)) []) := by rfl)
    (h1 : starEach [e1, e2] env = (false, eval e1 env) :: starEach [e2] env := by rfl) (h2 : ((backTo pos (starEach [e2] env)).any fun x => x.fst) = false := by rfl) : ev X A env E (.Call (.Attribute o "__init__" apos) [e1, e2] [] pos) m σ Q := fun s I =>
  MethodCall_ (wpAny_mono (h s I) (by
    rintro v s₁ ⟨_, _, r, i, t, hd, q⟩
    subst hd
    cases r.val'
    obtain ⟨mc, F, N, hmc⟩ := i.fr_news
    refine method_type F P.k (by kernel_rfl) (by decide +kernel) hfi (by rfl) ?_
    refine callWith_method1 (wpAny_mono (q _ (i.toks (tk := s₁.toks + 1) P.ok)) (fun vs s₂ ⟨l, σ₂, r₂, i₂, t₂, e, C, dd, d, hl, he, hs, q₂⟩ => ?_) fun _ _ x => x) h1 h2
    subst hl
    simp only [RepL] at r₂
    obtain ⟨ve, r', rfl, re, vd, r'', rfl, rd, rfl⟩ := r₂
    cases re.val'
    obtain ⟨t0, hget⟩ := i₂.g.sim e _ he
    obtain ⟨bm, Y⟩ := exc_of (M := model X.prog X.w) (P.k.keeps i₂.g.top) hs
    obtain ⟨hh, gg, dr, tk, os⟩ := s₂
    refine exc_init Y hget ?_
    have k1 : ∀ b o, hh.get? b = some o → (hh.push { cls := .type "tuple", data := .seq [vd].toArray }).get? b = some o := fun _ _ e => Heap.get?_push_of_some _ e
    have i3 := i₂.keeps (tk := tk) P.ok k1
    have S3 : Stp X.own (frs A) σ₂ σ₂ ⟨hh, gg, dr, tk, os⟩ ⟨hh.push { cls := .type "tuple", data := .seq [vd].toArray }, gg, dr, tk, os⟩ := .of_keeps (tk := tk) k1
    have hu : Heap.SameBut e (hh.push { cls := .type "tuple", data := .seq [vd].toArray }) ((hh.push { cls := .type "tuple", data := .seq [vd].toArray }).update e (Obj.mapFields (·.setIfInBounds 0 (.ref hh.objs.size)))) := Heap.SameBut.update ..
    have ob : ObjIs X.prog X.w ((hh.push { cls := .type "tuple", data := .seq [vd].toArray }).update e (Obj.mapFields (·.setIfInBounds 0 (.ref hh.objs.size)))) e (.exc C dd) := ⟨hh.objs.size, by
      rw [Heap.get?_update_self _ (k1 _ _ hget) rfl]; rfl⟩
    have i4 := i3.update (tk := tk) P.ok he hu ob
    have S4 := Stp.of_update (own := X.own) (fr := frs A) (σ := σ₂) (s := ⟨hh.push { cls := .type "tuple", data := .seq [vd].toArray }, gg, dr, tk, os⟩) (tk := tk) (i3.g.sim e _ he) he hu ob
    have e0 : σ₂.set e (.exc C dd) = σ₂ := by
      funext b
      by_cases q : b = e
      · subst q; rw [Store.set_self, he]
      · rw [Store.set_ne q]
    rw [e0] at i4 S4
    exact ⟨.c .none, σ₂, Rep.val, i4, (((t.trans (.of_keeps (h' := s₁.heap) fun _ _ e => e)).trans t₂).trans S3).trans S4, q₂⟩) fun _ _ x => x) hm
end
end Mine
end
section
open PySem PySem.W PyProof.Rows PySem.Builtin PySem.Builtin.ObjectAttr
namespace Mine
noncomputable def isRefB : Value → Bool
  | .ref _ => true
  | _ => false
noncomputable def excTop : List Value := [.type "Exception", .type "BaseException", .type "object"]
noncomputable def excMro (l : List Value) : Bool := l.dropWhile isRefB == excTop
theorem refuse_exc (self : Value) : ∀ {l : List Value}, excMro l = true → refuseLoop self "__setattr__" l = pure ()
  | [], e => by simp [excMro, excTop] at e
  | x :: r, e => by
    have e' : (x :: r).dropWhile isRefB = excTop := beq_iff_eq.mp e
    cases hx : isRefB x with
    | true =>
      obtain ⟨c, rfl⟩ : ∃ c, x = .ref c := by cases x <;> simp [isRefB] at hx; exact ⟨_, rfl⟩
      rw [List.dropWhile_cons, hx, if_pos rfl] at e'
      rw [refuseLoop_ref]; exact refuse_exc self (beq_iff_eq.mpr e')
    | false =>
      rw [List.dropWhile_cons, hx, if_neg (by decide)] at e'
      rw [e']; exact PySem.F.store_Exception.passes self
theorem exc_has : ∀ {l : List Value}, excMro l = true → l.contains (.type "object") = true
  | [], e => by simp [excMro, excTop] at e
  | x :: r, e => by
    have e' : (x :: r).dropWhile isRefB = excTop := beq_iff_eq.mp e
    cases hx : isRefB x with
    | true =>
      rw [List.dropWhile_cons, hx, if_pos rfl] at e'
      rw [List.contains_cons, exc_has (l := r) (beq_iff_eq.mpr e'), Bool.or_true]
    | false =>
      rw [List.dropWhile_cons, hx, if_neg (by decide)] at e'
      rw [e']; decide +kernel
noncomputable def excOver (K : Frag) (C : Addr) : Bool := (clsIn K C).any fun cd => excMro cd.mro
section
variable {prog : Program} {w : World} {A : Around} {K : Frag} {C x : Addr} {s : Shared} {R : Result → Shared → Prop}
theorem osa_exc {ox : Obj} {od : Option Obj} {name : Str} {tk : Tok} {v : Value} {r : Option Value} (X : K.In s.heap) (I : InstAt s.heap x ox C od) (hp : excOver K C = true) (ht : takerIn K C name = some r)
    (h : ∀ b, wpAny (model prog w) A.in1 (match r with | some a => setByDescriptor a (.ref x) v | none => storeInOwnDict (.ref x) (.ref C) (.str name tk) name v b)
      (fun fin s' => match fin with | .done f => R (.ok f) s' | .again c' => c'.quiet = true ∧ codeAny (model prog w) A c' R s') (fun e s' => R (.error e) s') s) :
    codeAny (model prog w) A (.call (.builtin "object.__setattr__") ⟨[.ref x, .str name tk, v], []⟩) R s := by
  have SF := PySem.F.store_object
  obtain ⟨cd, hc, ho⟩ := any_some hp
  have ne : cd.mro.isEmpty = false := by cases q : cd.mro with | nil => rw [q] at ho; simp [excMro, excTop] at ho | cons _ _ => rfl
  have sub : Looks (model prog w) s.heap (isInstance (.ref x) (.type "object")) true := I.type.andThen (looks_mroIn X (by unfold mroIn; rw [hc, Option.bind_some, if_neg (by rw [ne]; decide), exc_has ho]))
  refine codeAny_call_builtin SF.slot.plain SF.entry (@check_slot (model prog w) _ _ s "object.__setattr__" "object" "__setattr__" (.ref x) [.str name tk, v] [] _ SF.kind SF.split sub (SF.args (.ref x) (.str name tk) v) ?_)
  obtain ⟨attr, ha, hr⟩ := Option.bind_eq_some_iff.mp ht
  have hm : Looks (model prog w) s.heap (mroOf (.ref C)) cd.mro := (looks_clsIn X hc).andThen .now
  have L3 : Looks (model prog w) s.heap (storeTaker? attr) r := by
    cases attr with
    | none => cases hr; exact .now
    | some a =>
      obtain ⟨b, hb, rfl⟩ := Option.map_eq_some_iff.mp hr
      refine (looks_takesIn X hb).andThen ?_
      cases b <;> exact .now
  rw [osa_eq, refuse_eq]
  refine wpAny_bind (wpAny_bind (I.type.here (wpAny_bind (hm.here ?_))))
  rw [refuse_exc _ ho]
  refine wpAny_pure (wpAny_bind (I.type.here (wpAny_bind ((looks_findIn X ha).here (wpAny_bind (L3.here ?_))))))
  exact h _
end
section
variable {X : Cx} {A A' : Around} {env : Env} {E : Value → Shared → Prop} {m : Vars} {σ : Store} {K : Frag} {p : Program} {loose : List Str} {mg mb : Str → Option Value}
theorem store_dict (ok : X.Ok A) {s : Shared} {dd : Addr} {l : List (Str × AV)} {name : Str} {d : AV} {v : Value} {tk : Tok} {Q : Fin → Shared → Prop} (I : Inv X A env m σ s) (h2 : σ dd = some (.dct l)) (hz : l.length ≤ 1000) (r : Rep s.heap d v)
    (q : ∀ s', Inv X A env m (σ.set dd (.dct (put l name d))) s' → Stp X.own (frs A) σ (σ.set dd (.dct (put l name d))) s s' → Q (.done (.ret .none)) s') : wpAny (model X.prog X.w) A' (storeInDict dd (.str name tk) name v) Q E s := by
  obtain ⟨kvs, hd, hr⟩ := I.g.sim dd _ h2
  obtain ⟨od, ho, _, hx, es, ep, hda, hk, hp, hn⟩ := dict_obj hd
  refine wpAny_bind (wpAny_pure (wpAny_bind ?_))
  unfold nsSet
  refine wpAny_bind (wpAny_bind (wpAny_askSetting (wpAny_pure (wpAny_bind (wpAny_mkText (wpAny_bind (wpAny_loadPart ho ?_)))))))
  rw [hda]
  dsimp only
  have c : aRefKeyMayBeTheName name es = false := by
    rw [aRefKeyMayBeTheName_at]
    have : es.any (·.refKey) = false := by
      rw [← Array.any_toList, List.any_eq_false]
      intro e he
      obtain ⟨k, hk1, _⟩ := hk e (Array.mem_toList_iff.mp he)
      rw [strIs] at hk1
      cases hke : e.key <;> rw [hke] at hk1 <;> first | cases hk1 | simp [DictEntry.refKey, hke]
    rw [this, Bool.and_false]
  rw [c]
  refine wpAny_updatePart ho ?_
  obtain ⟨es', ep', g1, g2, g3, g4, g5, g6⟩ := put_dict (x := name) (t := s.toks) (v := v) hx hda hk hp hn
  have D' := Heap.get?_update_self (h := s.heap) (a := dd) (Obj.putName name (PyData.keyHash X.w.params name) (.str name s.toks) v) ho (Obj.isFreed_of_dict g1)
  have esz : es.size ≤ 1000 := by
    have := hp.length
    have e2 : kvs.length = l.length := by simpa using congrArg List.length hr.1
    have e3 : es.toList.length = es.size := Array.length_toList
    omega
  refine wpAny_bind (wpAny_lookBehind D' (by rw [g1]; exact pastItsLine_dict (by rw [sizeLine_eq]; omega)) ?_)
  have hs : Heap.SameBut dd s.heap (s.heap.update dd (Obj.putName name (PyData.keyHash X.w.params name) (.str name s.toks) v)) := Heap.SameBut.update ..
  have S0 : Grow s.heap (s.heap.update dd (Obj.putName name (PyData.keyHash X.w.params name) (.str name s.toks) v)) := fun b items t => by
    obtain ⟨ot, z1, z2, z3⟩ := t
    have : b ≠ dd := fun e => by subst e; rw [ho] at z1; cases z1; rw [hx.1] at z2; simp at z2
    exact ⟨ot, (hs.2 b this).trans z1, z2, z3⟩
  have ob : ObjIs X.prog X.w (s.heap.update dd (Obj.putName name (PyData.keyHash X.w.params name) (.str name s.toks) v)) dd (.dct (put l name d)) := by
    have rd := (RepD.put (k := name) r (l := l) (kvs := kvs) ⟨hr.1, hr.2⟩).grow S0
    exact ⟨put kvs name v, ⟨_, es', ep', D', g3, g1, g4, g5, g6⟩, rd.1, rd.2⟩
  exact wpAny_pure (q _ (I.update (tk := s.toks + 1) ok h2 hs ob) (.of_update (I.g.sim dd _ h2) h2 hs ob))
noncomputable def storeOkE (K : Frag) (C : Addr) (name : Str) : Bool := findIn K (.ref C) "__setattr__" == some (some (.builtin "object.__setattr__")) && excOver K C && takerIn K C name == some none && hasDictIn K C
theorem set_exc1 (P : Pg X A K p loose mg mb) {s : Shared} {a C dd : Addr} {l : List (Str × AV)} {name : Str} {d : AV} {v : Value} {Q : Unit → Shared → Prop} (I : Inv X A env m σ s) (h1 : σ a = some (.exc C (some dd))) (h2 : σ dd = some (.dct l)) (hf : storeOkE K C name = true) (hz : l.length ≤ 1000) (r : Rep s.heap d v)
    (q : ∀ s', Inv X A env m (σ.set dd (.dct (put l name d))) s' → Stp X.own (frs A) σ (σ.set dd (.dct (put l name d))) s s' → Q () s') : wpAny (model X.prog X.w) A (setAttr (.ref a) name v) Q E s := by
  obtain ⟨t0, hget⟩ := I.g.sim a _ h1
  obtain ⟨kvs, hd, hr⟩ := I.g.sim dd _ h2
  obtain ⟨od, ho, _, hx, es, ep, hda, hk, hp, hn⟩ := dict_obj hd
  have IA : InstAt s.heap a _ C (some od) := ⟨hget, rfl, rfl, ho⟩
  simp only [storeOkE, Bool.and_eq_true, beq_iff_eq] at hf
  obtain ⟨⟨⟨f1, f2⟩, f3⟩, f4⟩ := hf
  have Xs := P.k.keeps I.g.top
  refine set_plain Xs IA f1 (osa_exc (s := { s with toks := s.toks + 1 }) Xs IA f2 f3 fun b => ?_)
  obtain ⟨cd, hc, hd'⟩ := any_some f4
  refine wpAny_bind (wpAny_pure (wpAny_bind (wpAny_bind (wpAny_loadPart hget (wpAny_bind (looks_clsIn Xs hc _ _ _ _ (fun _ _ e => e) ?_))))))
  rw [hd']
  refine wpAny_pure (a := some dd) ?_
  exact store_dict P.ok (I.toks (tk := s.toks + 1) P.ok) h2 hz r fun s' I' S' => q s' I' ((Stp.of_keeps (h' := s.heap) fun _ _ e => e).trans S')
theorem set_exc0 (P : Pg X A K p loose mg mb) {s : Shared} {a C : Addr} {name : Str} {d : AV} {v : Value} {Q : Unit → Shared → Prop} (I : Inv X A env m σ s) (h1 : σ a = some (.exc C none)) (hf : storeOkE K C name = true) (r : Rep s.heap d v)
    (q : ∀ s' dd, σ dd = none → dd ≠ a → Inv X A env m (((σ.set dd (.dct [])).set a (.exc C (some dd))).set dd (.dct [(name, d)])) s' → Stp X.own (frs A) σ (((σ.set dd (.dct [])).set a (.exc C (some dd))).set dd (.dct [(name, d)])) s s' → Q () s') : wpAny (model X.prog X.w) A (setAttr (.ref a) name v) Q E s := by
  obtain ⟨t0, hget⟩ := I.g.sim a _ h1
  have IA : InstAt s.heap a _ C none := ⟨hget, rfl, rfl, trivial⟩
  simp only [storeOkE, Bool.and_eq_true, beq_iff_eq] at hf
  obtain ⟨⟨⟨f1, f2⟩, f3⟩, f4⟩ := hf
  have Xs := P.k.keeps I.g.top
  refine set_plain Xs IA f1 (osa_exc (s := { s with toks := s.toks + 1 }) Xs IA f2 f3 fun b => ?_)
  obtain ⟨cd, hc, hd'⟩ := any_some f4
  refine wpAny_bind (wpAny_pure (wpAny_bind (wpAny_bind (wpAny_loadPart hget (wpAny_bind (looks_clsIn Xs hc _ _ _ _ (fun _ _ e => e) ?_))))))
  rw [hd']
  have hsz : a ≠ s.heap.objs.size := Nat.ne_of_lt (Heap.lt_size hget)
  have f := none_at_top s.heap
  have fI := I.fresh f
  have k1 : ∀ b o, s.heap.get? b = some o → (s.heap.push { cls := .type "dict", data := .dict #[] }).get? b = some o := fun _ _ e => Heap.get?_push_of_some _ e
  have i1 := I.alloc (tk := s.toks + 1) (o := .dct []) P.ok f k1 ⟨[], ⟨_, #[], 0, Heap.get?_push_size _ rfl, ⟨rfl, rfl, rfl⟩, rfl, fun _ he => by simp at he, .nil, by simp⟩, rfl, RepL.nil⟩
  have S1 : Stp X.own (frs A) σ (σ.set s.heap.objs.size (.dct [])) s { s with heap := s.heap.push { cls := .type "dict", data := .dict #[] }, toks := s.toks + 1 } := .of_alloc f k1
  have hu : Heap.SameBut a (s.heap.push { cls := .type "dict", data := .dict #[] }) ((s.heap.push { cls := .type "dict", data := .dict #[] }).update a fun o => { o with dict := some s.heap.objs.size }) := Heap.SameBut.update ..
  have ob : ObjIs X.prog X.w ((s.heap.push { cls := .type "dict", data := .dict #[] }).update a fun o => { o with dict := some s.heap.objs.size }) a (.exc C (some s.heap.objs.size)) := ⟨t0, Heap.get?_update_self _ (k1 _ _ hget) rfl⟩
  have h1' : (σ.set s.heap.objs.size (.dct [])) a = some (.exc C none) := by rw [Store.set_ne hsz]; exact h1
  have i2 := i1.update (tk := s.toks + 1) P.ok h1' hu ob
  have S2 := Stp.of_update (own := X.own) (fr := frs A) (s := { s with heap := s.heap.push { cls := .type "dict", data := .dict #[] }, toks := s.toks + 1 }) (tk := s.toks + 1) (i1.g.sim a _ h1') h1' hu ob
  show wpAny _ _ (do let d ← alloc emptyDict; update a fun o => { cls := o.cls, dict := some d, data := o.data, slots := o.slots }; dictMade (.ref C) a d) _ _ _
  refine wpAny_bind (wpAny_alloc' (wpAny_bind (wpAny_update' (k1 _ _ hget) (wpAny_pure ?_))))
  have h2' : ((σ.set s.heap.objs.size (.dct [])).set a (.exc C (some s.heap.objs.size))) s.heap.objs.size = some (.dct []) := by rw [Store.set_ne (Ne.symm hsz), Store.set_self]
  refine store_dict P.ok i2 h2' (by simp) ((r.grow S1.tup).grow S2.tup) fun s' I' S' => ?_
  exact q s' _ fI.1 (Ne.symm hsz) I' ((S1.trans S2).trans S')
theorem x_attrE1 (P : Pg X A K p loose mg mb) {o e : Expr} {name : Str} {p' pos : Pos} {Q : AF → Vars → Store → Prop} (h : ev X A env E e m σ fun d σ₁ => ev X A env E o m σ₁ fun od σ₂ => ∃ a C dd l, od = .c (.ref a) ∧ σ₂ a = some (.exc C (some dd)) ∧ σ₂ dd = some (.dct l) ∧
      storeOkE K C name = true ∧ l.length ≤ 1000 ∧ Q .next m (σ₂.set dd (.dct (put l name d))))
    (hs : swapsWith e (some (.Attribute o name p')) pos.line env = pure false := by rfl) : x1 X A env E (.Assign [.Attribute o name p'] e pos) m σ Q := fun s I =>
  plainObj_wpAny_Assign_Attribute (wpAny_mono (h s I) (by
   rintro v s₁ ⟨d, σ₁, r₁, i₁, t₁, q₁⟩
   exact wpAny_mono (q₁ s₁ i₁) (by
    rintro vo s₂ ⟨d₂, σ₂, r₂, i₂, t₂, a, C, dd, l, hd, h1, h2, h3, h4, q₂⟩
    subst hd; cases r₂.val'
    exact set_exc1 P i₂ h1 h2 h3 h4 (r₁.grow t₂.tup) fun s' I' S' => ⟨.next, m, _, rfl, I', (t₁.trans t₂).trans S', q₂⟩) fun _ _ x => x) fun _ _ x => x) hs
theorem x_attrE0 (P : Pg X A K p loose mg mb) {o e : Expr} {name : Str} {p' pos : Pos} {Q : AF → Vars → Store → Prop} (h : ev X A env E e m σ fun d σ₁ => ev X A env E o m σ₁ fun od σ₂ => ∃ a C, od = .c (.ref a) ∧ σ₂ a = some (.exc C none) ∧
      storeOkE K C name = true ∧ ∀ dd, σ₂ dd = none → dd ≠ a → Q .next m (((σ₂.set dd (.dct [])).set a (.exc C (some dd))).set dd (.dct [(name, d)])))
    (hs : swapsWith e (some (.Attribute o name p')) pos.line env = pure false := by rfl) : x1 X A env E (.Assign [.Attribute o name p'] e pos) m σ Q := fun s I =>
  plainObj_wpAny_Assign_Attribute (wpAny_mono (h s I) (by
   rintro v s₁ ⟨d, σ₁, r₁, i₁, t₁, q₁⟩
   exact wpAny_mono (q₁ s₁ i₁) (by
    rintro vo s₂ ⟨d₂, σ₂, r₂, i₂, t₂, a, C, hd, h1, h3, q₂⟩
    subst hd; cases r₂.val'
    exact set_exc0 P i₂ h1 h3 (r₁.grow t₂.tup) fun s' dd n1 n2 I' S' => ⟨.next, m, _, rfl, I', (t₁.trans t₂).trans S', q₂ dd n1 n2⟩) fun _ _ x => x) fun _ _ x => x) hs
end
end Mine
end
section
namespace Mine
variable {X : Cx} {A : Around} {env : Env} {E : Value → Shared → Prop} {m : Vars} {σ : Store}
theorem let_str (e : Expr) (x : Str) (u : Tok) (r : Value) : letTemporaryGo e (.str x u) r = pure () := by cases e <;> rfl
theorem ev_cutS (ok : X.Ok A) {e : Expr} {k : Int} {kk : Nat} {p1 p2 pos : Pos} {Q : AV → Store → Prop} (h : ev X A env E e m σ fun d σ₁ => ∃ x, d = .s x ∧ (cutV x k).length ≤ 1000 ∧ Q (.s (cutV x k)) σ₁) :
    ev X A env E (.Subscript e (.Slice (some (.Constant (.int k) kk p1)) none none p2) pos) m σ Q := fun s I => by
  rw [eval_Subscript]
  refine wpAny_bind (wpAny_mono (h s I) (fun v s₁ ⟨d, σ₁, r, i, t, x, hx, hz, q⟩ => ?_) fun _ _ e => e)
  subst hx
  obtain ⟨u, rfl⟩ := r.str'
  refine wpAny_bind (wpAny_holding (wpAny_Slice ?_))
  rw [evalPart_some]
  refine wpAny_Constant_int ?_
  rw [evalPart_none]
  refine wpAny_pure (wpAny_pure ?_)
  refine wpAny_bind (wpAny_standAt ?_)
  have kp : ∀ b o, s₁.heap.get? b = some o → (s₁.heap.push { cls := .type "slice", data := .fields #[.int k s₁.toks, .none, .none] }).get? b = some o := fun _ _ e => Heap.get?_push_of_some _ e
  have S : Stp X.own (frs A) σ₁ σ₁ s₁ { s₁ with heap := s₁.heap.push { cls := .type "slice", data := .fields #[.int k s₁.toks, .none, .none] }, toks := s₁.toks + 1 } := .of_keeps kp
  have S2 : Stp X.own (frs A) σ₁ σ₁ s₁ { s₁ with heap := s₁.heap.push { cls := .type "slice", data := .fields #[.int k s₁.toks, .none, .none] }, toks := s₁.toks + 1 + 1 } := .of_keeps kp
  have e1 : slicePicked x (some (k, s₁.toks)) none none = slicePicked x (some (k, 0)) none none := rfl
  have hQ : (sliceMade x u (some (k, s₁.toks)) none none).post (PE X A env m σ Q s) { s₁ with heap := s₁.heap.push { cls := .type "slice", data := .fields #[.int k s₁.toks, .none, .none] }, toks := s₁.toks + 1 } := by
    unfold sliceMade
    rw [e1]
    unfold cutV at q hz
    by_cases hc : ((slicePicked x (some (k, 0)) none none).length == x.length) = true
    · rw [if_pos hc] at q
      rw [if_pos (by rw [hc]; rfl)]
      exact ⟨.s x, σ₁, Rep.str, i.keeps (tk := s₁.toks + 1) ok kp, t.trans S, q⟩
    · rw [if_neg hc] at q hz
      rw [if_neg (by intro z; exact hc (Bool.and_eq_true_iff.mp z).2)]
      exact ⟨by rw [sizeLine_eq]; exact Nat.le_trans hz (by decide), .s _, σ₁, Rep.str, i.keeps (tk := s₁.toks + 1 + 1) ok kp, t.trans S2, q⟩
  have ty : Shared.TypeIs { s₁ with heap := s₁.heap.push { cls := .type "slice", data := .fields #[.int k s₁.toks, .none, .none] }, toks := s₁.toks + 1 } (.str x u) "str" := typeIs_str _ x u
  refine wpAny_bind ?_
  rw [getitemInPython_of_ne ty.not_modules]
  refine wpAny_bind (wpAny_specialOf ty F.slot_str_getitem.lookup ?_)
  have fin : wpAny (model X.prog X.w) A (operate [.ref s₁.heap.objs.size, .str x u] (getItem (.str x u) (.ref s₁.heap.objs.size))) (fun r s₃ => wpAny (model X.prog X.w) A (letTemporaryGo e (.str x u) r >>= fun _ => pure r) (PE X A env m σ Q s) E s₃) E
      { s₁ with heap := s₁.heap.push { cls := .type "slice", data := .fields #[.int k s₁.toks, .none, .none] }, toks := s₁.toks + 1 } :=
    wpAny_operating (wpAny_mono (wpAny_getItem_str_slice (l := some (k, s₁.toks)) (u := none) (st := none) ⟨_, Heap.get?_push_size _ rfl, rfl, rfl⟩ rfl hQ) (fun r s₃ h₃ => by
      rw [let_str]
      exact wpAny_bind (wpAny_pure (wpAny_pure h₃))) fun _ _ x => x)
  first
    | exact wpAny_pure (wpAny_bind fin)
    | exact wpAny_bind (wpAny_pure (wpAny_bind fin))
    | exact wpAny_bind fin
end Mine
end
namespace Mine
/-- what the top leaves -/
structure TopOk (B : Bs) (mg mb : Str → Option Value) : Prop where
  k : (KF B.w.params).In B.hT
  t : TopRead qv (looseW qv looseQ) mg mb B.hT
  sys : B.hT.get? sysModules ≠ none
theorem len0 {α : Type} {l : List α} (h : l.length = 0) : l = [] := by simpa using h
theorem len1 {α : Type} {l : List α} (h : l.length = 1) : ∃ a, l = [a] := by
  match l, h with
  | [a], _ => exact ⟨a, rfl⟩
theorem len2 {α : Type} {l : List α} (h : l.length = 2) : ∃ a b, l = [a, b] := by
  match l, h with
  | [a, b], _ => exact ⟨a, b, rfl⟩
theorem len3 {α : Type} {l : List α} (h : l.length = 3) : ∃ a b c, l = [a, b, c] := by
  match l, h with
  | [a, b, c], _ => exact ⟨a, b, c, rfl⟩
theorem len5 {α : Type} {l : List α} (h : l.length = 5) : ∃ a b c d e, l = [a, b, c, d, e] := by
  match l, h with
  | [a, b, c, d, e], _ => exact ⟨a, b, c, d, e, rfl⟩
theorem Vars.get_self {m : Vars} {x : Str} {d : AV} : (m.set x d) x = some d := by simp [Vars.set]
theorem Vars.get_ne {m : Vars} {x y : Str} {d : AV} (h : (y == x) = false) : (m.set x d) y = m y := by
  have : y ≠ x := by simpa using h
  simp [Vars.set, this]
abbrev PP (X : Cx) (A : Around) (mg mb : Str → Option Value) : Prop := Pg X A (KF X.w.params) qv (looseW qv looseQ) mg mb
/-- what a frame ends with -/
noncomputable def Ends (Q : AV → Store → Prop) : AF → Vars → Store → Prop
  | .ret d, _, σ => Q d σ
  | .next, _, σ => Q (.c .none) σ
  | .brk, _, σ => Q (.c .none) σ
  | .cont, _, σ => Q (.c .none) σ
theorem CV.go {B : Bs} {A : Around} {E : Value → Shared → Prop} {σ : Store} {mg mb : Str → Option Value} {n : Nat} (T : TopOk B mg mb) (hr : Room A (n + 1))
    {f : Addr} {oc : Value} {od : Option Addr} {name qual : Str} {params : Arguments} {body : List Stmt} {scope : Scope} {dV kV doc pm cdv ct : Value} {an : Option Addr} {osl : Array (Option Value)} {args : List AV} {Q : AV → Store → Prop}
    (ho : (KF B.w.params).lookup f = some ⟨oc, od, .func (fnOf name qual params body scope dV kV doc pm an cdv ct), osl⟩) (hcd : codeIn (KF B.w.params) cdv qual = true)
    (hb : ∀ s vs, vs.length = args.length → BindsTo s (fnOf name qual params body scope dV kV doc pm an cdv ct) ⟨vs, []⟩ ((params.args.map (·.arg)).zip vs))
    (hkind : (params.args.map (·.arg)).all (fun x => scope.names.lookup x == some .local || scope.names.lookup x == some .cell) = true) (hfree : scope.names.all (fun x => x.2 != .free) = true)
    (hnd : ((cellsFrom 0 scope.names []).map (·.1)).Nodup)
    (h : ∀ L E' A' (P : PP (defX B scope L) A' mg mb) (R : Room A' n), A' = A.deeper (fenv qual scope f cdv L) → xs (defX B scope L) A' (fenv qual scope f cdv L) E' body (bindsA ((params.args.map (·.arg)).zip args) fun _ => none) σ (Ends Q))
    (hco : scope.isCoroutine = false := by rfl) (hgen : scope.isGenerator = false := by rfl) (hkf : scope.kind = .function := by rfl) : CV B A E (.ref f) args σ Q := by
  refine CV.enter (K := KF B.w.params) T.k T.t hr [] [] ho hcd (fun _ => .nil) (fun s vs hl _ => by rw [List.append_nil]; exact hb s vs hl) hkind hfree hnd (fun L E' R => ?_) hco hgen hkf
  rw [List.append_nil]
  exact (h L E' _ ⟨defX_ok, T.k, T.t⟩ R rfl).mono fun fl m' σ' q => by cases fl <;> exact q
theorem word1 : True := by
  (k_with "ok" =>
    exact Pg.ok (by assumption))
  trivial
theorem word2 : True := by
  (k_with "hh" =>
    exact Room.h (by assumption))
  trivial
theorem word3 : True := by
  (k_with "binds" =>
    (intro s vs hl; first
      | (obtain ⟨a, ha⟩ := len1 hl; subst ha; exact BindsTo.of_eq rfl)
      | (obtain ⟨a, b, ha⟩ := len2 hl; subst ha; exact BindsTo.of_eq rfl)
      | (obtain ⟨a, b, c, ha⟩ := len3 hl; subst ha; exact BindsTo.of_eq rfl)
      | (obtain ⟨a, b, c, d, e, ha⟩ := len5 hl; subst ha; exact BindsTo.of_eq rfl)
      | (have ha := len0 hl; subst ha; exact BindsTo.of_eq rfl)))
  trivial
theorem word4 : True := by
  (k_with "in" =>
    (refine CV.go (by assumption) (by assumption) (by k_is) (by kernel_rfl) ?_ (by rfl) (by rfl) (by decide) ?_; (focus walk_at "binds"); simp only [List.map_cons, List.map_nil, List.zip_cons_cons, List.zip_nil_left, List.zip_nil_right, bindsA]))
  trivial
theorem word5 : True := by
  (k_with "get" =>
    first | exact Vars.get_self | assumption | (refine (Vars.get_ne (by decide)).trans ?_; walk_at "get"))
  trivial
theorem word6 : True := by
  (k_with "name" =>
    first
      | refine ev_local (hk := (by rfl)) (by walk_at "get") ?_
      | refine ev_cell (hk := (by rfl)) (by walk_at "get") ?_
      | refine ev_global (by assumption) (by k_is) (by rfl) ?_
      | refine ev_builtin (by assumption) (by k_is) (by boot_by_name) (by decide) (by rfl) ?_)
  trivial
theorem word7 : True := by
  (k_with "call" =>
    first
      | (refine ev_call (by assumption) ?_; walk_at "name"; refine ⟨_, rfl, (by k_is), ?_⟩)
      | (refine ev_call0 (by assumption) ?_; walk_at "name"; refine ⟨_, rfl, (by k_is), ?_⟩)
      | (refine ev_callB ?_; walk_at "name"; refine ⟨_, rfl, ?_⟩)
      | (refine ev_callT ?_; walk_at "name"; refine ⟨_, rfl, ?_⟩))
  trivial
theorem word8 : True := by
  (k_with "ev" =>
    first
      | ((with_reducible show EV _ _ _ _ (eval (Expr.Name _ _) _) _ _ _); walk_at "name")
      | ((with_reducible show EV _ _ _ _ (eval (Expr.Constant (Const.int _) _ _) _) _ _ _); refine ev_int (by walk_at "ok") ?_)
      | ((with_reducible show EV _ _ _ _ (eval (Expr.Constant (Const.str _) _ _) _) _ _ _); refine ev_str (by walk_at "ok") ?_)
      | ((with_reducible show EV _ _ _ _ (eval (Expr.Constant (Const.bool _) _ _) _) _ _ _); refine ev_bool ?_)
      | ((with_reducible show EV _ _ _ _ (eval (Expr.Constant Const.none _ _) _) _ _ _); refine ev_none ?_)
      | ((with_reducible show EV _ _ _ _ (eval (Expr.Subscript _ _ _) _) _ _ _); refine ev_sub ?_)
      | ((with_reducible show EV _ _ _ _ (eval (Expr.Attribute _ _ _) _) _ _ _); refine ev_attr ?_)
      | ((with_reducible show EV _ _ _ _ (eval (Expr.IfExp _ _ _ _) _) _ _ _); refine ev_ifexp ?_)
      | ((with_reducible show EV _ _ _ _ (eval (Expr.Compare _ _ _ _) _) _ _ _); refine ev_cmp ?_)
      | ((with_reducible show EV _ _ _ _ (eval (Expr.BinOp _ _ _ _) _) _ _ _); refine ev_binop ?_)
      | ((with_reducible show EV _ _ _ _ (eval (Expr.UnaryOp _ _ _) _) _ _ _); refine ev_unary ?_)
      | ((with_reducible show EV _ _ _ _ (eval (Expr.BoolOp _ [_] _) _) _ _ _); refine ev_bool_one ?_)
      | ((with_reducible show EV _ _ _ _ (eval (Expr.BoolOp BoolOp.And _ _) _) _ _ _); refine ev_and ?_)
      | ((with_reducible show EV _ _ _ _ (eval (Expr.BoolOp BoolOp.Or _ _) _) _ _ _); refine ev_or ?_)
      | ((with_reducible show EV _ _ _ _ (eval (Expr.Tuple _ _ _) _) _ _ _); refine ev_tuple (by walk_at "ok") ?_)
      | ((with_reducible show EV _ _ _ _ (eval (Expr.List _ _) _) _ _ _); refine ev_list (by walk_at "ok") ?_)
      | ((with_reducible show EV _ _ _ _ (eval (Expr.Dict [] [] _) _) _ _ _); refine ev_dict0 (by walk_at "ok") ?_)
      | ((with_reducible show EV _ _ _ _ (eval (Expr.ListComp _ [_] _ _) _) _ _ _); refine ev_comp (by walk_at "ok") (by walk_at "hh") (by rfl) ?_)
      | ((with_reducible show EV _ _ _ _ (eval (Expr.Call (Expr.Name _ _) _ _ _) _) _ _ _); walk_at "call")
      | ((with_reducible show EV _ _ _ _ (eval (Expr.Call (Expr.Attribute _ "append" _) _ _ _) _) _ _ _); refine ev_lmeth PySem.F.slot_list_append (by rfl) ?_)
      | ((with_reducible show EV _ _ _ _ (eval (Expr.Call (Expr.Attribute _ "extend" _) _ _ _) _) _ _ _); refine ev_lmeth PySem.F.slot_list_extend (by rfl) ?_)
      | ((with_reducible show EV _ _ _ _ (eval (Expr.Call (Expr.Attribute _ "insert" _) _ _ _) _) _ _ _); refine ev_lmeth PySem.F.slot_list_insert (by rfl) ?_)
      | ((with_reducible show EV _ _ _ _ (eval (Expr.Call (Expr.Attribute _ _ _) [] _ _) _) _ _ _); refine ev_meth0 (by assumption) ?_)
      | ((with_reducible show EV _ _ _ _ (eval (Expr.Call (Expr.Attribute _ _ _) _ _ _) _) _ _ _); refine ev_meth (by assumption) ?_))
  trivial
theorem word9 : True := by
  (k_with "tr" =>
    first
      | ((with_reducible show BV _ _ _ _ (isTrue (Expr.Compare _ [_] [_] _) _ _) _ _ _); refine tr_cmp ?_)
      | ((with_reducible show BV _ _ _ _ (isTrue (Expr.UnaryOp UnaryOp.Not _ _) _ _) _ _ _); refine tr_not ?_)
      | ((with_reducible show BV _ _ _ _ (isTrue (Expr.BoolOp BoolOp.And [] _) _ _) _ _ _); refine tr_and_nil ?_)
      | ((with_reducible show BV _ _ _ _ (isTrue (Expr.BoolOp BoolOp.Or [] _) _ _) _ _ _); refine tr_or_nil ?_)
      | ((with_reducible show BV _ _ _ _ (isTrue (Expr.BoolOp BoolOp.And _ _) _ _) _ _ _); refine tr_and_cons ?_)
      | ((with_reducible show BV _ _ _ _ (isTrue (Expr.BoolOp BoolOp.Or _ _) _ _) _ _ _); refine tr_or_cons ?_)
      | ((with_reducible show BV _ _ _ _ (isTrue _ _ _) _ _ _); refine tr_plain ?_))
  trivial
theorem word10 : True := by
  (k_with "v2" =>
    first
      | ((with_reducible show V2 _ _ _ _ (compareOp CmpOp.Eq) _ _ _ _ _); first | refine v2_eqS ?_ | refine v2_eqI ?_)
      | ((with_reducible show V2 _ _ _ _ (compareOp CmpOp.NotEq) _ _ _ _ _); refine v2_neS ?_)
      | ((with_reducible show V2 _ _ _ _ (compareOp CmpOp.Lt) _ _ _ _ _); refine v2_ltI ?_)
      | ((with_reducible show V2 _ _ _ _ (compareOp CmpOp.Gt) _ _ _ _ _); refine v2_gtI ?_)
      | ((with_reducible show V2 _ _ _ _ (compareOp CmpOp.LtE) _ _ _ _ _); refine v2_leI ?_)
      | ((with_reducible show V2 _ _ _ _ (compareOp CmpOp.GtE) _ _ _ _ _); refine v2_geI ?_)
      | ((with_reducible show V2 _ _ _ _ (compareOp CmpOp.Is) _ _ _ _ _); first | refine v2_isNoneT ?_ | refine v2_isNone (by rfl) ?_)
      | ((with_reducible show V2 _ _ _ _ (compareOp CmpOp.IsNot) _ _ _ _ _); first | refine v2_isNotNoneF ?_ | refine v2_isNotNone (by rfl) ?_)
      | ((with_reducible show V2 _ _ _ _ (binaryOp Operator.Add) (AV.i _) (AV.i _) _ _ _); refine v2_add (by walk_at "ok") ?_)
      | ((with_reducible show V2 _ _ _ _ (binaryOp Operator.Sub) (AV.i _) (AV.i _) _ _ _); refine v2_sub (by walk_at "ok") ?_)
      | ((with_reducible show V2 _ _ _ _ (binaryOp Operator.Add) (AV.t _) (AV.t _) _ _ _); refine v2_tadd (by walk_at "ok") (by walk_at "len") ?_)
      | ((with_reducible show V2 _ _ _ _ (subscriptTail _ _) (AV.t _) _ _ _ _); refine v2_tup (by decide) (by decide) (by rfl) (by rfl) ?_))
  trivial
theorem word11 : True := by
  (k_with "x1" =>
    first
      | ((with_reducible show ST _ _ _ _ (exec (Stmt.Return (some _) _) _) _ _ _); refine x_ret ?_)
      | ((with_reducible show ST _ _ _ _ (exec (Stmt.If _ _ _ _) _) _ _ _); refine x_if ?_)
      | ((with_reducible show ST _ _ _ _ (exec (Stmt.Continue _) _) _ _ _); refine x_cont ?_)
      | ((with_reducible show ST _ _ _ _ (exec (Stmt.Expr _ _) _) _ _ _); refine x_expr ?_)
      | ((with_reducible show ST _ _ _ _ (exec (Stmt.Assign [Expr.Name _ _] (Expr.ListComp _ _ _ _) _) _) _ _ _); fail)
      | ((with_reducible show ST _ _ _ _ (exec (Stmt.Assign [Expr.Name _ _] _ _) _) _ _ _); refine x_name (by walk_at "ok") ?_ (by rfl))
      | ((with_reducible show ST _ _ _ _ (exec (Stmt.Assign [Expr.Attribute _ _ _] _ _) _) _ _ _); refine x_attr (by assumption) ?_)
      | ((with_reducible show ST _ _ _ _ (exec (Stmt.Assign [Expr.Subscript _ _ _] _ _) _) _ _ _); refine x_sub ?_)
      | ((with_reducible show ST _ _ _ _ (exec (Stmt.Assign [Expr.Tuple _ _ _] _ _) _) _ _ _); first | refine x_tup ?_ | refine x_tupS (by walk_at "ok") (by walk_at "hh") (hw := by rfl) ?_))
  trivial
theorem word12 : True := by
  (k_with "x1" =>
    ((with_reducible show ST _ _ _ _ (exec (Stmt.For _ _ _ _ _) _) _ _ _); refine x_for (by walk_at "ok") ?_))
  trivial
theorem word13 : True := by
  (k_with "st" =>
    first
      | ((with_reducible show ST _ _ _ _ (execs [] _) _ _ _); refine xs_nil ?_)
      | ((with_reducible show ST _ _ _ _ (execs (_ :: _) _) _ _ _); refine xs_cons ?_; try walk_at "x1")
      | walk_at "x1")
  trivial
theorem word14 : True := by
  (k_with "else" =>
    refine ⟨_, rfl, ?_⟩)
  trivial
theorem Pg.comp {X : Cx} {A : Around} {mg mb : Str → Option Value} (P : PP X A mg mb) (cl : List (Str × Addr)) (C : Addr) : PP (compX X cl C) A mg mb := ⟨compX_ok, P.k, P.t⟩
theorem ts_nil {X : Cx} {A : Around} {env : Env} {E : Value → Shared → Prop} {m : Vars} {σ : Store} {Q : Bool → Store → Prop} (h : Q true σ) : ts X A env E [] m σ Q := h
theorem ts_one {X : Cx} {A : Around} {env : Env} {E : Value → Shared → Prop} {m : Vars} {σ : Store} {c : Expr} {Q : Bool → Store → Prop} (h : tr X A env E c m σ Q) : ts X A env E [c] m σ Q := h
theorem Store.set_set {σ : Store} {a : Addr} {o o' : AO} : (σ.set a o).set a o' = σ.set a o' := by
  funext b; by_cases h : b = a
  · subst h; rw [Store.set_self, Store.set_self]
  · rw [Store.set_ne h, Store.set_ne h, Store.set_ne h]
theorem Capt.set {cenv : Env} {mi m : Vars} {y : Str} {d : AV} (h : Capt cenv mi m) (hk : cenv.kindOf y = some .local) : Capt cenv (mi.set y d) m := fun x hx => by
  have : x ≠ y := fun z => by subst z; rcases hx with hx | hx <;> rw [hk] at hx <;> cases hx
  simp only [Vars.set, this, if_false]; exact h x hx
theorem word15 : True := by
  (k_with "capt" =>
    first | assumption | (refine Capt.set ?_ (by rfl); walk_at "capt"))
  trivial
theorem enumItems_at {l : List AV} {i : Nat} {d : AV} (h : (enumItems l)[i]? = some d) : ∃ x, l[i]? = some x ∧ d = .t [.i (i : Int), x] := by
  simp [enumItems, List.getElem?_mapIdx] at h
  obtain ⟨x, h1, h2⟩ := h
  exact ⟨x, h1, h2.symm⟩
theorem map_at {α β : Type} {f : α → β} {l : List α} {i : Nat} {d : β} (h : (l.map f)[i]? = some d) : ∃ x, l[i]? = some x ∧ d = f x := by
  simp at h
  obtain ⟨x, h1, h2⟩ := h
  exact ⟨x, h1, h2.symm⟩
theorem drop_at {α : Type} {l : List α} {i : Nat} {x : α} (h : l[i]? = some x) : l.drop i = x :: l.drop (i + 1) := by
  obtain ⟨hi, rfl⟩ := List.getElem?_eq_some_iff.mp h
  exact List.drop_eq_getElem_cons hi
theorem take_at {α : Type} {l : List α} {i : Nat} {x : α} (h : l[i]? = some x) : l.take (i + 1) = l.take i ++ [x] := by
  obtain ⟨hi, rfl⟩ := List.getElem?_eq_some_iff.mp h
  exact (List.take_append_getElem hi).symm
theorem word16 : True := by
  (k_with "len" =>
    first | rfl | decide | assumption | (simp only [put, List.length_cons, List.length_nil]; first | done | omega | decide) | (simp; done) | omega)
  trivial
theorem ite_t {c : Prop} [Decidable c] {P Q : Prop} (h : c) (p : P) : if c then P else Q := by rw [if_pos h]; exact p
theorem ite_f {c : Prop} [Decidable c] {P Q : Prop} (h : ¬ c) (p : Q) : if c then P else Q := by rw [if_neg h]; exact p
theorem ite_s {c : Bool} {P Q : Prop} (p : c = true → P) (q : c = false → Q) : if c = true then P else Q := by
  cases c
  · exact ite_f (by decide) (q rfl)
  · exact ite_t rfl (p rfl)
theorem ite_fb {c : Bool} {P Q : Prop} (h : c = false) (q : Q) : if c = true then P else Q := by subst h; exact ite_f (by decide) q
theorem word17 : True := by
  (k_with "ift" =>
    refine ite_t (by first | assumption | rfl | decide) ?_)
  trivial
theorem word18 : True := by
  (k_with "iff" =>
    refine ite_fb (by first | assumption | rfl | decide) ?_)
  trivial
theorem word19 : True := by
  (k_with "ifc" =>
    first
      | refine ite_t (by first | assumption | decide) ?_
      | refine ite_fb (by first | assumption | decide) ?_)
  trivial
theorem word20 : True := by
  (k_with "v1" =>
    first
      | ((with_reducible show V1 _ _ _ _ (unaryOp UnaryOp.Not) _ _ _ _); refine v1_not ?_)
      | ((with_reducible show V1 _ _ _ _ (unaryOp UnaryOp.USub) _ _ _ _); refine v1_neg (by walk_at "ok") ?_))
  trivial
theorem word21 : True := by
  (k_with "one" =>
    first
      | ((with_reducible show EV _ _ _ _ _ _ _ _); walk_at "ev")
      | ((with_reducible show ST _ _ _ _ _ _ _ _); walk_at "st")
      | ((with_reducible show BV _ _ _ _ _ _ _ _); walk_at "tr")
      | ((with_reducible show V2 _ _ _ _ _ _ _ _ _ _); walk_at "v2")
      | ((with_reducible show V1 _ _ _ _ _ _ _ _ _); walk_at "v1")
      | ((with_reducible show B1 _ _ _ _ _ _ _ _ _); refine b1_bool ?_)
      | ((with_reducible show VL _ _ _ _ (fun vs => call (Value.builtin "list.append") vs) _ _ _ _); refine vl_append (by walk_at "ok") (by walk_at "sto") (by walk_at "len") ?_)
      | ((with_reducible show VL _ _ _ _ (fun vs => call (Value.builtin "list.extend") vs) _ _ _ _); refine vl_extend (by walk_at "ok") (by walk_at "sto") (by walk_at "sto") (by walk_at "len") ?_)
      | ((with_reducible show Then _ _ _ _ _ _ _ _ _); dsimp only [Then])
      | ((with_reducible show Ends _ _ _ _); dsimp only [Ends])
      | ((with_reducible show TurnQ _ _ _ _ _ _); dsimp only [TurnQ])
      | ((with_reducible show WhileQ _ _ _ _ _ _); dsimp only [WhileQ])
      | ((with_reducible show @ite _ _ _ _ _); walk_at "ifc")
      | ((with_reducible show ie _ _ _ _ _ (Expr.Call (Expr.Name "enumerate" _) _ _ _) _ _ _); refine ie_callT (T := "enumerate") ?_; walk_at "name"; refine ⟨rfl, ?_⟩)
      | ((with_reducible show ie _ _ _ _ _ (Expr.Call (Expr.Name "range" _) _ _ _) _ _ _); refine ie_callT (T := "range") ?_; walk_at "name"; refine ⟨rfl, ?_⟩)
      | ((with_reducible show IL _ _ _ _ "enumerate" _ _ _ _ _); refine il_enum (by walk_at "hh") ?_)
      | ((with_reducible show U1 _ _ _ _ _ _ _ _ _); first | refine as_name (by walk_at "ok") (by rfl) ?_ | refine as_tuple (by walk_at "ok") (by walk_at "hh") ?_ (by rfl) | refine u_bind (by walk_at "ok") (by rfl) ?_)
      | ((with_reducible show asL _ _ _ _ _ _ _ _ _); first | refine asL_nil ?_ | refine asL_cons ?_)
      | ((with_reducible show Capt _ _ _ ∧ _); refine ⟨by walk_at "capt", ?_⟩)
      | ((with_reducible show ts _ _ _ _ [] _ _ _); refine ts_nil ?_)
      | ((with_reducible show ts _ _ _ _ [_] _ _ _); refine ts_one ?_)
      | ((with_reducible show _ ≤ _ ∧ _); refine ⟨by walk_at "len", ?_⟩)
      | ((with_reducible show List.length _ = List.length _ ∧ _); refine ⟨by walk_at "len", ?_⟩)
      | ((with_reducible show AV.c _ = AV.c _ ∧ _); refine ⟨rfl, ?_⟩)
      | ((with_reducible show evs _ _ _ _ [] _ _ _ _); refine evs_nil ?_)
      | ((with_reducible show evs _ _ _ _ _ _ _ _ _); refine evs_cons ?_)
      | walk_at "else")
  trivial
theorem word22 : True := by
  (k_with "go" =>
    repeat (walk_at "one"))
  trivial
variable {B : Bs} {A : Around} {E : Value → Shared → Prop} {σ : Store} {mg mb : Str → Option Value}
theorem c_without_pointer (T : TopOk B mg mb) (hr : Room A 1) {k : Str} {x : AV} {Q : AV → Store → Prop} (q : Q (if (k == "ptr") = true then x else .t [.s k, x]) σ) : CV B A E (.ref 94) [.t [.s k, x]] σ Q := by
  walk_at "in"
  intro L E' A' P R hA
  walk_at "go"
  refine ite_s (fun h => ?_) (fun h => ?_) <;> simp only [h] at q <;> walk_at "go" <;> exact q
abbrev Step := Nat × Bool
noncomputable def Step.av (q : Step) : AV := .t [.i (q.1 : Int), .c (.bool q.2)]
noncomputable def stepsL (l : List Step) : List AV := l.map Step.av
structure Meth where
  p : Bool
  f : AV
  k : Str
noncomputable def Meth.av (m : Meth) : AV := .t [.c (.bool m.p), m.f, .s m.k]
inductive Ty where
  | nm (k : Str) | pt (k : Str) | bl
noncomputable def Ty.av : Ty → AV
  | .nm k => .t [.s "named", .s k]
  | .pt k => .t [.s "ptr", .t [.s "named", .s k]]
  | .bl => .t [.s "bool"]
structure Fld where
  n : Str
  ty : Ty
  e : Bool
noncomputable def Fld.av (f : Fld) : AV := .t [.s f.n, f.ty.av, .c (.bool f.e)]
inductive Und where
  | st (l : List Fld) | fc (l : List (Str × AV))
noncomputable def Und.tag : Und → Str
  | .st _ => "struct"
  | .fc _ => "interface"
noncomputable def Und.rows : Und → List AV
  | .st l => l.map Fld.av
  | .fc l => l.map fun q => .t [.s q.1, q.2]
noncomputable def Und.av (u : Und) : AV := .t [.s u.tag, .t u.rows]
structure NRow where
  u : Und
  ms : List (Str × Meth)
abbrev Wd := Str → Option NRow
inductive Told where
  | nm (k : Str) | an (l : List Fld)
noncomputable def Told.tag : Told → Str
  | .nm _ => "named"
  | .an _ => "struct"
noncomputable def Told.arg : Told → AV
  | .nm k => .s k
  | .an l => .t (l.map Fld.av)
noncomputable def Told.av (t : Told) : AV := .t [.s t.tag, t.arg]
abbrev Rch := Told × List Step
noncomputable def rowsAv (l : List (Str × Meth)) : List (Str × AV) := l.map fun q => (q.1, q.2.av)
/-- what stood, stands -/
noncomputable def Ext (σ σ' : Store) : Prop := ∀ a o, σ a = some o → σ' a = some o
theorem Ext.refl {σ : Store} : Ext σ σ := fun _ _ h => h
theorem Ext.at {σ σ' : Store} (x : Ext σ σ') {a : Addr} {o : AO} (h : σ a = some o) : σ' a = some o := x a o h
theorem Ext.trans {σ σ' σ'' : Store} (x : Ext σ σ') (y : Ext σ' σ'') : Ext σ σ'' := fun a o h => y a o (x a o h)
theorem Ext.fresh {σ σ' : Store} {a : Addr} (x : Ext σ σ') (h : σ' a = none) : σ a = none := by
  cases e : σ a with
  | none => rfl
  | some o => rw [x a o e] at h; cases h
theorem Ext.upd {σ σ' : Store} {a : Addr} {o : AO} (x : Ext σ σ') (h : σ a = none) : Ext σ (σ'.set a o) := fun b q e => by
  have : b ≠ a := fun z => by subst z; rw [h] at e; cases e
  rw [Store.set_ne this]; exact x b q e
theorem Ext.new {σ : Store} {a : Addr} {o : AO} (h : σ a = none) : Ext σ (σ.set a o) := Ext.upd .refl h
theorem Ext.del {σ σ' : Store} {a : Addr} (x : Ext σ σ') (h : σ a = none) : Ext σ (σ'.del a) := fun b q e => by
  have : b ≠ a := fun z => by subst z; rw [h] at e; cases e
  rw [Store.del_ne this]; exact x b q e
theorem Store.set_new {σ : Store} {a b : Addr} {o o' : AO} (h : σ b = none) (e : σ a = some o) : (σ.set b o') a = some o := by
  have : a ≠ b := fun z => by subst z; rw [h] at e; cases e
  rw [Store.set_ne this]; exact e
theorem ne_of_some {σ : Store} {a b : Addr} {o : AO} (h : σ b = some o) (e : σ a = none) : a ≠ b := fun z => by subst z; rw [h] at e; cases e
theorem ne_of_kind {σ : Store} {a b : Addr} {o o' : AO} (h : σ a = some o) (e : σ b = some o') (k : o ≠ o') : a ≠ b := fun z => by subst z; rw [h] at e; cases e; exact k rfl
/-- a named row at its address -/
noncomputable def RowAt (σ : Store) (ra : Addr) (r : NRow) : Prop := ∃ rd rf md, σ ra = some (.ins 201 rd) ∧ σ rd = some (.dct rf) ∧ rf.lookup ("underlying" : Str) = some r.u.av ∧ rf.lookup ("methods" : Str) = some (.c (.ref md)) ∧ σ md = some (.dct (rowsAv r.ms))
theorem RowAt.ext {σ σ' : Store} {ra : Addr} {r : NRow} (x : Ext σ σ') (h : RowAt σ ra r) : RowAt σ' ra r :=
  let ⟨rd, rf, md, a, b, c, d, e⟩ := h; ⟨rd, rf, md, x _ _ a, x _ _ b, c, d, x _ _ e⟩
noncomputable def WorldAt (σ : Store) (w : Addr) (W : Wd) : Prop := ∃ d f nd rows, σ w = some (.ins 244 d) ∧ σ d = some (.dct f) ∧ f.lookup ("named" : Str) = some (.c (.ref nd)) ∧ f.lookup ("base_of" : Str) = none ∧ σ nd = some (.dct rows) ∧ ∀ k r, W k = some r → ∃ ra, rows.lookup k = some (.c (.ref ra)) ∧ RowAt σ ra r
theorem WorldAt.ext {σ σ' : Store} {w : Addr} {W : Wd} (x : Ext σ σ') (h : WorldAt σ w W) : WorldAt σ' w W :=
  let ⟨d, f, nd, rows, a, b, c, e, g, i⟩ := h; ⟨d, f, nd, rows, x _ _ a, x _ _ b, c, e, x _ _ g, fun k r q => let ⟨ra, y, z⟩ := i k r q; ⟨ra, y, z.ext x⟩⟩
/-- a reached type at its address -/
noncomputable def RchAt (σ : Store) (v : AV) (r : Rch) : Prop := ∃ a d, v = .c (.ref a) ∧ σ a = some (.ins 83 d) ∧ σ d = some (.dct [("told", r.1.av), ("steps", .t (stepsL r.2))])
theorem RchAt.ext {σ σ' : Store} {v : AV} {r : Rch} (x : Ext σ σ') (h : RchAt σ v r) : RchAt σ' v r :=
  let ⟨a, d, e, b, c⟩ := h; ⟨a, d, e, x _ _ b, x _ _ c⟩
noncomputable def ReL (σ : Store) : List AV → List Rch → Prop
  | [], [] => True
  | v :: vs, r :: rs => RchAt σ v r ∧ ReL σ vs rs
  | _, _ => False
theorem ReL.ext {σ σ' : Store} (x : Ext σ σ') : ∀ {vs : List AV} {rs : List Rch}, ReL σ vs rs → ReL σ' vs rs
  | [], [], _ => trivial
  | _ :: _, _ :: _, h => ⟨h.1.ext x, h.2.ext x⟩
theorem ReL.length {σ : Store} : ∀ {vs : List AV} {rs : List Rch}, ReL σ vs rs → vs.length = rs.length
  | [], [], _ => rfl
  | _ :: _, _ :: _, h => by simp [h.2.length]
theorem ReL.at {σ : Store} : ∀ {vs : List AV} {rs : List Rch} {i : Nat} {v : AV}, ReL σ vs rs → vs[i]? = some v → ∃ r, rs[i]? = some r ∧ RchAt σ v r
  | [], [], _, _, _, e => by simp at e
  | v :: vs, r :: rs, 0, _, h, e => by simp at e; subst e; exact ⟨r, rfl, h.1⟩
  | v :: vs, r :: rs, i + 1, _, h, e => by simp at e; simpa using h.2.at e
theorem ReL.append {σ : Store} : ∀ {vs : List AV} {rs : List Rch} {vs' : List AV} {rs' : List Rch}, ReL σ vs rs → ReL σ vs' rs' → ReL σ (vs ++ vs') (rs ++ rs')
  | [], [], _, _, _, h' => h'
  | _ :: _, _ :: _, _, _, h, h' => ⟨h.1, h.2.append h'⟩
/-- no reached type's object -/
noncomputable def Apart (o : AO) : Prop := (∀ d, o ≠ .ins 83 d) ∧ ∀ t s, o ≠ .dct [("told", .t t), ("steps", s)]
theorem Apart.lst {l : List AV} : Apart (.lst l) := ⟨fun _ h => (nomatch h), fun _ _ h => (nomatch h)⟩
theorem RchAt.upd {σ : Store} {v : AV} {r : Rch} {c : Addr} {o o' : AO} (hc : σ c = some o') (ha : Apart o') (h : RchAt σ v r) : RchAt (σ.set c o) v r := by
  obtain ⟨a, d, e, h1, h2⟩ := h
  exact ⟨a, d, e, (Store.set_ne (ne_of_kind h1 hc fun z => ha.1 _ z.symm)).trans h1, (Store.set_ne (ne_of_kind h2 hc fun z => ha.2 _ _ z.symm)).trans h2⟩
theorem ReL.upd {σ : Store} {c : Addr} {o o' : AO} (hc : σ c = some o') (ha : Apart o') : ∀ {vs : List AV} {rs : List Rch}, ReL σ vs rs → ReL (σ.set c o) vs rs
  | [], [], _ => trivial
  | _ :: _, _ :: _, h => ⟨h.1.upd hc ha, h.2.upd hc ha⟩
noncomputable def levD (w : AV) (hd sd : Addr) : List (Str × AV) := [("world", w), ("here", .c (.ref hd)), ("seen", .c (.ref sd))]
theorem Apart.lev {w : AV} {hd sd : Addr} : Apart (.dct (levD w hd sd)) := ⟨fun _ h => (nomatch h), fun t s h => by simp [levD] at h⟩
noncomputable def seenAv (l : List Str) : List (Str × AV) := l.map fun k => (k, .c (.bool true))
theorem Apart.seen {l : List Str} : Apart (.dct (seenAv l)) := ⟨fun _ h => (nomatch h), fun t s h => by
  match l with
  | [] => simp [seenAv] at h
  | [_] => simp [seenAv] at h
  | [_, _] => simp [seenAv] at h
  | _ :: _ :: _ :: _ => simp [seenAv] at h⟩
noncomputable def addKey (l : List Str) (k : Str) : List Str := if k ∈ l then l else l ++ [k]
theorem seenAv_lookup (k : Str) : ∀ l : List Str, ((seenAv l).lookup k).isSome = decide (k ∈ l)
  | [] => rfl
  | x :: l => by
    have ih := seenAv_lookup k l
    simp only [seenAv, List.map_cons, List.lookup_cons] at ih ⊢
    by_cases h : k = x
    · subst h; simp
    · have : (k == x) = false := by simpa using h
      rw [this]
      simp only [ih, List.mem_cons, h, false_or]
-- what the functions reckon
noncomputable def own (W : Wd) : Told → List (Str × Meth)
  | .nm k => match W k with
    | some r => r.ms
    | none => []
  | .an _ => []
noncomputable def base (W : Wd) : Told → Und
  | .nm k => match W k with
    | some r => r.u
    | none => .st []
  | .an l => .st l
noncomputable def Known (W : Wd) : Told → Prop
  | .nm k => ∃ r, W k = some r
  | .an _ => True
noncomputable def Ty.bare : Ty → Told
  | .nm k => .nm k
  | .pt k => .nm k
  | .bl => .an []
noncomputable def Ty.isPt : Ty → Bool
  | .pt _ => true
  | _ => false
inductive Mem where
  | meth (s : List Step) (m : Meth)
  | fld (s : List Step) (ty : Ty)
  | face (s : List Step) (n : Str) (f : AV)
noncomputable def Mem.av : Mem → AV
  | .meth s m => .t [.s "method", .t (stepsL s), .s m.k, .c (.bool m.p), m.f]
  | .fld s ty => .t [.s "field", .t (stepsL s), ty.av]
  | .face s n f => .t [.s "face", .t (stepsL s), .s n, f]
noncomputable def fldAt (name : Str) : Nat → List Fld → Option (Nat × Ty)
  | _, [] => none
  | k, f :: l => if (f.n == name) = true then some (k, f.ty) else fldAt name (k + 1) l
noncomputable def faces (s : List Step) (name : Str) (l : List (Str × AV)) : List Mem := (l.filter fun q => q.1 == name).map fun q => .face s name q.2
noncomputable def members (W : Wd) (r : Rch) (name : Str) : List Mem := match (own W r.1).lookup name with
  | some m => [.meth r.2 m]
  | none => match base W r.1 with
    | .st l => match fldAt name 0 l with
      | some (k, ty) => [.fld (r.2 ++ [(k, false)]) ty]
      | none => []
    | .fc l => faces r.2 name l
noncomputable def embF (s : List Step) : Nat → List Fld → List Rch
  | _, [] => []
  | k, f :: l => (if f.e = true then [(f.ty.bare, s ++ [(k, f.ty.isPt)])] else []) ++ embF s (k + 1) l
noncomputable def emb (W : Wd) (r : Rch) : List Rch := match base W r.1 with
  | .st l => embF r.2 0 l
  | .fc _ => []
theorem embF_append (s : List Step) : ∀ (l : List Fld) (k : Nat) (f : Fld), embF s k (l ++ [f]) = embF s k l ++ (if f.e = true then [(f.ty.bare, s ++ [(k + l.length, f.ty.isPt)])] else [])
  | [], k, f => by simp [embF]
  | x :: l, k, f => by
    have e : k + 1 + l.length = k + (l.length + 1) := by omega
    simp only [List.cons_append, embF, embF_append s l (k + 1) f, List.length_cons, List.append_assoc, e]
theorem embF_len (s : List Step) : ∀ (l : List Fld) (k : Nat), (embF s k l).length ≤ l.length
  | [], k => by simp [embF]
  | x :: l, k => by
    have := embF_len s l (k + 1)
    simp only [embF, List.length_append, List.length_cons]
    split <;> simp <;> omega
noncomputable def Und.Ok : Und → Prop
  | .st l => (∀ f ∈ l, f.e = true → f.ty ≠ .bl) ∧ l.length ≤ 100
  | .fc l => l.length ≤ 100
noncomputable def addTold (l : List Str) : Told → List Str
  | .nm k => addKey l k
  | .an _ => l
noncomputable def seenOf (l : List Str) (rs : List Rch) : List Str := rs.foldl (fun l r => addTold l r.1) l
noncomputable def unseen (l : List Str) : Told → Bool
  | .nm k => !decide (k ∈ l)
  | .an _ => true
noncomputable def later (W : Wd) (l : List Str) (rs : List Rch) : List Rch := (rs.flatMap (emb W)).filter fun r => unseen l r.1
theorem addKey_len (l : List Str) (k : Str) : (addKey l k).length ≤ l.length + 1 := by
  unfold addKey; split <;> simp
theorem addTold_len (l : List Str) (t : Told) : (addTold l t).length ≤ l.length + 1 := by
  cases t with
  | nm k => exact addKey_len l k
  | an _ => simp [addTold]
theorem seenOf_len (l : List Str) : ∀ rs : List Rch, (seenOf l rs).length ≤ l.length + rs.length := by
  intro rs
  induction rs generalizing l with
  | nil => simp [seenOf]
  | cons r rs ih =>
    have := ih (addTold l r.1)
    have h2 := addTold_len l r.1
    simp only [seenOf, List.foldl_cons, List.length_cons] at this ⊢
    omega
theorem seenOf_append (l : List Str) (rs : List Rch) (r : Rch) : seenOf l (rs ++ [r]) = addTold (seenOf l rs) r.1 := by simp [seenOf]
theorem word23 : True := by
  (k_with "fresh" =>
    first
      | assumption
      | (refine (Store.set_ne (by walk_at "ne")).trans ?_; walk_at "fresh")
      | (apply Ext.fresh <;> assumption))
  trivial
theorem word24 : True := by
  (k_with "ne0" =>
    first
      | assumption | exact Ne.symm (by assumption) | (apply ne_of_some <;> assumption) | (apply Ne.symm; apply ne_of_some <;> assumption) | (refine ne_of_kind (by assumption) (by assumption) ?_; intro z; cases z; done))
  trivial
theorem word25 : True := by
  (k_with "sto0" =>
    first
      | assumption
      | exact Store.set_self
      | (refine (Store.set_ne (by walk_at "ne0")).trans ?_; walk_at "sto0")
      | (refine' Ext.at (by assumption) ?_; assumption))
  trivial
theorem word26 : True := by
  (k_with "ne" =>
    first
      | walk_at "ne0"
      | (refine' ne_of_some ?_ ?_; rotate_left; assumption; walk_at "sto0")
      | (refine' Ne.symm (ne_of_some ?_ ?_); rotate_left; assumption; walk_at "sto0"))
  trivial
theorem word27 : True := by
  (k_with "sto" =>
    first
      | assumption
      | exact Store.set_self
      | (refine (Store.set_ne (by walk_at "ne")).trans ?_; walk_at "sto")
      | (refine' Ext.at (by assumption) ?_; walk_at "sto"))
  trivial
theorem word28 : True := by
  (k_with "look" =>
    first | assumption | rfl)
  trivial
theorem word29 : True := by
  (k_with "attr" =>
    refine ⟨_, _, _, _, rfl, (by walk_at "sto"), (by walk_at "sto"), (by first | assumption | kernel_rfl), (by walk_at "len"), ?_⟩)
  trivial
theorem word30 : True := by
  (k_with "field" =>
    refine v1_attr (by assumption) (by walk_at "sto") (by walk_at "sto") (by kernel_rfl) (by walk_at "look") (by rfl) ?_)
  trivial
theorem word31 : True := by
  (k_with "v1" =>
    ((with_reducible show V1 _ _ _ _ (fun o => getAttr o _ _) _ _ _ _); walk_at "field"))
  trivial
theorem word32 : True := by
  (k_with "v2" =>
    first
      | ((with_reducible show V2 _ _ _ _ (compareOp CmpOp.In) _ _ _ _ _); refine v2_in (by walk_at "ok") (TopOk.sys (by assumption)) (by walk_at "sto") ?_)
      | ((with_reducible show V2 _ _ _ _ (compareOp CmpOp.NotIn) _ _ _ _ _); refine v2_notin (by walk_at "ok") (TopOk.sys (by assumption)) (by walk_at "sto") ?_)
      | ((with_reducible show V2 _ _ _ _ (subscriptTail _ _) (AV.c _) _ _ _ _); refine v2_dct (by walk_at "ok") (by walk_at "sto") (by walk_at "look") ?_))
  trivial
theorem word33 : True := by
  (k_with "else" =>
    ((with_reducible show ∃ _ _ _ _, _); walk_at "attr"))
  trivial
theorem word34 : True := by
  (k_with "else" =>
    ((with_reducible show ∃ _ _ _ _ _, _); first
      | refine ⟨_, _, _, _, 234, rfl, (by walk_at "sto"), (by walk_at "sto"), (by kernel_rfl), (by walk_at "look"), ?_⟩
      | refine ⟨_, _, _, _, 134, rfl, (by walk_at "sto"), (by walk_at "sto"), (by kernel_rfl), (by walk_at "look"), ?_⟩))
  trivial
theorem word35 : True := by
  (k_with "else" =>
    ((with_reducible show ∃ _ _, _ = _ ∧ _ = _ ∧ _); refine ⟨_, _, rfl, (by walk_at "sto"), ?_⟩))
  trivial
theorem word36 : True := by
  (k_with "len" =>
    (simp only [stepsL, List.length_map, List.length_cons, List.length_nil, List.length_append]; omega))
  trivial
theorem word37 : True := by
  (k_with "else" =>
    ((with_reducible show SI _ _ _ _ _ _ _ _ _ _); first
      | refine si_dct (by walk_at "ok") (by walk_at "sto") (by walk_at "len") ?_
      | refine si_lst (by walk_at "ok") (by walk_at "sto") (by walk_at "len") (by walk_at "len") (by walk_at "len") ?_))
  trivial
theorem word38 : True := by
  (k_with "ext" =>
    first | assumption | exact Ext.refl | (refine Ext.upd ?_ (by walk_at "fresh"); walk_at "ext"))
  trivial
theorem c_Reached (T : TopOk B mg mb) (hr : Room A 2) {t s : AV} {Q : AV → Store → Prop} (q : ∀ σ' a d, Ext σ σ' → σ a = none → σ d = none → σ' a = some (.ins 83 d) → σ' d = some (.dct [("told", t), ("steps", s)]) → Q (.c (.ref a)) σ') : CV B A E (.ref 83) [t, s] σ Q := by
  refine CV.cls T.k hr (C := 83) (fI := 80) (by kernel_rfl) (by k_is) (by k_is) fun A' x dx R n1 n2 ne => ?_
  walk_at "in"
  intro L E' A'' P R' hA
  walk_at "go"
  exact q _ x dx (by walk_at "ext") n1 n2 (by walk_at "sto") (by walk_at "sto")
theorem c_own (T : TopOk B mg mb) (hr : Room A 1) {w : Addr} {W : Wd} {t : Told} (hw : WorldAt σ w W) (hk : Known W t) {Q : AV → Store → Prop} (q : ∀ σ' a, Ext σ σ' → σ' a = some (.dct (rowsAv (own W t))) → Q (.c (.ref a)) σ') : CV B A E (.ref 101) [.c (.ref w), t.av] σ Q := by
  walk_at "in"
  intro L E' A' P R hA
  unfold Told.av
  walk_at "go"
  cases t with
  | an l =>
    walk_at "iff"
    walk_at "go"
    intro a ha
    exact q _ a (.new ha) Store.set_self
  | nm k =>
    obtain ⟨r, hW⟩ := hk
    obtain ⟨d, f, nd, rows, h1, h2, h3, h4, h5, h6⟩ := hw
    obtain ⟨ra, h7, rd, rf, md, k1, k2, k3, k4, k5⟩ := h6 k r hW
    walk_at "ift"
    walk_at "go"
    exact q _ md .refl (by simp only [own, hW]; exact k5)
theorem c_base (T : TopOk B mg mb) (hr : Room A 1) {w : Addr} {W : Wd} {t : Told} (hw : WorldAt σ w W) (hk : Known W t) {Q : AV → Store → Prop} (q : Q (base W t).av σ) : CV B A E (.ref 234) [.c (.ref w), t.av] σ Q := by
  walk_at "in"
  intro L E' A' P R hA
  walk_at "go"
  refine x_while (fun n m' σ' => σ' = σ ∧ m' "self" = some (.c (.ref w)) ∧ ((n = 1 ∧ (∃ k, t = .nm k) ∧ m' "told" = some t.av) ∨ (n = 0 ∧ m' "told" = some (base W t).av))) (match (generalizing := false) t with | .nm _ => 1 | .an _ => 0) ?_ ?_
  · refine ⟨rfl, by walk_at "get", ?_⟩
    cases t with
    | nm k => exact .inl ⟨rfl, ⟨k, rfl⟩, by walk_at "get"⟩
    | an l => exact .inr ⟨rfl, by walk_at "get"⟩
  · rintro n m' σ' ⟨rfl, g1, ⟨rfl, ⟨k, rfl⟩, g2⟩ | ⟨rfl, g2⟩⟩
    · simp only [Told.av, Told.tag, Told.arg] at g2
      obtain ⟨r, hW⟩ := hk
      obtain ⟨d, f, nd, rows, h1, h2, h3, h4, h5, h6⟩ := hw
      obtain ⟨ra, h7, rd, rf, md, k1, k2, k3, k4, k5⟩ := h6 k r hW
      walk_at "go"
      refine ite_fb (by rw [h7]; rfl) ?_
      walk_at "go"
      refine ⟨0, by decide, rfl, by walk_at "get", .inr ⟨rfl, ?_⟩⟩
      have : base W (.nm k) = r.u := by simp only [base, hW]
      rw [this]; walk_at "get"
    · have tg : ((base W t).tag == "named") = false := by cases base W t <;> rfl
      unfold Und.av at g2
      walk_at "go"
      exact q
/-- a type's first part is a name or a struct -/
theorem Told.tag_or (t : Told) : (t.tag == "ptr") = false := by cases t <;> rfl
theorem Und.tag_ptr (u : Und) : (u.tag == "ptr") = false := by cases u <;> rfl
theorem rowsAv_lookup (k : Str) : ∀ l : List (Str × Meth), (rowsAv l).lookup k = (l.lookup k).map Meth.av
  | [] => rfl
  | (x, m) :: l => by
    have ih := rowsAv_lookup k l
    unfold rowsAv at ih ⊢
    simp only [List.map_cons, List.lookup_cons]
    cases k == x <;> simp [ih]
theorem c_members (T : TopOk B mg mb) (hr : Room A 2) {w : Addr} {W : Wd} {r : Rch} {v : AV} {name : Str} (hw : WorldAt σ w W) (hv : RchAt σ v r) (hk : Known W r.1) (hs : r.2.length ≤ 100) (hl : (base W r.1).rows.length ≤ 100) {Q : AV → Store → Prop} (q : ∀ σ' a, Ext σ σ' → σ a = none → σ' a = some (.lst ((members W r name).map Mem.av)) → Q (.c (.ref a)) σ') : CV B A E (.ref 106) [.c (.ref w), v, .s name] σ Q := by
  obtain ⟨a, d, rfl, k1, k2⟩ := hv
  walk_at "in"
  intro L E' A' P R hA
  walk_at "go"
  refine CV.vl (by walk_at "ok") (c_own T (R.le (by decide)) hw hk fun σ₁ md e1 h1 => ?_)
  walk_at "go"
  obtain ⟨wd, f, nd, rows, w1, w2, w3, w4, w5, w6⟩ := id (hw.ext e1)
  refine ite_s (fun h => ?_) (fun h => ?_)
  · obtain ⟨x, hx⟩ := Option.isSome_iff_exists.mp h
    have hx' := hx
    rw [rowsAv_lookup] at hx'
    obtain ⟨mm, hm, rfl⟩ := Option.map_eq_some_iff.mp hx'
    unfold Meth.av at hx
    walk_at "go"
    intro c hc
    refine q _ c (e1.upd (e1.fresh hc)) (e1.fresh hc) ?_
    rw [Store.set_self]
    unfold members
    rw [hm]; rfl
  · have hn : (own W r.1).lookup name = none := by rw [rowsAv_lookup] at h; simpa using h
    walk_at "go"
    refine CV.vl (by walk_at "ok") (c_base T (R.le (by decide)) (hw.ext e1) hk ?_)
    have hmem : members W r name = match base W r.1 with
      | .st l => match fldAt name 0 l with
        | some (k, ty) => [.fld (r.2 ++ [(k, false)]) ty]
        | none => []
      | .fc l => faces r.2 name l := by simp only [members, hn] <;> rfl
    rw [hmem] at q
    generalize hb : base W r.1 = b at *
    cases b with
    | st l =>
      simp only [Und.av, Und.tag, Und.rows] at q hl ⊢
      walk_at "go"
      refine ⟨fun i m' σ' => σ' = σ₁ ∧ m' "steps" = some (.t (stepsL r.2)) ∧ m' "name" = some (.s name) ∧ m' "base" = some (.t [.s "struct", .t (l.map Fld.av)]) ∧ fldAt name 0 l = fldAt name i (l.drop i), ⟨rfl, by walk_at "get", by walk_at "get", by walk_at "get", rfl⟩, ⟨fun _ _ _ _ _ => trivial, ?_, ?_⟩⟩
      · rintro i d' m' σ' hd ⟨rfl, g1, g2, g3, g4⟩
        obtain ⟨y, hy, rfl⟩ := enumItems_at hd
        obtain ⟨fl, hfl, rfl⟩ := map_at hy
        rw [drop_at hfl] at g4
        simp only [fldAt] at g4
        rw [show fl.av = AV.t [.s fl.n, fl.ty.av, .c (.bool fl.e)] from rfl]
        walk_at "go"
        refine ite_s (fun hc => ?_) (fun hc => ?_)
        · rw [if_pos hc] at g4
          walk_at "go"
          intro c hc
          dsimp only [Then, Ends]
          rw [g4] at q
          refine q _ c (e1.upd (e1.fresh hc)) (e1.fresh hc) ?_
          rw [Store.set_self]
          simp [Mem.av, stepsL, Step.av]
        · rw [if_neg (by rw [hc]; decide)] at g4
          walk_at "go"
          exact ⟨rfl, by walk_at "get", by walk_at "get", by walk_at "get", g4⟩
      · rintro m' σ' ⟨rfl, g1, g2, g3, g4⟩
        walk_at "go"
        intro c hc
        dsimp only [Then, Ends]
        have : fldAt name 0 l = none := by
          rw [g4, List.drop_eq_nil_of_le (by simp [enumItems])]; rfl
        rw [this] at q
        exact q _ c (e1.upd (e1.fresh hc)) (e1.fresh hc) Store.set_self
    | fc l =>
      simp only [Und.av, Und.tag, Und.rows] at q hl ⊢
      walk_at "go"
      refine ie_tup (by walk_at "hh") ?_
      walk_at "go"
      intro C D cl _ hD
      have Pc := Pg.comp P cl C
      refine ⟨fun i ys σ' => σ' = σ₁.set D (.lst ys) ∧ i ≤ l.length ∧ ys = (faces r.2 name (l.take i)).map Mem.av, ⟨rfl, Nat.zero_le _, by simp [faces]⟩, ⟨?_, ?_⟩, ?_⟩
      · rintro i ys σ' hi ⟨rfl, hi', rfl⟩
        refine ⟨trivial, Store.set_self, ?_⟩
        simp only [faces, List.length_map]
        exact Nat.le_trans (List.length_filter_le _ _) (by simp; omega)
      · rintro E₁ i d' ys mi σ' hd ⟨rfl, hi, rfl⟩ hm
        obtain ⟨y, hy, rfl⟩ := map_at hd
        have s1 : mi "steps" = some (.t (stepsL r.2)) := (hm "steps" (.inl (by rfl))).trans (by walk_at "get")
        have s2 : mi "name" = some (.s name) := (hm "name" (.inl (by rfl))).trans (by walk_at "get")
        have hi' : i + 1 ≤ l.length := (List.getElem?_eq_some_iff.mp hy).1
        walk_at "go"
        refine ite_s (fun hc => ?_) (fun hc => ?_)
        · walk_at "go"
          refine ⟨Store.set_self, Store.set_set, hi', ?_⟩
          rw [take_at hy]
          simp [faces, hc, Mem.av]
        · refine ⟨rfl, hi', ?_⟩
          rw [take_at hy]
          simp [faces, hc, Mem.av]
      · rintro ys σ' ⟨rfl, hi, rfl⟩ _
        walk_at "go"
        refine q _ D (e1.upd (e1.fresh hD)) (e1.fresh hD) ?_
        rw [Store.set_self, List.length_map, List.take_length]
theorem c_emb (T : TopOk B mg mb) (hr : Room A 3) {w : Addr} {W : Wd} {r : Rch} {v : AV} (hw : WorldAt σ w W) (hv : RchAt σ v r) (hk : Known W r.1) (hs : r.2.length ≤ 100) (hl : (base W r.1).Ok) {Q : AV → Store → Prop} (q : ∀ σ' a vs, Ext σ σ' → σ a = none → σ' a = some (.lst vs) → ReL σ' vs (emb W r) → Q (.c (.ref a)) σ') : CV B A E (.ref 113) [.c (.ref w), v] σ Q := by
  obtain ⟨a, d, rfl, k1, k2⟩ := hv
  obtain ⟨wd, f, nd, rows, w1, w2, w3, w4, w5, w6⟩ := id hw
  walk_at "in"
  intro L E' A' P R hA
  walk_at "go"
  refine CV.vl (by walk_at "ok") (c_base T (R.le (by decide)) hw hk ?_)
  have hemb : emb W r = match base W r.1 with
      | .st l => embF r.2 0 l
      | .fc l => [] := rfl
  rw [hemb] at q
  generalize hb : base W r.1 = b at *
  walk_at "go"
  intro c hc
  walk_at "go"
  cases b with
  | fc l =>
    simp only [Und.av, Und.tag, Und.rows]
    walk_at "go"
    exact q _ c [] (.new hc) hc Store.set_self trivial
  | st l =>
    simp only [Und.av, Und.tag, Und.rows]
    walk_at "go"
    obtain ⟨hl1, hl2⟩ := hl
    refine ⟨fun i m' σ' => ∃ vs, Ext σ σ' ∧ σ' c = some (.lst vs) ∧ ReL σ' vs (embF r.2 0 (l.take i)) ∧ i ≤ l.length ∧ m' "found" = some (.c (.ref c)) ∧ m' "reached" = some (.c (.ref a)), ⟨[], .new hc, Store.set_self, by simp [embF, ReL], Nat.zero_le _, by walk_at "get", by walk_at "get"⟩, ⟨fun _ _ _ _ _ => trivial, ?_, ?_⟩⟩
    · rintro i d' m' σ' hd ⟨vs, e1, h1, h2, h3, g1, g2⟩
      obtain ⟨y, hy, rfl⟩ := enumItems_at hd
      obtain ⟨fl, hfl, rfl⟩ := map_at hy
      have hi' : i + 1 ≤ l.length := (List.getElem?_eq_some_iff.mp hfl).1
      have hap := embF_append r.2 (l.take i) 0 fl
      rw [← take_at hfl] at hap
      have hlt : (l.take i).length = i := by simp; omega
      rw [hlt, Nat.zero_add] at hap
      have hlen : vs.length ≤ 100 := by
        have := embF_len r.2 (l.take i) 0
        rw [h2.length]; omega
      rw [show fl.av = AV.t [.s fl.n, fl.ty.av, .c (.bool fl.e)] from rfl]
      walk_at "go"
      refine ite_s (fun he => ?_) (fun he => ?_)
      · rw [if_pos he] at hap
        have hty := hl1 fl (List.mem_of_getElem? hfl) he
        generalize hft : fl.ty = ty at *
        cases ty with
        | bl => exact absurd rfl hty
        | nm k =>
          simp only [Ty.av]
          walk_at "go"
          refine CV.vl (by walk_at "ok") (c_without_pointer T (R.le (by decide)) ?_)
          rw [if_neg (by decide)]
          walk_at "go"
          refine CV.vl (by walk_at "ok") (c_Reached T (R.le (by decide)) fun σ₂ x dx e2 n1 n2 k3 k4 => ?_)
          walk_at "go"
          have h1' := e2.at h1
          refine ⟨vs ++ [.c (.ref x)], (e1.trans e2).upd hc, Store.set_self, ?_, hi', by walk_at "get", by walk_at "get"⟩
          rw [hap]
          refine ReL.append ((h2.ext e2).upd h1' .lst) ⟨RchAt.upd h1' .lst ⟨x, dx, rfl, k3, ?_⟩, trivial⟩
          rw [k4]; simp [stepsL, Step.av, Ty.bare, Ty.isPt, Told.av, Told.tag, Told.arg]; decide
        | pt k =>
          simp only [Ty.av]
          walk_at "go"
          refine CV.vl (by walk_at "ok") (c_without_pointer T (R.le (by decide)) ?_)
          rw [if_pos (by decide)]
          walk_at "go"
          refine CV.vl (by walk_at "ok") (c_Reached T (R.le (by decide)) fun σ₂ x dx e2 n1 n2 k3 k4 => ?_)
          walk_at "go"
          have h1' := e2.at h1
          refine ⟨vs ++ [.c (.ref x)], (e1.trans e2).upd hc, Store.set_self, ?_, hi', by walk_at "get", by walk_at "get"⟩
          rw [hap]
          refine ReL.append ((h2.ext e2).upd h1' .lst) ⟨RchAt.upd h1' .lst ⟨x, dx, rfl, k3, ?_⟩, trivial⟩
          rw [k4]; simp [stepsL, Step.av, Ty.bare, Ty.isPt, Told.av, Told.tag, Told.arg]
      · rw [if_neg (by rw [he]; decide), List.append_nil] at hap
        walk_at "go"
        exact ⟨vs, e1, h1, by rw [hap]; exact h2, hi', by walk_at "get", by walk_at "get"⟩
    · rintro m' σ' ⟨vs, e1, h1, h2, h3, g1, g2⟩
      walk_at "go"
      have : l.take (enumItems (l.map Fld.av)).length = l := by rw [List.take_of_length_le]; simp [enumItems]
      rw [this] at h2
      exact q _ c vs e1 hc h1 h2
theorem put_seen (k : Str) : ∀ l : List Str, put (seenAv l) k (.c (.bool true)) = seenAv (addKey l k)
  | [] => rfl
  | x :: l => by
    have ih := put_seen k l
    by_cases h : x = k
    · subst h; simp [seenAv, put, addKey]
    · have h' : ¬ k = x := fun e => h e.symm
      simp only [seenAv, List.map_cons, put, h, if_false] at ih ⊢
      rw [ih]
      by_cases hm : k ∈ l <;> simp [addKey, hm, h']
theorem c_Levels (T : TopOk B mg mb) (hr : Room A 4) {w : AV} {t : Told} {Q : AV → Store → Prop} (q : ∀ σ' a d hd sd v, Ext σ σ' → σ a = none → σ d = none → σ sd = none → σ' a = some (.ins 137 d) → σ' d = some (.dct (levD w hd sd)) →
    σ' hd = some (.lst [v]) → σ' sd = some (.dct (seenAv [])) → RchAt σ' v (t, []) → Q (.c (.ref a)) σ') : CV B A E (.ref 137) [w, t.av] σ Q := by
  refine CV.cls T.k hr (C := 137) (fI := 127) (by kernel_rfl) (by k_is) (by k_is) fun A' x dx R n1 n2 ne => ?_
  walk_at "in"
  intro L E' A'' P R' hA
  walk_at "go"
  refine CV.vl (by walk_at "ok") (c_Reached T (R'.le (by decide)) fun σ₁ y dy e1 m1 m2 k1 k2 => ?_)
  have z1 : σ₁ x = some (.ins 137 dx) := e1.at (by walk_at "sto")
  have z2 : σ₁ dx = some (.dct [("world", w)]) := e1.at Store.set_self
  have e2 : Ext σ σ₁ := Ext.trans (by walk_at "ext") e1
  walk_at "go"
  intro hx hhx
  have d1 : hx ≠ x := ne_of_some z1 hhx
  have d2 : hx ≠ dx := ne_of_some z2 hhx
  have d3 : hx ≠ y := ne_of_some k1 hhx
  have d4 : hx ≠ dy := ne_of_some k2 hhx
  have e3 : Ext σ (σ₁.set hx (.lst [.c (.ref y)])) := e2.upd (e2.fresh hhx)
  have y1 : (σ₁.set hx (.lst [.c (.ref y)])) x = some (.ins 137 dx) := (Store.set_ne (Ne.symm d1)).trans z1
  have y2 : (σ₁.set hx (.lst [.c (.ref y)])) dx = some (.dct [("world", w)]) := (Store.set_ne (Ne.symm d2)).trans z2
  have y3 : (σ₁.set hx (.lst [.c (.ref y)])) hx = some (.lst [.c (.ref y)]) := Store.set_self
  have y4 : RchAt (σ₁.set hx (.lst [.c (.ref y)])) (.c (.ref y)) (t, []) := ⟨y, dy, rfl, (Store.set_ne (Ne.symm d3)).trans k1, (Store.set_ne (Ne.symm d4)).trans k2⟩
  generalize σ₁.set hx (.lst [.c (.ref y)]) = σ₂ at *
  walk_at "go"
  rw [show put ([("world", w)] : List (Str × AV)) "here" (.c (.ref hx)) = ([("world", w), ("here", .c (.ref hx))] : List (Str × AV)) from rfl]
  have e4 : Ext σ (σ₂.set dx (.dct [("world", w), ("here", .c (.ref hx))])) := e3.upd n2
  have x1 : (σ₂.set dx (.dct [("world", w), ("here", .c (.ref hx))])) x = some (.ins 137 dx) := (Store.set_ne ne).trans y1
  have x2 : (σ₂.set dx (.dct [("world", w), ("here", .c (.ref hx))])) dx = some (.dct [("world", w), ("here", .c (.ref hx))]) := Store.set_self
  have x3 : (σ₂.set dx (.dct [("world", w), ("here", .c (.ref hx))])) hx = some (.lst [.c (.ref y)]) := (Store.set_ne d2).trans y3
  have x4 : RchAt (σ₂.set dx (.dct [("world", w), ("here", .c (.ref hx))])) (.c (.ref y)) (t, []) := RchAt.upd y2 ⟨fun _ h => (nomatch h), fun _ _ h => by simp at h⟩ y4
  generalize σ₂.set dx (.dct [("world", w), ("here", .c (.ref hx))]) = σ₃ at *
  intro sd hsd
  have b1 : x ≠ sd := (ne_of_some x1 hsd).symm
  have b2 : dx ≠ sd := (ne_of_some x2 hsd).symm
  have b3 : hx ≠ sd := (ne_of_some x3 hsd).symm
  have e5 : Ext σ (σ₃.set sd (.dct [])) := e4.upd (e4.fresh hsd)
  have w1 : (σ₃.set sd (.dct [])) x = some (.ins 137 dx) := (Store.set_ne b1).trans x1
  have w2 : (σ₃.set sd (.dct [])) dx = some (.dct [("world", w), ("here", .c (.ref hx))]) := (Store.set_ne b2).trans x2
  have w3 : (σ₃.set sd (.dct [])) hx = some (.lst [.c (.ref y)]) := (Store.set_ne b3).trans x3
  have w4 : RchAt (σ₃.set sd (.dct [])) (.c (.ref y)) (t, []) := x4.ext (.new hsd)
  have w5 : (σ₃.set sd (.dct [])) sd = some (.dct []) := Store.set_self
  generalize σ₃.set sd (.dct []) = σ₄ at *
  walk_at "go"
  rw [show put ([("world", w), ("here", .c (.ref hx))] : List (Str × AV)) "seen" (.c (.ref sd)) = levD w hx sd from rfl]
  exact q _ x dx hx sd (.c (.ref y)) (e5.upd n2) n1 n2 (e4.fresh hsd) ((Store.set_ne ne).trans w1) Store.set_self ((Store.set_ne d2).trans w3) ((Store.set_ne b2.symm).trans w5) (RchAt.upd w2 ⟨fun _ h => (nomatch h), fun _ _ h => by simp at h; exact absurd h.1.1 (by decide)⟩ w4)
/-- what stands while a level goes on -/
structure GoF (σ σ' : Store) (lv d hx sd w : Addr) (vs : List AV) (rs : List Rch) (S : List Str) : Prop where
  fLv : σ' lv = some (.ins 137 d)
  fD : σ' d = some (.dct (levD (.c (.ref w)) hx sd))
  fHx : σ' hx = some (.lst vs)
  fSd : σ' sd = some (.dct (seenAv S))
  fRe : ReL σ' vs rs
  keep : ∀ a o, a ≠ sd → σ a = some o → σ' a = some o
theorem GoF.ext {σ σ' σ'' : Store} {lv d hx sd w : Addr} {vs : List AV} {rs : List Rch} {S : List Str} (g : GoF σ σ' lv d hx sd w vs rs S) (e : Ext σ' σ'') : GoF σ σ'' lv d hx sd w vs rs S :=
  ⟨e.at g.fLv, e.at g.fD, e.at g.fHx, e.at g.fSd, g.fRe.ext e, fun a o h1 h2 => e.at (g.keep a o h1 h2)⟩
theorem GoF.upd {σ σ' : Store} {lv d hx sd w c : Addr} {vs ws : List AV} {rs : List Rch} {S : List Str} {o : AO} (g : GoF σ σ' lv d hx sd w vs rs S) (hc : σ' c = some (.lst ws)) (hn : σ c = none) (hh : hx ≠ c) : GoF σ (σ'.set c o) lv d hx sd w vs rs S := by
  refine ⟨(Store.set_ne (ne_of_kind g.fLv hc (by simp))).trans g.fLv, (Store.set_ne (ne_of_kind g.fD hc (by simp))).trans g.fD, (Store.set_ne hh).trans g.fHx, (Store.set_ne (ne_of_kind g.fSd hc (by simp))).trans g.fSd, g.fRe.upd hc .lst, fun a q h1 h2 => ?_⟩
  have : a ≠ c := fun z => by subst z; rw [hn] at h2; cases h2
  exact (Store.set_ne this).trans (g.keep a q h1 h2)
theorem Store.set_same {σ : Store} {a : Addr} {o : AO} (h : σ a = some o) : σ.set a o = σ := by
  funext b; by_cases e : b = a
  · subst e; rw [Store.set_self, h]
  · rw [Store.set_ne e]
theorem seenAv_len (l : List Str) : (seenAv l).length = l.length := by simp [seenAv]
theorem later_take (W : Wd) (S : List Str) (rs : List Rch) {i : Nat} {r : Rch} (h : rs[i]? = some r) : later W S (rs.take (i + 1)) = later W S (rs.take i) ++ (emb W r).filter fun r => unseen S r.1 := by
  rw [take_at h]; simp [later]
theorem later_bound (W : Wd) (S : List Str) (rs : List Rch) {i j : Nat} {r : Rch} (h : rs[i]? = some r) : (later W S (rs.take i) ++ ((emb W r).take j).filter fun r => unseen S r.1).length ≤ (rs.flatMap (emb W)).length := by
  have e : rs.flatMap (emb W) = (rs.take i).flatMap (emb W) ++ (emb W r ++ (rs.drop (i + 1)).flatMap (emb W)) := by
    rw [← List.flatMap_cons, ← List.flatMap_append, ← drop_at h, List.take_append_drop]
  have l1 : (later W S (rs.take i)).length ≤ ((rs.take i).flatMap (emb W)).length := List.length_filter_le _ _
  have l2 : (((emb W r).take j).filter fun r => unseen S r.1).length ≤ ((emb W r).take j).length := List.length_filter_le _ _
  have l3 : ((emb W r).take j).length ≤ (emb W r).length := by simp; omega
  rw [e, List.length_append, List.length_append, List.length_append]
  omega
inductive GoA (σ : Store) (lv d hx sd w : Addr) (vs : List AV) (rs : List Rch) (S : List Str) (i : Nat) (m' : Vars) (σ' : Store) : Prop
  | mk (g : GoF σ σ' lv d hx sd w vs rs (seenOf S (rs.take i))) (g1 : m' "self" = some (.c (.ref lv)))
theorem GoA.x {σ : Store} {lv d hx sd w : Addr} {vs : List AV} {rs : List Rch} {S : List Str} {i : Nat} {m' : Vars} {σ' : Store} (x : GoA σ lv d hx sd w vs rs S i m' σ') : σ' hx = some (.lst vs) := by
  cases x with
  | mk g => exact g.fHx
inductive GoB (σ : Store) (lv d hx sd w : Addr) (vs : List AV) (rs : List Rch) (S : List Str) (W : Wd) (c : Addr) (i : Nat) (m' : Vars) (σ' : Store) : Prop
  | mk (g : GoF σ σ' lv d hx sd w vs rs (seenOf S rs)) (g1 : m' "self" = some (.c (.ref lv))) (g2 : m' "later" = some (.c (.ref c))) (ws : List AV) (c1 : σ' c = some (.lst ws)) (c2 : ReL σ' ws (later W (seenOf S rs) (rs.take i)))
theorem GoB.x {σ : Store} {lv d hx sd w : Addr} {vs : List AV} {rs : List Rch} {S : List Str} {W : Wd} {c : Addr} {i : Nat} {m' : Vars} {σ' : Store} (x : GoB σ lv d hx sd w vs rs S W c i m' σ') : σ' hx = some (.lst vs) := by
  cases x with
  | mk g => exact g.fHx
inductive GoC (σ : Store) (lv d hx sd w : Addr) (vs : List AV) (rs : List Rch) (S : List Str) (W : Wd) (c e : Addr) (es : List AV) (r : Rch) (i j : Nat) (m' : Vars) (σ' : Store) : Prop
  | mk (g : GoF σ σ' lv d hx sd w vs rs (seenOf S rs)) (g1 : m' "self" = some (.c (.ref lv))) (g2 : m' "later" = some (.c (.ref c))) (h : σ' e = some (.lst es)) (h2 : ReL σ' es (emb W r)) (ws : List AV) (c1 : σ' c = some (.lst ws))
      (c2 : ReL σ' ws (later W (seenOf S rs) (rs.take i) ++ ((emb W r).take j).filter fun r => unseen (seenOf S rs) r.1))
theorem GoC.x {σ : Store} {lv d hx sd w : Addr} {vs : List AV} {rs : List Rch} {S : List Str} {W : Wd} {c e : Addr} {es : List AV} {r : Rch} {i j : Nat} {m' : Vars} {σ' : Store} (x : GoC σ lv d hx sd w vs rs S W c e es r i j m' σ') : σ' e = some (.lst es) := by
  cases x; assumption
theorem c_go_on (T : TopOk B mg mb) (hr : Room A 5) {σ₀ : Store} {lv d hx sd w : Addr} {vs : List AV} {rs : List Rch} {S : List Str} {W : Wd} (hw : WorldAt σ₀ w W) (e0 : Ext σ₀ σ) (n1 : σ₀ d = none) (n2 : σ₀ sd = none)
    (h1 : σ lv = some (.ins 137 d)) (h2 : σ d = some (.dct (levD (.c (.ref w)) hx sd))) (h3 : σ hx = some (.lst vs)) (h4 : σ sd = some (.dct (seenAv S))) (hre : ReL σ vs rs)
    (hks : ∀ r ∈ rs, Known W r.1 ∧ r.2.length ≤ 100 ∧ (base W r.1).Ok) (hl1 : S.length + rs.length ≤ 900) (hl2 : (rs.flatMap (emb W)).length ≤ 900) {Q : AV → Store → Prop}
    (q : ∀ σ' hx' vs', (∀ a o, a ≠ d → a ≠ sd → σ a = some o → σ' a = some o) → σ' d = some (.dct (levD (.c (.ref w)) hx' sd)) → σ' hx' = some (.lst vs') → σ' sd = some (.dct (seenAv (seenOf S rs))) → ReL σ' vs' (later W (seenOf S rs) rs) → Q (.c .none) σ') : CV B A E (.ref 134) [.c (.ref lv)] σ Q := by
  have G0 : GoF σ σ lv d hx sd w vs rs S := ⟨h1, h2, h3, h4, hre, fun _ _ _ h => h⟩
  walk_at "in"
  intro L E' A' P R hA
  walk_at "go"
  refine ie_list (by walk_at "hh") ?_
  walk_at "go"
  refine ⟨GoA σ lv d hx sd w vs rs S, ⟨G0, by walk_at "get"⟩, ⟨fun i m' σ' _ hj => hj.x, ?_, ?_⟩⟩
  · rintro i d' m' σ' hd ⟨g, gs⟩
    obtain ⟨r, hr', hv⟩ := g.fRe.at hd
    obtain ⟨a, dd, rfl, k1, k2⟩ := hv
    have j1 := g.fLv
    have j2 := g.fD
    have j4 := g.fSd
    have hS : seenOf S (rs.take (i + 1)) = addTold (seenOf S (rs.take i)) r.1 := by rw [take_at hr', seenOf_append]
    have hlen := seenOf_len S (rs.take i)
    have hle : (seenOf S (rs.take i)).length ≤ 1000 := by
      have : (rs.take i).length ≤ rs.length := by simp; omega
      omega
    have hle' : (seenAv (seenOf S (rs.take i))).length ≤ 1000 := by rw [seenAv_len]; exact hle
    walk_at "go"
    generalize hq : r.1 = t at *
    cases t with
    | an l =>
      simp only [Told.av, Told.tag] at k2 ⊢
      walk_at "go"
      exact ⟨by rw [hS]; exact g, by walk_at "get"⟩
    | nm k =>
      simp only [Told.av, Told.tag, Told.arg] at k2 ⊢
      walk_at "go"
      rw [put_seen]
      refine ⟨?_, by walk_at "get"⟩
      rw [hS]
      refine ⟨(Store.set_ne (ne_of_kind j1 j4 (by simp))).trans j1, (Store.set_ne (ne_of_kind j2 j4 (fun z => ?_))).trans j2, (Store.set_ne (ne_of_kind g.fHx j4 (by simp))).trans g.fHx, Store.set_self, g.fRe.upd j4 .seen, fun b o q1 q2 => (Store.set_ne q1).trans (g.keep b o q1 q2)⟩
      injection z with z
      have := congrArg (fun l => l.map (·.2)) z
      simp [levD, seenAv] at this
      match h : seenOf S (rs.take i), this with
      | [], e => simp at e
      | _ :: _, e => simp at e
  · rintro m' σ₁ ⟨g, gs⟩
    have ht : rs.take vs.length = rs := by rw [hre.length, List.take_length]
    rw [ht] at g
    walk_at "go"
    intro c hc
    have hcx : hx ≠ c := (ne_of_some g.fHx hc).symm
    have hcn : σ c = none := by
      cases e : σ c with
      | none => rfl
      | some o =>
        have := g.keep c o (ne_of_some g.fSd hc) e
        rw [this] at hc; cases hc
    have cl : (σ₁.set c (.lst [])) c = some (.lst []) := Store.set_self
    have g2 : GoF σ (σ₁.set c (.lst [])) lv d hx sd w vs rs (seenOf S rs) := g.ext (.new hc)
    generalize σ₁.set c (.lst []) = σ₂ at *
    have z1 := g2.fLv
    have z2 := g2.fD
    have z3 := g2.fHx
    walk_at "go"
    refine ie_list (by walk_at "hh") ?_
    walk_at "go"
    refine ⟨GoB σ lv d hx sd w vs rs S W c, ⟨g2, by walk_at "get", by walk_at "get", [], cl, by simp [later, ReL]⟩, ⟨fun i m' σ' _ hj => hj.x, ?_, ?_⟩⟩
    · rintro i d' m' σ' hd ⟨g3, gs, gl, ws, c1, c2⟩
      obtain ⟨r, hr', hv⟩ := g3.fRe.at hd
      obtain ⟨kk1, kk2, kk3⟩ := hks r (List.mem_of_getElem? hr')
      have f1 := g3.fLv
      have f2 := g3.fD
      have hw' : WorldAt σ' w W := hw.ext fun a o h => g3.keep a o (fun z => by subst z; rw [n2] at h; cases h) (e0 a o h)
      walk_at "go"
      refine ie_list (by walk_at "hh") ?_
      walk_at "go"
      refine CV.vl (by walk_at "ok") (c_emb T (R.le (by decide)) hw' hv kk1 kk2 kk3 fun σ₄ e es e4 e5 e6 e7 => ?_)
      walk_at "go"
      have hcσ : σ₄ c = some (.lst ws) := e4.at c1
      refine ⟨GoC σ lv d hx sd w vs rs S W c e es r i,
        ⟨g3.ext e4, by walk_at "get", by walk_at "get", e6, e7, ws, hcσ, by simpa using c2.ext e4⟩, ⟨fun i m' σ' _ hj => hj.x, ?_, ?_⟩⟩
      · rintro j d'' m'' σ'' hd' ⟨g5, gs', gl', p1, p2, ws', p3, p4⟩
        obtain ⟨r'', hr'', hv''⟩ := p2.at hd'
        have hv0 := hv''
        obtain ⟨a'', dd'', rfl, q1, q2⟩ := hv''
        have f3 := g5.fLv
        have f4 := g5.fD
        have f5 := g5.fSd
        have hce : e ≠ c := fun z => by subst z; rw [e5] at c1; cases c1
        have hb := later_bound W (seenOf S rs) rs (j := j) hr'
        rw [← p4.length] at hb
        have hlen : ws'.length ≤ 900 := by omega
        have hti : ((emb W r).take (j + 1)).filter (fun r => unseen (seenOf S rs) r.1) = ((emb W r).take j).filter (fun r => unseen (seenOf S rs) r.1) ++ (if unseen (seenOf S rs) r''.1 = true then [r''] else []) := by
          rw [take_at hr'', List.filter_append]
          congr 1
          simp only [List.filter_cons, List.filter_nil]
        have yes : unseen (seenOf S rs) r''.1 = true → GoF σ (σ''.set c (.lst (ws' ++ [.c (.ref a'')]))) lv d hx sd w vs rs (seenOf S rs) ∧ (σ''.set c (.lst (ws' ++ [.c (.ref a'')]))) e = some (.lst es) ∧ ReL (σ''.set c (.lst (ws' ++ [.c (.ref a'')]))) es (emb W r) ∧ ∃ ws'', (σ''.set c (.lst (ws' ++ [.c (.ref a'')]))) c = some (.lst ws'') ∧ ReL (σ''.set c (.lst (ws' ++ [.c (.ref a'')]))) ws'' (later W (seenOf S rs) (rs.take i) ++ ((emb W r).take (j + 1)).filter fun r => unseen (seenOf S rs) r.1) := fun hu => by
          refine ⟨g5.upd p3 hcn hcx, (Store.set_ne hce).trans p1, p2.upd p3 .lst, _, Store.set_self, ?_⟩
          rw [hti, if_pos hu, ← List.append_assoc]
          exact (p4.upd p3 .lst).append ⟨hv0.upd p3 .lst, trivial⟩
        have no : unseen (seenOf S rs) r''.1 = false → ReL σ'' ws' (later W (seenOf S rs) (rs.take i) ++ ((emb W r).take (j + 1)).filter fun r => unseen (seenOf S rs) r.1) := fun hu => by
          rw [hti, if_neg (by rw [hu]; decide), List.append_nil]; exact p4
        walk_at "go"
        generalize hq : r''.1 = t at *
        cases t with
        | an l =>
          simp only [Told.av, Told.tag] at q2 ⊢
          walk_at "go"
          obtain ⟨y1, y2, y3, y4, y5, y6⟩ := yes rfl
          exact ⟨y1, by walk_at "get", by walk_at "get", y2, y3, y4, y5, y6⟩
        | nm k =>
          simp only [Told.av, Told.tag, Told.arg] at q2 ⊢
          walk_at "go"
          rw [seenAv_lookup]
          refine ite_s (fun hu => ?_) (fun hu => ?_)
          · walk_at "go"
            obtain ⟨y1, y2, y3, y4, y5, y6⟩ := yes hu
            exact ⟨y1, by walk_at "get", by walk_at "get", y2, y3, y4, y5, y6⟩
          · walk_at "go"
            exact ⟨g5, by walk_at "get", by walk_at "get", p1, p2, ws', p3, no hu⟩
      · rintro m'' σ'' ⟨g5, gs', gl', p1, p2, ws', p3, p4⟩
        walk_at "go"
        have : (emb W r).take es.length = emb W r := by rw [e7.length, List.take_length]
        rw [this, ← later_take W _ rs hr'] at p4
        exact ⟨g5, by walk_at "get", by walk_at "get", ws', p3, p4⟩
    · rintro m' σ' ⟨g3, gs, gl, ws, c1, c2⟩
      rw [ht] at c2
      have f1 := g3.fLv
      have f2 := g3.fD
      have hlv : (levD (.c (.ref w)) hx sd).length ≤ 1000 := by simp [levD]
      walk_at "go"
      rw [show put (levD (.c (.ref w)) hx sd) "here" (.c (.ref c)) = levD (.c (.ref w)) c sd from rfl]
      have hdc : c ≠ d := (ne_of_kind f2 c1 (by simp)).symm
      have hds : sd ≠ d := ne_of_kind g3.fSd f2 fun z => by
        injection z with z
        have := congrArg (fun l => l.map (·.2)) z
        simp [levD, seenAv] at this
        match h : seenOf S rs, this with
        | [], e => simp at e
        | _ :: _, e => simp at e
      exact q _ c ws (fun a o q1 q2 q3 => (Store.set_ne q1).trans (g3.keep a o q2 q3)) Store.set_self ((Store.set_ne hdc).trans c1) ((Store.set_ne hds).trans g3.fSd) (c2.upd f2 .lev)
theorem CV.goD {n : Nat} (T : TopOk B mg mb) (hr : Room A (n + 1))
    {f : Addr} {oc : Value} {od : Option Addr} {name qual : Str} {params : Arguments} {body : List Stmt} {scope : Scope} {dV kV doc pm cdv ct : Value} {an : Option Addr} {osl : Array (Option Value)} {args : List AV} {Q : AV → Store → Prop} (extra : List AV) (xv : List Value)
    (ho : (KF B.w.params).lookup f = some ⟨oc, od, .func (fnOf name qual params body scope dV kV doc pm an cdv ct), osl⟩) (hcd : codeIn (KF B.w.params) cdv qual = true)
    (hx : ∀ h, RepL h extra xv)
    (hb : ∀ s vs, vs.length = args.length → (∀ a o, (KF B.w.params).lookup a = some o → s.heap.get? a = some o) → BindsTo s (fnOf name qual params body scope dV kV doc pm an cdv ct) ⟨vs, []⟩ ((params.args.map (·.arg)).zip (vs ++ xv)))
    (hkind : (params.args.map (·.arg)).all (fun x => scope.names.lookup x == some .local || scope.names.lookup x == some .cell) = true) (hfree : scope.names.all (fun x => x.2 != .free) = true)
    (hnd : ((cellsFrom 0 scope.names []).map (·.1)).Nodup)
    (h : ∀ L E' A' (P : PP (defX B scope L) A' mg mb) (R : Room A' n), A' = A.deeper (fenv qual scope f cdv L) → xs (defX B scope L) A' (fenv qual scope f cdv L) E' body (bindsA ((params.args.map (·.arg)).zip (args ++ extra)) fun _ => none) σ (Ends Q))
    (hco : scope.isCoroutine = false := by rfl) (hgen : scope.isGenerator = false := by rfl) (hkf : scope.kind = .function := by rfl) : CV B A E (.ref f) args σ Q := by
  refine CV.enter (K := KF B.w.params) T.k T.t hr extra xv ho hcd hx hb hkind hfree hnd (fun L E' R => ?_) hco hgen hkf
  exact (h L E' _ ⟨defX_ok, T.k, T.t⟩ R rfl).mono fun fl m' σ' q => by cases fl <;> exact q
theorem word39 : True := by
  (k_with "ev" =>
    ((with_reducible show EV _ _ _ _ (eval (Expr.Call (Expr.Attribute (Expr.Name "Exception" _) "__init__" _) _ _ _) _) _ _ _); refine ev_binit (by assumption) ?_ (by kernel_rfl)))
  trivial
theorem word40 : True := by
  (k_with "x1" =>
    first
      | ((with_reducible show ST _ _ _ _ (exec (Stmt.Assign [Expr.Attribute _ "message" _] _ _) _) _ _ _); refine x_attrE0 (by assumption) ?_)
      | ((with_reducible show ST _ _ _ _ (exec (Stmt.Assign [Expr.Attribute _ "spot" _] _ _) _) _ _ _); refine x_attrE1 (by assumption) ?_))
  trivial
theorem c_chan (T : TopOk B mg mb) (hr : Room A 1) {x : Addr} {d : AV} {C : Addr} (hx : σ x = some (.exc C none)) (hs : excShape (KF B.w.params) C = true) (hs2 : storeOkE (KF B.w.params) C "message" = true) (hs3 : storeOkE (KF B.w.params) C "spot" = true) {Q : AV → Store → Prop}
    (q : ∀ σ' dd, (∀ a o, a ≠ x → σ a = some o → σ' a = some o) → σ' x = some (.exc C (some dd)) → Q (.c .none) σ') : CV B A E (.ref 36) [.c (.ref x), d] σ Q := by
  refine CV.goD (by assumption) (by assumption) [.i 0] [.int 0 208] (by k_is) (by kernel_rfl) (fun h => .cons Rep.int .nil) ?_ (by rfl) (by rfl) (by decide) ?_
  · intro s vs hl hk
    obtain ⟨a, b, rfl⟩ := len2 hl
    exact BindsTo.of_defaults (T := 29) rfl (hk 29 _ (by k_is)) rfl rfl rfl
  · simp only [List.map_cons, List.map_nil, List.cons_append, List.nil_append, List.zip_cons_cons, List.zip_nil_left, List.zip_nil_right, bindsA]
    intro L E' A' P R hA
    walk_at "go"
    refine ⟨_, _, _, _, rfl, hx, hs, ?_⟩
    walk_at "go"
    refine ⟨hs2, fun dd n1 n2 => ?_⟩
    have e1 : ∀ a o, a ≠ x → σ a = some o → (((σ.set dd (.dct [])).set x (.exc C (some dd))).set dd (.dct [("message", d)])) a = some o := fun a o q1 q2 => by
      have : a ≠ dd := fun z => by subst z; rw [n1] at q2; cases q2
      rw [Store.set_ne this, Store.set_ne q1, Store.set_ne this]; exact q2
    have e2 : (((σ.set dd (.dct [])).set x (.exc C (some dd))).set dd (.dct [("message", d)])) x = some (.exc C (some dd)) := by rw [Store.set_ne n2.symm, Store.set_self]
    have e3 : (((σ.set dd (.dct [])).set x (.exc C (some dd))).set dd (.dct [("message", d)])) dd = some (.dct [("message", d)]) := Store.set_self
    generalize (((σ.set dd (.dct [])).set x (.exc C (some dd))).set dd (.dct [("message", d)])) = σ₁ at *
    walk_at "go"
    refine q _ dd (fun a o q1 q2 => ?_) ((Store.set_ne n2.symm).trans e2)
    have : a ≠ dd := fun z => by subst z; rw [n1] at q2; cases q2
    exact (Store.set_ne this).trans (e1 a o q1 q2)
theorem c_NameFault (T : TopOk B mg mb) (hr : Room A 2) {d : AV} {Q : AV → Store → Prop} (q : ∀ σ' e dd, Ext σ σ' → σ e = none → σ' e = some (.exc 52 (some dd)) → Q (.c (.ref e)) σ') : CV B A E (.ref 52) [d] σ Q := by
  refine CV.exc T.k hr (C := 52) (fI := 36) (by kernel_rfl) (by k_is) (by k_is) fun A' x R n1 => ?_
  refine c_chan T R Store.set_self (by kernel_rfl) (by kernel_rfl) (by kernel_rfl) fun σ' dd h1 h2 => ⟨rfl, q σ' x dd (fun a o ha => ?_) n1 h2⟩
  have : a ≠ x := fun z => by subst z; rw [n1] at ha; cases ha
  exact h1 a o this ((Store.set_ne this).trans ha)
inductive Arg where
  | t (x : Told) | p (k : Str)
noncomputable def Arg.tag : Arg → Str
  | .t x => x.tag
  | .p _ => "ptr"
noncomputable def Arg.arg : Arg → AV
  | .t x => x.arg
  | .p k => (Told.nm k).av
noncomputable def Arg.av (a : Arg) : AV := .t [.s a.tag, a.arg]
noncomputable def Arg.inner : Arg → Told
  | .t x => x
  | .p k => .nm k
noncomputable def Und.isFc : Und → Bool
  | .st _ => false
  | .fc _ => true
noncomputable def startOf (W : Wd) : Arg → Option Told
  | .t x => some x
  | .p k => if (base W (.nm k)).isFc = true then none else some (.nm k)
noncomputable def startAv : Option Told → AV
  | none => .c .none
  | some x => .t [x.av, .c (.bool false)]
/-- the levels of a walk -/
noncomputable def lev (W : Wd) (t : Told) : Nat → List Rch × List Str
  | 0 => ([(t, [])], [])
  | d + 1 => (later W (seenOf (lev W t d).2 (lev W t d).1) (lev W t d).1, seenOf (lev W t d).2 (lev W t d).1)
structure LevOk (W : Wd) (t : Told) (D : Nat) : Prop where
  ok : ∀ d, d ≤ D → ∀ r ∈ (lev W t d).1, Known W r.1 ∧ r.2.length ≤ 100 ∧ (base W r.1).Ok
  l1 : ∀ d, d ≤ D → (lev W t d).2.length + (lev W t d).1.length ≤ 900
  l2 : ∀ d, d ≤ D → ((lev W t d).1.flatMap (emb W)).length ≤ 900
  fin : (lev W t D).1 = []
noncomputable def faceNames : Und → List Str
  | .st _ => []
  | .fc l => l.map (·.1)
noncomputable def namesAt (W : Wd) (r : Rch) : List Str := (own W r.1).map (·.1) ++ faceNames (base W r.1)
noncomputable def addKeys (l ks : List Str) : List Str := ks.foldl addKey l
noncomputable def namesTo (W : Wd) (t : Told) : Nat → List Str
  | 0 => []
  | d + 1 => addKeys (namesTo W t d) ((lev W t d).1.flatMap (namesAt W))
theorem addKey_nodup {l : List Str} {k : Str} (h : l.Nodup) : (addKey l k).Nodup := by
  unfold addKey
  split
  · exact h
  · rename_i hk
    exact List.nodup_append.mpr ⟨h, by simp, fun a ha b hb => by
      have : b = k := by simpa using hb
      subst this; exact fun e => hk (e ▸ ha)⟩
theorem mem_addKey {l : List Str} {k x : Str} : x ∈ addKey l k ↔ x ∈ l ∨ x = k := by
  unfold addKey
  split
  · rename_i h
    exact ⟨.inl, fun q => q.elim id fun e => e ▸ h⟩
  · simp
theorem addKeys_nodup : ∀ {ks l : List Str}, l.Nodup → (addKeys l ks).Nodup
  | [], _, h => h
  | k :: ks, l, h => addKeys_nodup (ks := ks) (addKey_nodup h)
theorem mem_addKeys {x : Str} : ∀ {ks l : List Str}, x ∈ addKeys l ks ↔ x ∈ l ∨ x ∈ ks
  | [], l => by simp [addKeys]
  | k :: ks, l => by
    have := mem_addKeys (x := x) (ks := ks) (l := addKey l k)
    show x ∈ addKeys (addKey l k) ks ↔ _
    rw [this, mem_addKey]; simp [or_assoc]
theorem nodup_len {α : Type} [DecidableEq α] : ∀ {l m : List α}, l.Nodup → (∀ x ∈ l, x ∈ m) → l.length ≤ m.length
  | [], _, _, _ => Nat.zero_le _
  | a :: l, m, hn, hs => by
    have hn' := List.nodup_cons.mp hn
    have h1 : a ∈ m := hs a (List.mem_cons_self ..)
    have := nodup_len (l := l) (m := m.erase a) hn'.2 fun x hx => by
      have hxa : x ≠ a := fun e => hn'.1 (e ▸ hx)
      exact (List.mem_erase_of_ne hxa).mpr (hs x (List.mem_cons_of_mem _ hx))
    rw [List.length_erase_of_mem h1] at this
    have h2 : 0 < m.length := List.length_pos_of_mem h1
    simp only [List.length_cons]; omega
theorem addKeys_len {ks l NS : List Str} (h : l.Nodup) (h1 : ∀ x ∈ l, x ∈ NS) (h2 : ∀ x ∈ ks, x ∈ NS) : (addKeys l ks).length ≤ NS.length :=
  nodup_len (addKeys_nodup h) fun x hx => (mem_addKeys.mp hx).elim (h1 x) (h2 x)
noncomputable def memLev (W : Wd) (name : Str) (h : List Rch) : List Mem := h.flatMap fun r => members W r name
/-- the first that is not empty -/
noncomputable def firstNE {α : Type} (f : Nat → List α) : Nat → Nat → List α
  | _, 0 => []
  | d, n + 1 => if (f d).isEmpty = true then firstNE f (d + 1) n else f d
noncomputable def found (W : Wd) (t : Told) (name : Str) (D : Nat) : List Mem := firstNE (fun d => memLev W name (lev W t d).1) 0 D
noncomputable def one {α : Type} : List α → Option α
  | [x] => some x
  | _ => none
noncomputable def memAv : Option Mem → AV
  | some m => m.av
  | none => .c .none
/-- what find_member gives, where it throws nothing -/
noncomputable def hit (W : Wd) (a : Arg) (name : Str) (D : Nat) : List Mem := match startOf W a with
  | some t => found W t name D
  | none => []
noncomputable def Mem.steps : Mem → List Step
  | .meth s _ => s
  | .fld s _ => s
  | .face s _ _ => s
noncomputable def isIn (a : Arg) : Mem → Bool
  | .face _ _ _ => true
  | .meth s m => !m.p || (a.tag == "ptr") || s.any (·.2)
  | .fld _ _ => true
/-- what a method set says of a member -/
noncomputable def said (a : Arg) : Mem → Option AV
  | .fld _ _ => none
  | .meth s m => if isIn a (.meth s m) = true then some (.t [.t (stepsL s), .s m.k, m.f]) else none
  | .face s n f => some (.t [.t (stepsL s), .c .none, f])
noncomputable def saidOf (W : Wd) (a : Arg) (D : Nat) (name : Str) : Option AV := (one (hit W a name D)).bind (said a)
noncomputable def saidAll (f : Str → Option AV) : List Str → List (Str × AV)
  | [] => []
  | k :: ks => match f k with
    | some d => (k, d) :: saidAll f ks
    | none => saidAll f ks
theorem lev_nil {W : Wd} {t : Told} {d : Nat} (h : (lev W t d).1 = []) : (lev W t (d + 1)).1 = [] := by
  simp [lev, h, later]
theorem lev_nils {W : Wd} {t : Told} {d : Nat} (h : (lev W t d).1 = []) : ∀ k, (lev W t (d + k)).1 = []
  | 0 => h
  | k + 1 => lev_nil (lev_nils h k)
theorem namesTo_stop {W : Wd} {t : Told} {d D : Nat} (h : (lev W t d).1 = []) (hd : d ≤ D) : namesTo W t D = namesTo W t d := by
  obtain ⟨k, rfl⟩ := Nat.exists_eq_add_of_le hd
  induction k with
  | zero => rfl
  | succ k ih =>
    have := lev_nils h k
    rw [show d + (k + 1) = (d + k) + 1 from rfl]
    simp only [namesTo, this, List.flatMap_nil, addKeys, List.foldl_nil]
    exact ih (Nat.le_add_right _ _)
theorem namesTo_nodup (W : Wd) (t : Told) : ∀ d, (namesTo W t d).Nodup
  | 0 => by simp [namesTo]
  | d + 1 => addKeys_nodup (namesTo_nodup W t d)
theorem namesTo_sub {W : Wd} {t : Told} {D : Nat} {NS : List Str} (hN : ∀ d, d ≤ D → ∀ r ∈ (lev W t d).1, ∀ n ∈ namesAt W r, n ∈ NS) : ∀ {d : Nat}, d ≤ D + 1 → ∀ x ∈ namesTo W t d, x ∈ NS
  | 0, _, x, hx => by simp [namesTo] at hx
  | d + 1, hd, x, hx => by
    rcases mem_addKeys.mp hx with h | h
    · exact namesTo_sub hN (by omega) x h
    · obtain ⟨r, hr, hn⟩ := List.mem_flatMap.mp h
      exact hN d (by omega) r hr x hn
theorem ite_tt {c : Prop} {i : Decidable c} {P Q : Prop} (h : c) (p : P) : @ite Prop c i P Q := by rw [if_pos h]; exact p
theorem ite_ff {b : Bool} {i : Decidable (b = true)} {P Q : Prop} (h : b = false) (q : Q) : @ite Prop (b = true) i P Q := by rw [if_neg (by rw [h]; decide)]; exact q
theorem word41 : True := by
  (k_with "else" =>
    first
      | (refine ite_tt ?_ ?_; (focus first | assumption | decide))
      | (refine ite_ff ?_ ?_; (focus first | assumption | decide)))
  trivial
theorem word42 : True := by
  (k_with "v2" =>
    first
      | ((with_reducible show V2 _ _ _ _ (compareOp CmpOp.In) (AV.s _) (AV.t _) _ _ _); refine v2_inT (by rfl) ?_)
      | ((with_reducible show V2 _ _ _ _ (compareOp CmpOp.NotEq) (AV.c _) (AV.c _) _ _ _); refine v2_lne (Room.units (by assumption)) (by walk_at "sto") (by walk_at "sto") ?_))
  trivial
theorem word43 : True := by
  (k_with "x1" =>
    ((with_reducible show ST _ _ _ _ (exec (Stmt.For _ (Expr.Call (Expr.Name "own_methods" _) _ _ _) _ _ _) _) _ _ _); refine x_for_keys (by walk_at "ok") (TopOk.sys (by assumption)) (by walk_at "hh") ?_))
  trivial
noncomputable def Arg.Ok (W : Wd) (a : Arg) : Prop := Known W a.inner
theorem c_start (T : TopOk B mg mb) (hr : Room A 2) {w : Addr} {W : Wd} {a : Arg} (hw : WorldAt σ w W) (hk : Known W a.inner) {Q : AV → Store → Prop} (q : Q (startAv (startOf W a)) σ) : CV B A E (.ref 148) [.c (.ref w), a.av] σ Q := by
  obtain ⟨wd, f, nd, rows, w1, w2, w3, w4, w5, w6⟩ := id hw
  walk_at "in"
  intro L E' A' P R hA
  unfold Arg.av
  walk_at "go"
  cases a with
  | p k =>
    simp only [Arg.tag, Arg.arg, startOf, Arg.inner] at hk q ⊢
    walk_at "go"
    refine CV.vl (by walk_at "ok") (c_base T (R.le (by decide)) hw hk ?_)
    unfold Und.av
    walk_at "go"
    generalize base W (.nm k) = b at *
    cases b with
    | st l =>
      simp only [Und.tag]
      walk_at "go"
      exact q
    | fc l =>
      simp only [Und.tag]
      walk_at "go"
      exact q
  | t x =>
    cases x with
    | nm k =>
      simp only [Arg.tag, Arg.arg, startOf, Arg.inner, Told.tag] at hk q ⊢
      walk_at "go"
      refine CV.vl (by walk_at "ok") (c_base T (R.le (by decide)) hw hk ?_)
      walk_at "go"
      have := Und.tag_ptr (base W (.nm k))
      unfold Und.av
      walk_at "go"
      exact q
    | an l =>
      simp only [Arg.tag, Arg.arg, startOf, Arg.inner, Told.tag] at hk q ⊢
      walk_at "go"
      exact q
theorem any_empty (s : List Step) : (!((s.filter (·.2)).map Step.av).isEmpty) = s.any (·.2) := by
  induction s with
  | nil => rfl
  | cons x s ih =>
    obtain ⟨k, b⟩ := x
    cases b
    · simpa [List.filter_cons] using ih
    · simp [List.filter_cons]
theorem c_isin (T : TopOk B mg mb) (hr : Room A 1) {a : Arg} {m : Mem} (hm : ∀ s ty, m ≠ .fld s ty) (hs : m.steps.length ≤ 200) {Q : AV → Store → Prop} (q : ∀ σ', Ext σ σ' → Q (.c (.bool (isIn a m))) σ') : CV B A E (.ref 174) [a.av, m.av] σ Q := by
  walk_at "in"
  intro L E' A' P R hA
  unfold Arg.av
  cases m with
  | fld s ty => exact absurd rfl (hm s ty)
  | face s n f =>
    simp only [Mem.av]
    walk_at "go"
    exact q σ .refl
  | meth s m =>
    simp only [Mem.av, Mem.steps] at hs ⊢
    walk_at "go"
    simp only [isIn] at q
    refine ite_s (fun hp => ?_) (fun hp => ?_)
    · walk_at "go"
      rw [hp] at q
      exact q σ .refl
    · walk_at "go"
      rw [hp] at q
      simp only [Bool.false_or] at q
      refine ite_s (fun ht => ?_) (fun ht => ?_)
      · rw [ht] at q ⊢
        walk_at "go"
        exact q σ .refl
      · rw [ht] at q
        simp only [Bool.false_or] at q
        walk_at "go"
        refine ie_tup (by walk_at "hh") ?_
        walk_at "go"
        intro C D cl _ hD
        have Pc := Pg.comp P cl C
        refine ⟨fun i ys σ' => σ' = σ.set D (.lst ys) ∧ i ≤ s.length ∧ ys = ((s.take i).filter (·.2)).map Step.av, ⟨rfl, Nat.zero_le _, by simp⟩, ⟨?_, ?_⟩, ?_⟩
        · rintro i ys σ' hi ⟨rfl, hi', rfl⟩
          refine ⟨trivial, Store.set_self, ?_⟩
          simp only [List.length_map]
          exact Nat.le_trans (List.length_filter_le _ _) (by simp; omega)
        · rintro E₁ i d' ys mi σ' hd ⟨rfl, hi, rfl⟩ hm
          obtain ⟨y, hy, rfl⟩ := map_at hd
          have hi' : i + 1 ≤ s.length := (List.getElem?_eq_some_iff.mp hy).1
          rw [show Step.av y = AV.t [.i (y.1 : Int), .c (.bool y.2)] from rfl]
          walk_at "go"
          refine ite_s (fun hc => ?_) (fun hc => ?_)
          · walk_at "go"
            refine ⟨Store.set_self, Store.set_set, hi', ?_⟩
            rw [take_at hy]
            simp [hc, Step.av]
          · refine ⟨rfl, hi', ?_⟩
            rw [take_at hy]
            simp [hc]
        · rintro ys σ' ⟨rfl, hi, rfl⟩ _
          have hz : (σ.set D (.lst (((s.take (stepsL s).length).filter (·.2)).map Step.av))) D = some (.lst ((s.filter (·.2)).map Step.av)) := by
            rw [Store.set_self]; simp [stepsL]
          have hx : Ext σ (σ.set D (.lst (((s.take (stepsL s).length).filter (·.2)).map Step.av))) := .new hD
          generalize σ.set D (.lst (((s.take (stepsL s).length).filter (·.2)).map Step.av)) = σ₁ at *
          walk_at "go"
          intro c hc
          walk_at "go"
          rw [any_empty]
          exact q _ (hx.upd (hx.fresh hc))
theorem c_own2 (T : TopOk B mg mb) (hr : Room A 1) {σ₀ : Store} {w : Addr} {W : Wd} {t : Told} (hw : WorldAt σ₀ w W) (e0 : Ext σ₀ σ) (hk : Known W t) {Q : AV → Store → Prop} (q : ∀ σ' a, Ext σ σ' → σ' a = some (.dct (rowsAv (own W t))) → (σ a = none ∨ σ₀ a ≠ none) → Q (.c (.ref a)) σ') : CV B A E (.ref 101) [.c (.ref w), t.av] σ Q := by
  walk_at "in"
  intro L E' A' P R hA
  unfold Told.av
  walk_at "go"
  cases t with
  | an l =>
    simp only [Told.tag]
    walk_at "go"
    intro a ha
    exact q _ a (.new ha) Store.set_self (.inl ha)
  | nm k =>
    obtain ⟨r, hW⟩ := hk
    have hw' := hw.ext e0
    obtain ⟨d, f, nd, rows, h1, h2, h3, h4, h5, h6⟩ := hw
    obtain ⟨ra, h7, rd, rf, md, k1, k2, k3, k4, k5⟩ := h6 k r hW
    have h1 := e0.at h1
    have h2 := e0.at h2
    have h5 := e0.at h5
    have k1 := e0.at k1
    have k2 := e0.at k2
    simp only [Told.tag, Told.arg]
    walk_at "go"
    exact q _ md .refl (by simp only [own, hW]; exact e0.at k5) (.inr (by rw [k5]; simp))
theorem word44 : True := by
  (k_with "else" =>
    ((with_reducible show ∃ _ _ _ _ _, _ ∧ _ ∧ _ ∧ methOk _ _ "go_on" _ = true ∧ _); refine ⟨_, _, _, _, 134, rfl, (by walk_at "sto"), (by walk_at "sto"), (by kernel_rfl), (by walk_at "look"), ?_⟩))
  trivial
/-- what stands while names are gathered -/
structure LF (σ σ' : Store) (lv ld hx sd fd w : Addr) (vs : List AV) (rs : List Rch) (S K : List Str) : Prop where
  fE : Ext σ σ'
  fLv : σ' lv = some (.ins 137 ld)
  fD : σ' ld = some (.dct (levD (.c (.ref w)) hx sd))
  fHx : σ' hx = some (.lst vs)
  fSd : σ' sd = some (.dct (seenAv S))
  fRe : ReL σ' vs rs
  fFd : σ' fd = some (.dct (seenAv K))
theorem LF.ext {σ σ' σ'' : Store} {lv ld hx sd fd w : Addr} {vs : List AV} {rs : List Rch} {S K : List Str} (g : LF σ σ' lv ld hx sd fd w vs rs S K) (e : Ext σ' σ'') : LF σ σ'' lv ld hx sd fd w vs rs S K :=
  ⟨g.fE.trans e, e.at g.fLv, e.at g.fD, e.at g.fHx, e.at g.fSd, g.fRe.ext e, e.at g.fFd⟩
theorem LF.put {σ σ' : Store} {lv ld hx sd fd w : Addr} {vs : List AV} {rs : List Rch} {S K K' : List Str} (g : LF σ σ' lv ld hx sd fd w vs rs S K) (hn : σ fd = none) (h1 : fd ≠ ld) (h2 : fd ≠ sd) : LF σ (σ'.set fd (.dct (seenAv K'))) lv ld hx sd fd w vs rs S K' :=
  ⟨g.fE.upd hn, (Store.set_ne (ne_of_kind g.fLv g.fFd (by simp))).trans g.fLv, (Store.set_ne h1.symm).trans g.fD, (Store.set_ne (ne_of_kind g.fHx g.fFd (by simp))).trans g.fHx, (Store.set_ne h2.symm).trans g.fSd, g.fRe.upd g.fFd .seen, Store.set_self⟩
theorem rowsAv_keys (l : List (Str × Meth)) : (rowsAv l).map (fun q => AV.s q.1) = (l.map (·.1)).map AV.s := by simp [rowsAv]
theorem Store.del_set {σ : Store} {a b : Addr} {o o' : AO} (h : σ a = some o) (hab : a ≠ b) : ((σ.del a).set b o').set a o = σ.set b o' := by
  funext c
  by_cases q : c = a
  · subst q; rw [Store.set_self, Store.set_ne hab, h]
  · rw [Store.set_ne q]
    by_cases z : c = b
    · subst z; rw [Store.set_self, Store.set_self]
    · rw [Store.set_ne z, Store.set_ne z, Store.del_ne q]
theorem LF.of_go {σ σ' σ'' : Store} {lv ld hx hx' sd fd w : Addr} {vs vs' : List AV} {rs rs' : List Rch} {S S' K : List Str} (g : LF σ σ' lv ld hx sd fd w vs rs S K) (n1 : σ ld = none) (n2 : σ sd = none) (d1 : fd ≠ ld) (d2 : fd ≠ sd)
    (k : ∀ a o, a ≠ ld → a ≠ sd → σ' a = some o → σ'' a = some o) (h1 : σ'' ld = some (.dct (levD (.c (.ref w)) hx' sd))) (h2 : σ'' hx' = some (.lst vs')) (h3 : σ'' sd = some (.dct (seenAv S'))) (h4 : ReL σ'' vs' rs') : LF σ σ'' lv ld hx' sd fd w vs' rs' S' K :=
  ⟨fun a o h => k a o (fun z => by subst z; rw [n1] at h; cases h) (fun z => by subst z; rw [n2] at h; cases h) (g.fE a o h), k _ _ (ne_of_kind g.fLv g.fD (by simp)) (ne_of_kind g.fLv g.fSd (by simp)) g.fLv, h1, h2, h3, h4, k _ _ d1 d2 g.fFd⟩
theorem addKeys_snoc (K l : List Str) (k : Str) : addKeys K (l ++ [k]) = addKey (addKeys K l) k := by simp [addKeys]
theorem seenAv_keys (l : List Str) : (seenAv l).map (·.1) = l := by
  induction l with
  | nil => rfl
  | cons x l ih => simp only [seenAv, List.map_cons, List.cons.injEq, true_and] at ih ⊢; exact ih
inductive CnA (σ : Store) (lv ld sd fd w : Addr) (W : Wd) (t : Told) (D n : Nat) (m' : Vars) (σ' : Store) : Prop
  | mk (d : Nat) (hx : Addr) (vs : List AV) (hn : n = D - d) (hd : d ≤ D) (g : LF σ σ' lv ld hx sd fd w vs (lev W t d).1 (lev W t d).2 (namesTo W t d))
      (g1 : m' "world" = some (.c (.ref w))) (g2 : m' "levels" = some (.c (.ref lv))) (g3 : m' "found" = some (.c (.ref fd)))
inductive CnB (σ : Store) (lv ld hx sd fd w : Addr) (vs : List AV) (W : Wd) (t : Told) (d i : Nat) (m' : Vars) (σ' : Store) : Prop
  | mk (g : LF σ σ' lv ld hx sd fd w vs (lev W t d).1 (lev W t d).2 (addKeys (namesTo W t d) (((lev W t d).1.take i).flatMap (namesAt W))))
      (g1 : m' "world" = some (.c (.ref w))) (g2 : m' "levels" = some (.c (.ref lv))) (g3 : m' "found" = some (.c (.ref fd)))
theorem CnB.x {σ : Store} {lv ld hx sd fd w : Addr} {vs : List AV} {W : Wd} {t : Told} {d i : Nat} {m' : Vars} {σ' : Store} (x : CnB σ lv ld hx sd fd w vs W t d i m' σ') : σ' hx = some (.lst vs) := by
  cases x with
  | mk g => exact g.fHx
theorem c_names (T : TopOk B mg mb) (hr : Room A 6) {w : Addr} {W : Wd} {t : Told} {NS : List Str} {D : Nat} (hw : WorldAt σ w W) (H : LevOk W t D) (hN : ∀ d, d ≤ D → ∀ r ∈ (lev W t d).1, ∀ n ∈ namesAt W r, n ∈ NS) (hNS : NS.length ≤ 50)
    {Q : AV → Store → Prop} (q : ∀ (σ' : Store) (a : Addr) (ks : List Str), Ext σ σ' → σ a = none → σ' a = some (.lst (ks.map .s)) → ks.Perm (namesTo W t D) → Q (.c (.ref a)) σ') : CV B A E (.ref 162) [.c (.ref w), t.av] σ Q := by
  walk_at "in"
  intro L E' A' P R hA
  walk_at "go"
  refine CV.vl (by walk_at "ok") (c_Levels T (R.le (by decide)) fun σ₁ lv ld hx sd v e1 a0 a1 a2 b1 b2 b3 b4 b5 => ?_)
  walk_at "go"
  intro fd hfd
  have d1 : fd ≠ ld := ne_of_some b2 hfd
  have d2 : fd ≠ sd := ne_of_some b4 hfd
  have d3 : σ fd = none := e1.fresh hfd
  have G0 : LF σ (σ₁.set fd (.dct [])) lv ld hx sd fd w [v] [(t, [])] [] [] :=
    ⟨e1.upd d3, (Store.set_ne (ne_of_some b1 hfd).symm).trans b1, (Store.set_ne d1.symm).trans b2, (Store.set_ne (ne_of_some b3 hfd).symm).trans b3, (Store.set_ne d2.symm).trans b4, ⟨b5.ext (.new hfd), trivial⟩, Store.set_self⟩
  generalize σ₁.set fd (.dct []) = σ₂ at *
  walk_at "go"
  refine x_while (CnA σ lv ld sd fd w W t D) D ⟨0, hx, [v], rfl, Nat.zero_le _, G0, by walk_at "get", by walk_at "get", by walk_at "get"⟩ ?_
  rintro n m' σ' ⟨d, hx, vs, rfl, hd, g, g1, g2, g3⟩
  have f1 := g.fLv
  have f2 := g.fD
  have f3 := g.fHx
  walk_at "go"
  intro c hc
  have gc := g.ext (.new (o := .lst []) hc)
  have f1 := gc.fLv
  have f2 := gc.fD
  have f3 := gc.fHx
  walk_at "go"
  clear g f1 f2 f3
  generalize σ'.set c (.lst []) = σ₂ at *
  clear hc
  have f1 := gc.fLv
  have f2 := gc.fD
  have f3 := gc.fHx
  have f4 := gc.fFd
  have hKK : ∀ ks, (∀ x ∈ ks, x ∈ NS) → (seenAv (addKeys (namesTo W t d) ks)).length ≤ 50 := fun ks hks => by
    rw [seenAv_len]
    exact Nat.le_trans (addKeys_len (namesTo_nodup W t d) (namesTo_sub hN (by omega)) hks) hNS
  refine ite_s (fun he => ?_) (fun he => ?_)
  · have hne : (lev W t d).1 ≠ [] := fun z => by
      have := gc.fRe.length
      rw [z] at this
      cases vs with
      | nil => simp at he
      | cons _ _ => simp at this
    have hdD : d < D := by
      rcases Nat.lt_or_ge d D with h | h
      · exact h
      · have : d = D := by omega
        subst this; exact absurd H.fin hne
    walk_at "go"
    refine ie_list (by walk_at "hh") ?_
    walk_at "go"
    refine ⟨CnB σ lv ld hx sd fd w vs W t d, ⟨gc, g1, g2, g3⟩, ⟨fun i m' σ' _ hj => hj.x, ?_, ?_⟩⟩
    · rintro i d' m' σ' hd' ⟨g, g1, g2, g3⟩
      obtain ⟨r, hr', hv⟩ := g.fRe.at hd'
      obtain ⟨a, dd, rfl, k1, k2⟩ := hv
      have hrm := List.mem_of_getElem? hr'
      obtain ⟨kk1, kk2, kk3⟩ := H.ok d hd r hrm
      have hw' := hw.ext g.fE
      obtain ⟨wd, f, nd, rows, w1, w2, w3, w4, w5, w6⟩ := id hw'
      walk_at "go"
      refine CV.vl (by walk_at "ok") (c_base T (R.le (by decide)) hw' kk1 ?_)
      walk_at "go"
      refine CV.vl (by walk_at "ok") (c_own2 T (R.le (by decide)) hw g.fE kk1 fun σ₃ ma e3 h3 hfr => ?_)
      walk_at "go"
      have g5 := g.ext e3
      have dma : ma ≠ fd := by
        rcases hfr with z | z
        · exact fun q => by subst q; rw [g.fFd] at z; cases z
        · exact fun q => z (q ▸ d3)
      have nsl : ∀ x ∈ ((lev W t d).1.take i).flatMap (namesAt W), x ∈ NS := fun x hx => by
        obtain ⟨r0, h0, hn⟩ := List.mem_flatMap.mp hx
        exact hN d hd r0 (List.mem_of_mem_take h0) x hn
      have nsr : ∀ x ∈ namesAt W r, x ∈ NS := fun x hx => hN d hd r hrm x hx
      have tk : ((lev W t d).1.take (i + 1)).flatMap (namesAt W) = ((lev W t d).1.take i).flatMap (namesAt W) ++ namesAt W r := by rw [take_at hr']; simp
      generalize ((lev W t d).1.take i).flatMap (namesAt W) = pre at *
      have hna : namesAt W r = (own W r.1).map (·.1) ++ faceNames (base W r.1) := rfl
      unfold namesAt at nsr
      generalize hon : (own W r.1).map (·.1) = on at *
      refine ⟨fun j m'' σ'' => σ'' = (σ₃.del ma).set fd (.dct (seenAv (addKeys (namesTo W t d) (pre ++ on.take j)))) ∧ m'' "world" = some (.c (.ref w)) ∧ m'' "levels" = some (.c (.ref lv)) ∧ m'' "found" = some (.c (.ref fd)) ∧ m'' "base" = some (base W r.1).av,
        ⟨?_, by walk_at "get", by walk_at "get", by walk_at "get", by walk_at "get"⟩, ⟨?_, ?_, ?_⟩⟩
      · rw [List.take_zero, List.append_nil, Store.set_same]
        rw [Store.del_ne dma.symm]; exact g5.fFd
      · rintro j m'' σ'' _ ⟨rfl, _⟩
        rw [Store.set_ne dma, Store.del_self]
      · rintro j d'' m'' σ'' hd'' ⟨rfl, q1, q2, q3, q4⟩
        rw [rowsAv_keys, hon] at hd''
        obtain ⟨y, hy, rfl⟩ := map_at hd''
        have hz := hKK (pre ++ on.take j) fun x hx => (List.mem_append.mp hx).elim (nsl x) fun h => nsr x (List.mem_append_left _ (List.mem_of_mem_take h))
        have hz' := Nat.le_trans hz (by decide : 50 ≤ 1000)
        walk_at "go"
        rw [put_seen, ← addKeys_snoc, List.append_assoc, ← take_at hy, Store.set_set]
        exact ⟨rfl, by walk_at "get", by walk_at "get", by walk_at "get", by walk_at "get"⟩
      · rintro m'' σ'' ⟨rfl, q1, q2, q3, q4⟩
        rw [List.length_map, show (rowsAv (own W r.1)).length = on.length by rw [← hon]; simp [rowsAv], List.take_length]
        walk_at "go"
        rw [Store.del_set h3 dma]
        have g6 := g5.put (K' := addKeys (namesTo W t d) (pre ++ on)) d3 d1 d2
        generalize σ₃.set fd (.dct (seenAv (addKeys (namesTo W t d) (pre ++ on)))) = σ₄ at *
        rw [show (base W r.1).av = AV.t [.s (base W r.1).tag, .t (base W r.1).rows] from rfl] at q4
        generalize base W r.1 = b at *
        cases b with
        | st l =>
          simp only [Und.tag, Und.rows] at q4
          refine ie_tup (by walk_at "hh") ?_
          walk_at "go"
          refine ⟨fun j m3 σ3 => σ3 = σ₄ ∧ m3 "world" = some (.c (.ref w)) ∧ m3 "levels" = some (.c (.ref lv)) ∧ m3 "found" = some (.c (.ref fd)), ⟨rfl, q1, q2, q3⟩, ⟨fun _ _ _ _ _ => trivial, fun i d' m' σ' h => by simp at h, ?_⟩⟩
          rintro m3 σ3 ⟨rfl, q1, q2, q3⟩
          walk_at "go"
          exact ⟨by rw [tk, hna]; simp only [faceNames, List.append_nil]; exact g6, q1, q2, q3⟩
        | fc l =>
          simp only [Und.tag, Und.rows] at q4
          refine ie_tup (by walk_at "hh") ?_
          walk_at "go"
          refine ⟨fun j m3 σ3 => LF σ σ3 lv ld hx sd fd w vs (lev W t d).1 (lev W t d).2 (addKeys (namesTo W t d) (pre ++ (on ++ (l.map (·.1)).take j))) ∧ m3 "world" = some (.c (.ref w)) ∧ m3 "levels" = some (.c (.ref lv)) ∧ m3 "found" = some (.c (.ref fd)), ⟨by simpa using g6, q1, q2, q3⟩, ⟨fun _ _ _ _ _ => trivial, ?_, ?_⟩⟩
          · rintro j d' m3 σ3 hd3 ⟨g7, q1, q2, q3⟩
            obtain ⟨y, hy, rfl⟩ := map_at hd3
            have hy' : (l.map (·.1))[j]? = some y.1 := by simp [hy]
            have f4 := g7.fFd
            have hz := hKK (pre ++ (on ++ (l.map (·.1)).take j)) fun x hx => (List.mem_append.mp hx).elim (nsl x) fun h => nsr x ((List.mem_append.mp h).elim (List.mem_append_left _) fun h => List.mem_append_right _ (List.mem_of_mem_take h))
            have hz' := Nat.le_trans hz (by decide : 50 ≤ 1000)
            walk_at "go"
            have g8 := g7.put (K' := addKeys (namesTo W t d) (pre ++ (on ++ (l.map (·.1)).take (j + 1)))) d3 d1 d2
            have hsn : addKeys (namesTo W t d) (pre ++ (on ++ (l.map (·.1)).take (j + 1))) = addKey (addKeys (namesTo W t d) (pre ++ (on ++ (l.map (·.1)).take j))) y.1 := by
              rw [take_at hy']; simp only [addKeys, List.foldl_append, List.foldl_cons, List.foldl_nil]
            rw [put_seen, ← hsn]
            exact ⟨g8, by walk_at "get", by walk_at "get", by walk_at "get"⟩
          · rintro m3 σ3 ⟨g7, q1, q2, q3⟩
            rw [List.length_map, List.take_of_length_le (by simp)] at g7
            walk_at "go"
            exact ⟨by rw [tk, hna]; exact g7, q1, q2, q3⟩
    · rintro m' σ' ⟨g, g1, g2, g3⟩
      have f1 := g.fLv
      have f2 := g.fD
      have ht : (lev W t d).1.take vs.length = (lev W t d).1 := by rw [g.fRe.length, List.take_length]
      rw [ht] at g
      walk_at "go"
      refine CV.vl (by walk_at "ok") (c_go_on T (R.le (by decide)) hw g.fE a1 a2 f1 f2 g.fHx g.fSd g.fRe (H.ok d hd) (H.l1 d hd) (H.l2 d hd) fun σ₅ hx' vs' k1 k2 k3 k4 k5 => ?_)
      walk_at "go"
      exact ⟨D - (d + 1), by omega, d + 1, hx', vs', rfl, by omega, g.of_go a1 a2 d1 d2 k1 k2 k3 k4 k5, g1, g2, g3⟩
  · have hnil : (lev W t d).1 = [] := by
      have := gc.fRe.length
      cases vs with
      | nil => exact List.eq_nil_of_length_eq_zero this.symm
      | cons _ _ => simp at he
    walk_at "go"
    have := hKK [] (by simp)
    refine vl_sorted (by walk_at "ok") (TopOk.sys T) (by walk_at "hh") f4 (by show (seenAv (namesTo W t d)).length < 64; exact Nat.lt_of_le_of_lt this (by decide)) fun a ks n1 hp => ?_
    rw [seenAv_keys, ← namesTo_stop hnil hd] at hp
    walk_at "go"
    exact q _ a ks (gc.fE.upd (gc.fE.fresh n1)) (gc.fE.fresh n1) Store.set_self hp
theorem firstNE_at {α : Type} {f : Nat → List α} : ∀ {n d s : Nat}, (∀ j, s ≤ j → j < s + d → f j = []) → d < n → f (s + d) ≠ [] → firstNE f s n = f (s + d)
  | 0, _, _, _, h, _ => absurd h (Nat.not_lt_zero _)
  | n + 1, 0, s, _, _, h => by
    rw [firstNE, if_neg]
    · rfl
    · intro z; exact h (List.isEmpty_iff.mp z)
  | n + 1, d + 1, s, hj, hd, h => by
    have h0 : f s = [] := hj s (Nat.le_refl _) (by omega)
    rw [firstNE, if_pos (by rw [h0]; rfl)]
    have e : s + (d + 1) = s + 1 + d := by omega
    rw [e] at h ⊢
    exact firstNE_at (fun j h1 h2 => hj j (by omega) (by omega)) (by omega) h
theorem firstNE_nil {α : Type} {f : Nat → List α} : ∀ {n s : Nat}, (∀ j, s ≤ j → j < s + n → f j = []) → firstNE f s n = []
  | 0, _, _ => rfl
  | n + 1, s, hj => by
    rw [firstNE, if_pos (by rw [hj s (Nat.le_refl _) (by omega)]; rfl)]
    exact firstNE_nil fun j h1 h2 => hj j (by omega) (by omega)
theorem one_long {α : Type} {l : List α} (h : 1 < l.length) : one l = none := by
  match l, h with
  | _ :: _ :: _, _ => rfl
theorem memLev_snoc (W : Wd) (name : Str) (h : List Rch) (r : Rch) : memLev W name (h ++ [r]) = memLev W name h ++ members W r name := by simp [memLev]
theorem memLev_take {W : Wd} {name : Str} {rs : List Rch} {i : Nat} {r : Rch} (h : rs[i]? = some r) : (memLev W name (rs.take i)).length + (members W r name).length ≤ (memLev W name rs).length := by
  have hd : rs.drop i = r :: rs.drop (i + 1) := by
    obtain ⟨hi, rfl⟩ := List.getElem?_eq_some_iff.mp h
    exact List.drop_eq_getElem_cons hi
  have e : memLev W name rs = memLev W name (rs.take i) ++ (members W r name ++ memLev W name (rs.drop (i + 1))) := by
    have : rs = rs.take i ++ r :: rs.drop (i + 1) := by rw [← hd, List.take_append_drop]
    have h2 : memLev W name (rs.take i ++ r :: rs.drop (i + 1)) = memLev W name (rs.take i) ++ (members W r name ++ memLev W name (rs.drop (i + 1))) := by simp [memLev]
    rw [← this] at h2; exact h2
  rw [e, List.length_append, List.length_append]; omega
theorem saidAll_snoc (f : Str → Option AV) (k : Str) : ∀ l : List Str, saidAll f (l ++ [k]) = saidAll f l ++ (match f k with | some d => [(k, d)] | none => [])
  | [] => by simp only [List.nil_append, saidAll] <;> cases f k <;> rfl
  | x :: l => by
    simp only [List.cons_append, saidAll, saidAll_snoc f k l]
    cases f x <;> rfl
theorem saidAll_keys {f : Str → Option AV} {x : Str × AV} : ∀ {l : List Str}, x ∈ saidAll f l → x.1 ∈ l ∧ f x.1 = some x.2
  | [], h => by simp [saidAll] at h
  | k :: l, h => by
    simp only [saidAll] at h
    cases hk : f k with
    | none => rw [hk] at h; exact (saidAll_keys h).imp (List.mem_cons_of_mem _) id
    | some d =>
      rw [hk] at h
      rcases List.mem_cons.mp h with rfl | h
      · exact ⟨List.mem_cons_self .., hk⟩
      · exact (saidAll_keys h).imp (List.mem_cons_of_mem _) id
theorem saidAll_len (f : Str → Option AV) : ∀ l : List Str, (saidAll f l).length ≤ l.length
  | [] => by simp [saidAll]
  | k :: l => by
    have := saidAll_len f l
    simp only [saidAll]
    cases f k <;> simp <;> omega
theorem CT.go {n : Nat} {C : Addr} {Pt : Store → Prop} (T : TopOk B mg mb) (hr : Room A (n + 1))
    {f : Addr} {oc : Value} {od : Option Addr} {name qual : Str} {params : Arguments} {body : List Stmt} {scope : Scope} {dV kV doc pm cdv ct : Value} {an : Option Addr} {osl : Array (Option Value)} {args : List AV} {Q : AV → Store → Prop}
    (ho : (KF B.w.params).lookup f = some ⟨oc, od, .func (fnOf name qual params body scope dV kV doc pm an cdv ct), osl⟩) (hcd : codeIn (KF B.w.params) cdv qual = true)
    (hb : ∀ s vs, vs.length = args.length → BindsTo s (fnOf name qual params body scope dV kV doc pm an cdv ct) ⟨vs, []⟩ ((params.args.map (·.arg)).zip vs))
    (hkind : (params.args.map (·.arg)).all (fun x => scope.names.lookup x == some .local || scope.names.lookup x == some .cell) = true) (hfree : scope.names.all (fun x => x.2 != .free) = true)
    (hnd : ((cellsFrom 0 scope.names []).map (·.1)).Nodup)
    (h : ∀ L E' s₁ A' (P : PP (ghX B scope L A' σ s₁) A' mg mb) (R : Room A' n), A' = A.deeper (fenv qual scope f cdv L) →
      (∀ m σr sr e dd, Inv (ghX B scope L A' σ s₁) A' (fenv qual scope f cdv L) m σr sr → σr e = some (.exc C dd) → σ e = none → Pt (σr.del e) → LE (ghX B scope L A' σ s₁) A' (fenv qual scope f cdv L) E' (.ref e) sr) →
      xs (ghX B scope L A' σ s₁) A' (fenv qual scope f cdv L) E' body (bindsA ((params.args.map (·.arg)).zip args) fun _ => none) σ (Ends Q))
    (hco : scope.isCoroutine = false := by rfl) (hgen : scope.isGenerator = false := by rfl) (hkf : scope.kind = .function := by rfl) : CT B A C Pt (.ref f) args σ Q := by
  refine CT.enter (K := KF B.w.params) T.k T.t hr [] [] ho hcd (fun _ => .nil) (fun s vs hl _ => by rw [List.append_nil]; exact hb s vs hl) hkind hfree hnd (fun L E' s₁ R hE => ?_) hco hgen hkf
  rw [List.append_nil]
  exact (h L E' s₁ _ ⟨ghX_ok, T.k, T.t⟩ R rfl hE).mono fun fl m' σ' q => by cases fl <;> exact q
theorem word45 : True := by
  (k_with "in" =>
    ((with_reducible show CT _ _ _ _ _ _ _ _); refine CT.go (by assumption) (by assumption) (by k_is) (by kernel_rfl) ?_ (by rfl) (by rfl) (by decide) ?_; (focus walk_at "binds"); simp only [List.map_cons, List.map_nil, List.zip_cons_cons, List.zip_nil_left, List.zip_nil_right, bindsA]))
  trivial
theorem word46 : True := by
  (k_with "else" =>
    first
      | ((with_reducible show VL _ _ _ _ (fun vs => call (Value.builtin "len") vs) [AV.c _] _ _ _); refine vl_lenL (by walk_at "ok") (by walk_at "sto") (by walk_at "len") ?_)
      | ((with_reducible show VL _ _ _ _ (fun vs => call (Value.builtin "len") vs) [AV.t _] _ _ _); refine vl_lenT (by walk_at "ok") (by walk_at "len") ?_))
  trivial
theorem word47 : True := by
  (k_with "v2" =>
    first
      | ((with_reducible show V2 _ _ _ _ (subscriptTail _ _) (AV.c _) (AV.i _) _ _ _); refine v2_lst (by walk_at "sto") (by decide) (by decide) (by walk_at "look") ?_)
      | ((with_reducible show V2 _ _ _ _ (binaryOp Operator.Add) (AV.s _) (AV.s _) _ _ _); refine v2_str (by walk_at "ok") (by walk_at "len") ?_))
  trivial
structure FF (σ σ' : Store) (lv ld hx sd w : Addr) (vs : List AV) (rs : List Rch) (S : List Str) : Prop where
  fE : Ext σ σ'
  fLv : σ' lv = some (.ins 137 ld)
  fD : σ' ld = some (.dct (levD (.c (.ref w)) hx sd))
  fHx : σ' hx = some (.lst vs)
  fSd : σ' sd = some (.dct (seenAv S))
  fRe : ReL σ' vs rs
theorem FF.ext {σ σ' σ'' : Store} {lv ld hx sd w : Addr} {vs : List AV} {rs : List Rch} {S : List Str} (g : FF σ σ' lv ld hx sd w vs rs S) (e : Ext σ' σ'') : FF σ σ'' lv ld hx sd w vs rs S :=
  ⟨g.fE.trans e, e.at g.fLv, e.at g.fD, e.at g.fHx, e.at g.fSd, g.fRe.ext e⟩
theorem FF.upd {σ σ' : Store} {lv ld hx sd w c : Addr} {vs ws : List AV} {rs : List Rch} {S : List Str} {o : AO} (g : FF σ σ' lv ld hx sd w vs rs S) (hc : σ' c = some (.lst ws)) (hn : σ c = none) (hh : hx ≠ c) : FF σ (σ'.set c o) lv ld hx sd w vs rs S :=
  ⟨g.fE.upd hn, (Store.set_ne (ne_of_kind g.fLv hc (by simp))).trans g.fLv, (Store.set_ne (ne_of_kind g.fD hc (by simp))).trans g.fD, (Store.set_ne hh).trans g.fHx, (Store.set_ne (ne_of_kind g.fSd hc (by simp))).trans g.fSd, g.fRe.upd hc .lst⟩
theorem FF.of_go {σ σ' σ'' : Store} {lv ld hx hx' sd w : Addr} {vs vs' : List AV} {rs rs' : List Rch} {S S' : List Str} (g : FF σ σ' lv ld hx sd w vs rs S) (n1 : σ ld = none) (n2 : σ sd = none)
    (k : ∀ a o, a ≠ ld → a ≠ sd → σ' a = some o → σ'' a = some o) (h1 : σ'' ld = some (.dct (levD (.c (.ref w)) hx' sd))) (h2 : σ'' hx' = some (.lst vs')) (h3 : σ'' sd = some (.dct (seenAv S'))) (h4 : ReL σ'' vs' rs') : FF σ σ'' lv ld hx' sd w vs' rs' S' :=
  ⟨fun a o h => k a o (fun z => by subst z; rw [n1] at h; cases h) (fun z => by subst z; rw [n2] at h; cases h) (g.fE a o h), k _ _ (ne_of_kind g.fLv g.fD (by simp)) (ne_of_kind g.fLv g.fSd (by simp)) g.fLv, h1, h2, h3, h4⟩
theorem Und.Ok.rows {u : Und} (h : u.Ok) : u.rows.length ≤ 100 := by
  cases u with
  | st l => simpa [Und.rows] using h.2
  | fc l => show (l.map _).length ≤ 100; rw [List.length_map]; exact h
theorem one_of {α : Type} {l : List α} (h : l.length ≤ 1) (h2 : l ≠ []) : ∃ x, l = [x] := by
  rcases l with _ | ⟨x, _ | ⟨y, l⟩⟩
  · exact absurd rfl h2
  · exact ⟨x, rfl⟩
  · simp at h
inductive CfA (σ : Store) (lv ld sd w : Addr) (W : Wd) (t : Told) (name : Str) (D n : Nat) (m' : Vars) (σ' : Store) : Prop
  | mk (d : Nat) (hx : Addr) (vs : List AV) (hn : n = D - d) (hd : d ≤ D) (g : FF σ σ' lv ld hx sd w vs (lev W t d).1 (lev W t d).2) (hj : ∀ j, j < d → memLev W name (lev W t j).1 = [])
      (g1 : m' "world" = some (.c (.ref w))) (g2 : m' "levels" = some (.c (.ref lv))) (g3 : m' "name" = some (.s name)) (g4 : m' "begun" = some (.t [t.av, .c (.bool false)]))
inductive CfB (σ : Store) (lv ld hx sd w : Addr) (vs : List AV) (W : Wd) (t : Told) (d : Nat) (name : Str) (c : Addr) (i : Nat) (m' : Vars) (σ' : Store) : Prop
  | mk (g : FF σ σ' lv ld hx sd w vs (lev W t d).1 (lev W t d).2) (cc : σ' c = some (.lst ((memLev W name ((lev W t d).1.take i)).map Mem.av)))
      (g1 : m' "world" = some (.c (.ref w))) (g2 : m' "levels" = some (.c (.ref lv))) (g3 : m' "name" = some (.s name)) (g4 : m' "begun" = some (.t [t.av, .c (.bool false)])) (g5 : m' "found" = some (.c (.ref c)))
theorem CfB.x {σ : Store} {lv ld hx sd w : Addr} {vs : List AV} {W : Wd} {t : Told} {d : Nat} {name : Str} {c : Addr} {i : Nat} {m' : Vars} {σ' : Store} (x : CfB σ lv ld hx sd w vs W t d name c i m' σ') : σ' hx = some (.lst vs) := by
  cases x with
  | mk g => exact g.fHx
theorem c_find (T : TopOk B mg mb) (hr : Room A 6) {w : Addr} {W : Wd} {a : Arg} {name : Str} {D : Nat} (hw : WorldAt σ w W) (hk : Known W a.inner) (hn : name.length ≤ 100) (H : ∀ t, startOf W a = some t → LevOk W t D ∧ ∀ d, d ≤ D → (memLev W name (lev W t d).1).length ≤ 900) :
    CT B A 52 (fun σ' => Ext σ σ' ∧ one (hit W a name D) = none) (.ref 155) [.c (.ref w), a.av, .s name] σ (fun d σ' => Ext σ σ' ∧ d = memAv (one (hit W a name D))) := by
  walk_at "in"
  intro L E' s₁ A' P R hA hth
  walk_at "go"
  refine CV.vl (by walk_at "ok") (c_start T (R.le (by decide)) hw hk ?_)
  have hh : hit W a name D = match startOf W a with
    | some t => found W t name D
    | none => [] := rfl
  generalize hst : startOf W a = st at *
  cases st with
  | none =>
    simp only [startAv]
    walk_at "go"
    exact ⟨.refl, by rw [hh]; rfl⟩
  | some t =>
    obtain ⟨H, hM⟩ := H t rfl
    simp only [startAv]
    walk_at "go"
    refine CV.vl (by walk_at "ok") (c_Levels T (R.le (by decide)) fun σ₁ lv ld hx sd v e1 a0 a1 a2 b1 b2 b3 b4 b5 => ?_)
    walk_at "go"
    have G0 : FF σ σ₁ lv ld hx sd w [v] [(t, [])] [] := ⟨e1, b1, b2, b3, b4, b5, trivial⟩
    refine x_while (CfA σ lv ld sd w W t name D) D
      ⟨0, hx, [v], rfl, Nat.zero_le _, G0, fun _ h => absurd h (Nat.not_lt_zero _), by walk_at "get", by walk_at "get", by walk_at "get", by walk_at "get"⟩ ?_
    rintro n m' σ' ⟨d, hx, vs, rfl, hd, g, hj, g1, g2, g3, g4⟩
    have f1 := g.fLv
    have f2 := g.fD
    have f3 := g.fHx
    walk_at "go"
    intro c hc
    have gc := g.ext (.new (o := .lst []) hc)
    have f1 := gc.fLv
    have f2 := gc.fD
    have f3 := gc.fHx
    walk_at "go"
    clear g f1 f2 f3
    generalize σ'.set c (.lst []) = σ₂ at *
    clear hc
    have f1 := gc.fLv
    have f2 := gc.fD
    have f3 := gc.fHx
    refine ite_s (fun he => ?_) (fun he => ?_)
    · have hne : (lev W t d).1 ≠ [] := fun z => by
        have := gc.fRe.length
        rw [z] at this
        cases vs with
        | nil => simp at he
        | cons _ _ => simp at this
      have hdD : d < D := by
        rcases Nat.lt_or_ge d D with h | h
        · exact h
        · have : d = D := by omega
          subst this; exact absurd H.fin hne
      walk_at "go"
      intro c hc
      have hcx : hx ≠ c := (ne_of_some f3 hc).symm
      have hcn : σ c = none := gc.fE.fresh hc
      have gd := gc.ext (.new (o := .lst []) hc)
      have cl : (σ₂.set c (.lst [])) c = some (.lst []) := Store.set_self
      clear f1 f2 f3 gc hc
      generalize σ₂.set c (.lst []) = σ₃ at *
      have f1 := gd.fLv
      have f2 := gd.fD
      have f3 := gd.fHx
      walk_at "go"
      refine ie_list (by walk_at "hh") ?_
      walk_at "go"
      refine ⟨CfB σ lv ld hx sd w vs W t d name c,
        ⟨gd, cl, by walk_at "get", by walk_at "get", by walk_at "get", by walk_at "get", by walk_at "get"⟩, ⟨fun i m' σ' _ hj => hj.x, ?_, ?_⟩⟩
      · rintro i d' m' σ' hd' ⟨g, cc, g1, g2, g3, g4, g5⟩
        obtain ⟨r, hr', hv⟩ := g.fRe.at hd'
        have hrm := List.mem_of_getElem? hr'
        obtain ⟨kk1, kk2, kk3⟩ := H.ok d hd r hrm
        have hw' := hw.ext g.fE
        have hlen := Nat.le_trans (memLev_take hr') (hM d hd)
        walk_at "go"
        refine CV.vl (by walk_at "ok") (c_members T (R.le (by decide)) hw' hv kk1 kk2 kk3.rows fun σ₄ e e4 e5 e6 => ?_)
        have hlen' : ((memLev W name ((lev W t d).1.take i)).map Mem.av).length + ((members W r name).map Mem.av).length ≤ 1000 := by
          rw [List.length_map, List.length_map]; omega
        have cc' := e4.at cc
        have hce : c ≠ e := fun z => by subst z; rw [e5] at cc; cases cc
        walk_at "go"
        refine ⟨(g.ext e4).upd cc' hcn hcx, ?_, by walk_at "get", by walk_at "get", by walk_at "get", by walk_at "get", by walk_at "get"⟩
        rw [Store.set_self, take_at hr', memLev_snoc, List.map_append]
      · rintro m' σ' ⟨g, cc, g1, g2, g3, g4, g5⟩
        rw [g.fRe.length, List.take_length] at cc
        have hlen : ((memLev W name (lev W t d).1).map Mem.av).length ≤ 1000 := by
          have := hM d hd
          rw [List.length_map]; omega
        have hfnd : memLev W name (lev W t d).1 ≠ [] → found W t name D = memLev W name (lev W t d).1 := fun z => by
          have := firstNE_at (f := fun d => memLev W name (lev W t d).1) (n := D) (d := d) (s := 0) (fun j _ h => hj j (by omega)) hdD (by simpa using z)
          simpa [found] using this
        have hj' : memLev W name (lev W t d).1 = [] → ∀ j, j < d + 1 → memLev W name (lev W t j).1 = [] := fun z j h => by
          rcases Nat.lt_or_ge j d with q | q
          · exact hj j q
          · have : j = d := by omega
            subst this; exact z
        walk_at "go"
        generalize memLev W name (lev W t d).1 = ms at *
        refine ite_s (fun hl => ?_) (fun hl => ?_)
        · have hl' : 1 < ms.length := by
            have : (1 : Int) < (ms.length : Int) := by simpa using hl
            omega
          have hsz : (Str.ofString "ambiguous: ").length + name.length ≤ sizeLine := by
            have : (Str.ofString "ambiguous: ").length = 11 := by decide
            rw [this, sizeLine_eq]; exact Nat.le_trans (Nat.add_le_add_left hn 11) (by decide)
          walk_at "go"
          refine x_raise P (by walk_at "hh") (C := 52) (by kernel_rfl) (R := fun e σ' => σ e = none ∧ Ext σ (σ'.del e)) ?_ ?_
          · walk_at "go"
            refine CV.vl (by walk_at "ok") (c_NameFault T (R.le (by decide)) fun σ₅ e dd e5 n5 h5 => ?_)
            exact ⟨e, dd, rfl, h5, g.fE.fresh n5, (g.fE.trans e5).del (g.fE.fresh n5)⟩
          · intro s' σ' e dd I he hR
            refine hth _ σ' s' e _ I he hR.1 ⟨hR.2, ?_⟩
            rw [hh]
            show one (found W t name D) = none
            rw [hfnd (fun z => by rw [z] at hl'; simp at hl')]
            exact one_long hl'
        · have hl' : ms.length ≤ 1 := by
            have : (ms.length : Int) ≤ 1 := by simpa using hl
            omega
          walk_at "go"
          intro c2 hc2
          walk_at "go"
          have cc2 : (σ'.set c2 (.lst [])) c = some (.lst (ms.map Mem.av)) := (Store.set_ne (ne_of_some cc hc2).symm).trans cc
          have g2' := g.ext (.new (o := .lst []) hc2)
          clear g cc hc2
          generalize σ'.set c2 (.lst []) = σ₄ at *
          have f1 := g2'.fLv
          have f2 := g2'.fD
          refine ite_s (fun hm => ?_) (fun hm => ?_)
          · obtain ⟨mm, rfl⟩ := one_of hl' (by rintro rfl; simp at hm)
            · -- one
              simp only [List.map_cons, List.map_nil] at cc2
              walk_at "go"
              refine ⟨g2'.fE, ?_⟩
              rw [hh]
              show _ = memAv (one (found W t name D))
              rw [hfnd (by simp)]; rfl
          · have hms : ms = [] := by
              cases ms with
              | nil => rfl
              | cons _ _ => simp at hm
            walk_at "go"
            refine CV.vl (by walk_at "ok") (c_go_on T (R.le (by decide)) hw g2'.fE a1 a2 f1 f2 g2'.fHx g2'.fSd g2'.fRe (H.ok d hd) (H.l1 d hd) (H.l2 d hd) fun σ₅ hx' vs' k1 k2 k3 k4 k5 => ?_)
            walk_at "go"
            exact ⟨D - (d + 1), by omega, d + 1, hx', vs', rfl, by omega, g2'.of_go a1 a2 k1 k2 k3 k4 k5, hj' hms, g1, g2, g3, g4⟩
    · have hnil : (lev W t d).1 = [] := by
        have := gc.fRe.length
        cases vs with
        | nil => exact List.eq_nil_of_length_eq_zero this.symm
        | cons _ _ => simp at he
      walk_at "go"
      refine ⟨gc.fE, ?_⟩
      have : found W t name D = [] := firstNE_nil fun j _ h => by
        rcases Nat.lt_or_ge j d with z | z
        · exact hj j z
        · obtain ⟨k, rfl⟩ := Nat.exists_eq_add_of_le z
          simp [memLev, lev_nils hnil k]
      rw [hh]
      show _ = memAv (one (found W t name D))
      rw [this]; rfl
theorem CT.mono {C : Addr} {Pt : Store → Prop} {f : Value} {args : List AV} {Q Q' : AV → Store → Prop} (h : CT B A C Pt f args σ Q) (q : ∀ d σ', Q d σ' → Q' d σ') : CT B A C Pt f args σ Q' :=
  fun s vs r g fr => codeAny_mono (h s vs r g fr) fun r s' h => by
    rcases r with e | (_ | _ | _ | v)
    · exact h
    · exact h
    · exact h
    · exact h
    · obtain ⟨d, σ', a, b, c, z⟩ := h
      exact ⟨d, σ', a, b, c, q _ _ z⟩
theorem Pg.gh {B : Bs} {A : Around} {mg mb : Str → Option Value} {scope : Scope} {L : Addr} (P : PP (defX B scope L) A mg mb) (σ : Store) (s : Shared) : PP (ghX B scope L A σ s) A mg mb := ⟨ghX_ok, P.k, P.t⟩
theorem c_mon (T : TopOk B mg mb) (hr : Room A 7) {w : Addr} {W : Wd} {a : Arg} {name : Str} {D : Nat} (hw : WorldAt σ w W) (hk : Known W a.inner) (hn : name.length ≤ 100) (H : ∀ t, startOf W a = some t → LevOk W t D ∧ ∀ d, d ≤ D → (memLev W name (lev W t d).1).length ≤ 900)
    {Q : AV → Store → Prop} (q : ∀ σ', Ext σ σ' → Q (memAv (one (hit W a name D))) σ') : CV B A E (.ref 169) [.c (.ref w), a.av, .s name] σ Q := by
  walk_at "in"
  intro L E' A' P R hA
  walk_at "go"
  subst hA
  refine x_try (C := 52) (P := fun σ' => Ext σ σ' ∧ one (hit W a name D) = none) P (by kernel_rfl) (by rfl) (by k_is) (by rfl) (fun s₀ E₁ hE => ?_) ?_
  · have P2 := Pg.gh P σ s₀
    walk_at "go"
    refine CT.vl (by walk_at "ok") ((c_find T (R.le (by decide)) hw hk hn H).mono fun d σ' h => ?_) fun s e s' I h => hE _ _ s e s' I h
    obtain ⟨h1, rfl⟩ := h
    exact q σ' h1
  · rintro m' σ' ⟨h1, h2⟩
    dsimp only [Then, Ends]
    have := q σ' h1
    rw [h2] at this
    exact this
theorem put_new {α : Type} {k : Str} {d : α} : ∀ {l : List (Str × α)}, (∀ x ∈ l, x.1 ≠ k) → put l k d = l ++ [(k, d)]
  | [], _ => rfl
  | x :: l, h => by
    have h1 : ¬ x.1 = k := h x (List.mem_cons_self ..)
    simp only [put, h1, if_false, put_new fun y hy => h y (List.mem_cons_of_mem _ hy), List.cons_append]
/-- what is known of what method_set is asked -/
structure AskOk (W : Wd) (a : Arg) (t : Told) (NS : List Str) (D : Nat) : Prop where
  levOk : LevOk W t D
  ns : ∀ d, d ≤ D → ∀ r ∈ (lev W t d).1, ∀ n ∈ namesAt W r, n ∈ NS
  few : NS.length ≤ 50
  short : ∀ n ∈ NS, n.length ≤ 100
  mem : ∀ n ∈ NS, ∀ d, d ≤ D → (memLev W n (lev W t d).1).length ≤ 900
  steps : ∀ n ∈ NS, ∀ m, one (hit W a n D) = some m → m.steps.length ≤ 200
noncomputable def SetIs (W : Wd) (a : Arg) (D : Nat) (l : List (Str × AV)) : Prop := match startOf W a with
  | none => l = []
  | some t => ∃ ks, ks.Perm (namesTo W t D) ∧ l = saidAll (saidOf W a D) ks
inductive LmA (σ : Store) (w lc fd : Addr) (v : AV) (F : Str → Option AV) (ns : List Str) (i : Nat) (m' : Vars) (σ' : Store) : Prop
  | mk (e : Ext σ σ') (hl : σ' lc = some (.lst (ns.map .s))) (hf : σ' fd = some (.dct (saidAll F (ns.take i)))) (g1 : m' "world" = some (.c (.ref w))) (g2 : m' "told" = some v) (g3 : m' "found" = some (.c (.ref fd)))
theorem LmA.l {σ : Store} {w lc fd : Addr} {v : AV} {F : Str → Option AV} {ns : List Str} {i : Nat} {m' : Vars} {σ' : Store} (x : LmA σ w lc fd v F ns i m' σ') : σ' lc = some (.lst (ns.map .s)) := by
  cases x; assumption
theorem c_mset (T : TopOk B mg mb) (hr : Room A 8) {w : Addr} {W : Wd} {a : Arg} {NS : List Str} {D : Nat} (hw : WorldAt σ w W) (hk : Known W a.inner) (H : ∀ t, startOf W a = some t → AskOk W a t NS D)
    {Q : AV → Store → Prop} (q : ∀ σ' b l, Ext σ σ' → σ b = none → σ' b = some (.dct l) → SetIs W a D l → Q (.c (.ref b)) σ') : CV B A E (.ref 181) [.c (.ref w), a.av] σ Q := by
  walk_at "in"
  intro L E' A' P R hA
  walk_at "go"
  refine CV.vl (by walk_at "ok") (c_start T (R.le (by decide)) hw hk ?_)
  walk_at "go"
  intro fd hfd
  walk_at "go"
  unfold SetIs at q
  generalize hst : startOf W a = st at *
  cases st with
  | none =>
    simp only [startAv]
    walk_at "go"
    exact q _ fd [] (.new hfd) hfd Store.set_self rfl
  | some t =>
    have H := H t rfl
    simp only [startAv]
    walk_at "go"
    refine ie_list (by walk_at "hh") ?_
    have e1 : Ext σ (σ.set fd (.dct [])) := .new hfd
    have f1 : (σ.set fd (.dct [])) fd = some (.dct []) := Store.set_self
    have hw1 := hw.ext e1
    generalize σ.set fd (.dct []) = σ₁ at *
    walk_at "go"
    refine CV.vl (by walk_at "ok") (c_names T (R.le (by decide)) hw1 H.levOk H.ns H.few fun σ₂ na ks e2 n2 h2 hp => ?_)
    walk_at "go"
    have hna : na ≠ fd := ne_of_some f1 n2
    have hnd : ks.Nodup := hp.nodup_iff.mpr (namesTo_nodup W t D)
    have hks : ∀ k ∈ ks, k ∈ NS := fun k h => namesTo_sub H.ns (by omega) k (hp.mem_iff.mp h)
    have hkl : ks.length ≤ 50 := Nat.le_trans (nodup_len hnd hks) H.few
    refine ⟨LmA σ w na fd a.av (saidOf W a D) ks,
      ⟨e1.trans e2, h2, by simpa [saidAll] using e2.at f1, by walk_at "get", by walk_at "get", by walk_at "get"⟩, ⟨fun i m' σ' _ hj => hj.l, ?_, ?_⟩⟩
    · rintro i d' m' σ' hd' ⟨e3, h3, h4, g1, g2, g3⟩
      obtain ⟨nm, hnm, rfl⟩ := map_at hd'
      have hnN := hks nm (List.mem_of_getElem? hnm)
      have hw3 := hw.ext e3
      have hsn := saidAll_snoc (saidOf W a D) nm (ks.take i)
      rw [← take_at hnm] at hsn
      have hlen : (saidAll (saidOf W a D) (ks.take i)).length ≤ 1000 := by
        have := saidAll_len (saidOf W a D) (ks.take i)
        have h5 : (ks.take i).length ≤ ks.length := by simp; omega
        omega
      have hnew : ∀ x ∈ saidAll (saidOf W a D) (ks.take i), x.1 ≠ nm := fun x hx z => by
        have hx' := (saidAll_keys hx).1
        rw [z] at hx'
        have hn2 : (ks.take i ++ nm :: ks.drop (i + 1)).Nodup := by rw [← drop_at hnm, List.take_append_drop]; exact hnd
        exact (List.nodup_append.mp hn2).2.2 nm hx' nm (List.mem_cons_self ..) rfl
      walk_at "go"
      refine CV.vl (by walk_at "ok") (c_mon T (R.le (by decide)) hw3 hk (H.short nm hnN) (fun t' ht' => by cases hst.symm.trans ht'; exact ⟨H.levOk, H.mem nm hnN⟩) fun σ₅ e5 => ?_)
      have h3' := e5.at h3
      have h4' := e5.at h4
      have e6 := e3.trans e5
      have hsd : saidOf W a D nm = (one (hit W a nm D)).bind (said a) := rfl
      have hst := H.steps nm hnN
      rw [hsd] at hsn
      generalize one (hit W a nm D) = om at *
      cases om with
      | none =>
        simp only [memAv]
        simp only [Option.bind_none, List.append_nil] at hsn
        walk_at "go"
        exact ⟨e6, h3', by rw [hsn]; exact h4', by walk_at "get", by walk_at "get", by walk_at "get"⟩
      | some mm =>
        have hst := hst mm rfl
        simp only [memAv]
        simp only [Option.bind_some] at hsn
        have hna' : mm.av = mm.av := rfl
        cases mm with
        | fld s ty =>
          simp only [said, List.append_nil] at hsn
          simp only [Mem.av]
          walk_at "go"
          exact ⟨e6, h3', by rw [hsn]; exact h4', by walk_at "get", by walk_at "get", by walk_at "get"⟩
        | face s n f =>
          simp only [said] at hsn
          simp only [Mem.av]
          walk_at "go"
          refine CV.vl (by walk_at "ok") (c_isin T (R.le (by decide)) (m := .face s n f) (by simp) hst fun σ₆ e7 => ?_)
          have h3'' := e7.at h3'
          have h4'' := e7.at h4'
          have e8 := e6.trans e7
          simp only [isIn]
          walk_at "go"
          rw [put_new hnew, ← hsn]
          exact ⟨e8.upd hfd, (Store.set_ne hna).trans h3'', Store.set_self, by walk_at "get", by walk_at "get", by walk_at "get"⟩
        | meth s mt =>
          simp only [Mem.av]
          walk_at "go"
          refine CV.vl (by walk_at "ok") (c_isin T (R.le (by decide)) (m := .meth s mt) (by simp) hst fun σ₆ e7 => ?_)
          have h3'' := e7.at h3'
          have h4'' := e7.at h4'
          have e8 := e6.trans e7
          simp only [said] at hsn
          walk_at "go"
          refine ite_s (fun hi => ?_) (fun hi => ?_)
          · rw [if_pos hi] at hsn
            walk_at "go"
            rw [put_new hnew, ← hsn]
            exact ⟨e8.upd hfd, (Store.set_ne hna).trans h3'', Store.set_self, by walk_at "get", by walk_at "get", by walk_at "get"⟩
          · rw [if_neg (by rw [hi]; decide)] at hsn
            simp only [List.append_nil] at hsn
            walk_at "go"
            exact ⟨e8, h3'', by rw [hsn]; exact h4'', by walk_at "get", by walk_at "get", by walk_at "get"⟩
    · rintro m' σ' ⟨e3, h3, h4, g1, g2, g3⟩
      rw [List.length_map, List.take_length] at h4
      walk_at "go"
      exact q _ fd _ e3 hfd h4 ⟨ks, hp, rfl⟩
noncomputable def paths (W : Wd) (t : Told) : Nat → List Rch
  | 0 => [(t, [])]
  | d + 1 => (paths W t d).flatMap (emb W)
noncomputable def pathAv (r : Rch) : AV := .t [r.1.av, .t (stepsL r.2)]
structure PathOk (W : Wd) (t : Told) (D : Nat) : Prop where
  ok : ∀ d, d ≤ D → ∀ r ∈ paths W t d, (∃ k row, r.1 = .nm k ∧ W k = some row) ∧ r.2.length ≤ 100 ∧ (base W r.1).Ok
  len : ∀ d, d ≤ D + 1 → (paths W t d).length ≤ 900
noncomputable def foundP (W : Wd) (t : Told) (name : Str) : List Mem := firstNE (fun d => memLev W name (paths W t d)) 0 4
noncomputable def LawIs (W : Wd) (a : Arg) (l : List (Str × AV)) : Prop := match startOf W a with
  | none => l = []
  | some t => l = saidAll (fun n => (one (foundP W t n)).bind (said a)) ["f", "g", "h"]
theorem emb_take {W : Wd} {rs : List Rch} {i : Nat} {r : Rch} (h : rs[i]? = some r) : (rs.take (i + 1)).flatMap (emb W) = (rs.take i).flatMap (emb W) ++ emb W r := by
  obtain ⟨hi, rfl⟩ := List.getElem?_eq_some_iff.mp h
  have e : rs.take (i + 1) = rs.take i ++ [rs[i]] := (List.take_append_getElem hi).symm
  rw [e, List.flatMap_append, List.flatMap_cons, List.flatMap_nil, List.append_nil]
theorem emb_take_len {W : Wd} {rs : List Rch} {i : Nat} {r : Rch} (h : rs[i]? = some r) : ((rs.take i).flatMap (emb W)).length + (emb W r).length ≤ (rs.flatMap (emb W)).length := by
  have hd : rs.drop i = r :: rs.drop (i + 1) := by
    obtain ⟨hi, rfl⟩ := List.getElem?_eq_some_iff.mp h
    exact List.drop_eq_getElem_cons hi
  have : rs = rs.take i ++ r :: rs.drop (i + 1) := by rw [← hd, List.take_append_drop]
  have h2 : (rs.take i ++ r :: rs.drop (i + 1)).flatMap (emb W) = (rs.take i).flatMap (emb W) ++ (emb W r ++ (rs.drop (i + 1)).flatMap (emb W)) := by simp
  rw [← this] at h2
  rw [h2, List.length_append, List.length_append]; omega
theorem word48 : True := by
  (k_with "else" =>
    first
      | ((with_reducible show IL _ _ _ _ "range" _ _ _ _ _); refine il_range (by walk_at "hh") (by walk_at "len") (by walk_at "len") ?_))
  trivial
theorem range_at {n i : Nat} {d : AV} (h : (rangeItems 0 n)[i]? = some d) : i < n ∧ d = .i (i : Int) := by
  obtain ⟨x, h1, h2⟩ := map_at h
  have hi : i < n := by
    have := (List.getElem?_eq_some_iff.mp h1).1
    simpa using this
  have : x = i := by
    have := List.getElem?_range hi
    rw [this] at h1; cases h1; rfl
  subst this
  exact ⟨hi, by simpa using h2⟩
theorem embF_at {s : List Step} {l : List Fld} {i : Nat} {f : Fld} (h : l[i]? = some f) : embF s 0 (l.take (i + 1)) = embF s 0 (l.take i) ++ (if f.e = true then [(f.ty.bare, s ++ [(i, f.ty.isPt)])] else []) := by
  have hi' : i + 1 ≤ l.length := (List.getElem?_eq_some_iff.mp h).1
  have hap := embF_append s (l.take i) 0 f
  rw [← take_at h] at hap
  have hlt : (l.take i).length = i := by simp; omega
  rw [hlt, Nat.zero_add] at hap
  exact hap
theorem embF_take_le {s : List Step} {l : List Fld} {i : Nat} : (embF s 0 (l.take i)).length ≤ (embF s 0 l).length := by
  have key : ∀ (a b : List Fld) (k : Nat), (embF s k a).length ≤ (embF s k (a ++ b)).length := by
    intro a
    induction a with
    | nil => intro b k; simp [embF]
    | cons x a ih => intro b k; simp only [embF, List.cons_append, List.length_append]; have := ih b (k + 1); omega
  have := key (l.take i) (l.drop i) 0
  rwa [List.take_append_drop] at this
inductive CpA (σ' : Store) (w : Addr) (W : Wd) (t0 : Told) (deep i : Nat) (m' : Vars) (σ2 : Store) : Prop
  | mk (c : Addr) (e : Ext σ' σ2) (h : σ' c = none) (hc : σ2 c = some (.lst ((paths W t0 i).map pathAv))) (hi : i ≤ deep) (g1 : m' "world" = some (.c (.ref w))) (g2 : m' "found" = some (.c (.ref c)))
inductive CpB (σ' : Store) (w : Addr) (W : Wd) (ps : List Rch) (c c2 : Addr) (j : Nat) (m' : Vars) (σ4 : Store) : Prop
  | mk (e : Ext σ' σ4) (h : σ4 c = some (.lst (ps.map pathAv))) (h2 : σ4 c2 = some (.lst (((ps.take j).flatMap (emb W)).map pathAv))) (g1 : m' "world" = some (.c (.ref w))) (g2 : m' "later" = some (.c (.ref c2)))
theorem CpB.c {σ' : Store} {w : Addr} {W : Wd} {ps : List Rch} {c c2 : Addr} {j : Nat} {m' : Vars} {σ4 : Store} (x : CpB σ' w W ps c c2 j m' σ4) : σ4 c = some (.lst (ps.map pathAv)) := by
  cases x; assumption
inductive CpC (σ' : Store) (w : Addr) (ps : List Rch) (c c2 : Addr) (pre : List Rch) (st : List Step) (l : List Fld) (j : Nat) (m' : Vars) (σ5 : Store) : Prop
  | mk (e : Ext σ' σ5) (h : σ5 c = some (.lst (ps.map pathAv))) (h2 : σ5 c2 = some (.lst ((pre ++ embF st 0 (l.take j)).map pathAv))) (g1 : m' "world" = some (.c (.ref w))) (g2 : m' "later" = some (.c (.ref c2))) (g3 : m' "steps" = some (.t (stepsL st)))
theorem c_paths (T : TopOk B mg mb) (hr : Room A 2) {w : Addr} {W : Wd} {a : Arg} {deep : Nat} (hw : WorldAt σ w W) (hdp : deep ≤ 100) (ha : a.tag = "ptr" ∨ ∃ k, a = .t (.nm k)) (H : PathOk W a.inner deep)
    {Q : AV → Store → Prop} (q : ∀ σ' c, Ext σ σ' → σ c = none → σ' c = some (.lst ((paths W a.inner deep).map pathAv)) → Q (.c (.ref c)) σ') : CV B A E (.ref 288) [.c (.ref w), a.av, .i (deep : Int)] σ Q := by
  have start : ∀ c, σ c = none → (σ.set c (.lst [.t [a.inner.av, .t []]])) c = some (.lst ((paths W a.inner 0).map pathAv)) := fun c hc => by rw [Store.set_self]; rfl
  walk_at "in"
  intro L E' A' P R hA
  unfold Arg.av
  iterate 5 (walk_at "one")
  refine EV.mono (Q := fun d σ' => d = a.inner.av ∧ σ' = σ) ?_ ?_
  · walk_at "go"
    cases a with
    | p k =>
      simp only [Arg.tag, Arg.arg, Arg.inner]
      walk_at "go"
      exact ⟨rfl, rfl⟩
    | t x =>
      have := x.tag_or
      simp only [Arg.tag, Arg.arg, Arg.inner]
      walk_at "go"
      exact ⟨rfl, rfl⟩
  rintro d σ' ⟨rfl, rfl⟩
  walk_at "go"
  intro c hc
  have e1 := start c hc
  have e2 : Ext σ' (σ'.set c (.lst [.t [a.inner.av, .t []]])) := .new hc
  generalize σ'.set c (.lst [.t [a.inner.av, .t []]]) = σ₁ at *
  walk_at "go"
  generalize a.inner = t0 at *
  refine ⟨CpA σ' w W t0 deep, ⟨c, e2, hc, e1, Nat.zero_le _, by walk_at "get", by walk_at "get"⟩, ⟨fun _ _ _ _ _ => trivial, ?_, ?_⟩⟩
  · rintro i d' m' σ2 hd ⟨c, e2, hc, e1, hi, g1, g2⟩
    obtain ⟨hlt, rfl⟩ := range_at hd
    have hlt : i < deep := by simpa using hlt
    walk_at "go"
    intro c2 hc2
    have n2 : σ' c2 = none := e2.fresh hc2
    have ncc : c ≠ c2 := (ne_of_some e1 hc2).symm
    have e3 : Ext σ' (σ2.set c2 (.lst [])) := e2.upd n2
    have e4 : (σ2.set c2 (.lst [])) c = some (.lst ((paths W t0 i).map pathAv)) := (Store.set_ne ncc).trans e1
    have e5 : (σ2.set c2 (.lst [])) c2 = some (.lst []) := Store.set_self
    clear e2 e1 hc2
    generalize σ2.set c2 (.lst []) = σ3 at *
    have hbound := H.len (i + 1) (by omega)
    walk_at "go"
    refine ie_list (by walk_at "hh") ?_
    walk_at "go"
    refine ⟨CpB σ' w W (paths W t0 i) c c2, ⟨e3, e4, e5, by walk_at "get", by walk_at "get"⟩, ⟨fun j m' σ' _ hj => hj.c, ?_, ?_⟩⟩
    · rintro j d' m' σ4 hd ⟨e3, e4, e5, g1, g2⟩
      obtain ⟨r, hr, rfl⟩ := map_at hd
      obtain ⟨⟨k, row, hk, hW⟩, hs, hu⟩ := H.ok i (by omega) r (List.mem_of_getElem? hr)
      obtain ⟨wd, f, nd, rows, w1, w2, w3, w4, w5, w6⟩ := hw.ext e3
      obtain ⟨ra, h7, rd, rf, md, k1, k2, k3, k4, k5⟩ := w6 k row hW
      have hb : base W r.1 = row.u := by rw [hk]; simp only [base, hW]
      have hbl := emb_take_len (W := W) hr
      have het := emb_take (W := W) hr
      have hemb : emb W r = match row.u with
        | .st l => embF r.2 0 l
        | .fc _ => [] := by unfold emb; rw [hb] <;> rfl
      rw [hb] at hu
      simp only [pathAv, hk, Told.av, Told.tag, Told.arg]
      rw [hemb] at hbl het
      have hb1 : ((paths W t0 i).flatMap (emb W)).length ≤ 900 := hbound
      generalize ((paths W t0 i).take j).flatMap (emb W) = pre at *
      walk_at "go"
      rw [show row.u.av = AV.t [.s row.u.tag, .t row.u.rows] from rfl]
      generalize row.u = u at *
      walk_at "go"
      cases u with
      | fc l =>
        simp only [Und.tag, Und.rows]
        walk_at "go"
        refine ⟨fun i m' σ5 => σ5 = σ4 ∧ m' "world" = some (.c (.ref w)) ∧ m' "later" = some (.c (.ref c2)), ⟨rfl, by walk_at "get", by walk_at "get"⟩, ⟨fun _ _ _ _ _ => trivial, fun i d m σ h => by simp [enumItems] at h, ?_⟩⟩
        rintro m' σ5 ⟨rfl, g1, g2⟩
        walk_at "go"
        exact ⟨e3, e4, by rw [het]; simpa using e5, g1, g2⟩
      | st l =>
        simp only [Und.tag, Und.rows]
        walk_at "go"
        refine ⟨CpC σ' w (paths W t0 i) c c2 pre r.2 l,
          ⟨e3, e4, by simpa [embF] using e5, by walk_at "get", by walk_at "get", by walk_at "get"⟩, ⟨fun _ _ _ _ _ => trivial, ?_, ?_⟩⟩
        · rintro i' d' m' σ5 hd ⟨e3, e4, e5, g1, g2, g3⟩
          obtain ⟨y, hy, rfl⟩ := enumItems_at hd
          obtain ⟨fl, hfl, rfl⟩ := map_at hy
          have hap := embF_at (s := r.2) hfl
          have hlen : ((pre ++ embF r.2 0 (l.take i')).map pathAv).length ≤ 1000 := by
            have := embF_take_le (s := r.2) (l := l) (i := i')
            rw [List.length_map, List.length_append]
            simp only at hbl
            omega
          rw [show fl.av = AV.t [.s fl.n, fl.ty.av, .c (.bool fl.e)] from rfl]
          walk_at "go"
          refine ite_s (fun he => ?_) (fun he => ?_)
          · rw [if_pos he] at hap
            have hty := hu.1 fl (List.mem_of_getElem? hfl) he
            generalize fl.ty = ty at *
            cases ty with
            | bl => exact absurd rfl hty
            | nm k =>
              simp only [Ty.av]
              walk_at "go"
              refine ⟨e3.upd n2, (Store.set_ne ncc).trans e4, ?_, by walk_at "get", by walk_at "get", by walk_at "get"⟩
              rw [Store.set_self, hap]
              simp [pathAv, stepsL, Step.av, Ty.bare, Ty.isPt, Told.av, Told.tag, Told.arg]
              try decide
            | pt k =>
              simp only [Ty.av]
              walk_at "go"
              refine ⟨e3.upd n2, (Store.set_ne ncc).trans e4, ?_, by walk_at "get", by walk_at "get", by walk_at "get"⟩
              rw [Store.set_self, hap]
              simp [pathAv, stepsL, Step.av, Ty.bare, Ty.isPt, Told.av, Told.tag, Told.arg]
          · rw [if_neg (by rw [he]; decide), List.append_nil] at hap
            walk_at "go"
            exact ⟨e3, e4, by rw [hap]; exact e5, by walk_at "get", by walk_at "get", by walk_at "get"⟩
        · rintro m' σ5 ⟨e3, e4, e5, g1, g2, g3⟩
          rw [List.take_of_length_le (by simp [enumItems])] at e5
          walk_at "go"
          exact ⟨e3, e4, by rw [het]; exact e5, g1, g2⟩
    · rintro m' σ4 ⟨e3, e4, e5, g1, g2⟩
      rw [List.length_map, List.take_length] at e5
      walk_at "go"
      exact ⟨c2, e3, n2, e5, hlt, by walk_at "get", by walk_at "get"⟩
  · rintro m' σ2 ⟨c, e2, hc, e1, hi, g1, g2⟩
    walk_at "go"
    refine q _ c e2 hc ?_
    rw [e1]; simp [rangeItems]
theorem word49 : True := by
  (k_with "x1" =>
    ((with_reducible show ST _ _ _ _ (exec (Stmt.Assign [Expr.Name _ _] (Expr.ListComp _ _ _ _) _) _) _ _ _); refine x_comp (by walk_at "ok") (by walk_at "hh") (by rfl) (by rfl) ?_ (by rfl)))
  trivial
theorem word50 : True := by
  (k_with "v2" =>
    first
      | ((with_reducible show V2 _ _ _ _ (binaryOp Operator.Add) (AV.c _) (AV.c _) _ _ _); refine v2_ladd (by walk_at "ok") (by walk_at "sto") (by walk_at "sto") (by walk_at "len") ?_))
  trivial
theorem seqI {i n : Nat} (h : i < n) : seqIndex? (i : Int) n = some i := by
  unfold seqIndex?
  have h1 : ¬ ((i : Int) < 0) := by omega
  simp [h1, h]
theorem v2_tupN {X : Cx} {A : Around} {env : Env} {m : Vars} {value slice : Expr} {l : List AV} {i : Nat} {d : AV} {Q : AV → Store → Prop} (hhi : i < 1000) (hx : l[i]? = some d) (q : Q d σ) (hs : ∀ t u, subscripted slice false (.ref t) (.int (i : Int) u) = operate [.ref t, .int (i : Int) u] (getItem (.ref t) (.int (i : Int) u)) := by intro _ _; rfl) : V2 X A env E (subscriptTail value slice) (.t l) (.i (i : Int)) m σ Q :=
  v2_tup (by have : (-(2 ^ 63) : Int) ≤ 0 := by decide
             omega) (by have : (1000 : Int) < 2 ^ 63 := by decide
                        omega) (seqI (List.getElem?_eq_some_iff.mp hx).1) hx q hs
theorem word51 : True := by
  (k_with "v2" =>
    first
      | ((with_reducible show V2 _ _ _ _ (subscriptTail _ _) (AV.t _) (AV.i (Nat.cast _)) _ _ _); refine v2_tupN (by omega) (by assumption) ?_))
  trivial
theorem PathOk.le {W : Wd} {t : Told} {D d : Nat} (H : PathOk W t D) (h : d ≤ D) : PathOk W t d := ⟨fun e he => H.ok e (by omega), fun e he => H.len e (by omega)⟩
theorem fldAt_none {name : Str} : ∀ {l : List Fld} {k : Nat}, (∀ f ∈ l, (f.n == name) = false) → fldAt name k l = none
  | [], _, _ => rfl
  | f :: l, k, h => by
    rw [fldAt, if_neg (by rw [h f (List.mem_cons_self ..)]; decide)]
    exact fldAt_none fun g hg => h g (List.mem_cons_of_mem _ hg)
inductive LfA (σ : Store) (w : Addr) (W : Wd) (t : Told) (v : AV) (name : Str) (i : Nat) (m' : Vars) (σ2 : Store) : Prop
  | mk (e : Ext σ σ2) (h : ∀ j, j < i → memLev W name (paths W t j) = []) (g1 : m' "world" = some (.c (.ref w))) (g2 : m' "told" = some v) (g3 : m' "name" = some (.s name))
inductive LfB (σ : Store) (w : Addr) (W : Wd) (a : Arg) (name : Str) (p : Addr) (ps : List (Told × List Step)) (j : Nat) (m' : Vars) (σ5 : Store) : Prop
  | mk (c : Addr) (e : Ext σ σ5) (n : σ c = none) (h : c ≠ p) (hp : σ5 p = some (.lst (ps.map pathAv))) (hc : σ5 c = some (.lst ((memLev W name (ps.take j)).map Mem.av)))
      (g1 : m' "world" = some (.c (.ref w))) (g2 : m' "told" = some a.av) (g3 : m' "name" = some (.s name)) (g4 : m' "found" = some (.c (.ref c)))
theorem LfB.p {σ : Store} {w : Addr} {W : Wd} {a : Arg} {name : Str} {p : Addr} {ps : List (Told × List Step)} {j : Nat} {m' : Vars} {σ5 : Store} (x : LfB σ w W a name p ps j m' σ5) : σ5 p = some (.lst (ps.map pathAv)) := by
  cases x; assumption
theorem c_lfound (T : TopOk B mg mb) (hr : Room A 3) {w : Addr} {W : Wd} {a : Arg} {name : Str} (hw : WorldAt σ w W) (ha : a.tag = "ptr" ∨ ∃ k, a = .t (.nm k)) (H : PathOk W a.inner 3)
    (hM : ∀ d, d ≤ 3 → (memLev W name (paths W a.inner d)).length ≤ 900) (hF : ∀ d, d ≤ 3 → ∀ r ∈ paths W a.inner d, ∀ l, base W r.1 = .st l → ∀ f ∈ l, (f.n == name) = false)
    {Q : AV → Store → Prop} (q : ∀ σ' c, Ext σ σ' → σ c = none → σ' c = some (.lst ((foundP W a.inner name).map Mem.av)) → Q (.c (.ref c)) σ') : CV B A E (.ref 293) [.c (.ref w), a.av, .s name] σ Q := by
  walk_at "in"
  intro L E' A' P R hA
  walk_at "go"
  refine ⟨LfA σ w W a.inner a.av name, ⟨.refl, fun j h => absurd h (Nat.not_lt_zero _), by walk_at "get", by walk_at "get", by walk_at "get"⟩, ⟨fun _ _ _ _ _ => trivial, ?_, ?_⟩⟩
  · rintro i d' m' σ2 hd ⟨e2, hj, g1, g2, g3⟩
    obtain ⟨hlt, rfl⟩ := range_at hd
    have hlt : i < 4 := by simpa using hlt
    walk_at "go"
    intro c hc
    have n2 : σ c = none := e2.fresh hc
    have e3 : Ext σ (σ2.set c (.lst [])) := e2.upd n2
    have e5 : (σ2.set c (.lst [])) c = some (.lst []) := Store.set_self
    clear e2 hc
    generalize σ2.set c (.lst []) = σ3 at *
    have hw3 := hw.ext e3
    walk_at "go"
    refine ie_list (by walk_at "hh") ?_
    walk_at "go"
    refine CV.vl (by walk_at "ok") (c_paths T (R.le (by decide)) hw3 (by omega) ha (H.le (by omega)) fun σ4 p e4 np hp => ?_)
    have hpl := H.len i (by omega)
    have hMi := hM i (by omega)
    have hOk := H.ok i (by omega)
    have hFi := hF i (by omega)
    have hcp : c ≠ p := (ne_of_some e5 np).symm
    have np' : σ p = none := e3.fresh np
    generalize a.inner = t0 at *
    generalize hps : paths W t0 i = ps at *
    walk_at "go"
    refine ⟨LfB σ w W a name p ps,
      ⟨c, e3.trans e4, n2, hcp, hp, e4.at e5, by walk_at "get", by walk_at "get", by walk_at "get", by walk_at "get"⟩, ⟨fun j m' σ' _ hj => hj.p, ?_, ?_⟩⟩
    · rintro j d' m' σ5 hd ⟨c, e3, n2, hcp, e4, e5, g1, g2, g3, g4⟩
      obtain ⟨r, hr, rfl⟩ := map_at hd
      obtain ⟨⟨k, row, hk, hW⟩, hs, hu⟩ := hOk r (List.mem_of_getElem? hr)
      obtain ⟨wd, f, nd, rows, w1, w2, w3, w4, w5, w6⟩ := hw.ext e3
      obtain ⟨ra, h7, rd, rf, md, k1, k2, k3, k4, k5⟩ := w6 k row hW
      have hb : base W r.1 = row.u := by rw [hk]; simp only [base, hW]
      have ho : own W r.1 = row.ms := by rw [hk]; simp only [own, hW]
      have hFr := hFi r (List.mem_of_getElem? hr)
      have hlen := memLev_take (W := W) (name := name) hr
      have hta := memLev_snoc W name (ps.take j) r
      rw [← take_at hr] at hta
      have hmem : members W r name = match row.ms.lookup name with
        | some m => [.meth r.2 m]
        | none => match row.u with
          | .st l => match fldAt name 0 l with
            | some (k, ty) => [.fld (r.2 ++ [(k, false)]) ty]
            | none => []
          | .fc l => faces r.2 name l := by unfold members; rw [hb, ho] <;> rfl
      rw [hb] at hu hFr
      simp only [pathAv, hk, Told.av, Told.tag, Told.arg]
      generalize hpre : memLev W name (ps.take j) = pre at *
      have hrl := rowsAv_lookup name row.ms
      walk_at "go"
      refine ite_s (fun hl => ?_) (fun hl => ?_)
      · rw [hrl] at hl
        cases hlm : row.ms.lookup name with
        | none => rw [hlm] at hl; simp at hl
        | some mt =>
          rw [hlm] at hrl hmem
          simp only [Option.map_some, Meth.av] at hrl
          simp only at hmem
          have hlen' : (pre.map Mem.av).length ≤ 1000 := by rw [List.length_map]; omega
          walk_at "go"
          exact ⟨c, e3.upd n2, n2, hcp, (Store.set_ne hcp.symm).trans e4, by rw [hta, hmem, List.map_append]; exact Store.set_self, by walk_at "get", by walk_at "get", by walk_at "get", by walk_at "get"⟩
      · rw [hrl] at hl
        cases hlm : row.ms.lookup name with
        | some _ => rw [hlm] at hl; simp at hl
        | none =>
          rw [hlm] at hmem
          simp only at hmem
          walk_at "go"
          rw [show row.u.av = AV.t [.s row.u.tag, .t row.u.rows] from rfl] at *
          generalize row.u = u at *
          walk_at "go"
          cases u with
          | fc l =>
            simp only [Und.tag, Und.rows] at *
            walk_at "go"
            refine ie_tup (by walk_at "hh") ?_
            have hrl' : l.length ≤ 100 := hu
            have hlen' : (pre.map Mem.av).length ≤ 900 := by rw [List.length_map]; omega
            walk_at "go"
            intro C D cl _ hD
            have Pc := Pg.comp P cl C
            refine ⟨fun i ys σ' => σ' = σ5.set D (.lst ys) ∧ i ≤ l.length ∧ ys = (faces r.2 name (l.take i)).map Mem.av, ⟨rfl, Nat.zero_le _, by simp [faces]⟩, ⟨?_, ?_⟩, ?_⟩
            · rintro i ys σ' hi ⟨rfl, hi', rfl⟩
              refine ⟨trivial, Store.set_self, ?_⟩
              simp only [faces, List.length_map]
              exact Nat.le_trans (List.length_filter_le _ _) (by simp; omega)
            · rintro E₁ i d' ys mi σ' hd ⟨rfl, hi, rfl⟩ hm
              obtain ⟨y, hy, rfl⟩ := map_at hd
              have s1 : mi "steps" = some (.t (stepsL r.2)) := (hm "steps" (.inl (by rfl))).trans (by walk_at "get")
              have s2 : mi "name" = some (.s name) := (hm "name" (.inl (by rfl))).trans (by walk_at "get")
              have hi' : i + 1 ≤ l.length := (List.getElem?_eq_some_iff.mp hy).1
              walk_at "go"
              refine ite_s (fun hc => ?_) (fun hc => ?_)
              · walk_at "go"
                refine ⟨Store.set_self, Store.set_set, hi', ?_⟩
                rw [take_at hy]
                simp [faces, hc, Mem.av]
              · refine ⟨rfl, hi', ?_⟩
                rw [take_at hy]
                simp [faces, hc, Mem.av]
            · rintro ys σ' ⟨rfl, hi, rfl⟩ _
              rw [List.length_map, List.take_length]
              have hcD : c ≠ D := (ne_of_some e5 hD).symm
              have nD : σ D = none := e3.fresh hD
              have h1 : (σ5.set D (.lst ((faces r.2 name l).map Mem.av))) c = some (.lst (pre.map Mem.av)) := (Store.set_ne hcD).trans e5
              have h2 : (σ5.set D (.lst ((faces r.2 name l).map Mem.av))) D = some (.lst ((faces r.2 name l).map Mem.av)) := Store.set_self
              have h3 : ((faces r.2 name l).map Mem.av).length ≤ 100 := by
                simp only [faces, List.length_map]
                exact Nat.le_trans (List.length_filter_le _ _) hrl'
              have e6 : Ext σ (σ5.set D (.lst ((faces r.2 name l).map Mem.av))) := e3.upd nD
              have e4' : (σ5.set D (.lst ((faces r.2 name l).map Mem.av))) p = some (.lst (ps.map pathAv)) := (Store.set_ne (ne_of_some e4 hD).symm).trans e4
              generalize σ5.set D (.lst ((faces r.2 name l).map Mem.av)) = σ6 at *
              walk_at "go"
              intro c3 hc3
              walk_at "go"
              have n3 : σ c3 = none := e6.fresh hc3
              refine ⟨c3, e6.upd n3, n3, (ne_of_some e4' hc3), (Store.set_ne (ne_of_some e4' hc3).symm).trans e4', ?_, by walk_at "get", by walk_at "get", by walk_at "get", by walk_at "get"⟩
              rw [Store.set_self, hta, hmem, List.map_append]
          | st l =>
            simp only [Und.tag, Und.rows] at *
            walk_at "go"
            have hrl' : l.length ≤ 100 := hu.2
            have hfn := hFr l rfl
            have hlen' : (pre.map Mem.av).length ≤ 900 := by rw [List.length_map]; omega
            have hrm : (l.map Fld.av).length ≤ 100 := by rw [List.length_map]; omega
            walk_at "go"
            refine ⟨by simp [rangeItems]; omega, ?_⟩
            intro C D cl _ hD
            have Pc := Pg.comp P cl C
            have ex : Ext σ5 (σ5.set D (.lst [])) := .new hD
            have hd6 : (σ5.set D (.lst [])) D = some (.lst []) := Store.set_self
            have k1' := ex.at k1
            have k2' := ex.at k2
            have nD : σ D = none := e3.fresh hD
            have e6 := e3.trans ex
            have e4' := ex.at e4
            have e5' := ex.at e5
            have hcD : c ≠ D := (ne_of_some e5 hD).symm
            generalize σ5.set D (.lst []) = σ6 at *
            refine ⟨fun i ys σ' => σ' = σ6 ∧ ys = [], ⟨rfl, rfl⟩, ⟨?_, ?_⟩, ?_⟩
            · rintro i ys σ' hi ⟨rfl, rfl⟩
              exact ⟨trivial, hd6, Nat.zero_le _⟩
            · rintro E₁ i d' ys mi σ' hd ⟨rfl, rfl⟩ hm
              obtain ⟨hi, rfl⟩ := range_at hd
              have hi : i < l.length := by simpa using hi
              have s1 : mi "row" = some (.c (.ref ra)) := (hm "row" (.inl (by rfl))).trans (by walk_at "get")
              have s2 : mi "name" = some (.s name) := (hm "name" (.inl (by rfl))).trans (by walk_at "get")
              have hy : (l.map Fld.av)[i]? = some (AV.t [.s l[i].n, l[i].ty.av, .c (.bool l[i].e)]) := by
                rw [List.getElem?_map, List.getElem?_eq_getElem hi]; rfl
              have hnn := hfn l[i] (List.getElem_mem hi)
              walk_at "go"
              exact ⟨rfl, rfl⟩
            · rintro ys σ' ⟨rfl, rfl⟩ _
              walk_at "go"
              refine ie_list (by walk_at "hh") ?_
              walk_at "go"
              intro C2 D2 cl2 _ hD2
              have ex2 : Ext σ' (σ'.set D2 (.lst [])) := .new hD2
              have h2 : (σ'.set D2 (.lst [])) D2 = some (.lst []) := Store.set_self
              have nD2 : σ D2 = none := e6.fresh hD2
              have e7 := e6.trans ex2
              have e4'' := ex2.at e4'
              have e5'' := ex2.at e5'
              have hd7 := ex2.at hd6
              generalize σ'.set D2 (.lst []) = σ7 at *
              refine ⟨fun i ys σ' => σ' = σ7 ∧ ys = [], ⟨rfl, rfl⟩, ⟨?_, ?_⟩, ?_⟩
              · rintro i ys σ' hi ⟨rfl, rfl⟩
                exact ⟨hd7, h2, Nat.zero_le _⟩
              · rintro E₁ i d' ys mi σ' hd
                simp at hd
              · rintro ys σ' ⟨rfl, rfl⟩ _
                walk_at "go"
                intro c3 hc3
                walk_at "go"
                have n3 : σ c3 = none := e7.fresh hc3
                refine ⟨c3, e7.upd n3, n3, (ne_of_some e4'' hc3), (Store.set_ne (ne_of_some e4'' hc3).symm).trans e4'', ?_, by walk_at "get", by walk_at "get", by walk_at "get", by walk_at "get"⟩
                rw [Store.set_self, hta, hmem, fldAt_none hfn]
                simp
    · rintro m' σ5 ⟨c, e3, n2, hcp, e4, e5, g1, g2, g3, g4⟩
      rw [List.length_map, List.take_length] at e5
      have hl900 : ((memLev W name ps).map Mem.av).length ≤ 900 := by rw [List.length_map]; exact hMi
      have hii : (0 + i) = i := Nat.zero_add i
      have hne : memLev W name ps ≠ [] → foundP W t0 name = memLev W name ps := fun z => by
        have := firstNE_at (f := fun d => memLev W name (paths W t0 d)) (n := 4) (d := i) (s := 0) (fun j _ h => hj j (by omega)) hlt (by simpa [hps] using z)
        simpa [foundP, hps] using this
      walk_at "go"
      intro c2 hc2
      have e8 : Ext σ (σ5.set c2 (.lst [])) := e3.upd (e3.fresh hc2)
      have cc2 : (σ5.set c2 (.lst [])) c = some (.lst ((memLev W name ps).map Mem.av)) := (Store.set_ne (ne_of_some e5 hc2).symm).trans e5
      have cc3 : (σ5.set c2 (.lst [])) c2 = some (.lst []) := Store.set_self
      clear e3 e4 e5 hc2
      generalize σ5.set c2 (.lst []) = σ6 at *
      walk_at "go"
      refine ite_s (fun hm => ?_) (fun hm => ?_)
      · have hm' : memLev W name ps ≠ [] := fun z => by rw [z] at hm; simp at hm
        walk_at "go"
        refine q _ c e8 n2 ?_
        rw [hne hm']; exact cc2
      · have hm' : memLev W name ps = [] := by simpa using hm
        walk_at "go"
        refine ⟨e8, fun j h => ?_, g1, g2, g3⟩
        rcases Nat.lt_or_ge j i with z | z
        · exact hj j z
        · have : j = i := by omega
          subst this; rw [hps]; exact hm'
  · rintro m' σ2 ⟨e2, hj, g1, g2, g3⟩
    walk_at "go"
    intro c hc
    refine q _ c (e2.upd (e2.fresh hc)) (e2.fresh hc) ?_
    rw [Store.set_self, show foundP W a.inner name = [] from firstNE_nil fun j _ h => hj j (by simpa [rangeItems] using h)]
    rfl
theorem word52 : True := by
  (k_with "v2" =>
    first
      | ((with_reducible show V2 _ _ _ _ (compareOp CmpOp.In) (AV.c (Value.bool true)) (AV.c _) _ _ _); refine v2_inB (by walk_at "sto") ?_))
  trivial
theorem firstNE_len {α : Type} {f : Nat → List α} {z : Nat} : ∀ {n s : Nat}, (∀ j, s ≤ j → j < s + n → (f j).length ≤ z) → (firstNE f s n).length ≤ z
  | 0, _, _ => Nat.zero_le _
  | n + 1, s, h => by
    rw [firstNE]
    split
    · exact firstNE_len fun j h1 h2 => h j (by omega) (by omega)
    · exact h s (Nat.le_refl _) (by omega)
theorem c_lmethods (T : TopOk B mg mb) (hr : Room A 4) {w : Addr} {W : Wd} {a : Arg} (hw : WorldAt σ w W) (ha : a.tag = "ptr" ∨ ∃ k, a = .t (.nm k)) (H : PathOk W a.inner 3)
    (hM : ∀ n ∈ ([("f" : Str), "g", "h"] : List Str), ∀ d, d ≤ 3 → (memLev W n (paths W a.inner d)).length ≤ 900) (hF : ∀ n ∈ ([("f" : Str), "g", "h"] : List Str), ∀ d, d ≤ 3 → ∀ r ∈ paths W a.inner d, ∀ l, base W r.1 = .st l → ∀ f ∈ l, (f.n == n) = false)
    (hS : ∀ n ∈ ([("f" : Str), "g", "h"] : List Str), ∀ m, one (foundP W a.inner n) = some m → m.steps.length ≤ 200)
    {Q : AV → Store → Prop} (q : ∀ σ' b l, Ext σ σ' → σ b = none → σ' b = some (.dct l) → LawIs W a l → Q (.c (.ref b)) σ') : CV B A E (.ref 298) [.c (.ref w), a.av] σ Q := by
  walk_at "in"
  intro L E' A' P R hA
  unfold Arg.av
  walk_at "one"
  walk_at "go"
  intro fd hfd
  have e1 : Ext σ (σ.set fd (.dct [])) := .new hfd
  have f1 : (σ.set fd (.dct [])) fd = some (.dct []) := Store.set_self
  generalize σ.set fd (.dct []) = σ₁ at *
  iterate 2 (walk_at "one")
  refine EV.mono (Q := fun d σ' => d = a.inner.av ∧ σ' = σ₁) ?_ ?_
  · walk_at "go"
    cases a with
    | p k =>
      simp only [Arg.tag, Arg.arg, Arg.inner]
      walk_at "go"
      exact ⟨rfl, rfl⟩
    | t x =>
      have := x.tag_or
      simp only [Arg.tag, Arg.arg, Arg.inner]
      walk_at "go"
      exact ⟨rfl, rfl⟩
  rintro d σ' ⟨rfl, rfl⟩
  have hin : ∃ k row, a.inner = .nm k ∧ W k = some row := (H.ok 0 (by omega) (a.inner, []) (by simp [paths])).1
  iterate 2 (walk_at "one")
  refine BV.mono (Q := fun b σ₂ => b = ((a.tag == "ptr") && (base W a.inner).isFc) ∧ σ₂ = σ') ?_ ?_
  · obtain ⟨k, row, hk, hW⟩ := hin
    obtain ⟨wd, f, nd, rows, w1, w2, w3, w4, w5, w6⟩ := hw.ext e1
    obtain ⟨ra, h7, rd, rf, md, k1, k2, k3, k4, k5⟩ := w6 k row hW
    have hb : base W a.inner = row.u := by rw [hk]; simp only [base, hW]
    rw [hb, hk]
    simp only [Told.av, Told.tag, Told.arg]
    walk_at "go"
    refine ite_s (fun ht => ?_) (fun ht => ?_)
    · rw [ht]
      rw [show row.u.av = AV.t [.s row.u.tag, .t row.u.rows] from rfl] at *
      generalize row.u = u at *
      walk_at "go"
      cases u with
      | st l =>
        simp only [Und.tag]
        walk_at "go"
        simp [Und.isFc]
      | fc l =>
        simp only [Und.tag]
        walk_at "go"
        simp [Und.isFc]
    · rw [ht]
      exact ⟨rfl, rfl⟩
  rintro b σ₂ ⟨rfl, rfl⟩
  have hst : startOf W a = if ((a.tag == "ptr") && (base W a.inner).isFc) = true then none else some a.inner := by
    cases a with
    | p k => simp only [startOf, Arg.tag, Arg.inner]; simp
    | t x =>
      have := x.tag_or
      simp only [startOf, Arg.tag, Arg.inner, this, Bool.false_and]; simp
  unfold LawIs at q
  refine ite_s (fun hb => ?_) (fun hb => ?_)
  · rw [if_pos hb] at hst
    rw [hst] at q
    walk_at "go"
    exact q _ fd [] e1 hfd f1 rfl
  rw [hb, if_neg (by decide)] at hst
  rw [hst] at q
  clear hst hb hin
  dsimp only at q
  walk_at "go"
  refine ie_list (by walk_at "hh") ?_
  walk_at "go"
  intro lc hlc
  have hlf : fd ≠ lc := (ne_of_some f1 hlc).symm
  have e2 : Ext σ (σ₂.set lc (.lst [.s "f", .s "g", .s "h"])) := e1.upd (e1.fresh hlc)
  have f2 : (σ₂.set lc (.lst [.s "f", .s "g", .s "h"])) lc = some (.lst ((["f", "g", "h"] : List Str).map .s)) := Store.set_self
  have f3 : (σ₂.set lc (.lst [.s "f", .s "g", .s "h"])) fd = some (.dct []) := (Store.set_ne hlf).trans f1
  have nlc : σ lc = none := e1.fresh hlc
  clear e1 f1 hlc
  generalize σ₂.set lc (.lst [.s "f", .s "g", .s "h"]) = σ₃ at *
  walk_at "go"
  have hnd : (["f", "g", "h"] : List Str).Nodup := by decide
  have hlen3 : (["f", "g", "h"] : List Str).length = 3 := rfl
  refine ⟨LmA σ w lc fd a.av (fun n => (one (foundP W a.inner n)).bind (said a)) (["f", "g", "h"] : List Str),
    ⟨e2, f2, f3, by walk_at "get", by walk_at "get", by walk_at "get"⟩, ⟨fun i m' σ' _ hj => hj.l, ?_, ?_⟩⟩
  · rintro i d' m' σ' hd' ⟨e3, h3, h4, g1, g2, g3⟩
    replace hd' : ((["f", "g", "h"] : List Str).map AV.s)[i]? = some d' := hd'
    generalize (["f", "g", "h"] : List Str) = ns at *
    obtain ⟨nm, hnm, rfl⟩ := map_at hd'
    have hnN := List.mem_of_getElem? hnm
    have hw3 := hw.ext e3
    have hsn := saidAll_snoc (fun n => (one (foundP W a.inner n)).bind (said a)) nm (ns.take i)
    rw [← take_at hnm] at hsn
    have hlen : (saidAll (fun n => (one (foundP W a.inner n)).bind (said a)) (ns.take i)).length ≤ 1000 := by
      have := saidAll_len (fun n => (one (foundP W a.inner n)).bind (said a)) (ns.take i)
      have h5 : (ns.take i).length ≤ ns.length := by simp; omega
      omega
    have hnew : ∀ x ∈ saidAll (fun n => (one (foundP W a.inner n)).bind (said a)) (ns.take i), x.1 ≠ nm := fun x hx z => by
      have hx' := (saidAll_keys hx).1
      rw [z] at hx'
      have hn2 : (ns.take i ++ nm :: ns.drop (i + 1)).Nodup := by rw [← drop_at hnm, List.take_append_drop]; exact hnd
      exact (List.nodup_append.mp hn2).2.2 nm hx' nm (List.mem_cons_self ..) rfl
    have hfl : (foundP W a.inner nm).length ≤ 900 := firstNE_len fun j _ hj => hM nm hnN j (by omega)
    walk_at "go"
    refine CV.vl (by walk_at "ok") (c_lfound T (R.le (by decide)) hw3 ha H (hM nm hnN) (hF nm hnN) fun σ₅ mc e5 nmc hmc => ?_)
    have h3' := e5.at h3
    have h4' := e5.at h4
    have e6 := e3.trans e5
    have hst := hS nm hnN
    generalize saidAll (fun n => (one (foundP W a.inner n)).bind (said a)) (ns.take i) = pre at *
    generalize hnx : saidAll (fun n => (one (foundP W a.inner n)).bind (said a)) (ns.take (i + 1)) = nxt at hsn
    generalize foundP W a.inner nm = ms at *
    have hml : (ms.map Mem.av).length ≤ 1000 := by rw [List.length_map]; omega
    walk_at "go"
    refine ite_s (fun hl => ?_) (fun hl => ?_)
    · have hl' : ms.length = 1 := by
        have : ((ms.length : Nat) : Int) = 1 := by simpa using hl
        omega
      match ms, hl', hst, hsn, hmc with
      | [mm], _, hst, hsn, hmc =>
        have hst := hst mm rfl
        simp only [one, Option.bind_some] at hsn
        simp only [List.map_cons, List.map_nil] at hmc
        cases mm with
        | fld s ty =>
          simp only [said, List.append_nil] at hsn
          simp only [Mem.av] at hmc
          walk_at "go"
          exact ⟨e6, h3', by rw [hnx, hsn]; exact h4', by walk_at "get", by walk_at "get", by walk_at "get"⟩
        | face s n f =>
          simp only [said] at hsn
          simp only [Mem.av] at hmc
          iterate 22 (walk_at "one")
          rw [show a.av = AV.t [.s a.tag, a.arg] from rfl] at g2
          refine EV.mono (Q := fun d σ₆ => d = .c (.bool ((a.tag == "ptr") || s.any (·.2))) ∧ Ext σ₅ σ₆) ?_ ?_
          · walk_at "go"
            refine ite_s (fun ht => ?_) (fun ht => ?_)
            · rw [ht]
              exact ⟨rfl, .refl⟩
            · rw [ht]
              simp only [Bool.false_or]
              walk_at "go"
              refine ie_tup (by walk_at "hh") ?_
              have hst2 : s.length ≤ 200 := hst
              walk_at "go"
              intro C D cl _ hD
              have Pc := Pg.comp P cl C
              refine ⟨fun i ys σ' => σ' = σ₅.set D (.lst ys) ∧ i ≤ s.length ∧ ys = (((s.take i).map (·.2)).map fun b => AV.c (.bool b)), ⟨rfl, Nat.zero_le _, by simp⟩, ⟨?_, ?_⟩, ?_⟩
              · rintro i ys σ' hi ⟨rfl, hi', rfl⟩
                refine ⟨trivial, Store.set_self, ?_⟩
                simp only [List.length_map]
                simp; omega
              · rintro E₁ i d' ys mi σ' hd ⟨rfl, hi, rfl⟩ hm
                obtain ⟨y, hy, rfl⟩ := map_at hd
                have hi' : i + 1 ≤ s.length := (List.getElem?_eq_some_iff.mp hy).1
                rw [show Step.av y = AV.t [.i (y.1 : Int), .c (.bool y.2)] from rfl]
                walk_at "go"
                refine ⟨Store.set_self, Store.set_set, hi', ?_⟩
                rw [take_at hy]
                simp
              · rintro ys σ' ⟨rfl, hi, rfl⟩ _
                have hz : (σ₅.set D (.lst (((s.take (stepsL s).length).map (·.2)).map fun b => AV.c (.bool b)))) D = some (.lst ((s.map (·.2)).map fun b => AV.c (.bool b))) := by
                  rw [Store.set_self]; simp [stepsL]
                have hx : Ext σ₅ (σ₅.set D (.lst (((s.take (stepsL s).length).map (·.2)).map fun b => AV.c (.bool b)))) := .new hD
                generalize σ₅.set D (.lst (((s.take (stepsL s).length).map (·.2)).map fun b => AV.c (.bool b))) = σ₆ at *
                walk_at "go"
                refine ⟨?_, hx⟩
                rw [List.any_map]; rfl
          rintro d σ₆ ⟨rfl, e7⟩
          have h3'' := e7.at h3'
          have h4'' := e7.at h4'
          have e8 := e6.trans e7
          clear h3' h4' e6 hmc
          walk_at "go"
          rw [put_new hnew, ← hsn, ← hnx]
          exact ⟨e8.upd hfd, (Store.set_ne hlf.symm).trans h3'', Store.set_self, by walk_at "get", by walk_at "get", by walk_at "get"⟩
        | meth s mt =>
          simp only [Mem.av] at hmc
          simp only [said, isIn] at hsn
          iterate 22 (walk_at "one")
          rw [show a.av = AV.t [.s a.tag, a.arg] from rfl] at g2
          refine EV.mono (Q := fun d σ₆ => d = .c (.bool ((a.tag == "ptr") || s.any (·.2))) ∧ Ext σ₅ σ₆) ?_ ?_
          · walk_at "go"
            refine ite_s (fun ht => ?_) (fun ht => ?_)
            · rw [ht]
              exact ⟨rfl, .refl⟩
            · rw [ht]
              simp only [Bool.false_or]
              walk_at "go"
              refine ie_tup (by walk_at "hh") ?_
              have hst2 : s.length ≤ 200 := hst
              walk_at "go"
              intro C D cl _ hD
              have Pc := Pg.comp P cl C
              refine ⟨fun i ys σ' => σ' = σ₅.set D (.lst ys) ∧ i ≤ s.length ∧ ys = (((s.take i).map (·.2)).map fun b => AV.c (.bool b)), ⟨rfl, Nat.zero_le _, by simp⟩, ⟨?_, ?_⟩, ?_⟩
              · rintro i ys σ' hi ⟨rfl, hi', rfl⟩
                refine ⟨trivial, Store.set_self, ?_⟩
                simp only [List.length_map]
                simp; omega
              · rintro E₁ i d' ys mi σ' hd ⟨rfl, hi, rfl⟩ hm
                obtain ⟨y, hy, rfl⟩ := map_at hd
                have hi' : i + 1 ≤ s.length := (List.getElem?_eq_some_iff.mp hy).1
                rw [show Step.av y = AV.t [.i (y.1 : Int), .c (.bool y.2)] from rfl]
                walk_at "go"
                refine ⟨Store.set_self, Store.set_set, hi', ?_⟩
                rw [take_at hy]
                simp
              · rintro ys σ' ⟨rfl, hi, rfl⟩ _
                have hz : (σ₅.set D (.lst (((s.take (stepsL s).length).map (·.2)).map fun b => AV.c (.bool b)))) D = some (.lst ((s.map (·.2)).map fun b => AV.c (.bool b))) := by
                  rw [Store.set_self]; simp [stepsL]
                have hx : Ext σ₅ (σ₅.set D (.lst (((s.take (stepsL s).length).map (·.2)).map fun b => AV.c (.bool b)))) := .new hD
                generalize σ₅.set D (.lst (((s.take (stepsL s).length).map (·.2)).map fun b => AV.c (.bool b))) = σ₆ at *
                walk_at "go"
                refine ⟨?_, hx⟩
                rw [List.any_map]; rfl
          rintro d σ₆ ⟨rfl, e7⟩
          have h3'' := e7.at h3'
          have h4'' := e7.at h4'
          have e8 := e6.trans e7
          clear h3' h4' e6 hmc
          walk_at "go"
          refine ite_s (fun hp => ?_) (fun hp => ?_)
          · simp only [hp, Bool.true_or, if_true] at hsn
            walk_at "go"
            rw [put_new hnew, ← hsn, ← hnx]
            exact ⟨e8.upd hfd, (Store.set_ne hlf.symm).trans h3'', Store.set_self, by walk_at "get", by walk_at "get", by walk_at "get"⟩
          · simp only [hp, Bool.false_or] at hsn
            walk_at "go"
            refine ite_s (fun hq => ?_) (fun hq => ?_)
            · rw [if_pos hq] at hsn
              walk_at "go"
              rw [put_new hnew, ← hsn, ← hnx]
              exact ⟨e8.upd hfd, (Store.set_ne hlf.symm).trans h3'', Store.set_self, by walk_at "get", by walk_at "get", by walk_at "get"⟩
            · rw [if_neg (by rw [hq]; decide), List.append_nil] at hsn
              walk_at "go"
              exact ⟨e8, h3'', by rw [hnx, hsn]; exact h4'', by walk_at "get", by walk_at "get", by walk_at "get"⟩
    · have hno : one ms = none := by
        match ms, hl with
        | [], _ => rfl
        | [_], h => simp at h
        | _ :: _ :: _, _ => rfl
      rw [hno] at hsn
      simp only [Option.bind_none, List.append_nil] at hsn
      walk_at "go"
      exact ⟨e6, h3', by rw [hnx, hsn]; exact h4', by walk_at "get", by walk_at "get", by walk_at "get"⟩
  · rintro m' σ' ⟨e3, h3, h4, g1, g2, g3⟩
    rw [List.take_of_length_le (by simp)] at h4
    walk_at "go"
    exact q _ fd _ e3 hfd h4 rfl
noncomputable def fn0 : AV := .t [.s "func", .t [], .t [], .c (.bool false)]
noncomputable def fn1 : AV := .t [.s "func", .t [.t [.s "bool"]], .t [], .c (.bool false)]
theorem c_funcs (T : TopOk B mg mb) (hr : Room A 1) {Q : AV → Store → Prop} (q : ∀ c, σ c = none → Q (.c (.ref c)) (σ.set c (.lst [fn0, fn0, fn1]))) : CV B A E (.ref 281) [] σ Q := by
  walk_at "in"
  intro L E' A' P R hA
  walk_at "go"
  exact q
theorem mulR {a b : Int} (h1 : -(2 ^ 64) < b) (h2 : b < 2 ^ 64) : IntMulOk a b := .of_right (intBits_le_64 h1 h2)
theorem mulL {a b : Int} (h1 : -(2 ^ 64) < a) (h2 : a < 2 ^ 64) : IntMulOk a b := .of_left (intBits_le_64 h1 h2)
theorem word53 : True := by
  (k_with "v2" =>
    first
      | ((with_reducible show V2 _ _ _ _ (binaryOp Operator.Mult) (AV.i _) (AV.i _) _ _ _); first | refine v2_mul (by walk_at "ok") (mulR (by decide) (by decide)) ?_ | refine v2_mul (by walk_at "ok") (mulR (by omega) (by omega)) ?_ | refine v2_mul (by walk_at "ok") (mulL (by omega) (by omega)) ?_)
      | ((with_reducible show V2 _ _ _ _ (binaryOp Operator.Mod) (AV.i _) (AV.i _) _ _ _); refine v2_mod (by walk_at "ok") (by omega) ?_)
      | ((with_reducible show V2 _ _ _ _ (binaryOp Operator.FloorDiv) (AV.i _) (AV.i _) _ _ _); refine v2_fdiv (by walk_at "ok") (by omega) (by omega) ?_))
  trivial
theorem word54 : True := by
  (k_with "else" =>
    first
      | ((with_reducible show VL _ _ _ _ (fun vs => call (Value.type "int") vs) [AV.i _] _ _ _); refine vl_int ?_)
      | ((with_reducible show VL _ _ _ _ (fun vs => call (Value.type "int") vs) [AV.c _] _ _ _); refine vl_intB (by walk_at "ok") ?_)
      | ((with_reducible show VL _ _ _ _ (fun vs => call (Value.builtin "max") vs) [AV.i _, AV.i _] _ _ _); refine vl_max (by walk_at "ok") (by walk_at "hh") ?_)
      | ((with_reducible show VL _ _ _ _ (fun vs => call (Value.builtin "min") vs) [AV.i _, AV.i _] _ _ _); refine vl_min (by walk_at "ok") (by walk_at "hh") ?_))
  trivial
theorem fmod_nat {x top : Int} (h : 0 < top) : ∃ n : Nat, x.fmod top = (n : Int) ∧ (n : Int) < top := by
  have h1 := Int.fmod_nonneg_of_pos x h
  have h2 := Int.fmod_lt_of_pos x h
  exact ⟨(x.fmod top).toNat, by omega, by omega⟩
structure Src (σ : Store) (sa : Addr) : Prop where
  at' : ∃ x y : Int, σ sa = some (.lst [.i x, .i y]) ∧ 0 ≤ y ∧ y < 2147483647
theorem c_take (T : TopOk B mg mb) (hr : Room A 1) {sa : Addr} {top : Int} (hs : Src σ sa) (h0 : 0 < top) (h1 : top ≤ 100) {Q : AV → Store → Prop} (q : ∀ (n : Nat) l, (n : Int) < top → Src (σ.set sa (.lst l)) sa → Q (.i (n : Int)) (σ.set sa (.lst l))) : CV B A E (.ref 262) [.c (.ref sa), .i top] σ Q := by
  obtain ⟨x, y, hs, hy0, hy1⟩ := hs
  walk_at "in"
  intro L E' A' P R hA
  walk_at "go"
  refine ite_s (fun hx => ?_) (fun hx => ?_)
  · walk_at "go"
    obtain ⟨n, hn, hlt⟩ := fmod_nat (x := x) h0
    rw [hn]
    exact q n _ hlt ⟨_, _, Store.set_self, hy0, hy1⟩
  · walk_at "go"
    have hm1 := Int.fmod_nonneg_of_pos (y * 39373 + 7) (b := 2147483647) (by decide)
    have hm2 := Int.fmod_lt_of_pos (y * 39373 + 7) (b := 2147483647) (by decide)
    generalize (y * 39373 + 7).fmod 2147483647 = z at *
    have hs' : (σ.set sa (.lst ([AV.i x, AV.i y].set (Int.toNat 1) (.i z)))) sa = some (.lst [.i x, .i z]) := Store.set_self
    have q' := fun n hlt => q n _ hlt ⟨_, _, hs', hm1, hm2⟩
    generalize σ.set sa (.lst ([AV.i x, AV.i y].set (Int.toNat 1) (.i z))) = σ₁ at *
    walk_at "go"
    obtain ⟨n, hn, hlt⟩ := fmod_nat (x := ((z * z).fmod 2147483629).fdiv 32) h0
    rw [hn]
    exact q' n hlt
theorem c_one (T : TopOk B mg mb) (hr : Room A 2) {sa ta : Addr} {things : List AV} (hs : Src σ sa) (ht : σ ta = some (.lst things)) (hne : ta ≠ sa) (h0 : 0 < things.length) (h1 : things.length ≤ 100) {Q : AV → Store → Prop} (q : ∀ (n : Nat) d l, things[n]? = some d → Src (σ.set sa (.lst l)) sa → Q d (σ.set sa (.lst l))) : CV B A E (.ref 269) [.c (.ref sa), .c (.ref ta)] σ Q := by
  walk_at "in"
  intro L E' A' P R hA
  walk_at "go"
  refine CV.vl (by walk_at "ok") (c_take T (R.le (by decide)) hs (by omega) (by omega) fun n l hlt hs' => ?_)
  have ht' : (σ.set sa (.lst l)) ta = some (.lst things) := (Store.set_ne hne).trans ht
  have hn : n < things.length := by omega
  refine v2_lst ht' (by omega) (by omega) (by rw [Int.toNat_natCast]; exact List.getElem?_eq_getElem hn) ?_
  exact q n _ l (List.getElem?_eq_getElem hn) hs'
theorem put_end {α : Type} {k : Str} {d : α} {l : List (Str × α)} (h : (l.map (·.1)).all (fun x => !(x == k)) = true) : put l k d = l ++ [(k, d)] := put_new fun x hx z => by
  have := List.all_eq_true.mp h x.1 (List.mem_map_of_mem hx)
  rw [z] at this; simp at this
theorem word55 : True := by
  (k_with "attr" =>
    (refine ⟨_, _, _, _, rfl, (by walk_at "sto"), (by walk_at "sto"), (by first | assumption | kernel_rfl), (by walk_at "len"), ?_⟩; (try rw [Store.set_set]); rw [put_end]; rotate_left; (simp only [List.map_cons, List.map_nil]; decide); simp only [List.cons_append, List.nil_append]))
  trivial
theorem c_NRow (T : TopOk B mg mb) (hr : Room A 2) {a b c d : AV} {Q : AV → Store → Prop} (q : ∀ σ' x dx, Ext σ σ' → σ x = none → σ dx = none → σ' x = some (.ins 201 dx) → σ' dx = some (.dct [("path", a), ("package", b), ("underlying", c), ("methods", d)]) → Q (.c (.ref x)) σ') : CV B A E (.ref 201) [a, b, c, d] σ Q := by
  refine CV.cls T.k hr (C := 201) (fI := 198) (by kernel_rfl) (by k_is) (by k_is) fun A' x dx R n1 n2 ne => ?_
  walk_at "in"
  intro L E' A'' P R' hA
  have ne' := ne.symm
  walk_at "go"
  exact q _ x dx (.upd (.upd (.new n2) n1) n2) n1 n2 (by walk_at "sto") Store.set_self
theorem ev_dict1 {X : Cx} {A : Around} {env : Env} {E : Value → Shared → Prop} {m : Vars} {σ : Store} (ok : X.Ok A) {k0 v0 : Expr} {pos : Pos} {Q : AV → Store → Prop} (h : ∀ D, σ D = none → evp X A env E [(k0, v0)] m (σ.set D (.dct [])) fun ds σ' => σ' D = some (.dct []) ∧ Q (.c (.ref D)) (σ'.set D (.dct (puts ds)))) : ev X A env E (.Dict [some k0] [v0] pos) m σ Q :=
  ev_dict ok (l := [(k0, v0)]) (by simp) (by simp) (by rfl) h
theorem ev_dict2 {X : Cx} {A : Around} {env : Env} {E : Value → Shared → Prop} {m : Vars} {σ : Store} (ok : X.Ok A) {k0 v0 k1 v1 : Expr} {pos : Pos} {Q : AV → Store → Prop} (h : ∀ D, σ D = none → evp X A env E [(k0, v0), (k1, v1)] m (σ.set D (.dct [])) fun ds σ' => σ' D = some (.dct []) ∧ Q (.c (.ref D)) (σ'.set D (.dct (puts ds)))) : ev X A env E (.Dict [some k0, some k1] [v0, v1] pos) m σ Q :=
  ev_dict ok (l := [(k0, v0), (k1, v1)]) (by simp) (by simp) (by rfl) h
theorem ev_dict3 {X : Cx} {A : Around} {env : Env} {E : Value → Shared → Prop} {m : Vars} {σ : Store} (ok : X.Ok A) {k0 v0 k1 v1 k2 v2 : Expr} {pos : Pos} {Q : AV → Store → Prop} (h : ∀ D, σ D = none → evp X A env E [(k0, v0), (k1, v1), (k2, v2)] m (σ.set D (.dct [])) fun ds σ' => σ' D = some (.dct []) ∧ Q (.c (.ref D)) (σ'.set D (.dct (puts ds)))) : ev X A env E (.Dict [some k0, some k1, some k2] [v0, v1, v2] pos) m σ Q :=
  ev_dict ok (l := [(k0, v0), (k1, v1), (k2, v2)]) (by simp) (by simp) (by rfl) h
theorem ev_dict4 {X : Cx} {A : Around} {env : Env} {E : Value → Shared → Prop} {m : Vars} {σ : Store} (ok : X.Ok A) {k0 v0 k1 v1 k2 v2 k3 v3 : Expr} {pos : Pos} {Q : AV → Store → Prop} (h : ∀ D, σ D = none → evp X A env E [(k0, v0), (k1, v1), (k2, v2), (k3, v3)] m (σ.set D (.dct [])) fun ds σ' => σ' D = some (.dct []) ∧ Q (.c (.ref D)) (σ'.set D (.dct (puts ds)))) : ev X A env E (.Dict [some k0, some k1, some k2, some k3] [v0, v1, v2, v3] pos) m σ Q :=
  ev_dict ok (l := [(k0, v0), (k1, v1), (k2, v2), (k3, v3)]) (by simp) (by simp) (by rfl) h
theorem evp_cons {X : Cx} {A : Around} {env : Env} {E : Value → Shared → Prop} {m : Vars} {σ : Store} {k v : Expr} {r : List (Expr × Expr)} {Q : List (Str × AV) → Store → Prop} (h : ev X A env E k m σ fun dk σ₁ => ∃ x, dk = .s x ∧ ev X A env E v m σ₁ fun dv σ₂ => evp X A env E r m σ₂ fun l σ₃ => Q ((x, dv) :: l) σ₃) : evp X A env E ((k, v) :: r) m σ Q := h
theorem evp_nil {X : Cx} {A : Around} {env : Env} {E : Value → Shared → Prop} {m : Vars} {σ : Store} {Q : List (Str × AV) → Store → Prop} (h : Q [] σ) : evp X A env E [] m σ Q := h
theorem word56 : True := by
  (k_with "ev" =>
    first
      | ((with_reducible show EV _ _ _ _ (eval (Expr.Dict [some _] [_] _) _) _ _ _); refine ev_dict1 (by walk_at "ok") ?_)
      | ((with_reducible show EV _ _ _ _ (eval (Expr.Dict [some _, some _] [_, _] _) _) _ _ _); refine ev_dict2 (by walk_at "ok") ?_)
      | ((with_reducible show EV _ _ _ _ (eval (Expr.Dict [some _, some _, some _] [_, _, _] _) _) _ _ _); refine ev_dict3 (by walk_at "ok") ?_)
      | ((with_reducible show EV _ _ _ _ (eval (Expr.Dict [some _, some _, some _, some _] [_, _, _, _] _) _) _ _ _); refine ev_dict4 (by walk_at "ok") ?_))
  trivial
theorem word57 : True := by
  (k_with "else" =>
    first
      | ((with_reducible show evp _ _ _ _ (_ :: _) _ _ _); refine evp_cons ?_)
      | ((with_reducible show evp _ _ _ _ [] _ _ _); refine evp_nil ?_))
  trivial
theorem word58 : True := by
  (k_with "ev" =>
    ((with_reducible show EV _ _ _ _ (eval (Expr.Name (Str.ofString "PLAIN") _) _) _ _ _); refine ev_glob (d := fn0) (n := 20) (by assumption) (by k_is) (by kernel_rfl) (by rfl) ?_))
  trivial
theorem c_rows (T : TopOk B mg mb) (hr : Room A 4) {Q : AV → Store → Prop} (q : ∀ σ' c l, Ext σ σ' → σ c = none → σ' c = some (.dct l) → l.length = 4 → (∀ q ∈ l, ∃ a, q.2 = .c (.ref a)) → Q (.c (.ref c)) σ') : CV B A E (.ref 212) [] σ Q := by
  walk_at "in"
  intro L E' A' P R hA
  walk_at "go"
  intro d1 h1
  walk_at "go"
  refine ⟨Store.set_self, ?_⟩
  rw [Store.set_set]
  generalize puts _ = l1
  have e1 : Ext σ (σ.set d1 (.dct l1)) := .new h1
  generalize σ.set d1 (.dct l1) = σ1 at *
  walk_at "go"
  intro d2 h2
  walk_at "go"
  refine ⟨Store.set_self, ?_⟩
  rw [Store.set_set]
  generalize puts _ = l2
  have e2 : Ext σ (σ1.set d2 (.dct l2)) := e1.upd (e1.fresh h2)
  generalize σ1.set d2 (.dct l2) = σ2 at *
  walk_at "go"
  intro d3 h3
  walk_at "go"
  refine ⟨Store.set_self, ?_⟩
  rw [Store.set_set]
  generalize puts _ = l3
  have e3 : Ext σ (σ2.set d3 (.dct l3)) := e2.upd (e2.fresh h3)
  generalize σ2.set d3 (.dct l3) = σ3 at *
  walk_at "go"
  intro d4 h4
  walk_at "go"
  intro d5 h5
  have n4 : σ d4 = none := e3.fresh h4
  have E4 : Ext σ ((σ3.set d4 (.dct [])).set d5 (.dct [])) := (e3.upd n4).upd ((e3.upd n4).fresh h5)
  have n54 : d5 ≠ d4 := ne_of_some (Store.set_self (σ := σ3) (a := d4) (o := .dct [])) h5
  have g4 : ((σ3.set d4 (.dct [])).set d5 (.dct [])) d4 = some (.dct []) := (Store.set_ne n54.symm).trans Store.set_self
  generalize (σ3.set d4 (.dct [])).set d5 (.dct []) = σ4 at *
  walk_at "go"
  refine CV.vl (by walk_at "ok") (c_NRow T (R.le (by decide)) fun σ5 x5 dx5 e5 nx5 nd5 _ _ => ?_)
  have g5 := e5.at g4
  have E5 := E4.trans e5
  clear g4 E4 e5
  walk_at "go"
  refine CV.vl (by walk_at "ok") (c_NRow T (R.le (by decide)) fun σ6 x6 dx6 e6 nx6 nd6 _ _ => ?_)
  have g6 := e6.at g5
  have E6 := E5.trans e6
  clear g5 E5 e6
  walk_at "go"
  refine CV.vl (by walk_at "ok") (c_NRow T (R.le (by decide)) fun σ7 x7 dx7 e7 nx7 nd7 _ _ => ?_)
  have g7 := e7.at g6
  have E7 := E6.trans e7
  clear g6 E6 e7
  walk_at "go"
  refine CV.vl (by walk_at "ok") (c_NRow T (R.le (by decide)) fun σ8 x8 dx8 e8 nx8 nd8 _ _ => ?_)
  have g8 := e8.at g7
  have E8 := E7.trans e8
  clear g7 E7 e8
  walk_at "go"
  refine ⟨g8, ?_⟩
  walk_at "go"
  exact q _ d4 [("error", .c (.ref x5)), ("runtime.Error", .c (.ref x6)), ("sync.Mutex", .c (.ref x7)), ("sync.WaitGroup", .c (.ref x8))] (E8.upd n4) n4 (Store.set_self.trans (by rfl)) (by rfl) (by simp)
theorem c_World (T : TopOk B mg mb) (hr : Room A 6) {Q : AV → Store → Prop} (q : ∀ σ' w d nd rows f, Ext σ σ' → σ w = none → σ d = none → σ nd = none → σ' w = some (.ins 244 d) → σ' d = some (.dct f) → f.lookup ("named" : Str) = some (.c (.ref nd)) → f.lookup ("base_of" : Str) = none → σ' nd = some (.dct rows) → rows.length = 4 → (∀ q ∈ rows, ∃ a, q.2 = .c (.ref a)) → d ≠ nd → Q (.c (.ref w)) σ') : CV B A E (.ref 244) [] σ Q := by
  refine CV.cls T.k hr (C := 244) (fI := 227) (by kernel_rfl) (by k_is) (by k_is) fun A' x dx R n1 n2 ne => ?_
  refine CV.goD (by assumption) (by assumption) [.c .none] [.none] (by k_is) (by kernel_rfl) (fun h => .cons (by simp only [Rep]) .nil) ?_ (by rfl) (by rfl) (by decide) ?_
  · intro s vs hl hk
    obtain ⟨a, ha⟩ := len1 hl
    subst ha
    exact BindsTo.of_defaults (T := 220) rfl (hk 220 _ (by k_is)) rfl rfl rfl
  intro L E' A'' P R' hA
  simp only [List.map_cons, List.map_nil, List.cons_append, List.nil_append, List.zip_cons_cons, List.zip_nil_left, List.zip_nil_right, bindsA]
  have ne' := ne.symm
  have o1 : Ext σ ((σ.set dx (.dct [])).set x (.ins 244 dx)) := .upd (.new n2) n1
  have o2 : ((σ.set dx (.dct [])).set x (.ins 244 dx)) x = some (.ins 244 dx) := Store.set_self
  have o3 : ((σ.set dx (.dct [])).set x (.ins 244 dx)) dx = some (.dct []) := (Store.set_ne ne').trans Store.set_self
  generalize (σ.set dx (.dct [])).set x (.ins 244 dx) = σ0 at *
  walk_at "go"
  generalize hS : σ0.set dx _ = S
  have p1 : Ext σ S := hS ▸ o1.upd n2
  have p2 := (congrFun hS x).symm.trans ((Store.set_ne ne).trans o2)
  have p3 := (congrFun hS dx).symm.trans Store.set_self
  clear o1 o2 o3 hS
  refine CV.vl (by walk_at "ok") (c_rows T (R'.le (by decide)) fun σ1 nd rows e1 m1 m2 m3 m4 => ?_)
  have hnd : nd ≠ dx := ne_of_some p3 m1
  have nnd : σ nd = none := p1.fresh m1
  have o1 := p1.trans e1
  have o2 := e1.at p2
  have o3 := e1.at p3
  have o4 := m2
  clear p1 p2 p3 m1 m2 e1
  walk_at "go"
  generalize hS : @Store.set σ1 dx _ = S
  have p1 : Ext σ S := hS ▸ o1.upd n2
  have p2 := (congrFun hS x).symm.trans ((Store.set_ne ne).trans o2)
  have p3 := (congrFun hS dx).symm.trans Store.set_self
  have p4 := (congrFun hS nd).symm.trans ((Store.set_ne hnd).trans o4)
  clear o1 o2 o3 o4 hS
  intro c hc
  generalize hS : @Store.set S c _ = σ2
  have o1 : Ext σ σ2 := hS ▸ p1.upd (p1.fresh hc)
  have o2 := (congrFun hS x).symm.trans (Store.set_new hc p2)
  have o3 := (congrFun hS dx).symm.trans (Store.set_new hc p3)
  have o4 := (congrFun hS nd).symm.trans (Store.set_new hc p4)
  clear p1 p2 p3 p4 hS hc
  walk_at "go"
  generalize hS : @Store.set σ2 dx _ = S
  have p1 : Ext σ S := hS ▸ o1.upd n2
  have p2 := (congrFun hS x).symm.trans ((Store.set_ne ne).trans o2)
  have p3 := (congrFun hS dx).symm.trans Store.set_self
  have p4 := (congrFun hS nd).symm.trans ((Store.set_ne hnd).trans o4)
  clear o1 o2 o3 o4 hS
  intro c hc
  generalize hS : @Store.set S c _ = σ3
  have o1 : Ext σ σ3 := hS ▸ p1.upd (p1.fresh hc)
  have o2 := (congrFun hS x).symm.trans (Store.set_new hc p2)
  have o3 := (congrFun hS dx).symm.trans (Store.set_new hc p3)
  have o4 := (congrFun hS nd).symm.trans (Store.set_new hc p4)
  clear p1 p2 p3 p4 hS hc
  walk_at "go"
  generalize hS : @Store.set σ3 dx _ = S
  have p1 : Ext σ S := hS ▸ o1.upd n2
  have p2 := (congrFun hS x).symm.trans ((Store.set_ne ne).trans o2)
  have p3 := (congrFun hS dx).symm.trans Store.set_self
  have p4 := (congrFun hS nd).symm.trans ((Store.set_ne hnd).trans o4)
  clear o1 o2 o3 o4 hS
  intro c hc
  generalize hS : @Store.set S c _ = σ4
  have o1 : Ext σ σ4 := hS ▸ p1.upd (p1.fresh hc)
  have o2 := (congrFun hS x).symm.trans (Store.set_new hc p2)
  have o3 := (congrFun hS dx).symm.trans (Store.set_new hc p3)
  have o4 := (congrFun hS nd).symm.trans (Store.set_new hc p4)
  clear p1 p2 p3 p4 hS hc
  walk_at "go"
  generalize hS : @Store.set σ4 dx _ = S
  have p1 : Ext σ S := hS ▸ o1.upd n2
  have p2 := (congrFun hS x).symm.trans ((Store.set_ne ne).trans o2)
  have p3 := (congrFun hS dx).symm.trans Store.set_self
  have p4 := (congrFun hS nd).symm.trans ((Store.set_ne hnd).trans o4)
  clear o1 o2 o3 o4 hS
  intro c hc
  generalize hS : @Store.set S c _ = σ5
  have o1 : Ext σ σ5 := hS ▸ p1.upd (p1.fresh hc)
  have o2 := (congrFun hS x).symm.trans (Store.set_new hc p2)
  have o3 := (congrFun hS dx).symm.trans (Store.set_new hc p3)
  have o4 := (congrFun hS nd).symm.trans (Store.set_new hc p4)
  clear p1 p2 p3 p4 hS hc
  walk_at "go"
  generalize hS : @Store.set σ5 dx _ = S
  have p1 : Ext σ S := hS ▸ o1.upd n2
  have p2 := (congrFun hS x).symm.trans ((Store.set_ne ne).trans o2)
  have p3 := (congrFun hS dx).symm.trans Store.set_self
  have p4 := (congrFun hS nd).symm.trans ((Store.set_ne hnd).trans o4)
  clear o1 o2 o3 o4 hS
  intro c hc
  generalize hS : @Store.set S c _ = σ6
  have o1 : Ext σ σ6 := hS ▸ p1.upd (p1.fresh hc)
  have o2 := (congrFun hS x).symm.trans (Store.set_new hc p2)
  have o3 := (congrFun hS dx).symm.trans (Store.set_new hc p3)
  have o4 := (congrFun hS nd).symm.trans (Store.set_new hc p4)
  clear p1 p2 p3 p4 hS hc
  walk_at "go"
  generalize hS : @Store.set σ6 dx _ = S
  have p1 : Ext σ S := hS ▸ o1.upd n2
  have p2 := (congrFun hS x).symm.trans ((Store.set_ne ne).trans o2)
  have p3 := (congrFun hS dx).symm.trans Store.set_self
  have p4 := (congrFun hS nd).symm.trans ((Store.set_ne hnd).trans o4)
  clear o1 o2 o3 o4 hS
  intro c hc
  generalize hS : @Store.set S c _ = σ7
  have o1 : Ext σ σ7 := hS ▸ p1.upd (p1.fresh hc)
  have o2 := (congrFun hS x).symm.trans (Store.set_new hc p2)
  have o3 := (congrFun hS dx).symm.trans (Store.set_new hc p3)
  have o4 := (congrFun hS nd).symm.trans (Store.set_new hc p4)
  clear p1 p2 p3 p4 hS hc
  walk_at "go"
  generalize hS : @Store.set σ7 dx _ = S
  have p1 : Ext σ S := hS ▸ o1.upd n2
  have p2 := (congrFun hS x).symm.trans ((Store.set_ne ne).trans o2)
  have p3 := (congrFun hS dx).symm.trans Store.set_self
  have p4 := (congrFun hS nd).symm.trans ((Store.set_ne hnd).trans o4)
  clear o1 o2 o3 o4 hS
  intro c hc
  generalize hS : @Store.set S c _ = σ8
  have o1 : Ext σ σ8 := hS ▸ p1.upd (p1.fresh hc)
  have o2 := (congrFun hS x).symm.trans (Store.set_new hc p2)
  have o3 := (congrFun hS dx).symm.trans (Store.set_new hc p3)
  have o4 := (congrFun hS nd).symm.trans (Store.set_new hc p4)
  clear p1 p2 p3 p4 hS hc
  walk_at "go"
  generalize hS : @Store.set σ8 dx _ = S
  have p1 : Ext σ S := hS ▸ o1.upd n2
  have p2 := (congrFun hS x).symm.trans ((Store.set_ne ne).trans o2)
  have p3 := (congrFun hS dx).symm.trans Store.set_self
  have p4 := (congrFun hS nd).symm.trans ((Store.set_ne hnd).trans o4)
  clear o1 o2 o3 o4 hS
  intro c hc
  generalize hS : @Store.set S c _ = σ9
  have o1 : Ext σ σ9 := hS ▸ p1.upd (p1.fresh hc)
  have o2 := (congrFun hS x).symm.trans (Store.set_new hc p2)
  have o3 := (congrFun hS dx).symm.trans (Store.set_new hc p3)
  have o4 := (congrFun hS nd).symm.trans (Store.set_new hc p4)
  clear p1 p2 p3 p4 hS hc
  walk_at "go"
  generalize hS : @Store.set σ9 dx _ = S
  have p1 : Ext σ S := hS ▸ o1.upd n2
  have p2 := (congrFun hS x).symm.trans ((Store.set_ne ne).trans o2)
  have p3 := (congrFun hS dx).symm.trans Store.set_self
  have p4 := (congrFun hS nd).symm.trans ((Store.set_ne hnd).trans o4)
  clear o1 o2 o3 o4 hS
  intro c hc
  generalize hS : @Store.set S c _ = σ10
  have o1 : Ext σ σ10 := hS ▸ p1.upd (p1.fresh hc)
  have o2 := (congrFun hS x).symm.trans (Store.set_new hc p2)
  have o3 := (congrFun hS dx).symm.trans (Store.set_new hc p3)
  have o4 := (congrFun hS nd).symm.trans (Store.set_new hc p4)
  clear p1 p2 p3 p4 hS hc
  walk_at "go"
  refine q _ x dx nd rows _ (o1.upd n2) n1 n2 nnd ((Store.set_ne ne).trans o2) Store.set_self (by rfl) (by rfl) ((Store.set_ne hnd).trans o4) m3 m4 hnd.symm
/-- a list of the caller's -/
noncomputable def HL (h : Heap) (a : Addr) (l : List AV) : Prop := ∃ vs, h.IsList a vs.toArray ∧ RepL h l vs
theorem HL.now {X : Cx} {A : Around} {env : Env} {m : Vars} {s : Shared} {a : Addr} {l : List AV} (h : HL X.hT a l) (I : Inv X A env m σ s) : ∃ vs, s.heap.IsList a vs.toArray ∧ RepL s.heap l vs := by
  obtain ⟨vs, ⟨o, h1, h2⟩, h3⟩ := h
  exact ⟨vs, ⟨o, I.g.top _ _ h1, h2⟩, h3.grow fun _ _ t => isTup_of_get t (I.g.top _)⟩
theorem v2_lstH {X : Cx} {A : Around} {env : Env} {m : Vars} {value slice : Expr} {a : Addr} {l : List AV} {k : Int} {d : AV} {Q : AV → Store → Prop} (hσ : HL X.hT a l) (h0 : 0 ≤ k) (hhi : k < 2 ^ 63) (hx : l[k.toNat]? = some d) (q : Q d σ)
    (hs : ∀ u, subscripted slice false (.ref a) (.int k u) = operate [.ref a, .int k u] (getItem (.ref a) (.int k u)) := by intro _; with_unfolding_all rfl) : V2 X A env E (subscriptTail value slice) (.c (.ref a)) (.i k) m σ Q := fun s va vb ra rb I => by
  obtain ⟨u, rfl⟩ := rb.int'
  cases ra.val'
  obtain ⟨vs, hL, hr⟩ := hσ.now I
  obtain ⟨v, hv, r⟩ := hr.get hx
  exact tail_any hL.typeIs slot_list_getitem.lookup (wpAny_getItem_list hL h0 hhi (by simpa using hv) (PE.here r I q)) (hs u)
theorem vl_lenH {X : Cx} {A : Around} {env : Env} {m : Vars} (ok : X.Ok A) {a : Addr} {l : List AV} {Q : AV → Store → Prop} (hσ : HL X.hT a l) (hz : l.length ≤ 1000) (q : Q (.i (l.length : Int)) σ) : VL X A env E (fun vs => call (.builtin "len") vs) [.c (.ref a)] m σ Q := fun s vs r I => by
  simp only [RepL] at r
  obtain ⟨v, r', rfl, r1, rfl⟩ := r
  cases r1.val'
  obtain ⟨vs, hL, hr⟩ := hσ.now I
  refine Calls.call_len_list hL (by rw [hr.length']; omega) ?_
  rw [hr.length']
  exact PE.toks ok Rep.int I q
theorem word59 : True := by
  (k_with "else" =>
    first
      | ((with_reducible show VL _ _ _ _ (fun vs => call (Value.builtin "len") vs) [AV.c _] _ _ _); refine vl_lenH (by walk_at "ok") (by assumption) (by walk_at "len") ?_))
  trivial
theorem word60 : True := by
  (k_with "v2" =>
    first
      | ((with_reducible show V2 _ _ _ _ (subscriptTail _ _) (AV.c _) (AV.i _) _ _ _); refine v2_lstH (by assumption) (by omega) (by omega) (by assumption) ?_))
  trivial
theorem word61 : True := by
  (k_with "v2" =>
    ((with_reducible show V2 _ _ _ _ (binaryOp Operator.Pow) (AV.i _) (AV.i _) _ _ _); refine v2_pow (by walk_at "ok") (by decide) (by decide) (by decide) ?_))
  trivial
theorem c_pool (T : TopOk B mg mb) (hr : Room A 1) {sa : Addr} {xs : List Int} {k : Nat} (hx : HL B.hT sa (xs.map .i)) (hl : xs.length ≤ 900) (hk : k ≤ 1) {Q : AV → Store → Prop} (q : ∀ c l, σ c = none → Src (σ.set c (.lst l)) c → Q (.c (.ref c)) (σ.set c (.lst l))) : CV B A E (.ref 255) [.c (.ref sa), .i (k : Int)] σ Q := by
  walk_at "in"
  intro L E' A' P R hA
  have hlen : (xs.map AV.i).length ≤ 900 := by rw [List.length_map]; exact hl
  iterate 1 (walk_at "one")
  refine EV.mono (Q := fun d σ' => (∃ n, d = .i n) ∧ σ' = σ) ?_ ?_
  · walk_at "go"
    refine ite_s (fun hc => ?_) (fun hc => ?_)
    · have hk2 : k < xs.length := by simpa using hc
      have hit : (xs.map AV.i)[((k : Nat) : Int).toNat]? = some (.i xs[k]) := by
        rw [Int.toNat_natCast, List.getElem?_map, List.getElem?_eq_getElem hk2]; rfl
      walk_at "go"
      exact ⟨⟨_, rfl⟩, rfl⟩
    · walk_at "go"
      exact ⟨⟨_, rfl⟩, rfl⟩
  rintro d σ' ⟨⟨n, rfl⟩, rfl⟩
  walk_at "go"
  intro c hc
  exact q c _ hc ⟨_, _, Store.set_self, Int.fmod_nonneg_of_pos _ (by decide), Int.fmod_lt_of_pos _ (by decide)⟩
/-- what stood, stands, but for one -/
noncomputable def ExtX (sa : Addr) (σ σ' : Store) : Prop := ∀ a o, a ≠ sa → σ a = some o → σ' a = some o
theorem ExtX.refl {sa : Addr} {σ : Store} : ExtX sa σ σ := fun _ _ _ h => h
theorem ExtX.ext {sa : Addr} {σ σ' σ'' : Store} (x : ExtX sa σ σ') (y : Ext σ' σ'') : ExtX sa σ σ'' := fun a o n h => y _ _ (x a o n h)
theorem ExtX.src {sa : Addr} {σ σ' : Store} {o : AO} (x : ExtX sa σ σ') : ExtX sa σ (σ'.set sa o) := fun a p n h => by rw [Store.set_ne n]; exact x a p n h
theorem ExtX.upd {sa c : Addr} {σ σ' : Store} {o : AO} (x : ExtX sa σ σ') (h : σ c = none) : ExtX sa σ (σ'.set c o) := fun a p n e => by
  have : a ≠ c := fun z => by subst z; rw [h] at e; cases e
  rw [Store.set_ne this]; exact x a p n e
theorem ExtX.at {sa a : Addr} {σ σ' : Store} {o : AO} (x : ExtX sa σ σ') (n : a ≠ sa) (h : σ a = some o) : σ' a = some o := x a o n h
theorem ExtX.fresh {sa a : Addr} {σ σ' : Store} (x : ExtX sa σ σ') (n : a ≠ sa) (h : σ' a = none) : σ a = none := by
  cases e : σ a with
  | none => rfl
  | some o => rw [x a o n e] at h; cases h
noncomputable def IsSrc (σ : Store) (sa : Addr) : Prop := ∃ x y : Int, σ sa = some (.lst [.i x, .i y])
theorem Src.is {σ : Store} {sa : Addr} (h : Src σ sa) : IsSrc σ sa := let ⟨x, y, e, _⟩ := h.at'; ⟨x, y, e⟩
theorem Src.ext {σ σ' : Store} {sa : Addr} (h : Src σ sa) (e : Ext σ σ') : Src σ' sa := let ⟨x, y, q, r⟩ := h.at'; ⟨x, y, e.at q, r⟩
theorem Src.upd {σ : Store} {sa c : Addr} {o : AO} (h : Src σ sa) (n : sa ≠ c) : Src (σ.set c o) sa := let ⟨x, y, q, r⟩ := h.at'; ⟨x, y, (Store.set_ne n).trans q, r⟩
theorem IsSrc.neD {σ : Store} {sa a : Addr} {l : List (Str × AV)} (h : IsSrc σ sa) (e : σ a = some (.dct l)) : a ≠ sa := let ⟨_, _, q⟩ := h; ne_of_kind e q (by simp)
theorem IsSrc.neI {σ : Store} {sa a C d : Addr} (h : IsSrc σ sa) (e : σ a = some (.ins C d)) : a ≠ sa := let ⟨_, _, q⟩ := h; ne_of_kind e q (by simp)
theorem IsSrc.neL {σ : Store} {sa a : Addr} {l : List AV} (h : IsSrc σ sa) (e : σ a = some (.lst l)) (k : ∀ x y, l ≠ [.i x, .i y]) : a ≠ sa := let ⟨_, _, q⟩ := h; ne_of_kind e q (by intro z; cases z; exact k _ _ rfl)
abbrev N4 : List Str := ["m.A", "m.B", "m.C", "m.D"]
abbrev FGH : List Str := ["f", "g", "h"]
noncomputable def FnOk (f : AV) : Prop := f = fn0 ∨ f = fn1
noncomputable def MsOk (l : List (Str × Meth)) : Prop := (l.map (·.1)).Nodup ∧ ∀ q ∈ l, q.1 ∈ FGH ∧ FnOk q.2.f
noncomputable def FcOk (l : List (Str × AV)) : Prop := (l.map (·.1)).Nodup ∧ ∀ q ∈ l, q.1 ∈ FGH ∧ FnOk q.2
noncomputable def FldOk (f : Fld) : Prop := (f.e = true → ∃ k ∈ N4, f.ty = .nm k ∨ f.ty = .pt k) ∧ ∀ n ∈ FGH, (f.n == n) = false
noncomputable def UndOk : Und → Prop
  | .st l => l.length ≤ 4 ∧ ∀ f ∈ l, FldOk f
  | .fc l => FcOk l
noncomputable def NRowOk (r : NRow) : Prop := MsOk r.ms ∧ UndOk r.u
structure LW (σ : Store) (w d nd : Addr) (f rows : List (Str × AV)) (W : Wd) : Prop where
  a : σ w = some (.ins 244 d)
  b : σ d = some (.dct f)
  c : f.lookup ("named" : Str) = some (.c (.ref nd))
  e : f.lookup ("base_of" : Str) = none
  g : σ nd = some (.dct rows)
  h : ∀ k r, W k = some r → ∃ ra, rows.lookup k = some (.c (.ref ra)) ∧ RowAt σ ra r
  refs : ∀ q ∈ rows, ∃ a, q.2 = .c (.ref a)
  pos : 0 < rows.length
theorem LW.world {σ : Store} {w d nd : Addr} {f rows : List (Str × AV)} {W : Wd} (h : LW σ w d nd f rows W) : WorldAt σ w W := ⟨d, f, nd, rows, h.a, h.b, h.c, h.e, h.g, h.h⟩
theorem RowAt.extX {σ σ' : Store} {sa ra : Addr} {r : NRow} (x : ExtX sa σ σ') (s : IsSrc σ sa) (h : RowAt σ ra r) : RowAt σ' ra r :=
  let ⟨rd, rf, md, a, b, c, d, e⟩ := h; ⟨rd, rf, md, x.at (s.neI a) a, x.at (s.neD b) b, c, d, x.at (s.neD e) e⟩
theorem LW.extX {σ σ' : Store} {sa w d nd : Addr} {f rows : List (Str × AV)} {W : Wd} (x : ExtX sa σ σ') (s : IsSrc σ sa) (h : LW σ w d nd f rows W) : LW σ' w d nd f rows W :=
  ⟨x.at (s.neI h.a) h.a, x.at (s.neD h.b) h.b, h.c, h.e, x.at (s.neD h.g) h.g, fun k r q => let ⟨ra, y, z⟩ := h.h k r q; ⟨ra, y, z.extX x s⟩, h.refs, h.pos⟩
theorem mem_of_lookup {α : Type} {k : Str} {v : α} : ∀ {l : List (Str × α)}, l.lookup k = some v → (k, v) ∈ l
  | [], h => by simp at h
  | q :: l, h => by
    rw [List.lookup_cons] at h
    by_cases e : k = q.1
    · subst e; simp at h; subst h; exact List.mem_cons_self ..
    · have : (k == q.1) = false := by simpa using e
      rw [this] at h; exact List.mem_cons_of_mem _ (mem_of_lookup h)
theorem RowAt.setNd {σ : Store} {ra nd : Addr} {r : NRow} {rows : List (Str × AV)} {o : AO} (g : σ nd = some (.dct rows)) (refs : ∀ q ∈ rows, ∃ a, q.2 = .c (.ref a)) (pos : 0 < rows.length) (h : RowAt σ ra r) : RowAt (σ.set nd o) ra r := by
  obtain ⟨rd, rf, md, a, b, c, d, e⟩ := h
  have n1 : ra ≠ nd := ne_of_kind a g (by simp)
  have n2 : rd ≠ nd := fun z => by
    subst z
    rw [b] at g; cases g
    obtain ⟨a, q⟩ := refs _ (mem_of_lookup c)
    simp [Und.av] at q
  have n3 : md ≠ nd := fun z => by
    subst z
    rw [e] at g; cases g
    cases hm : r.ms with
    | nil => rw [hm] at pos; simp [rowsAv] at pos
    | cons q l =>
      obtain ⟨a, q⟩ := refs (q.1, q.2.av) (by rw [hm]; simp [rowsAv])
      simp [Meth.av] at q
  exact ⟨rd, rf, md, (Store.set_ne n1).trans a, (Store.set_ne n2).trans b, c, d, (Store.set_ne n3).trans e⟩
theorem mem_put {α : Type} {k : Str} {v : α} {q : Str × α} : ∀ {l : List (Str × α)}, q ∈ put l k v → q ∈ l ∨ q.2 = v
  | [], h => by simp [put] at h; subst h; exact .inr rfl
  | p :: l, h => by
    simp only [put] at h
    split at h
    · rcases List.mem_cons.mp h with rfl | h
      · exact .inr rfl
      · exact .inl (List.mem_cons_of_mem _ h)
    · rcases List.mem_cons.mp h with rfl | h
      · exact .inl (List.mem_cons_self ..)
      · exact (mem_put h).imp (List.mem_cons_of_mem _) id
theorem put_len {α : Type} {k : Str} {v : α} : ∀ {l : List (Str × α)}, 0 < (put l k v).length ∧ (put l k v).length ≤ l.length + 1
  | [] => by simp [put]
  | p :: l => by
    have := put_len (k := k) (v := v) (l := l)
    simp only [put]
    split <;> simp <;> omega
theorem LW.put {σ : Store} {w d nd x : Addr} {f rows : List (Str × AV)} {W : Wd} {k : Str} {r : NRow} (h : LW σ w d nd f rows W) (hr : RowAt σ x r) (hdn : d ≠ nd) :
    LW (σ.set nd (.dct (put rows k (.c (.ref x))))) w d nd f (Mine.put rows k (.c (.ref x))) (fun y => if y = k then some r else W y) := by
  refine ⟨(Store.set_ne (ne_of_kind h.a h.g (by simp))).trans h.a, (Store.set_ne hdn).trans h.b, h.c, h.e, Store.set_self, fun y r' hy => ?_, fun q hq => (mem_put hq).elim (h.refs q) fun e => ⟨x, e⟩, put_len.1⟩
  rw [put_lookup]
  by_cases e : y = k
  · rw [if_pos e] at hy ⊢
    cases hy
    exact ⟨x, rfl, hr.setNd h.g h.refs h.pos⟩
  · rw [if_neg e] at hy ⊢
    obtain ⟨ra, y1, y2⟩ := h.h y r' hy
    exact ⟨ra, y1, y2.setNd h.g h.refs h.pos⟩
/-- d is not nd: named is not base_of's -/
theorem LW.new {σ : Store} {w d nd : Addr} {f rows : List (Str × AV)} (a : σ w = some (.ins 244 d)) (b : σ d = some (.dct f)) (c : f.lookup ("named" : Str) = some (.c (.ref nd))) (e : f.lookup ("base_of" : Str) = none) (g : σ nd = some (.dct rows)) (refs : ∀ q ∈ rows, ∃ a, q.2 = .c (.ref a)) (pos : 0 < rows.length) : LW σ w d nd f rows (fun _ => none) :=
  ⟨a, b, c, e, g, fun _ _ h => by simp at h, refs, pos⟩
noncomputable def WdOk (W : Wd) : Prop := (∀ k ∈ N4, ∃ r, W k = some r) ∧ ∀ k r, W k = some r → NRowOk r
theorem word62 : True := by
  (k_with "v2" =>
    first
      | ((with_reducible show V2 _ _ _ _ (subscriptTail _ _) (AV.c _) (AV.i (Nat.cast _)) _ _ _); refine v2_lst (by walk_at "sto") (by omega) (by omega) (by assumption) ?_))
  trivial
theorem word63 : True := by
  (k_with "ev" =>
    ((with_reducible show EV _ _ _ _ (eval (Expr.Subscript _ (Expr.Slice _ _ _ _) _) _) _ _ _); refine ev_cutS (by walk_at "ok") ?_))
  trivial
noncomputable def MsTo (ms : List (Str × Meth)) (i : Nat) : Prop := (ms.map (·.1)).Nodup ∧ ∀ q ∈ ms, q.1 ∈ FGH.take i ∧ FnOk q.2.f
theorem FGH_nodup : FGH.Nodup := by decide
theorem take_fresh {α : Type} {l : List α} {i : Nat} {x : α} (hn : l.Nodup) (h : l[i]? = some x) : x ∉ l.take i := fun hx => by
  have hn2 : (l.take i ++ x :: l.drop (i + 1)).Nodup := by rw [← drop_at h, List.take_append_drop]; exact hn
  exact (List.nodup_append.mp hn2).2.2 x hx x (List.mem_cons_self ..) rfl
theorem MsTo.skip {ms : List (Str × Meth)} {i : Nat} (h : MsTo ms i) : MsTo ms (i + 1) := ⟨h.1, fun q hq => ⟨by
  have := (h.2 q hq).1
  rw [← List.take_append_drop i (FGH.take (i + 1)), List.take_take, Nat.min_eq_left (Nat.le_succ i)]
  exact List.mem_append_left _ this, (h.2 q hq).2⟩⟩
theorem MsTo.new {ms : List (Str × Meth)} {i : Nat} {nm : Str} (h : MsTo ms i) (hi : FGH[i]? = some nm) : ∀ x ∈ rowsAv ms, x.1 ≠ nm := fun x hx z => by
  obtain ⟨q, hq, rfl⟩ := List.mem_map.mp hx
  have := (h.2 q hq).1
  rw [show q.1 = nm from z] at this
  exact take_fresh FGH_nodup hi this
theorem MsTo.add {ms : List (Str × Meth)} {i : Nat} {nm : Str} {mt : Meth} (h : MsTo ms i) (hi : FGH[i]? = some nm) (hf : FnOk mt.f) : MsTo (ms ++ [(nm, mt)]) (i + 1) := by
  refine ⟨?_, fun q hq => ?_⟩
  · rw [List.map_append, List.nodup_append]
    refine ⟨h.1, by simp, fun a ha b hb => ?_⟩
    obtain ⟨q, hq, rfl⟩ := List.mem_map.mp ha
    have hb' : b = nm := by simpa using hb
    subst hb'
    exact fun e => take_fresh FGH_nodup hi (e ▸ (h.2 q hq).1)
  · rcases List.mem_append.mp hq with hq | hq
    · exact h.skip.2 q hq
    · have : q = (nm, mt) := by simpa using hq
      subst this
      rw [take_at hi]
      exact ⟨by simp, hf⟩
theorem MsTo.len {ms : List (Str × Meth)} {i : Nat} (h : MsTo ms i) : ms.length ≤ 3 := by
  have := nodup_len (m := FGH.take i) h.1 fun x hx => by
    obtain ⟨q, hq, rfl⟩ := List.mem_map.mp hx
    exact (h.2 q hq).1
  have h2 : (FGH.take i).length ≤ 3 := by simp [FGH]; omega
  rw [List.length_map] at this; omega
theorem Src.ne {σ : Store} {sa a : Addr} (h : Src σ sa) (e : σ a = none) : sa ≠ a := by
  obtain ⟨x, y, q, _⟩ := h.at'
  exact (ne_of_some q e).symm
theorem word64 : True := by
  (k_with "else" =>
    first
      | ((with_reducible show VL _ _ _ _ (fun vs => call (Value.type "tuple") vs) [AV.c _] _ _ _); refine vl_tuple (by walk_at "ok") (by walk_at "sto") (by walk_at "len") ?_))
  trivial
theorem fin_step {ρ σ' : Store} {sa w d nd nl D xx : Addr} {f rows : List (Str × AV)} {W : Wd} {k : Nat} {nk : Str} {r : NRow} {bs : List Bool} (hW : LW ρ w d nd f rows W) (hs' : IsSrc ρ sa) (x : ExtX sa ρ σ') (s : Src σ' sa) (hn : ρ nl = some (.lst (N4.map .s)))
    (hb : ρ D = some (.lst (bs.map fun b => .c (.bool b)))) (hb4 : bs.length = 4) (hdone : ∀ j, j < k → ∀ nm, N4[j]? = some nm → ∃ r, W nm = some r) (hok : ∀ nm r, W nm = some r → NRowOk r) (hnk : N4[k]? = some nk) (hr : RowAt σ' xx r) (hro : NRowOk r) (hrl : rows.length ≤ 4 + k) (hk : k < 4) (hdn : d ≠ nd) :
    ∃ rows' W', LW (σ'.set nd (.dct (put rows nk (.c (.ref xx))))) w d nd f rows' W' ∧ rows'.length ≤ 4 + (k + 1) ∧ (∀ j, j < k + 1 → ∀ nm, N4[j]? = some nm → ∃ r, W' nm = some r) ∧ (∀ nm r, W' nm = some r → NRowOk r) ∧ Src (σ'.set nd (.dct (put rows nk (.c (.ref xx))))) sa ∧
      (σ'.set nd (.dct (put rows nk (.c (.ref xx))))) nl = some (.lst (N4.map .s)) ∧ (σ'.set nd (.dct (put rows nk (.c (.ref xx))))) D = some (.lst (bs.map fun b => .c (.bool b))) ∧ k + 1 ≤ 4 := by
  have hW' := hW.extX x hs'
  have hn' := x.at (hs'.neL hn (by simp)) hn
  have hb' := x.at (hs'.neL hb (by intro x y z; rw [← List.length_map (f := fun b => AV.c (.bool b)), z] at hb4; simp at hb4)) hb
  refine ⟨_, _, hW'.put hr hdn, ?_, ?_, ?_, ?_, ?_, ?_, by omega⟩
  · have := (put_len (k := nk) (v := AV.c (.ref xx)) (l := rows)).2
    omega
  · intro j hj nm hnm
    by_cases e : nm = nk
    · exact ⟨r, by simp [e]⟩
    · simp only [e, if_false]
      rcases Nat.lt_or_ge j k with z | z
      · exact hdone j z nm hnm
      · have : j = k := by omega
        subst this
        rw [hnk] at hnm; cases hnm; exact absurd rfl e
  · intro nm r' h
    by_cases e : nm = nk
    · simp only [e, if_true] at h; cases h; exact hro
    · simp only [e, if_false] at h; exact hok nm r' h
  · exact s.upd (s.is.neD hW'.g).symm
  · exact (Store.set_ne (ne_of_kind hn' hW'.g (by simp))).trans hn'
  · exact (Store.set_ne (ne_of_kind hb' hW'.g (by simp))).trans hb'
noncomputable def fOf (ms : List (Str × Meth)) (k : Str) : AV := match ms.lookup k with
  | some m => m.f
  | none => fn0
theorem allStr_map {α : Type} (g : α → Str) : ∀ l : List α, allStr (l.map fun f => .s (g f)) = true
  | [] => rfl
  | _ :: l => allStr_map g l
theorem word65 : True := by
  (k_with "v2" =>
    ((with_reducible show V2 _ _ _ _ (compareOp CmpOp.NotIn) (AV.s _) (AV.c _) _ _ _); refine v2_notinL (by walk_at "sto") (allStr_map _ _) ?_))
  trivial
theorem word66 : True := by
  (k_with "else" =>
    first
      | ((with_reducible show VL _ _ _ _ (fun vs => call (Value.builtin "list.insert") vs) _ _ _ _); refine vl_insert (by walk_at "ok") (by walk_at "sto") (by walk_at "len") (by omega) (by walk_at "len") ?_))
  trivial
theorem insAt_map {α : Type} (g : α → AV) (l : List α) (n : Nat) (x : α) : insAt (l.map g) n (g x) = (l.take n ++ x :: l.drop n).map g := by
  simp [insAt, List.map_take, List.map_drop]
theorem lookup_of_key {α : Type} {k : Str} : ∀ {l : List (Str × α)}, k ∈ l.map (·.1) → ∃ v, l.lookup k = some v
  | [], h => by simp at h
  | q :: l, h => by
    rw [List.lookup_cons]
    by_cases e : k = q.1
    · subst e; exact ⟨q.2, by simp⟩
    · have hb : (k == q.1) = false := by simpa using e
      rw [hb]
      exact lookup_of_key (by simpa [e] using h)
theorem MsTo.ok {ms : List (Str × Meth)} {i : Nat} (h : MsTo ms i) : MsOk ms := ⟨h.1, fun q hq => ⟨List.mem_of_mem_take (h.2 q hq).1, (h.2 q hq).2⟩⟩
theorem MsOk.fc {ms : List (Str × Meth)} {ks : List Str} (h : MsOk ms) (hp : ks.Perm (ms.map (·.1))) : FcOk (ks.map fun k => (k, fOf ms k)) := by
  refine ⟨?_, fun q hq => ?_⟩
  · rw [List.map_map, show ((fun q : Str × AV => q.1) ∘ fun k => (k, fOf ms k)) = id from rfl, List.map_id]
    exact hp.nodup_iff.mpr h.1
  · obtain ⟨k, hk, rfl⟩ := List.mem_map.mp hq
    obtain ⟨v, hv⟩ := lookup_of_key (hp.mem_iff.mp hk)
    have := h.2 _ (mem_of_lookup hv)
    exact ⟨this.1, by unfold fOf; rw [hv]; exact this.2⟩
inductive LwA (sa w nl D d nd : Addr) (f : List (Str × AV)) (bs : List Bool) (k : Nat) (m' : Vars) (σ' : Store) : Prop
  | mk (rows : List (Str × AV)) (W : Wd) (hW : LW σ' w d nd f rows W) (hl : rows.length ≤ 4 + k) (hd : ∀ j, j < k → ∀ nm, N4[j]? = some nm → ∃ r, W nm = some r) (ho : ∀ nm r, W nm = some r → NRowOk r) (hs : Src σ' sa)
      (hn : σ' nl = some (.lst (N4.map .s))) (hb : σ' D = some (.lst (bs.map fun b => .c (.bool b)))) (hk : k ≤ 4)
      (g1 : m' "source" = some (.c (.ref sa))) (g2 : m' "names" = some (.c (.ref nl))) (g3 : m' "world" = some (.c (.ref w))) (g4 : m' "kinds" = some (.c (.ref D)))
inductive LwB (sa w nl D ca ma : Addr) (k : Nat) (lc : Addr) (ρ : Store) (i : Nat) (m' : Vars) (σ' : Store) : Prop
  | mk (ms : List (Str × Meth)) (hm : MsTo ms i) (hx : ExtX sa ρ σ') (hs : Src σ' sa) (hc : σ' ca = some (.lst ([].map Fld.av))) (ha : σ' ma = some (.dct (rowsAv ms))) (hl : σ' lc = some (.lst (FGH.map .s)))
      (g1 : m' "source" = some (.c (.ref sa))) (g2 : m' "names" = some (.c (.ref nl))) (g3 : m' "world" = some (.c (.ref w))) (g4 : m' "kinds" = some (.c (.ref D)))
      (g5 : m' "k" = some (.i (k : Int))) (g6 : m' "rows" = some (.c (.ref ca))) (g7 : m' "methods" = some (.c (.ref ma)))
theorem LwB.l {sa w nl D ca ma : Addr} {k : Nat} {lc : Addr} {ρ : Store} {i : Nat} {m' : Vars} {σ' : Store} : LwB sa w nl D ca ma k lc ρ i m' σ' → σ' lc = some (.lst (FGH.map .s))
  | ⟨_, _, _, _, _, _, h, _, _, _, _, _, _, _⟩ => h
inductive LwC (sa w nl D ca ma : Addr) (k j : Nat) (ρ : Store) (ms : List (Str × Meth)) (t : Nat) (m' : Vars) (σ' : Store) : Prop
  | mk (fl : List Fld) (hl : fl.length ≤ t) (ht : t ≤ j) (ho : ∀ f ∈ fl, FldOk f) (hx : ExtX sa ρ σ') (hs : Src σ' sa) (hc : σ' ca = some (.lst (fl.map Fld.av))) (ha : σ' ma = some (.dct (rowsAv ms)))
      (g1 : m' "source" = some (.c (.ref sa))) (g2 : m' "names" = some (.c (.ref nl))) (g3 : m' "world" = some (.c (.ref w))) (g4 : m' "kinds" = some (.c (.ref D)))
      (g5 : m' "k" = some (.i (k : Int))) (g6 : m' "rows" = some (.c (.ref ca))) (g7 : m' "methods" = some (.c (.ref ma)))
inductive LwD (sa w nl D ca ma : Addr) (k : Nat) (qc : Addr) (ρ : Store) (ms : List (Str × Meth)) (t : Nat) (m' : Vars) (σ' : Store) : Prop
  | mk (fl : List Fld) (hl : fl.length ≤ 2 + t) (ht : t ≤ 2) (ho : ∀ f ∈ fl, FldOk f) (hx : ExtX sa ρ σ') (hs : Src σ' sa) (hc : σ' ca = some (.lst (fl.map Fld.av))) (ha : σ' ma = some (.dct (rowsAv ms))) (hq : σ' qc = some (.lst ((["a", "b"] : List Str).map .s)))
      (g1 : m' "source" = some (.c (.ref sa))) (g2 : m' "names" = some (.c (.ref nl))) (g3 : m' "world" = some (.c (.ref w))) (g4 : m' "kinds" = some (.c (.ref D)))
      (g5 : m' "k" = some (.i (k : Int))) (g6 : m' "rows" = some (.c (.ref ca))) (g7 : m' "methods" = some (.c (.ref ma)))
theorem LwD.q {sa w nl D ca ma : Addr} {k : Nat} {qc : Addr} {ρ : Store} {ms : List (Str × Meth)} {t : Nat} {m' : Vars} {σ' : Store} : LwD sa w nl D ca ma k qc ρ ms t m' σ' → σ' qc = some (.lst ((["a", "b"] : List Str).map .s))
  | ⟨_, _, _, _, _, _, _, _, h, _, _, _, _, _, _, _⟩ => h
theorem c_lworld (T : TopOk B mg mb) (hr : Room A 7) {sa : Addr} (hs : Src σ sa) {Q : AV → Store → Prop} (q : ∀ σ' w W, WorldAt σ' w W → WdOk W → Q (.c (.ref w)) σ') : CV B A E (.ref 274) [.c (.ref sa)] σ Q := by
  walk_at "in"
  intro L E' A' P R hA
  walk_at "go"
  refine CV.vl (by walk_at "ok") (c_World T (R.le (by decide)) fun σ1 w d nd rows f e1 _ _ _ w1 w2 w3 w4 w5 w6 w7 w8 => ?_)
  have hs1 := hs.ext e1
  have hW := LW.new w1 w2 w3 w4 w5 w7 (by omega)
  have hrl : rows.length ≤ 4 + 0 := by omega
  clear w1 w2 w3 w4 w5 w6 w7 e1 hs
  walk_at "go"
  intro nl hnl
  have hs2 := hs1.ext (.new (o := .lst [.s "m.A", .s "m.B", .s "m.C", .s "m.D"]) hnl)
  have hW2 := hW.extX (ExtX.refl.upd hnl (sa := sa) (o := .lst [.s "m.A", .s "m.B", .s "m.C", .s "m.D"])) hs1.is
  have hn : (σ1.set nl (.lst [.s "m.A", .s "m.B", .s "m.C", .s "m.D"])) nl = some (.lst (N4.map .s)) := Store.set_self
  clear hs1 hW hnl
  generalize σ1.set nl (.lst [.s "m.A", .s "m.B", .s "m.C", .s "m.D"]) = σ2 at *
  walk_at "go"
  intro C D cl _ hD
  have Pc := Pg.comp P cl C
  have hDs : sa ≠ D := hs2.ne hD
  refine ⟨fun i ys σ' => ExtX sa σ2 σ' ∧ Src σ' sa ∧ σ' D = some (.lst ys) ∧ ∃ bs : List Bool, bs.length = i ∧ i ≤ 4 ∧ ys = bs.map fun b => .c (.bool b), ⟨ExtX.refl.upd hD, hs2.upd hDs, Store.set_self, [], rfl, by omega, rfl⟩, ⟨?_, ?_⟩, ?_⟩
  · rintro i ys σ' hi ⟨_, _, h3, bs, h4, h5, rfl⟩
    exact ⟨trivial, h3, by rw [List.length_map]; omega⟩
  · rintro E₁ i d' ys mi σ' hd ⟨x3, s3, h3, bs, h4, h5, rfl⟩ hm
    obtain ⟨hi, rfl⟩ := range_at hd
    have hi : i < 4 := by simpa using hi
    have g1 : mi "source" = some (.c (.ref sa)) := (hm "source" (.inl (by rfl))).trans (by walk_at "get")
    walk_at "go"
    refine CV.vl (by walk_at "ok") (c_take T (R.le (by decide)) s3 (by decide) (by decide) fun n l hlt s4 => ?_)
    have h6 : (σ'.set sa (.lst l)) D = some (.lst (bs.map fun b => .c (.bool b))) := (Store.set_ne hDs.symm).trans h3
    have x4 : ExtX sa σ2 (σ'.set sa (.lst l)) := x3.src
    generalize σ'.set sa (.lst l) = σ3 at *
    walk_at "go"
    refine ite_s (fun hc => ?_) (fun hc => ?_)
    · walk_at "go"
      exact ⟨h6, x4.upd hD, s4.upd hDs, Store.set_self, bs ++ [decide ((1 : Int) < i)], by simp [h4], by omega, by simp⟩
    · walk_at "go"
      exact ⟨h6, x4.upd hD, s4.upd hDs, Store.set_self, bs ++ [(n : Int) == 0], by simp [h4], by omega, by simp⟩
  rintro ys σ' ⟨x3, s3, h3, bs, h4, h5, rfl⟩ _
  have hW3 := hW2.extX x3 hs2.is
  have hn3 := x3.at (hs2.is.neL hn (by simp)) hn
  have hb4 : bs.length = 4 := by simpa [rangeItems] using h4
  clear hs2 hW2 hn h4 h5 x3 hD
  walk_at "go"
  refine ⟨LwA sa w nl D d nd f bs,
    ⟨rows, fun _ => none, hW3, hrl, fun j h => absurd h (Nat.not_lt_zero _), fun _ _ h => by simp at h, s3, hn3, h3, by omega, by walk_at "get", by walk_at "get", by walk_at "get", by walk_at "get"⟩, ⟨fun _ _ _ _ _ => trivial, ?_, ?_⟩⟩
  · rintro k d' m' ρ hd ⟨rows, W, hW, hrl, hdone, hok, hs, hn, hb, hk4, g1, g2, g3, g4⟩
    obtain ⟨hk, rfl⟩ := range_at hd
    have hk : k < 4 := by simpa using hk
    clear hk4
    walk_at "go"
    intro ca hca
    have nca : sa ≠ ca := hs.ne hca
    walk_at "go"
    intro ma hma
    have hmaρ : ρ ma = none := by
      cases e : ρ ma with
      | none => rfl
      | some o => rw [Store.set_new hca e] at hma; cases hma
    have nma : sa ≠ ma := hs.ne hmaρ
    have ncm : ca ≠ ma := fun z => by rw [← z, Store.set_self] at hma; cases hma
    have x1 : ExtX sa ρ ((ρ.set ca (.lst [])).set ma (.dct [])) := (ExtX.refl.upd hca).upd hmaρ
    have s1 : Src ((ρ.set ca (.lst [])).set ma (.dct [])) sa := (hs.upd nca).upd nma
    have c1 : ((ρ.set ca (.lst [])).set ma (.dct [])) ca = some (.lst ([].map Fld.av)) := (Store.set_ne ncm).trans Store.set_self
    have m1 : ((ρ.set ca (.lst [])).set ma (.dct [])) ma = some (.dct (rowsAv [])) := Store.set_self
    generalize (ρ.set ca (.lst [])).set ma (.dct []) = σ3 at *
    have hs' := hs.is
    clear hs hma
    walk_at "go"
    refine ie_list (by walk_at "hh") ?_
    walk_at "go"
    intro lc hlc
    have nlc : sa ≠ lc := s1.ne hlc
    have hlcρ : ρ lc = none := x1.fresh nlc.symm hlc
    have s1' := s1.upd (o := .lst [.s "f", .s "g", .s "h"]) nlc
    have c1' := Store.set_new (o' := .lst [.s "f", .s "g", .s "h"]) hlc c1
    have m1' := Store.set_new (o' := .lst [.s "f", .s "g", .s "h"]) hlc m1
    have x1' := x1.upd (o := .lst [.s "f", .s "g", .s "h"]) hlcρ
    have l1 : (σ3.set lc (.lst [.s "f", .s "g", .s "h"])) lc = some (.lst (FGH.map .s)) := Store.set_self
    have nlm : lc ≠ ma := ne_of_some m1 hlc
    have ncl : ca ≠ lc := (ne_of_some c1 hlc).symm
    clear s1 c1 m1 x1 hlc
    generalize σ3.set lc (.lst [.s "f", .s "g", .s "h"]) = σ4 at *
    have hN : ∃ nk, N4[k]? = some nk ∧ nk ∈ N4 := ⟨_, List.getElem?_eq_getElem hk, List.getElem_mem hk⟩
    obtain ⟨nk, hnk, hnkm⟩ := hN
    have hnk' : (N4.map AV.s)[((k : Nat) : Int).toNat]? = some (.s nk) := by rw [Int.toNat_natCast, List.getElem?_map, hnk]; rfl
    have hz1 : nk.length + (Str.ofString ".").length ≤ sizeLine := by
      have : nk.length = 3 := (by decide : ∀ x ∈ N4, x.length = 3) nk hnkm
      have h2 : (Str.ofString ".").length = 1 := by decide
      rw [this, h2, sizeLine_eq]; decide
    walk_at "go"
    refine ⟨LwB sa w nl D ca ma k lc ρ,
      ⟨[], ⟨.nil, fun _ h => by simp at h⟩, x1', s1', c1', m1', l1, by walk_at "get", by walk_at "get", by walk_at "get", by walk_at "get", by walk_at "get", by walk_at "get", by walk_at "get"⟩, ⟨fun _ _ _ _ hj => hj.l, ?_, ?_⟩⟩
    · clear x1' s1' c1' m1' l1 g1 g2 g3 g4
      rintro i d' m' σ' hd ⟨ms, hms, x2, s2, c2, m2, l2, g1, g2, g3, g4, g5, g6, g7⟩
      replace hd : (FGH.map AV.s)[i]? = some d' := hd
      obtain ⟨nm, hnm, rfl⟩ := map_at hd
      walk_at "go"
      refine CV.vl (by walk_at "ok") (c_take T (R.le (by decide)) s2 (by decide) (by decide) fun n l hlt s3 => ?_)
      have x3 : ExtX sa ρ (σ'.set sa (.lst l)) := x2.src
      have c3 := (Store.set_ne (σ := σ') (o := .lst l) nca.symm).trans c2
      have m3 := (Store.set_ne (σ := σ') (o := .lst l) nma.symm).trans m2
      have l3 := (Store.set_ne (σ := σ') (o := .lst l) nlc.symm).trans l2
      clear x2 s2 c2 m2 l2
      generalize σ'.set sa (.lst l) = σ5 at *
      walk_at "go"
      refine ite_s (fun hc => ?_) (fun hc => ?_)
      · walk_at "go"
        refine CV.vl (by walk_at "ok") (c_take T (R.le (by decide)) s3 (by decide) (by decide) fun n2 l hlt2 s4 => ?_)
        have x4 : ExtX sa ρ (σ5.set sa (.lst l)) := x3.src
        have c4 := (Store.set_ne (σ := σ5) (o := .lst l) nca.symm).trans c3
        have m4 := (Store.set_ne (σ := σ5) (o := .lst l) nma.symm).trans m3
        have l4 := (Store.set_ne (σ := σ5) (o := .lst l) nlc.symm).trans l3
        clear x3 s3 c3 m3 l3
        generalize σ5.set sa (.lst l) = σ6 at *
        walk_at "go"
        refine CV.vl (by walk_at "ok") (c_funcs T (R.le (by decide)) fun fc hfc => ?_)
        have nfc : sa ≠ fc := s4.ne hfc
        have x5 := x4.upd (o := .lst [fn0, fn0, fn1]) (x4.fresh nfc.symm hfc)
        have s5 := s4.upd (o := .lst [fn0, fn0, fn1]) nfc
        have c5 := Store.set_new (o' := .lst [fn0, fn0, fn1]) hfc c4
        have m5 := Store.set_new (o' := .lst [fn0, fn0, fn1]) hfc m4
        have l5 := Store.set_new (o' := .lst [fn0, fn0, fn1]) hfc l4
        have f5 : (σ6.set fc (.lst [fn0, fn0, fn1])) fc = some (.lst [fn0, fn0, fn1]) := Store.set_self
        clear x4 s4 c4 m4 l4 hfc
        generalize σ6.set fc (.lst [fn0, fn0, fn1]) = σ7 at *
        walk_at "go"
        refine CV.vl (by walk_at "ok") (c_one T (R.le (by decide)) s5 f5 nfc.symm (by simp) (by simp) fun n3 d3 l hd3 s6 => ?_)
        have hfn : FnOk d3 := by
          match n3, hd3 with
          | 0, h => exact .inl (by simpa using h.symm)
          | 1, h => exact .inl (by simpa using h.symm)
          | 2, h => exact .inr (by simpa using h.symm)
          | n + 3, h => simp at h
        have x6 : ExtX sa ρ (σ7.set sa (.lst l)) := x5.src
        have c6 := (Store.set_ne (σ := σ7) (o := .lst l) nca.symm).trans c5
        have m6 := (Store.set_ne (σ := σ7) (o := .lst l) nma.symm).trans m5
        have l6 := (Store.set_ne (σ := σ7) (o := .lst l) nlc.symm).trans l5
        clear x5 s5 c5 m5 l5 f5 hd3
        generalize σ7.set sa (.lst l) = σ8 at *
        have n6 := x6.at (hs'.neL hn (by simp)) hn
        have hz2 : (nk ++ (Str.ofString ".")).length + nm.length ≤ sizeLine := by
          have h1 : nk.length = 3 := (by decide : ∀ x ∈ N4, x.length = 3) nk hnkm
          have h2 : (Str.ofString ".").length = 1 := by decide
          have h3 : nm.length = 1 := (by decide : ∀ x ∈ FGH, x.length = 1) nm (List.mem_of_getElem? hnm)
          rw [strLen_append, h1, h2, h3, sizeLine_eq]; decide
        have hml : (rowsAv ms).length ≤ 1000 := by
          have := hms.len
          simp only [rowsAv, List.length_map]; omega
        walk_at "go"
        rw [put_new (hms.new hnm)]
        refine ⟨ms ++ [(nm, ⟨((n2 : Nat) : Int) == 0, d3, nk ++ Str.ofString "." ++ nm⟩)], hms.add hnm hfn, x6.upd hmaρ, s6.upd nma, (Store.set_ne ncm).trans c6, ?_, (Store.set_ne nlm).trans l6, by walk_at "get", by walk_at "get", by walk_at "get", by walk_at "get", by walk_at "get", by walk_at "get", by walk_at "get"⟩
        rw [Store.set_self]; simp [rowsAv, Meth.av]
      · walk_at "go"
        exact ⟨ms, hms.skip, x3, s3, c3, m3, l3, by walk_at "get", by walk_at "get", by walk_at "get", by walk_at "get", by walk_at "get", by walk_at "get", by walk_at "get"⟩
    · clear x1' s1' c1' m1' l1 g1 g2 g3 g4
      rintro m' σ' ⟨ms, hms, x2, s2, c2, m2, l2, g1, g2, g3, g4, g5, g6, g7⟩
      clear l2 nlc hlcρ nlm ncl
      obtain ⟨bk, hbk⟩ : ∃ bk, bs[k]? = some bk := ⟨_, List.getElem?_eq_getElem (by omega)⟩
      have hbk' : (bs.map fun b => AV.c (.bool b))[((k : Nat) : Int).toNat]? = some (.c (.bool bk)) := by rw [Int.toNat_natCast, List.getElem?_map, hbk]; rfl
      have b2 := x2.at (hs'.neL hb (by intro x y z; rw [← List.length_map (f := fun b => AV.c (.bool b)), z] at hb4; simp at hb4)) hb
      have n2 := x2.at (hs'.neL hn (by simp)) hn
      walk_at "go"
      refine ite_s (fun hc => ?_) (fun hc => ?_)
      · have hml : (rowsAv ms).length ≤ 3 := by
          have := hms.len
          simp only [rowsAv, List.length_map]; omega
        walk_at "go"
        refine ie_list (by walk_at "hh") ?_
        walk_at "go"
        refine vl_sorted (by walk_at "ok") T.sys (by walk_at "hh") m2 (by omega) fun sc ks hsc hperm => ?_
        have hperm' : ks.Perm (ms.map (·.1)) := by rw [show ms.map (·.1) = (rowsAv ms).map (·.1) by simp [rowsAv]]; exact hperm
        have hkl : ks.length ≤ 3 := by rw [hperm'.length_eq, List.length_map]; exact hms.len
        have nsc : sa ≠ sc := s2.ne hsc
        have x3 := x2.upd (o := .lst (ks.map .s)) (x2.fresh nsc.symm hsc)
        have s3 := s2.upd (o := .lst (ks.map .s)) nsc
        have m3 := Store.set_new (o' := .lst (ks.map .s)) hsc m2
        have n3 := Store.set_new (o' := .lst (ks.map .s)) hsc n2
        have k3 : (σ'.set sc (.lst (ks.map .s))) sc = some (.lst (ks.map .s)) := Store.set_self
        clear x2 s2 m2 n2 c2 b2 hsc hperm
        generalize σ'.set sc (.lst (ks.map .s)) = σ5 at *
        have hkl' : (ks.map AV.s).length ≤ 3 := by rw [List.length_map]; exact hkl
        walk_at "go"
        intro C2 D2 cl2 _ hD2
        have Pc2 := Pg.comp P cl2 C2
        have nD2 : sa ≠ D2 := s3.ne hD2
        refine ⟨fun i ys σ' => σ' = σ5.set D2 (.lst ys) ∧ i ≤ ks.length ∧ ys = (ks.take i).map fun k => .t [.s k, fOf ms k], ⟨rfl, Nat.zero_le _, by simp⟩, ⟨?_, ?_⟩, ?_⟩
        · rintro i ys σ' hi ⟨rfl, hi', rfl⟩
          exact ⟨Store.set_new hD2 k3, Store.set_self, by simp; omega⟩
        · rintro E₁ i d' ys mi σ' hd ⟨rfl, hi, rfl⟩ hm
          obtain ⟨nm, hnm, rfl⟩ := map_at hd
          obtain ⟨mt, hmt⟩ := lookup_of_key (hperm'.mem_iff.mp (List.mem_of_getElem? hnm))
          have hmt' : (rowsAv ms).lookup nm = some (.t [.c (.bool mt.p), mt.f, .s mt.k]) := by rw [rowsAv_lookup, hmt]; rfl
          have hi' : i + 1 ≤ ks.length := (List.getElem?_eq_some_iff.mp hnm).1
          have q1 : mi "methods" = some (.c (.ref ma)) := (hm "methods" (.inl (by rfl))).trans (by walk_at "get")
          have m4 := Store.set_new (o' := .lst ((ks.take i).map fun k => .t [.s k, fOf ms k])) hD2 m3
          walk_at "go"
          refine ⟨Store.set_self, Store.set_set, hi', ?_⟩
          rw [take_at hnm]
          simp [fOf, hmt]
        · rintro ys σ' ⟨rfl, hi, rfl⟩ _
          rw [List.length_map, List.take_length]
          have x4 := x3.upd (o := .lst (ks.map fun k => .t [.s k, fOf ms k])) (x3.fresh nD2.symm hD2)
          have s4 := s3.upd (o := .lst (ks.map fun k => .t [.s k, fOf ms k])) nD2
          have n4 := Store.set_new (o' := .lst (ks.map fun k => .t [.s k, fOf ms k])) hD2 n3
          have k4 : (σ5.set D2 (.lst (ks.map fun k => .t [.s k, fOf ms k]))) D2 = some (.lst (ks.map fun k => .t [.s k, fOf ms k])) := Store.set_self
          clear x3 s3 m3 n3 k3 hD2
          generalize σ5.set D2 (.lst (ks.map fun k => .t [.s k, fOf ms k])) = σ6 at *
          have hkl2 : (ks.map fun k => AV.t [.s k, fOf ms k]).length ≤ 1000 := by simp; omega
          walk_at "go"
          intro ea hea
          have nea : sa ≠ ea := s4.ne hea
          have x5 := x4.upd (o := .dct []) (x4.fresh nea.symm hea)
          have s5 := s4.upd (o := .dct []) nea
          have n5 := Store.set_new (o' := .dct []) hea n4
          have z5 : (σ6.set ea (.dct [])) ea = some (.dct (rowsAv [])) := Store.set_self
          clear x4 s4 n4 k4 hea
          generalize σ6.set ea (.dct []) = σ7 at *
          walk_at "go"
          refine CV.vl (by walk_at "ok") (c_NRow T (R.le (by decide)) fun σ8 xx dxx e8 _ _ hx hdx => ?_)
          have x6 := x5.ext e8
          have s6 := s5.ext e8
          have n6 := e8.at n5
          have z6 := e8.at z5
          have hRow : RowAt σ8 xx ⟨.fc (ks.map fun k => (k, fOf ms k)), []⟩ := ⟨dxx, _, ea, hx, hdx, by simp only [Und.av, Und.tag, Und.rows, List.map_map]; rfl, by rfl, z6⟩
          obtain ⟨rows', W', f1, f2, f3, f4, f5, f6, f7, f8⟩ := fin_step hW hs' x6 s6 hn hb hb4 hdone hok hnk hRow ⟨⟨by simp, fun _ h => by simp at h⟩, hms.ok.fc hperm'⟩ hrl hk w8
          obtain ⟨w1, w2, w3, w4, w5, _, _, _⟩ := hW.extX x6 hs'
          have hrl9 : rows.length ≤ 1000 := by omega
          clear x5 s5 n5 z5 e8 x6 s6 z6
          walk_at "go"
          exact ⟨rows', W', f1, f2, f3, f4, f5, f6, f7, f8, by walk_at "get", by walk_at "get", by walk_at "get", by walk_at "get"⟩
      · walk_at "go"
        intro ta hta
        have nta : sa ≠ ta := s2.ne hta
        have x3 := x2.upd (o := .lst [.i 1, .i 2, .i 2, .i 0]) (x2.fresh nta.symm hta)
        have s3 := s2.upd (o := .lst [.i 1, .i 2, .i 2, .i 0]) nta
        have c3 := Store.set_new (o' := .lst [.i 1, .i 2, .i 2, .i 0]) hta c2
        have m3 := Store.set_new (o' := .lst [.i 1, .i 2, .i 2, .i 0]) hta m2
        have t3 : (σ'.set ta (.lst [.i 1, .i 2, .i 2, .i 0])) ta = some (.lst [.i 1, .i 2, .i 2, .i 0]) := Store.set_self
        clear x2 s2 m2 c2 b2 n2 hta
        generalize σ'.set ta (.lst [.i 1, .i 2, .i 2, .i 0]) = σ5 at *
        walk_at "go"
        refine CV.vl (by walk_at "ok") (c_one T (R.le (by decide)) s3 t3 nta.symm (by simp) (by simp) fun n3 d3 l hd3 s4 => ?_)
        have hj : ∃ j : Nat, d3 = .i (j : Int) ∧ j ≤ 2 := by
          match n3, hd3 with
          | 0, h => exact ⟨1, by simpa using h.symm, by omega⟩
          | 1, h => exact ⟨2, by simpa using h.symm, by omega⟩
          | 2, h => exact ⟨2, by simpa using h.symm, by omega⟩
          | 3, h => exact ⟨0, by simpa using h.symm, by omega⟩
          | n + 4, h => simp at h
        obtain ⟨j, hjd, hj⟩ := hj
        subst hjd
        have x4 : ExtX sa ρ (σ5.set sa (.lst l)) := x3.src
        have c4 := (Store.set_ne (σ := σ5) (o := .lst l) nca.symm).trans c3
        have m4 := (Store.set_ne (σ := σ5) (o := .lst l) nma.symm).trans m3
        clear x3 s3 c3 m3 t3 hd3
        generalize σ5.set sa (.lst l) = σ6 at *
        walk_at "go"
        refine ⟨LwC sa w nl D ca ma k j ρ ms,
          ⟨[], Nat.le_refl _, Nat.zero_le _, fun _ h => by simp at h, x4, s4, c4, m4, by walk_at "get", by walk_at "get", by walk_at "get", by walk_at "get", by walk_at "get", by walk_at "get", by walk_at "get"⟩, ⟨fun _ _ _ _ _ => trivial, ?_, ?_⟩⟩
        · clear x4 s4 c4 m4 g1 g2 g3 g4 g5 g6 g7
          rintro t d' m' σ' hd ⟨fl, hfl, htj, hfo, x2, s2, c2, m2, g1, g2, g3, g4, g5, g6, g7⟩
          obtain ⟨ht, rfl⟩ := range_at hd
          have ht : t < j := by simpa using ht
          walk_at "go"
          refine CV.vl (by walk_at "ok") (c_take T (R.le (by decide)) s2 (by decide) (by decide) fun o l hlt s3 => ?_)
          have x3 : ExtX sa ρ (σ'.set sa (.lst l)) := x2.src
          have c3 := (Store.set_ne (σ := σ') (o := .lst l) nca.symm).trans c2
          have m3 := (Store.set_ne (σ := σ') (o := .lst l) nma.symm).trans m2
          clear x2 s2 c2 m2
          generalize σ'.set sa (.lst l) = σ7 at *
          have ho : o < 4 := by omega
          obtain ⟨bo, hbo⟩ : ∃ bk, bs[o]? = some bk := ⟨_, List.getElem?_eq_getElem (by omega)⟩
          have hbo' : (bs.map fun b => AV.c (.bool b))[((o : Nat) : Int).toNat]? = some (.c (.bool bo)) := by rw [Int.toNat_natCast, List.getElem?_map, hbo]; rfl
          have b3 := x3.at (hs'.neL hb (by intro x y z; rw [← List.length_map (f := fun b => AV.c (.bool b)), z] at hb4; simp at hb4)) hb
          obtain ⟨no, hno, hnom⟩ : ∃ no, N4[o]? = some no ∧ no ∈ N4 := ⟨_, List.getElem?_eq_getElem ho, List.getElem_mem ho⟩
          have hno' : (N4.map AV.s)[((o : Nat) : Int).toNat]? = some (.s no) := by rw [Int.toNat_natCast, List.getElem?_map, hno]; rfl
          walk_at "one"
          walk_at "one"
          refine EV.mono (Q := fun d σ' => (∃ b, d = .c (.bool b)) ∧ ExtX sa ρ σ' ∧ Src σ' sa ∧ σ' ca = some (.lst (fl.map Fld.av)) ∧ σ' ma = some (.dct (rowsAv ms))) ?_ ?_
          · walk_at "go"
            refine ite_s (fun hc => ?_) (fun hc => ?_)
            · walk_at "go"
              refine ite_s (fun hc => ?_) (fun hc => ?_)
              · exact ⟨⟨_, rfl⟩, x3, s3, c3, m3⟩
              · walk_at "go"
                refine CV.vl (by walk_at "ok") (c_take T (R.le (by decide)) s3 (by decide) (by decide) fun n l hlt s4 => ?_)
                have x4 : ExtX sa ρ (σ7.set sa (.lst l)) := x3.src
                have c4 := (Store.set_ne (σ := σ7) (o := .lst l) nca.symm).trans c3
                have m4 := (Store.set_ne (σ := σ7) (o := .lst l) nma.symm).trans m3
                generalize σ7.set sa (.lst l) = σ8 at *
                walk_at "go"
                exact ⟨⟨_, rfl⟩, x4, s4, c4, m4⟩
            · exact ⟨⟨_, rfl⟩, x3, s3, c3, m3⟩
          clear x3 s3 c3 m3 b3
          rintro d σ8 ⟨⟨b, rfl⟩, x3, s3, c3, m3⟩
          have n3 := x3.at (hs'.neL hn (by simp)) hn
          obtain ⟨hcut1, hcut2⟩ := (by decide : ∀ x ∈ N4, (cutV x 2).length ≤ 1000 ∧ ∀ n ∈ FGH, (cutV x 2 == n) = false) no hnom
          walk_at "go"
          refine ie_list (by walk_at "hh") ?_
          have hfl4 : (fl.map Fld.av).length ≤ 4 := by rw [List.length_map]; omega
          walk_at "go"
          intro C3 D3 cl3 _ hD3
          have Pc3 := Pg.comp P cl3 C3
          have nD3 : sa ≠ D3 := s3.ne hD3
          refine ⟨fun i ys σ' => σ' = σ8.set D3 (.lst ys) ∧ i ≤ fl.length ∧ ys = (fl.take i).map fun f => .s f.n, ⟨rfl, Nat.zero_le _, by simp⟩, ⟨?_, ?_⟩, ?_⟩
          · rintro i ys σ' hi ⟨rfl, hi', rfl⟩
            exact ⟨Store.set_new hD3 c3, Store.set_self, by simp; omega⟩
          · rintro E₁ i d' ys mi σ' hd ⟨rfl, hi, rfl⟩ hm
            obtain ⟨fd, hfd, rfl⟩ := map_at hd
            have hi' : i + 1 ≤ fl.length := (List.getElem?_eq_some_iff.mp hfd).1
            rw [show fd.av = AV.t [.s fd.n, fd.ty.av, .c (.bool fd.e)] from rfl]
            walk_at "go"
            refine ⟨Store.set_self, Store.set_set, hi', ?_⟩
            rw [take_at hfd]
            simp
          · rintro ys σ' ⟨rfl, hi, rfl⟩ _
            rw [List.length_map, List.take_length]
            have x4 := x3.upd (o := .lst (fl.map fun f => .s f.n)) (x3.fresh nD3.symm hD3)
            have s4 := s3.upd (o := .lst (fl.map fun f => .s f.n)) nD3
            have c4 := Store.set_new (o' := .lst (fl.map fun f => .s f.n)) hD3 c3
            have m4 := Store.set_new (o' := .lst (fl.map fun f => .s f.n)) hD3 m3
            have n4 := Store.set_new (o' := .lst (fl.map fun f => .s f.n)) hD3 n3
            have k4 : (σ8.set D3 (.lst (fl.map fun f => .s f.n))) D3 = some (.lst (fl.map fun f => .s f.n)) := Store.set_self
            clear x3 s3 c3 m3 n3 hD3
            generalize σ8.set D3 (.lst (fl.map fun f => .s f.n)) = σ9 at *
            walk_at "go"
            refine ite_s (fun hc => ?_) (fun hc => ?_)
            · cases b
              · walk_at "go"
                refine ⟨fl ++ [⟨cutV no 2, .nm no, true⟩], by simp; omega, by omega, ?_, x4.upd hca, s4.upd nca, ?_, (Store.set_ne ncm.symm).trans m4, by walk_at "get", by walk_at "get", by walk_at "get", by walk_at "get", by walk_at "get", by walk_at "get", by walk_at "get"⟩
                · intro f hf
                  rcases List.mem_append.mp hf with hf | hf
                  · exact hfo f hf
                  · have : f = ⟨cutV no 2, .nm no, true⟩ := by simpa using hf
                    subst this
                    exact ⟨fun _ => ⟨no, hnom, .inl rfl⟩, hcut2⟩
                · rw [Store.set_self]; simp [Fld.av, Ty.av]
              · walk_at "go"
                refine ⟨fl ++ [⟨cutV no 2, .pt no, true⟩], by simp; omega, by omega, ?_, x4.upd hca, s4.upd nca, ?_, (Store.set_ne ncm.symm).trans m4, by walk_at "get", by walk_at "get", by walk_at "get", by walk_at "get", by walk_at "get", by walk_at "get", by walk_at "get"⟩
                · intro f hf
                  rcases List.mem_append.mp hf with hf | hf
                  · exact hfo f hf
                  · have : f = ⟨cutV no 2, .pt no, true⟩ := by simpa using hf
                    subst this
                    exact ⟨fun _ => ⟨no, hnom, .inr rfl⟩, hcut2⟩
                · rw [Store.set_self]; simp [Fld.av, Ty.av]
            · walk_at "go"
              exact ⟨fl, by omega, by omega, hfo, x4, s4, c4, m4, by walk_at "get", by walk_at "get", by walk_at "get", by walk_at "get", by walk_at "get", by walk_at "get", by walk_at "get"⟩
        · clear x4 s4 c4 m4 g1 g2 g3 g4 g5 g6 g7
          rintro m' σ' ⟨fl, hfl, htj, hfo, x2, s2, c2, m2, g1, g2, g3, g4, g5, g6, g7⟩
          walk_at "go"
          refine ie_list (by walk_at "hh") ?_
          walk_at "go"
          intro qc hqc
          have nqs : sa ≠ qc := s2.ne hqc
          have hqcρ : ρ qc = none := x2.fresh nqs.symm hqc
          have x3 := x2.upd (o := .lst [.s "a", .s "b"]) hqcρ
          have s3 := s2.upd (o := .lst [.s "a", .s "b"]) nqs
          have c3 := Store.set_new (o' := .lst [.s "a", .s "b"]) hqc c2
          have m3 := Store.set_new (o' := .lst [.s "a", .s "b"]) hqc m2
          have q3 : (σ'.set qc (.lst [.s "a", .s "b"])) qc = some (.lst ((["a", "b"] : List Str).map .s)) := Store.set_self
          have ncq : ca ≠ qc := (ne_of_some c2 hqc).symm
          clear x2 s2 c2 m2 hqc
          generalize σ'.set qc (.lst [.s "a", .s "b"]) = σ7 at *
          have hfl2 : fl.length ≤ 2 := by
            have : fl.length ≤ j := Nat.le_trans hfl htj
            omega
          clear hfl htj
          walk_at "go"
          refine ⟨LwD sa w nl D ca ma k qc ρ ms,
            ⟨fl, hfl2, Nat.zero_le _, hfo, x3, s3, c3, m3, q3, by walk_at "get", by walk_at "get", by walk_at "get", by walk_at "get", by walk_at "get", by walk_at "get", by walk_at "get"⟩, ⟨fun _ _ _ _ hj => hj.q, ?_, ?_⟩⟩
          · clear x3 s3 c3 m3 q3 hfo hfl2 g1 g2 g3 g4 g5 g6 g7
            rintro t d' m' σ' hd ⟨fl, hfl, htj, hfo, x2, s2, c2, m2, q2, g1, g2, g3, g4, g5, g6, g7⟩
            replace hd : ((["a", "b"] : List Str).map AV.s)[t]? = some d' := hd
            have ht2 : t < 2 := by
              have := (List.getElem?_eq_some_iff.mp hd).1
              simpa using this
            obtain ⟨nm, hnm, rfl⟩ := map_at hd
            have hnmF := (by decide : ∀ x ∈ (["a", "b"] : List Str), ∀ n ∈ FGH, (x == n) = false) nm (List.mem_of_getElem? hnm)
            walk_at "go"
            refine CV.vl (by walk_at "ok") (c_take T (R.le (by decide)) s2 (by decide) (by decide) fun o l hlt s3 => ?_)
            have x3 : ExtX sa ρ (σ'.set sa (.lst l)) := x2.src
            have c3 := (Store.set_ne (σ := σ') (o := .lst l) nca.symm).trans c2
            have m3 := (Store.set_ne (σ := σ') (o := .lst l) nma.symm).trans m2
            have q3 := (Store.set_ne (σ := σ') (o := .lst l) nqs.symm).trans q2
            clear x2 s2 c2 m2 q2
            generalize σ'.set sa (.lst l) = σ8 at *
            walk_at "go"
            refine ite_s (fun hc => ?_) (fun hc => ?_)
            · have hfl4 : (fl.map Fld.av).length ≤ 4 := by rw [List.length_map]; omega
              walk_at "go"
              refine CV.vl (by walk_at "ok") (c_take T (R.le (by decide)) s3 (by omega) (by omega) fun o2 l hlt2 s4 => ?_)
              have x4 : ExtX sa ρ (σ8.set sa (.lst l)) := x3.src
              have c4 := (Store.set_ne (σ := σ8) (o := .lst l) nca.symm).trans c3
              have m4 := (Store.set_ne (σ := σ8) (o := .lst l) nma.symm).trans m3
              have q4 := (Store.set_ne (σ := σ8) (o := .lst l) nqs.symm).trans q3
              clear x3 s3 c3 m3 q3
              generalize σ8.set sa (.lst l) = σ9 at *
              have hle : ((o2 : Nat) : Int) ≤ (fl.map Fld.av).length := by omega
              walk_at "go"
              have e1 : insAt (fl.map Fld.av) ((o2 : Nat) : Int).toNat (.t [.s nm, .t [.s "bool"], .c (.bool false)]) = ((fl.take o2 ++ ⟨nm, .bl, false⟩ :: fl.drop o2).map Fld.av) := by
                rw [Int.toNat_natCast]; exact insAt_map Fld.av fl o2 ⟨nm, .bl, false⟩
              rw [e1]
              refine ⟨fl.take o2 ++ ⟨nm, .bl, false⟩ :: fl.drop o2, by simp; omega, by omega, ?_, x4.upd hca, s4.upd nca, Store.set_self, (Store.set_ne ncm.symm).trans m4, (Store.set_ne ncq.symm).trans q4, by walk_at "get", by walk_at "get", by walk_at "get", by walk_at "get", by walk_at "get", by walk_at "get", by walk_at "get"⟩
              intro f hf
              rcases List.mem_append.mp hf with hf | hf
              · exact hfo f (List.mem_of_mem_take hf)
              · rcases List.mem_cons.mp hf with rfl | hf
                · exact ⟨fun h => by simp at h, hnmF⟩
                · exact hfo f (List.mem_of_mem_drop hf)
            · walk_at "go"
              exact ⟨fl, by omega, by omega, hfo, x3, s3, c3, m3, q3, by walk_at "get", by walk_at "get", by walk_at "get", by walk_at "get", by walk_at "get", by walk_at "get", by walk_at "get"⟩
          · clear x3 s3 c3 m3 q3 hfo hfl2 g1 g2 g3 g4 g5 g6 g7
            rintro m' σ' ⟨fl, hfl, htj, hfo, x5, s5, c5, m5, _, g1, g2, g3, g4, g5, g6, g7⟩
            have n5 := x5.at (hs'.neL hn (by simp)) hn
            have hfl' : fl.length ≤ 4 := by simpa using hfl
            have hfl4 : (fl.map Fld.av).length ≤ 4 := by rw [List.length_map]; exact hfl'
            walk_at "go"
            refine CV.vl (by walk_at "ok") (c_NRow T (R.le (by decide)) fun σ8 xx dxx e8 _ _ hx hdx => ?_)
            have x6 := x5.ext e8
            have s6 := s5.ext e8
            have n6 := e8.at n5
            have z6 := e8.at m5
            have hRow : RowAt σ8 xx ⟨.st fl, ms⟩ := ⟨dxx, _, ma, hx, hdx, by rfl, by rfl, z6⟩
            obtain ⟨rows', W', f1, f2, f3, f4, f5, f6, f7, f8⟩ := fin_step hW hs' x6 s6 hn hb hb4 hdone hok hnk hRow ⟨hms.ok, hfl', hfo⟩ hrl hk w8
            obtain ⟨w1, w2, w3, w4, w5, _, _, _⟩ := hW.extX x6 hs'
            have hrl9 : rows.length ≤ 1000 := by omega
            clear x5 s5 n5 m5 e8 x6 s6 z6
            walk_at "go"
            exact ⟨rows', W', f1, f2, f3, f4, f5, f6, f7, f8, by walk_at "get", by walk_at "get", by walk_at "get", by walk_at "get"⟩
  · rintro m' σ' ⟨rows, W, hW, hrl, hdone, hok, hs, hn, hb, hk4, g1, g2, g3, g4⟩
    walk_at "go"
    refine q σ' w W hW.world ⟨fun k hk => ?_, hok⟩
    obtain ⟨j, hj, rfl⟩ := List.getElem_of_mem hk
    exact hdone j (by simpa [rangeItems] using hj) _ (List.getElem?_eq_getElem hj)
-- firstNE
theorem firstNE_eq {α : Type} {f g : Nat → List α} : ∀ {n s : Nat}, (∀ d, s ≤ d → d < s + n → (∀ j, s ≤ j → j < d → g j = []) → f d = g d) → firstNE f s n = firstNE g s n
  | 0, _, _ => rfl
  | n + 1, s, h => by
    have h0 := h s (Nat.le_refl _) (by omega) fun j a b => absurd b (by omega)
    rw [firstNE, firstNE, h0]
    split
    · rename_i e
      exact firstNE_eq fun d h1 h2 h3 => h d (by omega) (by omega) fun j a b => by
        rcases Nat.eq_or_lt_of_le a with z | z
        · subst z; exact List.isEmpty_iff.mp e
        · exact h3 j z b
    · rfl
theorem firstNE_mem {α : Type} {f : Nat → List α} {x : α} : ∀ {n s : Nat}, x ∈ firstNE f s n → ∃ d, s ≤ d ∧ d < s + n ∧ x ∈ f d
  | 0, _, h => by simp [firstNE] at h
  | n + 1, s, h => by
    rw [firstNE] at h
    split at h
    · obtain ⟨d, h1, h2, h3⟩ := firstNE_mem h
      exact ⟨d, by omega, by omega, h3⟩
    · exact ⟨s, Nat.le_refl _, by omega, h⟩
-- embedded
theorem embF_fst (s s' : List Step) : ∀ (l : List Fld) (k : Nat), (embF s k l).map (·.1) = (embF s' k l).map (·.1)
  | [], k => rfl
  | f :: l, k => by
    simp only [embF, List.map_append, embF_fst s s' l (k + 1)]
    split <;> rfl
theorem emb_fst (W : Wd) (t : Told) (s s' : List Step) : (emb W (t, s)).map (·.1) = (emb W (t, s')).map (·.1) := by
  unfold emb
  cases base W t with
  | st l => exact embF_fst s s' l 0
  | fc l => rfl
theorem emb_kid {W : Wd} {t : Told} {s s' : List Step} {r : Rch} (h : r ∈ emb W (t, s)) : ∃ r' ∈ emb W (t, s'), r'.1 = r.1 := by
  have : r.1 ∈ (emb W (t, s)).map (·.1) := List.mem_map_of_mem h
  rw [emb_fst W t s s'] at this
  obtain ⟨r', h1, h2⟩ := List.mem_map.mp this
  exact ⟨r', h1, h2⟩
theorem embF_mem {s : List Step} {r : Rch} : ∀ {l : List Fld} {k : Nat}, r ∈ embF s k l → ∃ f ∈ l, f.e = true ∧ r.1 = f.ty.bare ∧ r.2.length = s.length + 1
  | [], _, h => by simp [embF] at h
  | f :: l, k, h => by
    rw [embF] at h
    rcases List.mem_append.mp h with h | h
    · split at h
      · rename_i e
        have : r = (f.ty.bare, s ++ [(k, f.ty.isPt)]) := by simpa using h
        subst this
        exact ⟨f, List.mem_cons_self .., e, rfl, by simp⟩
      · simp at h
    · obtain ⟨g, h1, h2⟩ := embF_mem h
      exact ⟨g, List.mem_cons_of_mem _ h1, h2⟩
/-- a reached type of the world's -/
noncomputable def Nm (r : Rch) (d : Nat) : Prop := (∃ k ∈ N4, r.1 = .nm k) ∧ r.2.length = d
theorem emb_ok {W : Wd} (hW : WdOk W) {r : Rch} {d : Nat} (hr : Nm r d) : (emb W r).length ≤ 4 ∧ ∀ r' ∈ emb W r, Nm r' (d + 1) := by
  obtain ⟨⟨k, hk, e⟩, hd⟩ := hr
  obtain ⟨row, hrow⟩ := hW.1 k hk
  obtain ⟨hm, hu⟩ := hW.2 k row hrow
  have hb : base W r.1 = row.u := by rw [e]; simp only [base, hrow]
  unfold emb
  rw [hb]
  cases row with
  | mk u ms =>
    cases u with
    | fc l => exact ⟨by simp, fun _ h => by simp at h⟩
    | st l =>
      refine ⟨Nat.le_trans (embF_len ..) hu.1, fun r' h => ?_⟩
      obtain ⟨f, hf, he, h1, h2⟩ := embF_mem h
      obtain ⟨k', hk', hty⟩ := (hu.2 f hf).1 he
      refine ⟨⟨k', hk', ?_⟩, by omega⟩
      rw [h1]
      rcases hty with z | z <;> rw [z] <;> rfl
theorem flatMap_len {α β : Type} {g : α → List β} {z : Nat} : ∀ {l : List α}, (∀ x ∈ l, (g x).length ≤ z) → (l.flatMap g).length ≤ z * l.length
  | [], _ => by simp
  | x :: l, h => by
    have h1 := h x (List.mem_cons_self ..)
    have h2 := flatMap_len (l := l) fun y hy => h y (List.mem_cons_of_mem _ hy)
    simp only [List.flatMap_cons, List.length_append, List.length_cons, Nat.mul_add]
    omega
theorem paths_ok {W : Wd} (hW : WdOk W) {k : Str} (hk : k ∈ N4) : ∀ d, (paths W (.nm k) d).length ≤ 4 ^ d ∧ ∀ r ∈ paths W (.nm k) d, Nm r d
  | 0 => ⟨by simp [paths], fun r hr => by
      have : r = (.nm k, []) := by simpa [paths] using hr
      subst this; exact ⟨⟨k, hk, rfl⟩, rfl⟩⟩
  | d + 1 => by
    obtain ⟨h1, h2⟩ := paths_ok hW hk d
    refine ⟨?_, fun r hr => ?_⟩
    · have := flatMap_len (g := emb W) (z := 4) fun r hr => (emb_ok hW (h2 r hr)).1
      rw [paths, Nat.pow_succ]; omega
    · obtain ⟨r0, h3, h4⟩ := List.mem_flatMap.mp hr
      exact (emb_ok hW (h2 r0 h3)).2 r h4
-- seen
noncomputable def SeenT (l : List Str) (t : Told) : Prop := unseen l t = false
theorem mem_addTold {l : List Str} {t : Told} {x : Str} : x ∈ addTold l t ↔ x ∈ l ∨ t = .nm x := by
  cases t with
  | nm k => simp only [addTold, mem_addKey]; constructor
            · rintro (h | rfl)
              · exact .inl h
              · exact .inr rfl
            · rintro (h | h)
              · exact .inl h
              · cases h; exact .inr rfl
  | an _ => simp [addTold]
theorem mem_seenOf {x : Str} : ∀ {rs : List Rch} {l : List Str}, x ∈ seenOf l rs ↔ x ∈ l ∨ ∃ r ∈ rs, r.1 = .nm x
  | [], l => by simp [seenOf]
  | r :: rs, l => by
    have := mem_seenOf (x := x) (rs := rs) (l := addTold l r.1)
    show x ∈ seenOf (addTold l r.1) rs ↔ _
    rw [this, mem_addTold]
    simp only [List.mem_cons, exists_eq_or_imp, or_assoc]
theorem seenOf_nodup : ∀ {rs : List Rch} {l : List Str}, l.Nodup → (seenOf l rs).Nodup
  | [], _, h => h
  | r :: rs, l, h => by
    show (seenOf (addTold l r.1) rs).Nodup
    refine seenOf_nodup ?_
    cases r.1 with
    | nm k => exact addKey_nodup h
    | an _ => exact h
theorem unseen_nm {l : List Str} {k : Str} : unseen l (.nm k) = !decide (k ∈ l) := rfl
theorem lev_seen_nodup (W : Wd) (t : Told) : ∀ d, (lev W t d).2.Nodup
  | 0 => by simp [lev]
  | d + 1 => seenOf_nodup (lev_seen_nodup W t d)
theorem seen_step {W : Wd} {t : Told} {d : Nat} {x : Str} : x ∈ (lev W t (d + 1)).2 ↔ x ∈ (lev W t d).2 ∨ ∃ r ∈ (lev W t d).1, r.1 = .nm x := mem_seenOf
/-- who is seen was reached before -/
theorem seen_before {W : Wd} {t : Told} {x : Str} : ∀ {d : Nat}, x ∈ (lev W t d).2 → ∃ d', d' < d ∧ ∃ r ∈ (lev W t d').1, r.1 = .nm x
  | 0, h => by simp [lev] at h
  | d + 1, h => by
    rcases seen_step.mp h with h | h
    · obtain ⟨d', h1, h2⟩ := seen_before h
      exact ⟨d', by omega, h2⟩
    · exact ⟨d, by omega, h⟩
theorem lev_next {W : Wd} {t : Told} {d : Nat} {r : Rch} : r ∈ (lev W t (d + 1)).1 ↔ r ∈ (lev W t d).1.flatMap (emb W) ∧ unseen (lev W t (d + 1)).2 r.1 = true := by
  show r ∈ later W _ _ ↔ _
  unfold later
  rw [List.mem_filter]; rfl
/-- the children of the seen are seen -/
theorem seen_kids {W : Wd} {t : Told} {x y : Str} {s : List Step} {r : Rch} (hr : r ∈ emb W (.nm x, s)) (hy : r.1 = .nm y) : ∀ {d : Nat}, x ∈ (lev W t d).2 → y ∈ (lev W t (d + 1)).2
  | 0, h => by simp [lev] at h
  | d + 1, h => by
    rcases seen_step.mp h with h | ⟨r0, h1, h2⟩
    · exact seen_step.mpr (.inl (seen_kids hr hy h))
    · have e0 : r0 = (.nm x, r0.2) := by rw [← h2]
      obtain ⟨r', hr', e'⟩ := emb_kid (s' := r0.2) hr
      rw [← e0] at hr'
      cases hu : unseen (lev W t (d + 1)).2 r.1 with
      | false =>
        rw [hy, unseen_nm] at hu
        exact seen_step.mpr (.inl (by simpa using hu))
      | true =>
        refine seen_step.mpr (.inr ⟨r', lev_next.mpr ⟨List.mem_flatMap.mpr ⟨r0, h1, hr'⟩, by rw [e']; exact hu⟩, by rw [e']; exact hy⟩)
theorem filter_flatMap {α β : Type} {p : α → Bool} {q : β → Bool} {g : α → List β} : ∀ {l : List α}, (∀ x ∈ l, p x = false → ∀ y ∈ g x, q y = false) → ((l.filter p).flatMap g).filter q = (l.flatMap g).filter q
  | [], _ => rfl
  | x :: l, h => by
    have ih := filter_flatMap (l := l) fun y hy => h y (List.mem_cons_of_mem _ hy)
    rw [List.filter_cons]
    cases e : p x with
    | true => simp only [if_true, List.flatMap_cons, List.filter_append, ih]
    | false =>
      have h1 := h x (List.mem_cons_self ..) e
      have : (g x).filter q = [] := List.filter_eq_nil_iff.mpr fun y hy => by rw [h1 y hy]; decide
      simp only [List.flatMap_cons, List.filter_append, this, List.nil_append]
      simpa using ih
theorem lev_paths {W : Wd} (hW : WdOk W) {k : Str} (hk : k ∈ N4) : ∀ d, (lev W (.nm k) d).1 = (paths W (.nm k) d).filter fun r => unseen (lev W (.nm k) d).2 r.1
  | 0 => by simp [lev, paths, unseen]
  | d + 1 => by
    have ih := lev_paths hW hk d
    have hp := (paths_ok hW hk d).2
    show (((lev W (.nm k) d).1.flatMap (emb W)).filter fun r => unseen (lev W (.nm k) (d + 1)).2 r.1) = ((paths W (.nm k) d).flatMap (emb W)).filter fun r => unseen (lev W (.nm k) (d + 1)).2 r.1
    rw [ih]
    refine filter_flatMap fun r hr hs r' hr' => ?_
    obtain ⟨⟨x, hx, ex⟩, _⟩ := hp r hr
    obtain ⟨⟨y, hy, ey⟩, _⟩ := (emb_ok hW (hp r hr)).2 r' hr'
    have e0 : r = (.nm x, r.2) := by rw [← ex]
    rw [e0] at hr'
    rw [ex, unseen_nm] at hs
    rw [ey, unseen_nm]
    have := seen_kids hr' ey (t := .nm k) (d := d) (by simpa using hs)
    simp [this]
theorem lev_sub {W : Wd} (hW : WdOk W) {k : Str} (hk : k ∈ N4) {d : Nat} {r : Rch} (h : r ∈ (lev W (.nm k) d).1) : r ∈ paths W (.nm k) d := by
  rw [lev_paths hW hk d] at h
  exact (List.mem_filter.mp h).1
theorem lev_len {W : Wd} (hW : WdOk W) {k : Str} (hk : k ∈ N4) (d : Nat) : (lev W (.nm k) d).1.length ≤ 4 ^ d := by
  rw [lev_paths hW hk d]
  exact Nat.le_trans (List.length_filter_le _ _) (paths_ok hW hk d).1
theorem lev_grows {W : Wd} (hW : WdOk W) {k : Str} (hk : k ∈ N4) : ∀ d, (lev W (.nm k) d).1 ≠ [] → d + 1 ≤ (lev W (.nm k) (d + 1)).2.length
  | 0, _ => by simp [lev, seenOf, addTold, addKey]
  | d + 1, h => by
    have h0 : (lev W (.nm k) d).1 ≠ [] := fun z => h (lev_nil z)
    have ih := lev_grows hW hk d h0
    obtain ⟨r, hr⟩ := List.exists_mem_of_ne_nil _ h
    obtain ⟨⟨x, hx, ex⟩, _⟩ := (paths_ok hW hk (d + 1)).2 r (lev_sub hW hk hr)
    have hu := (lev_next.mp hr).2
    rw [ex, unseen_nm] at hu
    have hn : x ∉ (lev W (.nm k) (d + 1)).2 := by simpa using hu
    have h2 : (x :: (lev W (.nm k) (d + 1)).2).length ≤ (lev W (.nm k) (d + 1 + 1)).2.length :=
      nodup_len (List.nodup_cons.mpr ⟨hn, lev_seen_nodup ..⟩) fun y hy => by
        rcases List.mem_cons.mp hy with rfl | hy
        · exact seen_step.mpr (.inr ⟨r, hr, ex⟩)
        · exact seen_step.mpr (.inl hy)
    simp only [List.length_cons] at h2
    omega
theorem seen_sub {W : Wd} (hW : WdOk W) {k : Str} (hk : k ∈ N4) {d : Nat} {x : Str} (h : x ∈ (lev W (.nm k) d).2) : x ∈ N4 := by
  obtain ⟨d', _, r, hr, e⟩ := seen_before h
  obtain ⟨⟨y, hy, ey⟩, _⟩ := (paths_ok hW hk d').2 r (lev_sub hW hk hr)
  rw [e] at ey; cases ey; exact hy
theorem seen_len {W : Wd} (hW : WdOk W) {k : Str} (hk : k ∈ N4) (d : Nat) : (lev W (.nm k) d).2.length ≤ 4 :=
  nodup_len (m := N4) (lev_seen_nodup ..) fun x h => seen_sub hW hk h
theorem lev_end {W : Wd} (hW : WdOk W) {k : Str} (hk : k ∈ N4) : (lev W (.nm k) 4).1 = [] := by
  by_cases h : (lev W (.nm k) 4).1 = []
  · exact h
  · have h1 := lev_grows hW hk 4 h
    have h2 : (lev W (.nm k) (4 + 1)).2.length ≤ 4 := seen_len hW hk (4 + 1)
    omega
/-- a member is no field, and tells a plain function -/
noncomputable def MemOk (d : Nat) (m : Mem) : Prop := m.steps.length = d ∧ match m with
  | .meth _ mt => FnOk mt.f
  | .fld _ _ => False
  | .face _ _ f => FnOk f
theorem faces_len (s : List Step) (n : Str) (l : List (Str × AV)) : (faces s n l).length ≤ l.length := by
  simp only [faces, List.length_map]; exact List.length_filter_le _ _
theorem fc_len {l : List (Str × AV)} (h : FcOk l) : l.length ≤ 3 := by
  have := nodup_len (m := FGH) h.1 fun x hx => by
    obtain ⟨q, hq, rfl⟩ := List.mem_map.mp hx
    exact (h.2 q hq).1
  rw [List.length_map] at this
  exact this
theorem members_ok {W : Wd} (hW : WdOk W) {r : Rch} {d : Nat} (hr : Nm r d) {n : Str} (hn : n ∈ FGH) : (members W r n).length ≤ 3 ∧ ∀ m ∈ members W r n, MemOk d m := by
  obtain ⟨⟨k, hk, e⟩, hd⟩ := hr
  obtain ⟨row, hrow⟩ := hW.1 k hk
  obtain ⟨hm, hu⟩ := hW.2 k row hrow
  have hb : base W r.1 = row.u := by rw [e]; simp only [base, hrow]
  have ho : own W r.1 = row.ms := by rw [e]; simp only [own, hrow]
  unfold members
  rw [hb, ho]
  cases hl : row.ms.lookup n with
  | some mt =>
    refine ⟨by simp, fun m h => ?_⟩
    have : m = .meth r.2 mt := by simpa using h
    subst this
    exact ⟨hd, (hm.2 _ (mem_of_lookup hl)).2⟩
  | none =>
    cases row with
    | mk u ms =>
      cases u with
      | st l =>
        have : fldAt n 0 l = none := fldAt_none fun f hf => (hu.2 f hf).2 n hn
        simp only [this]
        exact ⟨by simp, fun m h => by simp at h⟩
      | fc l =>
        refine ⟨Nat.le_trans (faces_len ..) (fc_len hu), fun m h => ?_⟩
        simp only [faces] at h
        obtain ⟨q, hq, rfl⟩ := List.mem_map.mp h
        exact ⟨hd, (hu.2 q (List.mem_filter.mp hq).1).2⟩
/-- whether there are members is the type's matter -/
theorem members_type {W : Wd} {t : Told} {s s' : List Step} {n : Str} (h : members W (t, s) n = []) : members W (t, s') n = [] := by
  unfold members at h ⊢
  dsimp only at h ⊢
  cases hl : (own W t).lookup n with
  | some mt => rw [hl] at h; simp at h
  | none =>
    rw [hl] at h
    dsimp only at h ⊢
    cases hb : base W t with
    | st l =>
      rw [hb] at h
      dsimp only at h ⊢
      cases hf : fldAt n 0 l with
      | none => rfl
      | some q => rw [hf] at h; simp at h
    | fc l =>
      rw [hb] at h
      dsimp only at h ⊢
      simp only [faces, List.map_eq_nil_iff] at h ⊢
      exact h
theorem members_names {W : Wd} {r : Rch} {n : Str} (h : n ∉ namesAt W r) (hf : ∀ l, base W r.1 = .st l → ∀ f ∈ l, (f.n == n) = false) : members W r n = [] := by
  unfold namesAt at h
  rw [List.mem_append, not_or] at h
  unfold members
  have h1 : (own W r.1).lookup n = none := by
    cases e : (own W r.1).lookup n with
    | none => rfl
    | some v => exact absurd (List.mem_map_of_mem (f := (·.1)) (mem_of_lookup e)) h.1
  rw [h1]
  cases hb : base W r.1 with
  | st l => simp only [fldAt_none (hf l hb)]
  | fc l =>
    simp only [faces, List.map_eq_nil_iff, List.filter_eq_nil_iff]
    intro q hq z
    rw [hb] at h
    exact h.2 (List.mem_map.mpr ⟨q, hq, by simpa using z⟩)
theorem no_field {W : Wd} (hW : WdOk W) {r : Rch} {d : Nat} (hr : Nm r d) {n : Str} (hn : n ∈ FGH) : ∀ l, base W r.1 = .st l → ∀ f ∈ l, (f.n == n) = false := by
  obtain ⟨⟨k, hk, e⟩, hd⟩ := hr
  obtain ⟨row, hrow⟩ := hW.1 k hk
  obtain ⟨hm, hu⟩ := hW.2 k row hrow
  have hb : base W r.1 = row.u := by rw [e]; simp only [base, hrow]
  intro l hl f hf
  rw [hb] at hl
  rw [hl] at hu
  exact (hu.2 f hf).2 n hn
theorem memLev_mem {W : Wd} {n : Str} {h : List Rch} {m : Mem} : m ∈ memLev W n h ↔ ∃ r ∈ h, m ∈ members W r n := by
  unfold memLev; exact List.mem_flatMap
theorem memLev_nil {W : Wd} {n : Str} {h : List Rch} : memLev W n h = [] ↔ ∀ r ∈ h, members W r n = [] := by
  unfold memLev; exact List.flatMap_eq_nil_iff
theorem flatMap_filter {α β : Type} {p : α → Bool} {g : α → List β} : ∀ {l : List α}, (∀ x ∈ l, p x = false → g x = []) → (l.filter p).flatMap g = l.flatMap g
  | [], _ => rfl
  | x :: l, h => by
    have ih := flatMap_filter (l := l) fun y hy => h y (List.mem_cons_of_mem _ hy)
    rw [List.filter_cons]
    cases e : p x with
    | true => simp only [if_true, List.flatMap_cons, ih]
    | false =>
      have h1 := h x (List.mem_cons_self ..) e
      simp only [List.flatMap_cons, h1, List.nil_append]
      simpa using ih
theorem found_eq {W : Wd} (hW : WdOk W) {k : Str} (hk : k ∈ N4) (n : Str) : found W (.nm k) n 4 = foundP W (.nm k) n := by
  refine firstNE_eq fun d _ hd hj => ?_
  rw [lev_paths hW hk d]
  refine flatMap_filter fun r hr hs => ?_
  obtain ⟨⟨x, hx, ex⟩, _⟩ := (paths_ok hW hk d).2 r hr
  rw [ex, unseen_nm] at hs
  obtain ⟨d', hd', r', hr', er'⟩ := seen_before (t := .nm k) (d := d) (x := x) (by simpa using hs)
  have h0 := memLev_nil.mp (hj d' (by omega) hd') r' (lev_sub hW hk hr')
  have e1 : r = (.nm x, r.2) := by rw [← ex]
  have e2 : r' = (.nm x, r'.2) := by rw [← er']
  rw [e1]
  rw [e2] at h0
  exact members_type h0
theorem memLev_ok {W : Wd} (hW : WdOk W) {k : Str} (hk : k ∈ N4) {n : Str} (hn : n ∈ FGH) {d : Nat} (hd : d ≤ 4) {h : List Rch} (hh : ∀ r ∈ h, r ∈ paths W (.nm k) d) (hl : h.length ≤ 256) : (memLev W n h).length ≤ 900 ∧ ∀ m ∈ memLev W n h, MemOk d m := by
  refine ⟨?_, fun m hm => ?_⟩
  · have := flatMap_len (g := fun r => members W r n) (z := 3) (l := h) fun r hr => (members_ok hW ((paths_ok hW hk d).2 r (hh r hr)) hn).1
    unfold memLev; omega
  · obtain ⟨r, hr, h1⟩ := memLev_mem.mp hm
    exact (members_ok hW ((paths_ok hW hk d).2 r (hh r hr)) hn).2 m h1
theorem pow4 {d : Nat} (h : d ≤ 4) : 4 ^ d ≤ 256 := by
  match d, h with
  | 0, _ => decide
  | 1, _ => decide
  | 2, _ => decide
  | 3, _ => decide
  | 4, _ => decide
  | n + 5, h => omega
theorem pow3 {d : Nat} (h : d < 4) : 4 ^ d ≤ 64 := by
  match d, h with
  | 0, _ => decide
  | 1, _ => decide
  | 2, _ => decide
  | 3, _ => decide
theorem foundP_ok {W : Wd} (hW : WdOk W) {k : Str} (hk : k ∈ N4) {n : Str} (hn : n ∈ FGH) {m : Mem} (h : m ∈ foundP W (.nm k) n) : ∃ d, d ≤ 3 ∧ MemOk d m := by
  obtain ⟨d, _, hd, hm⟩ := firstNE_mem h
  exact ⟨d, by omega, (memLev_ok hW hk hn (by omega) (fun r hr => hr) (Nat.le_trans (paths_ok hW hk d).1 (pow4 (by omega)))).2 m hm⟩
theorem base_ok {W : Wd} (hW : WdOk W) {k : Str} (hk : k ∈ N4) : (∃ row, W k = some row) ∧ (base W (.nm k)).Ok := by
  obtain ⟨row, hrow⟩ := hW.1 k hk
  obtain ⟨hm, hu⟩ := hW.2 k row hrow
  refine ⟨⟨row, hrow⟩, ?_⟩
  simp only [base, hrow]
  cases row with
  | mk u ms =>
    cases u with
    | fc l => exact Nat.le_trans (fc_len hu) (by decide)
    | st l =>
      refine ⟨fun f hf he z => ?_, Nat.le_trans hu.1 (by decide)⟩
      obtain ⟨k', _, h⟩ := (hu.2 f hf).1 he
      rw [z] at h
      rcases h with h | h <;> cases h
theorem names_ok {W : Wd} (hW : WdOk W) {r : Rch} {d : Nat} (hr : Nm r d) : ∀ n ∈ namesAt W r, n ∈ FGH := by
  obtain ⟨⟨k, hk, e⟩, hd⟩ := hr
  obtain ⟨row, hrow⟩ := hW.1 k hk
  obtain ⟨hm, hu⟩ := hW.2 k row hrow
  have hb : base W r.1 = row.u := by rw [e]; simp only [base, hrow]
  have ho : own W r.1 = row.ms := by rw [e]; simp only [own, hrow]
  intro n hn
  unfold namesAt at hn
  rw [hb, ho] at hn
  rcases List.mem_append.mp hn with h | h
  · obtain ⟨q, hq, rfl⟩ := List.mem_map.mp h
    exact (hm.2 q hq).1
  · cases row with
    | mk u ms =>
      cases u with
      | st l => simp [faceNames] at h
      | fc l =>
        obtain ⟨q, hq, rfl⟩ := List.mem_map.mp h
        exact (hu.2 q hq).1
theorem mem_of_one {α : Type} {l : List α} {x : α} (h : one l = some x) : x ∈ l := by
  match l, h with
  | [y], h => simp [one] at h; subst h; exact List.mem_cons_self ..
theorem levOk4 {W : Wd} (hW : WdOk W) {k : Str} (hk : k ∈ N4) : LevOk W (.nm k) 4 := by
  refine ⟨fun d hd r hr => ?_, fun d hd => ?_, fun d hd => ?_, lev_end hW hk⟩
  · obtain ⟨⟨x, hx, ex⟩, hl⟩ := (paths_ok hW hk d).2 r (lev_sub hW hk hr)
    rw [ex]
    exact ⟨(base_ok hW hx).1, by omega, (base_ok hW hx).2⟩
  · have h1 := seen_len hW hk d
    have h2 := lev_len hW hk d
    have h3 := pow4 hd
    exact Nat.le_trans (Nat.add_le_add h1 (Nat.le_trans h2 h3)) (by decide)
  · rcases Nat.lt_or_ge d 4 with h | h
    · have h1 := flatMap_len (g := emb W) (z := 4) fun r hr => (emb_ok hW ((paths_ok hW hk d).2 r (lev_sub hW hk hr))).1
      have h2 := lev_len hW hk d
      have h3 : 4 ^ d ≤ 64 := pow3 h
      exact Nat.le_trans h1 (Nat.le_trans (Nat.mul_le_mul_left 4 (Nat.le_trans h2 h3)) (by decide))
    · have : d = 4 := by omega
      subst this
      rw [lev_end hW hk]; simp
theorem pathOk3 {W : Wd} (hW : WdOk W) {k : Str} (hk : k ∈ N4) : PathOk W (.nm k) 3 := by
  refine ⟨fun d hd r hr => ?_, fun d hd => ?_⟩
  · obtain ⟨⟨x, hx, ex⟩, hl⟩ := (paths_ok hW hk d).2 r hr
    obtain ⟨⟨row, h1⟩, h2⟩ := base_ok hW hx
    exact ⟨⟨x, row, ex, h1⟩, by omega, by rw [ex]; exact h2⟩
  · have h1 := (paths_ok hW hk d).1
    have h3 := pow4 (d := d) (by omega)
    omega
theorem start_nm {W : Wd} {a : Arg} {k : Str} (ha : a = .t (.nm k) ∨ a = .p k) {t : Told} (h : startOf W a = some t) : t = .nm k := by
  rcases ha with rfl | rfl
  · simp [startOf] at h; exact h.symm
  · simp only [startOf] at h
    split at h
    · cases h
    · cases h; rfl
theorem askOk4 {W : Wd} (hW : WdOk W) {k : Str} (hk : k ∈ N4) {a : Arg} (ha : a = .t (.nm k) ∨ a = .p k) {t : Told} (ht : startOf W a = some t) : AskOk W a t FGH 4 := by
  have e := start_nm ha ht
  subst e
  refine ⟨levOk4 hW hk, fun d hd r hr => names_ok hW ((paths_ok hW hk d).2 r (lev_sub hW hk hr)), by decide, by decide, fun n hn d hd => ?_, fun n hn m hm => ?_⟩
  · exact (memLev_ok hW hk hn hd (fun r hr => lev_sub hW hk hr) (Nat.le_trans (lev_len hW hk d) (pow4 hd))).1
  · unfold hit at hm
    rw [ht] at hm
    dsimp only at hm
    rw [found_eq hW hk] at hm
    obtain ⟨d, hd, h1, _⟩ := foundP_ok hW hk hn (mem_of_one hm)
    omega
theorem saidAll_mem {f : Str → Option AV} {k : Str} {d : AV} (hf : f k = some d) : ∀ {l : List Str}, k ∈ l → (k, d) ∈ saidAll f l
  | [], h => by simp at h
  | x :: l, h => by
    simp only [saidAll]
    rcases List.mem_cons.mp h with rfl | h
    · rw [hf]; exact List.mem_cons_self ..
    · have := saidAll_mem hf h
      cases f x with
      | none => exact this
      | some e => exact List.mem_cons_of_mem _ this
theorem saidAll_nodup {f : Str → Option AV} : ∀ {l : List Str}, l.Nodup → ((saidAll f l).map (·.1)).Nodup
  | [], _ => by simp [saidAll]
  | x :: l, h => by
    have hn := List.nodup_cons.mp h
    have ih := saidAll_nodup (f := f) hn.2
    simp only [saidAll]
    cases f x with
    | none => exact ih
    | some e =>
      refine List.nodup_cons.mpr ⟨fun z => ?_, ih⟩
      obtain ⟨q, hq, e⟩ := List.mem_map.mp z
      have := (saidAll_keys hq).1
      rw [e] at this
      exact hn.1 this
theorem lookup_nodup {α : Type} {k : Str} {d : α} : ∀ {l : List (Str × α)}, (l.map (·.1)).Nodup → (k, d) ∈ l → l.lookup k = some d
  | [], _, h => by simp at h
  | q :: l, hn, h => by
    have hn' := List.nodup_cons.mp (by simpa using hn : (q.1 :: l.map (·.1)).Nodup)
    rw [List.lookup_cons]
    rcases List.mem_cons.mp h with e | h
    · rw [← e]; simp
    · have hne : k ≠ q.1 := fun z => hn'.1 (z ▸ List.mem_map_of_mem (f := (·.1)) h)
      have hb : (k == q.1) = false := by simpa using hne
      rw [hb]
      exact lookup_nodup hn'.2 h
theorem same_said {g : Str → Option AV} {ks ns : List Str} (hks : ks.Nodup) (hns : ns.Nodup) (hsub : ∀ k ∈ ks, k ∈ ns) (hno : ∀ n ∈ ns, n ∉ ks → g n = none) (hv : ∀ n d, n ∈ ns → g n = some d → AV.eqv 8 d = true) : Same (saidAll g ks) (saidAll g ns) := by
  refine ⟨?_, fun q hq => ?_⟩
  · have h1 := nodup_len (l := (saidAll g ks).map (·.1)) (m := (saidAll g ns).map (·.1)) (saidAll_nodup hks) fun x hx => by
      obtain ⟨q, hq, rfl⟩ := List.mem_map.mp hx
      obtain ⟨h2, h3⟩ := saidAll_keys hq
      exact List.mem_map.mpr ⟨(q.1, q.2), saidAll_mem h3 (hsub _ h2), rfl⟩
    have h2 := nodup_len (l := (saidAll g ns).map (·.1)) (m := (saidAll g ks).map (·.1)) (saidAll_nodup hns) fun x hx => by
      obtain ⟨q, hq, rfl⟩ := List.mem_map.mp hx
      obtain ⟨h2, h3⟩ := saidAll_keys hq
      have : q.1 ∈ ks := by
        by_cases e : q.1 ∈ ks
        · exact e
        · rw [hno _ h2 e] at h3; cases h3
      exact List.mem_map.mpr ⟨(q.1, q.2), saidAll_mem h3 this, rfl⟩
    rw [List.length_map, List.length_map] at h1 h2
    omega
  · obtain ⟨h2, h3⟩ := saidAll_keys hq
    exact ⟨lookup_nodup (saidAll_nodup hns) (saidAll_mem h3 (hsub _ h2)), hv _ _ (hsub _ h2) h3⟩
theorem eqv_steps : ∀ l : List Step, AV.eqvL 6 (stepsL l) = true
  | [] => rfl
  | q :: l => by
    show (AV.eqv 6 q.av && AV.eqvL 6 (stepsL l)) = true
    rw [eqv_steps l]; rfl
theorem eqv_fn {f : AV} (h : FnOk f) : AV.eqv 7 f = true := by
  rcases h with rfl | rfl <;> rfl
theorem eqv_said {a : Arg} {m : Mem} {n : Nat} {d : AV} (hm : MemOk n m) (h : said a m = some d) : AV.eqv 8 d = true := by
  cases m with
  | fld s ty => simp [said] at h
  | face s k f =>
    simp only [said, Option.some.injEq] at h
    subst h
    show (AV.eqvL 6 (stepsL s) && (true && (AV.eqv 7 f && true))) = true
    rw [eqv_steps, eqv_fn hm.2]; rfl
  | meth s mt =>
    simp only [said] at h
    split at h
    · simp only [Option.some.injEq] at h
      subst h
      show (AV.eqvL 6 (stepsL s) && (true && (AV.eqv 7 mt.f && true))) = true
      rw [eqv_steps, eqv_fn hm.2]; rfl
    · cases h
theorem same4 {W : Wd} (hW : WdOk W) {k : Str} (hk : k ∈ N4) {a : Arg} (ha : a = .t (.nm k) ∨ a = .p k) {l l2 : List (Str × AV)} (h1 : SetIs W a 4 l) (h2 : LawIs W a l2) : Same l l2 := by
  unfold SetIs at h1
  unfold LawIs at h2
  cases hst : startOf W a with
  | none =>
    rw [hst] at h1 h2
    dsimp only at h1 h2
    subst h1; subst h2
    exact ⟨rfl, by simp⟩
  | some t =>
    have et := start_nm ha hst
    subst et
    rw [hst] at h1 h2
    dsimp only at h1 h2
    obtain ⟨ks, hp, rfl⟩ := h1
    subst h2
    have eg : saidOf W a 4 = fun n => (one (foundP W (.nm k) n)).bind (said a) := by
      funext n
      unfold saidOf hit
      rw [hst]
      dsimp only
      rw [found_eq hW hk]
    rw [eg]
    have hsub : ∀ x ∈ namesTo W (.nm k) 4, x ∈ FGH := namesTo_sub (D := 4) (fun d hd r hr => names_ok hW ((paths_ok hW hk d).2 r (lev_sub hW hk hr))) (by omega)
    refine same_said (hp.nodup_iff.mpr (namesTo_nodup ..)) FGH_nodup (fun x hx => hsub x (hp.mem_iff.mp hx)) (fun n hn hx => ?_) fun n d hn hd => ?_
    · have hnn : n ∉ namesTo W (.nm k) 4 := fun z => hx (hp.mem_iff.mpr z)
      have : foundP W (.nm k) n = [] := by
        rw [← found_eq hW hk]
        refine firstNE_nil fun d _ hd => memLev_nil.mpr fun r hr => ?_
        have hr2 := (paths_ok hW hk d).2 r (lev_sub hW hk hr)
        refine members_names (fun z => hnn ?_) (no_field hW hr2 hn)
        have key : ∀ e, d < e → n ∈ namesTo W (.nm k) e := by
          intro e
          induction e with
          | zero => intro h; omega
          | succ e ih =>
            intro h
            rcases Nat.lt_or_ge d e with q | q
            · exact mem_addKeys.mpr (.inl (ih q))
            · have : d = e := by omega
              subst this
              exact mem_addKeys.mpr (.inr (List.mem_flatMap.mpr ⟨r, hr, z⟩))
        exact key 4 (by omega)
      rw [this]; rfl
    · cases ho : one (foundP W (.nm k) n) with
      | none => rw [ho] at hd; cases hd
      | some m =>
        rw [ho] at hd
        obtain ⟨e, _, hm⟩ := foundP_ok hW hk hn (mem_of_one ho)
        exact eqv_said hm hd
theorem lawOk {W : Wd} (hW : WdOk W) {k : Str} (hk : k ∈ N4) : (∀ n ∈ FGH, ∀ d, d ≤ 3 → (memLev W n (paths W (.nm k) d)).length ≤ 900) ∧ (∀ n ∈ FGH, ∀ d, d ≤ 3 → ∀ r ∈ paths W (.nm k) d, ∀ l, base W r.1 = .st l → ∀ f ∈ l, (f.n == n) = false) ∧
    (∀ n ∈ FGH, ∀ m, one (foundP W (.nm k) n) = some m → m.steps.length ≤ 200) := by
  refine ⟨fun n hn d hd => ?_, fun n hn d hd r hr => no_field hW ((paths_ok hW hk d).2 r hr) hn, fun n hn m hm => ?_⟩
  · exact (memLev_ok hW hk hn (by omega) (fun r hr => hr) (Nat.le_trans (paths_ok hW hk d).1 (pow4 (by omega)))).1
  · obtain ⟨d, hd, h1, _⟩ := foundP_ok hW hk hn (mem_of_one hm)
    omega
noncomputable def row0 : NRow := ⟨.st [], [("f", ⟨true, fn0, "m.A.f"⟩)]⟩
noncomputable def W0 : Wd := fun y => if y = ("m.A" : Str) then some row0 else (fun _ => none) y
noncomputable def f1 : Fld := ⟨"A", .nm "m.A", true⟩
noncomputable def f2 : Fld := ⟨"A", .pt "m.A", true⟩
noncomputable def a1 : Arg := .t (.nm "m.A")
noncomputable def a2 : Arg := .t (.an [f1])
noncomputable def a3 : Arg := .t (.an [f2])
theorem w0A : W0 "m.A" = some row0 := by unfold W0; rw [if_pos rfl]
theorem base0 : base W0 (.nm "m.A") = .st [] := by simp only [base, w0A]; rfl
theorem own0 : own W0 (.nm "m.A") = ([("f", ⟨true, fn0, "m.A.f"⟩)] : List (Str × Meth)) := by simp only [own, w0A]; rfl
theorem emb0 (s : List Step) : emb W0 (.nm "m.A", s) = [] := by unfold emb; rw [show base W0 (Told.nm "m.A", s).1 = .st [] from base0]; rfl
theorem embA (f : Fld) (h : f.e = true) : emb W0 (.an [f], []) = [(f.ty.bare, [(0, f.ty.isPt)])] := by
  unfold emb; simp only [base, embF, h, if_true, List.nil_append, List.append_nil]
theorem l1_0 : (lev W0 (.nm "m.A") 0) = ([(.nm "m.A", [])], []) := rfl
theorem l1_1 : (lev W0 (.nm "m.A") 1) = (([], ["m.A"]) : List Rch × List Str) := by
  simp [lev, later, emb0, seenOf, addTold, addKey]
theorem l1_2 : (lev W0 (.nm "m.A") 2) = (([], ["m.A"]) : List Rch × List Str) := by
  show (later W0 (seenOf (lev W0 (.nm "m.A") 1).2 (lev W0 (.nm "m.A") 1).1) (lev W0 (.nm "m.A") 1).1, seenOf (lev W0 (.nm "m.A") 1).2 (lev W0 (.nm "m.A") 1).1) = _
  rw [l1_1]; rfl
theorem lA_1 (f : Fld) (h : f.e = true) (h2 : f.ty.bare = .nm "m.A") : (lev W0 (.an [f]) 1) = ([(.nm "m.A", [(0, f.ty.isPt)])], []) := by
  simp [lev, later, embA f h, seenOf, addTold, h2, unseen]
theorem lA_2 (f : Fld) (h : f.e = true) (h2 : f.ty.bare = .nm "m.A") : (lev W0 (.an [f]) 2) = (([], ["m.A"]) : List Rch × List Str) := by
  show (later W0 (seenOf (lev W0 (.an [f]) 1).2 (lev W0 (.an [f]) 1).1) (lev W0 (.an [f]) 1).1, seenOf (lev W0 (.an [f]) 1).2 (lev W0 (.an [f]) 1).1) = _
  rw [lA_1 f h h2]
  simp [later, emb0, seenOf, addTold, addKey]
theorem namesA (s : List Step) : namesAt W0 (.nm "m.A", s) = (["f"] : List Str) := by
  unfold namesAt; rw [show own W0 (Told.nm "m.A", s).1 = _ from own0, show base W0 (Told.nm "m.A", s).1 = .st [] from base0]; rfl
theorem namesN (l : List Fld) : namesAt W0 (.an l, []) = [] := rfl
theorem memA (s : List Step) : members W0 (.nm "m.A", s) "f" = [.meth s ⟨true, fn0, "m.A.f"⟩] := by
  unfold members; rw [show own W0 (Told.nm "m.A", s).1 = _ from own0]; rfl
theorem memN {f : Fld} (h : (f.n == ("f" : Str)) = false) : members W0 (.an [f], []) "f" = [] := by
  unfold members; simp only [own, base, List.lookup_nil, fldAt, h]; rfl
theorem ask1 : AskOk W0 a1 (.nm "m.A") ["f"] 2 := by
  have hit1 : hit W0 a1 "f" 2 = [.meth [] ⟨true, fn0, "m.A.f"⟩] := by
    show found W0 (.nm "m.A") "f" 2 = _
    simp only [found, firstNE, memLev, l1_0, List.flatMap_cons, List.flatMap_nil, memA]; rfl
  refine ⟨⟨fun d hd r hr => ?_, fun d hd => ?_, fun d hd => ?_, by rw [l1_2]⟩, fun d hd r hr n hn => ?_, by decide, by decide, fun n hn d hd => ?_, fun n hn m hm => ?_⟩
  · match d, hd with
    | 0, _ =>
      have : r = (.nm "m.A", []) := by simpa [l1_0] using hr
      subst this
      exact ⟨⟨row0, w0A⟩, by simp, by rw [base0]; exact ⟨by simp, by simp⟩⟩
    | 1, _ => simp [l1_1] at hr
    | 2, _ => simp [l1_2] at hr
  · match d, hd with
    | 0, _ => simp [l1_0]
    | 1, _ => simp [l1_1]
    | 2, _ => simp [l1_2]
  · match d, hd with
    | 0, _ => simp [l1_0, emb0]
    | 1, _ => simp [l1_1]
    | 2, _ => simp [l1_2]
  · match d, hd with
    | 0, _ =>
      have : r = (.nm "m.A", []) := by simpa [l1_0] using hr
      subst this
      rw [namesA] at hn; exact hn
    | 1, _ => simp [l1_1] at hr
    | 2, _ => simp [l1_2] at hr
  · have : n = "f" := by simpa using hn
    subst this
    match d, hd with
    | 0, _ => simp [l1_0, memLev, memA]
    | 1, _ => simp [l1_1, memLev]
    | 2, _ => simp [l1_2, memLev]
  · have : n = "f" := by simpa using hn
    subst this
    rw [hit1] at hm
    simp only [one, Option.some.injEq] at hm
    subst hm; simp [Mem.steps]
theorem hitA (f : Fld) (h : f.e = true) (h2 : f.ty.bare = .nm "m.A") (h3 : (f.n == ("f" : Str)) = false) : hit W0 (.t (.an [f])) "f" 2 = [.meth [(0, f.ty.isPt)] ⟨true, fn0, "m.A.f"⟩] := by
  show found W0 (.an [f]) "f" 2 = _
  have l0 : (lev W0 (.an [f]) 0).1 = [(.an [f], [])] := rfl
  simp only [found, firstNE, memLev, l0, lA_1 f h h2, List.flatMap_cons, List.flatMap_nil, memA, memN h3]; rfl
theorem askA (f : Fld) (h : f.e = true) (h2 : f.ty.bare = .nm "m.A") (h3 : (f.n == ("f" : Str)) = false) (h4 : f.ty ≠ .bl) : AskOk W0 (.t (.an [f])) (.an [f]) ["f"] 2 := by
  have l0 : (lev W0 (.an [f]) 0) = ([(.an [f], [])], []) := rfl
  have l1 := lA_1 f h h2
  have l2 := lA_2 f h h2
  refine ⟨⟨fun d hd r hr => ?_, fun d hd => ?_, fun d hd => ?_, by rw [l2]⟩, fun d hd r hr n hn => ?_, by decide, by decide, fun n hn d hd => ?_, fun n hn m hm => ?_⟩
  · match d, hd with
    | 0, _ =>
      have : r = (.an [f], []) := by simpa [l0] using hr
      subst this
      exact ⟨trivial, by simp, ⟨fun g hg _ => by
        have : g = f := by simpa using hg
        subst this; exact h4, by simp⟩⟩
    | 1, _ =>
      have : r = (.nm "m.A", [(0, f.ty.isPt)]) := by simpa [l1] using hr
      subst this
      exact ⟨⟨row0, w0A⟩, by simp, by rw [base0]; exact ⟨by simp, by simp⟩⟩
    | 2, _ => simp [l2] at hr
  · match d, hd with
    | 0, _ => simp [l0]
    | 1, _ => simp [l1]
    | 2, _ => simp [l2]
  · match d, hd with
    | 0, _ => simp [l0, embA f h]
    | 1, _ => simp [l1, emb0]
    | 2, _ => simp [l2]
  · match d, hd with
    | 0, _ =>
      have : r = (.an [f], []) := by simpa [l0] using hr
      subst this
      rw [namesN] at hn; simp at hn
    | 1, _ =>
      have : r = (.nm "m.A", [(0, f.ty.isPt)]) := by simpa [l1] using hr
      subst this
      rw [namesA] at hn; exact hn
    | 2, _ => simp [l2] at hr
  · have : n = "f" := by simpa using hn
    subst this
    match d, hd with
    | 0, _ => simp [l0, memLev, memN h3]
    | 1, _ => simp [l1, memLev, memA]
    | 2, _ => simp [l2, memLev]
  · have : n = "f" := by simpa using hn
    subst this
    rw [hitA f h h2 h3] at hm
    simp only [one, Option.some.injEq] at hm
    subst hm; simp [Mem.steps]
theorem names1 : namesTo W0 (.nm "m.A") 2 = (["f"] : List Str) := by
  simp only [namesTo, l1_0, l1_1, List.flatMap_cons, List.flatMap_nil, namesA]; rfl
theorem namesAn (f : Fld) (h : f.e = true) (h2 : f.ty.bare = .nm "m.A") : namesTo W0 (.an [f]) 2 = (["f"] : List Str) := by
  have l0 : (lev W0 (.an [f]) 0) = ([(.an [f], [])], []) := rfl
  simp only [namesTo, l0, lA_1 f h h2, List.flatMap_cons, List.flatMap_nil, namesA, namesN]; rfl
theorem set_one {a : Arg} {t : Told} {l : List (Str × AV)} (hs : startOf W0 a = some t) (hn : namesTo W0 t 2 = (["f"] : List Str)) (h : SetIs W0 a 2 l) : l = saidAll (saidOf W0 a 2) ["f"] := by
  unfold SetIs at h
  rw [hs] at h
  dsimp only at h
  obtain ⟨ks, hp, rfl⟩ := h
  rw [hn] at hp
  rw [List.perm_singleton.mp hp]
theorem set1 {l : List (Str × AV)} (h : SetIs W0 a1 2 l) : l = [] := by
  rw [set_one rfl names1 h]
  have hit1 : hit W0 a1 "f" 2 = [.meth [] ⟨true, fn0, "m.A.f"⟩] := by
    show found W0 (.nm "m.A") "f" 2 = _
    simp only [found, firstNE, memLev, l1_0, List.flatMap_cons, List.flatMap_nil, memA]; rfl
  have : saidOf W0 a1 2 "f" = none := by unfold saidOf; rw [hit1]; rfl
  simp only [saidAll, this]
theorem set2 {l : List (Str × AV)} (h : SetIs W0 a2 2 l) : l = [] := by
  rw [set_one rfl (namesAn f1 rfl rfl) h]
  have : saidOf W0 a2 2 "f" = none := by
    unfold saidOf
    rw [show hit W0 a2 "f" 2 = _ from hitA f1 rfl rfl (by decide)]; rfl
  simp only [saidAll, this]
theorem set3 {l : List (Str × AV)} (h : SetIs W0 a3 2 l) : l = ([("f", .t [.t [.t [.i 0, .c (.bool true)]], .s "m.A.f", fn0])] : List (Str × AV)) := by
  rw [set_one rfl (namesAn f2 rfl rfl) h]
  have : saidOf W0 a3 2 "f" = some (.t [.t [.t [.i 0, .c (.bool true)]], .s "m.A.f", fn0]) := by
    unfold saidOf
    rw [show hit W0 a3 "f" 2 = _ from hitA f2 rfl rfl (by decide)]; rfl
  simp only [saidAll, this]
/-- a first call on trees -/
noncomputable def CV0 (B : Bs) (A : Around) (E : Value → Shared → Prop) (f : Value) (args : List AV) (σ : Store) (Q : AV → Store → Prop) : Prop :=
  ∀ s vs, RepL s.heap args vs → GI0 B σ s → Frs B A σ s → codeAny (model B.prog B.w) A (.call f ⟨vs, []⟩) (CR B A E σ Q s) s
theorem CV0.go {n : Nat} (T : TopOk B mg mb) (hr : Room A (n + 1))
    {f : Addr} {oc : Value} {od : Option Addr} {name qual : Str} {params : Arguments} {body : List Stmt} {scope : Scope} {dV kV doc pm cdv ct : Value} {an : Option Addr} {osl : Array (Option Value)} {args : List AV} {Q : AV → Store → Prop}
    (ho : (KF B.w.params).lookup f = some ⟨oc, od, .func (fnOf name qual params body scope dV kV doc pm an cdv ct), osl⟩) (hcd : codeIn (KF B.w.params) cdv qual = true)
    (hb : ∀ s vs, vs.length = args.length → BindsTo s (fnOf name qual params body scope dV kV doc pm an cdv ct) ⟨vs, []⟩ ((params.args.map (·.arg)).zip vs))
    (hkind : (params.args.map (·.arg)).all (fun x => scope.names.lookup x == some .local || scope.names.lookup x == some .cell) = true) (hfree : scope.names.all (fun x => x.2 != .free) = true)
    (hnd : ((cellsFrom 0 scope.names []).map (·.1)).Nodup)
    (h : ∀ L E' A' (P : PP (defX B scope L) A' mg mb) (R : Room A' n), A' = A.deeper (fenv qual scope f cdv L) → xs (defX B scope L) A' (fenv qual scope f cdv L) E' body (bindsA ((params.args.map (·.arg)).zip args) fun _ => none) σ (Ends Q))
    (hco : scope.isCoroutine = false := by rfl) (hgen : scope.isGenerator = false := by rfl) (hkf : scope.kind = .function := by rfl) : CV0 B A E (.ref f) args σ Q := by
  refine enter_core0 (Er := fun _ => E) (extra := []) (xv := []) (names := params.args.map (·.arg)) (K := KF B.w.params) T.k T.t hr ho hcd (fun _ => .nil) (fun s vs hl _ => by rw [List.append_nil]; exact hb s vs hl) hkind hfree hnd (fun L s s₁ R En I => ?_) hco hgen hkf
  rw [List.append_nil] at I
  have h0 := h L (LV B.prog B.w (A.deeper (fenv qual scope f cdv L)) (fenv qual scope f cdv L) E) _ ⟨defX_ok, T.k, T.t⟩ R rfl
  refine wpAny_mono (h0 s₁ ⟨I.g, ⟨⟨I.f.e.fn, I.f.e.gl, I.f.e.bi, I.f.e.top, I.f.e.ownL, I.f.e.ownC, I.f.e.celAt, I.f.e.apart⟩, I.f.own, I.f.loc, I.f.cel⟩, I.fr, trivial⟩) (fun fl s'' ⟨afl, m', σ', fi, I', S', q⟩ => ⟨afl, σ', fi, I'.g, S', ?_⟩) fun _ _ y => y
  cases afl <;> exact q
theorem LW.ext {σ σ' : Store} {w d nd : Addr} {f rows : List (Str × AV)} {W : Wd} (x : Ext σ σ') (h : LW σ w d nd f rows W) : LW σ' w d nd f rows W :=
  ⟨x.at h.a, x.at h.b, h.c, h.e, x.at h.g, fun k r q => let ⟨ra, y, z⟩ := h.h k r q; ⟨ra, y, z.ext x⟩, h.refs, h.pos⟩
theorem c_law (T : TopOk B mg mb) (hr : Room A 9) {sa : Addr} {xs : List Int} (hx : HL B.hT sa (xs.map .i)) (hl : xs.length ≤ 900) : CV0 B A E (.ref 305) [.c (.ref sa)] σ (fun d _ => d = .c (.bool true)) := by
  refine CV0.go (by assumption) (by assumption) (by k_is) (by kernel_rfl) ?hb (by rfl) (by rfl) (by decide) ?_
  case hb => walk_at "binds"
  simp only [List.map_cons, List.map_nil, List.zip_cons_cons, List.zip_nil_left, List.zip_nil_right, bindsA]
  intro L E' A' P R hA
  have hlen : (xs.map AV.i).length ≤ 900 := by rw [List.length_map]; exact hl
  walk_at "go"
  refine ⟨fun k m' σ' => m' "script" = some (.c (.ref sa)), by walk_at "get", ⟨fun _ _ _ _ _ => trivial, ?_, ?_⟩⟩
  · rintro k d' m' σ' hd g1
    obtain ⟨hk, rfl⟩ := range_at hd
    have hk : k ≤ 1 := by omega
    walk_at "go"
    refine CV.vl (by walk_at "ok") (c_pool T (R.le (by decide)) hx hl hk fun c l hc hs => ?_)
    generalize σ'.set c (.lst l) = σ1 at *
    walk_at "go"
    refine CV.vl (by walk_at "ok") (c_lworld T (R.le (by decide)) hs fun σ2 w W hw hW => ?_)
    clear hs hc
    walk_at "go"
    refine ie_list (by walk_at "hh") ?_
    walk_at "go"
    intro nl hnl
    have hw2 := hw.ext (.new (o := .lst [.s "m.A", .s "m.B", .s "m.C", .s "m.D"]) hnl)
    have hn2 : (σ2.set nl (.lst [.s "m.A", .s "m.B", .s "m.C", .s "m.D"])) nl = some (.lst (N4.map .s)) := Store.set_self
    clear hw hnl
    generalize σ2.set nl (.lst [.s "m.A", .s "m.B", .s "m.C", .s "m.D"]) = σ3 at *
    walk_at "go"
    refine ⟨fun i m' σ' => WorldAt σ' w W ∧ σ' nl = some (.lst (N4.map .s)) ∧ m' "script" = some (.c (.ref sa)) ∧ m' "world" = some (.c (.ref w)), ⟨hw2, hn2, by walk_at "get", by walk_at "get"⟩, ⟨fun i m' σ' _ hj => hj.2.1, ?_, ?_⟩⟩
    · clear hw2 hn2
      rintro i d' m' σ' hd ⟨hw, hn, g1, g2⟩
      replace hd : (N4.map AV.s)[i]? = some d' := hd
      obtain ⟨nm, hnm, rfl⟩ := map_at hd
      have hnN := List.mem_of_getElem? hnm
      walk_at "go"
      refine ie_list (by walk_at "hh") ?_
      walk_at "go"
      intro tl htl
      have hw2 := hw.ext (.new (o := .lst [(Arg.t (.nm nm)).av, (Arg.p nm).av]) htl)
      have hn2 := Store.set_new (o' := .lst [(Arg.t (.nm nm)).av, (Arg.p nm).av]) htl hn
      have ht2 : (σ'.set tl (.lst [(Arg.t (.nm nm)).av, (Arg.p nm).av])) tl = some (.lst ([Arg.t (.nm nm), Arg.p nm].map Arg.av)) := Store.set_self
      clear hw hn htl
      rw [show AV.t [.s "named", .s nm] = (Arg.t (.nm nm)).av from rfl, show AV.t [.s "ptr", (Arg.t (.nm nm)).av] = (Arg.p nm).av from rfl]
      generalize σ'.set tl (.lst [(Arg.t (.nm nm)).av, (Arg.p nm).av]) = σ4 at *
      walk_at "go"
      refine ⟨fun i m' σ' => WorldAt σ' w W ∧ σ' nl = some (.lst (N4.map .s)) ∧ σ' tl = some (.lst ([Arg.t (.nm nm), Arg.p nm].map Arg.av)) ∧ m' "script" = some (.c (.ref sa)) ∧ m' "world" = some (.c (.ref w)), ⟨hw2, hn2, ht2, by walk_at "get", by walk_at "get"⟩, ⟨fun i m' σ' _ hj => hj.2.2.1, ?_, ?_⟩⟩
      · clear hw2 hn2 ht2
        rintro j d' m' σ' hd ⟨hw, hn, ht, g1, g2⟩
        replace hd : ([Arg.t (.nm nm), Arg.p nm].map Arg.av)[j]? = some d' := hd
        obtain ⟨a, ha, rfl⟩ := map_at hd
        have ha' : a = .t (.nm nm) ∨ a = .p nm := by simpa using List.mem_of_getElem? ha
        have hin : a.inner = .nm nm := by rcases ha' with rfl | rfl <;> rfl
        obtain ⟨row, hrow⟩ := hW.1 nm hnN
        have hkn : Known W a.inner := by rw [hin]; exact ⟨row, hrow⟩
        walk_at "go"
        refine CV.vl (by walk_at "ok") (c_mset T (R.le (by decide)) (NS := FGH) (D := 4) hw hkn (fun t ht => askOk4 hW hnN ha' ht) fun σ5 b1 l1 e5 nb1 hb1 hset => ?_)
        have hw5 := hw.ext e5
        have hn5 := e5.at hn
        have ht5 := e5.at ht
        clear hw hn ht e5 nb1
        walk_at "go"
        obtain ⟨lo1, lo2, lo3⟩ := lawOk hW hnN
        refine CV.vl (by walk_at "ok") (c_lmethods T (R.le (by decide)) hw5 (ha'.elim (fun h => .inr ⟨nm, h⟩) fun h => .inl (by rw [h]; rfl)) (by rw [hin]; exact pathOk3 hW hnN) (by rw [hin]; exact lo1) (by rw [hin]; exact lo2) (by rw [hin]; exact lo3) fun σ6 b2 l2 e6 nb2 hb2 hlaw => ?_)
        have hw6 := hw5.ext e6
        have hn6 := e6.at hn5
        have ht6 := e6.at ht5
        have hb6 := e6.at hb1
        clear hw5 hn5 ht5 e6 nb2 hb1
        walk_at "go"
        refine v2_dne T.sys (by have := R.u; show _ + 16 < 9900; omega) hb6 hb2 (same4 hW hnN ha' hset hlaw) ?_
        walk_at "go"
        exact ⟨hw6, hn6, ht6, by walk_at "get", by walk_at "get"⟩
      · clear hw2 hn2 ht2
        rintro m' σ' ⟨hw, hn, ht, g1, g2⟩
        walk_at "go"
        exact ⟨hw, hn, g1, g2⟩
    · clear hw2 hn2
      rintro m' σ' ⟨hw, hn, g1, g2⟩
      walk_at "go"
      exact g1
  · rintro m' σ' g1
    walk_at "go"
    refine CV.vl (by walk_at "ok") (c_World T (R.le (by decide)) fun σ1 w d nd rows f e1 _ _ _ w1 w2 w3 w4 w5 w6 w7 w8 => ?_)
    have hW := LW.new w1 w2 w3 w4 w5 w7 (by omega)
    have hrl : rows.length ≤ 1000 := by omega
    clear w1 w2 w3 w4 w5 w6 w7 e1
    walk_at "go"
    intro D hD
    walk_at "go"
    refine CV.vl (by walk_at "ok") (c_funcs T (R.le (by decide)) fun fc hfc => ?_)
    have e2 : Ext σ1 ((σ1.set D (.dct [])).set fc (.lst [fn0, fn0, fn1])) := (Ext.new hD).upd ((Ext.new hD).fresh hfc)
    have d2 : ((σ1.set D (.dct [])).set fc (.lst [fn0, fn0, fn1])) D = some (.dct []) := Store.set_new hfc Store.set_self
    have f2 : ((σ1.set D (.dct [])).set fc (.lst [fn0, fn0, fn1])) fc = some (.lst [fn0, fn0, fn1]) := Store.set_self
    clear hfc
    generalize (σ1.set D (.dct [])).set fc (.lst [fn0, fn0, fn1]) = σ2 at *
    walk_at "go"
    refine ⟨d2, ?_⟩
    have e3 : Ext σ1 (σ2.set D (.dct (rowsAv row0.ms))) := e2.upd hD
    have d3 : (σ2.set D (.dct (rowsAv row0.ms))) D = some (.dct (rowsAv row0.ms)) := Store.set_self
    rw [show puts [((Str.ofString "f"), AV.t [.c (.bool true), fn0, .s "m.A.f"])] = rowsAv row0.ms from rfl]
    generalize σ2.set D (.dct (rowsAv row0.ms)) = σ3 at *
    clear e2 d2 f2
    walk_at "go"
    refine CV.vl (by walk_at "ok") (c_NRow T (R.le (by decide)) fun σ4 xx dxx e4 _ _ hx4 hdx4 => ?_)
    have hRow : RowAt σ4 xx row0 := ⟨dxx, _, D, hx4, hdx4, by rfl, by rfl, e4.at d3⟩
    have hW4 := hW.ext (e3.trans e4)
    have hw5 : WorldAt (σ4.set nd (.dct (put rows "m.A" (.c (.ref xx))))) w W0 := (hW4.put hRow w8).world
    obtain ⟨w1, w2, w3, w4, w5, _, _, _⟩ := hW4
    clear hW e3 d3 e4 hRow
    walk_at "go"
    generalize σ4.set nd (.dct (put rows "m.A" (.c (.ref xx)))) = σ5 at *
    clear w1 w2 w5
    refine CV.vl (by walk_at "ok") (c_mset T (R.le (by decide)) (a := a1) (NS := ["f"]) (D := 2) hw5 ⟨row0, w0A⟩ (fun t ht => by cases ht; exact ask1) fun σ6 b1 l1 e6 _ hb1 hs1 => ?_)
    have hw6 := hw5.ext e6
    rw [set1 hs1] at hb1
    clear hw5 e6
    walk_at "go"
    intro c1 hc1
    have hb1' := Store.set_new (o' := .dct []) hc1 hb1
    have hc1' : (σ6.set c1 (.dct [])) c1 = some (.dct []) := Store.set_self
    have hw7 := hw6.ext (.new (o := .dct []) hc1)
    clear hw6 hb1 hc1
    generalize σ6.set c1 (.dct []) = σ7 at *
    refine v2_dne T.sys (by have := R.u; show _ + 16 < 9900; omega) hb1' hc1' ⟨rfl, by simp⟩ ?_
    walk_at "go"
    refine CV.vl (by walk_at "ok") (c_mset T (R.le (by decide)) (a := a2) (NS := ["f"]) (D := 2) hw7 trivial (fun t ht => by cases ht; exact askA f1 rfl rfl (by decide) (by intro z; cases z)) fun σ8 b2 l2 e8 _ hb2 hs2 => ?_)
    have hw8 := hw7.ext e8
    rw [set2 hs2] at hb2
    clear hw7 e8 hb1' hc1'
    walk_at "go"
    intro c2 hc2
    have hb2' := Store.set_new (o' := .dct []) hc2 hb2
    have hc2' : (σ8.set c2 (.dct [])) c2 = some (.dct []) := Store.set_self
    have hw9 := hw8.ext (.new (o := .dct []) hc2)
    clear hw8 hb2 hc2
    generalize σ8.set c2 (.dct []) = σ9 at *
    refine v2_dne T.sys (by have := R.u; show _ + 16 < 9900; omega) hb2' hc2' ⟨rfl, by simp⟩ ?_
    walk_at "go"
    refine CV.vl (by walk_at "ok") (c_mset T (R.le (by decide)) (a := a3) (NS := ["f"]) (D := 2) hw9 trivial (fun t ht => by cases ht; exact askA f2 rfl rfl (by decide) (by intro z; cases z)) fun σa b3 l3 ea _ hb3 hs3 => ?_)
    rw [set3 hs3] at hb3
    clear hw9 ea hb2' hc2'
    walk_at "go"
    intro D2 hD2
    walk_at "go"
    refine CV.vl (by walk_at "ok") (c_funcs T (R.le (by decide)) fun fc hfc => ?_)
    have n3 : b3 ≠ D2 := (ne_of_some hb3 hD2).symm
    have hb4 := Store.set_new (o' := .lst [fn0, fn0, fn1]) hfc (Store.set_new (o' := .dct []) hD2 hb3)
    have d4 : ((σa.set D2 (.dct [])).set fc (.lst [fn0, fn0, fn1])) D2 = some (.dct []) := Store.set_new hfc Store.set_self
    have f4 : ((σa.set D2 (.dct [])).set fc (.lst [fn0, fn0, fn1])) fc = some (.lst [fn0, fn0, fn1]) := Store.set_self
    clear hfc hb3
    generalize (σa.set D2 (.dct [])).set fc (.lst [fn0, fn0, fn1]) = σb at *
    walk_at "go"
    refine ⟨d4, ?_⟩
    refine v2_deq T.sys (by have := R.u; show _ + 16 < 9900; omega) ((Store.set_ne n3).trans hb4) Store.set_self ⟨rfl, fun q hq => ?_⟩ ?_
    · have : q = ((Str.ofString "f", AV.t [.t [.t [.i 0, .c (.bool true)]], .s "m.A.f", fn0]) : Str × AV) := by simpa using hq
      subst this
      exact ⟨rfl, rfl⟩
    walk_at "go"
theorem repInts {h : Heap} : ∀ {vs : List Value} {xs : List Int}, IntsAre vs xs → RepL h (xs.map .i) vs
  | _, _, .nil => RepL.nil
  | _, _, .cons n t r => by
    simp only [List.map_cons, RepL]
    exact ⟨_, _, rfl, Rep.int, repInts r⟩
theorem law_ends {w : World} {s₀ s₁ : Shared} {mg mb : Str → Option Value} {sa : Addr} {vs : List Value} {xs : List Int} (KX : (KF w.params).In s₁.heap) (TR : TopRead qv (looseW qv looseQ) mg mb s₁.heap) (hsys : s₁.heap.get? sysModules ≠ none) (hg : s₁.gens = #[])
    (hL : s₁.heap.IsList sa vs.toArray) (hI : IntsAre vs xs) (hl : xs.length ≤ 900) (args : List WData) (hpost : PySem.Challenge.rw_on0019_01.row.toRowW.claim.post args (.bool true) args = true) :
    codeAny (model PySem.Challenge.rw_on0019_01.row.toRowW.prog w) callerA (.call (.ref 305) ⟨[.ref sa], []⟩) (GoodWG PySem.Challenge.rw_on0019_01.row.toRowW.claim (classAt s₀.heap) (ExcName.means s₀.heap) args s₁) s₁ := by
  have T : TopOk ⟨PySem.Challenge.rw_on0019_01.row.toRowW.prog, w, s₁.heap⟩ mg mb := ⟨KX, TR, hsys⟩
  have hx : HL (Bs.hT ⟨PySem.Challenge.rw_on0019_01.row.toRowW.prog, w, s₁.heap⟩) sa (xs.map .i) := ⟨vs, hL, repInts hI⟩
  have hr : Room callerA 9 := ⟨rfl, by decide, by decide⟩
  have h := c_law T hr hx hl (E := fun _ _ => False) (σ := fun _ => none) s₁ [.ref sa] (by simp only [RepL]; exact ⟨_, _, rfl, Rep.val, rfl⟩) ⟨fun _ _ e => e, fun _ h => absurd rfl h, Nat.le_refl _, fun _ _ e => by cases e⟩ ⟨⟨[], rfl, trivial, fun _ h => by cases h⟩⟩
  refine codeAny_mono h fun r s' g => ?_
  match r, g with
  | .ok (.ret v), g =>
    obtain ⟨d, σ', rv, _, S, rfl⟩ := g
    simp only [Rep] at rv
    subst rv
    obtain ⟨h', tk, hs'⟩ := S.same
    refine ⟨.inl ⟨_, .bool true, [], rfl, fun _ => rfl, ReadsW.bool true, hpost, fun _ => ⟨List.nodup_nil, fun _ hm => (nomatch hm)⟩⟩, .of_keep fun b o e => S.keep b o e rfl (fun z => z) ?_, by rw [hs'], .of_eq (by rw [hs']; exact hg)⟩
    rintro ⟨outer, h1, e, he, _⟩
    cases h1
    cases he
end Mine
theorem PySem.Challenge.cw_on0019_01_holds : PySem.Challenge.rw_on0019_01.Holds := by
  refine Mine.hd ?_
  intro w s₀ s₁ mg mb G Y fa o pm cd doc dV kV ho hdat hcd hD hmg hg args vals as hpre hlay hrd hwl hlo
  have KX : (Mine.KF w.params).In s₁.heap := kIn_of Y
  refine Ground.open G ?_
  intro T B D TE TW
  have TR := topRead_of T
  have e305 : nsIn (Mine.KF w.params) mainGlobals "law" = some (some (.ref 305)) := by k_is
  have hfa := mg_of KX TR.g e305
  wrow_args hpre hlay hrd hwl hlo
  rename_i xs _ _ _ _ as2 as3 sa vs as4 hL ra wl r0 hI r1 hlen _
  have efa : fa = 305 := by
    rw [Mine.d_name] at hmg
    have := hmg.symm.trans hfa
    cases this; rfl
  subst efa
  refine enter_call ?_
  have hseer := T.seer (by kernel_rfl)
  refine Mine.law_ends KX TR ?_ hg hL hI (by omega) _ ?_
  · obtain ⟨mm, ⟨_, _, _, h1, _⟩, _⟩ := hseer.mods
    intro z
    rw [z] at h1; cases h1
  · wrow_post
