import PyProof.Rows.All
import Wide.All
import OpenK.AllK
import Wide.FinOn
import Lean
import PySem.Challenge.RW_nz0336_01
open PySem PySem.W PyProof.Rows PySem.Calls PySem.Spec
set_option Elab.async false
set_option linter.all false
set_option compiler.extract_closed false
set_option maxRecDepth 1000000
set_option maxHeartbeats 0
namespace Mine
/-! the program's parts, as projections of the program -/
noncomputable abbrev pw : Program := PySem.Challenge.pw_nz0336_01
noncomputable def stm (i : Nat) : Stmt := (pw.main.body[i]?).getD (.Pass ⟨0, 0, 0, 0⟩)
noncomputable def sArgs : Stmt → Arguments
  | .FunctionDef _ a _ _ _ _ _ _ _ _ => a
  | _ => ⟨[], [], none, [], [], none, []⟩
noncomputable def sBody : Stmt → List Stmt
  | .FunctionDef _ _ b _ _ _ _ _ _ _ => b
  | .ClassDef _ _ _ b _ _ _ _ _ _ _ => b
  | _ => []
noncomputable def sScope : Stmt → Scope
  | .FunctionDef _ _ _ _ _ _ s _ _ _ => s
  | _ => { kind := .function, names := [], isGenerator := false, isCoroutine := false }
noncomputable def sub (i j : Nat) : Stmt := ((sBody (stm i))[j]?).getD (.Pass ⟨0, 0, 0, 0⟩)
@[reducible] noncomputable def A21 : Arguments := by refine Subtype.val (p := fun x => sArgs (stm 1) = x) ⟨?_, ?h⟩; case h => conv => lhs; whnf
@[reducible] noncomputable def B21 : List Stmt := by refine Subtype.val (p := fun x => sBody (stm 1) = x) ⟨?_, ?h⟩; case h => conv => lhs; whnf
@[reducible] noncomputable def S21 : Scope := by refine Subtype.val (p := fun x => sScope (stm 1) = x) ⟨?_, ?h⟩; case h => conv => lhs; whnf
@[reducible] noncomputable def A28 : Arguments := by refine Subtype.val (p := fun x => sArgs (stm 2) = x) ⟨?_, ?h⟩; case h => conv => lhs; whnf
@[reducible] noncomputable def B28 : List Stmt := by refine Subtype.val (p := fun x => sBody (stm 2) = x) ⟨?_, ?h⟩; case h => conv => lhs; whnf
@[reducible] noncomputable def S28 : Scope := by refine Subtype.val (p := fun x => sScope (stm 2) = x) ⟨?_, ?h⟩; case h => conv => lhs; whnf
@[reducible] noncomputable def A33 : Arguments := by refine Subtype.val (p := fun x => sArgs (stm 3) = x) ⟨?_, ?h⟩; case h => conv => lhs; whnf
@[reducible] noncomputable def B33 : List Stmt := by refine Subtype.val (p := fun x => sBody (stm 3) = x) ⟨?_, ?h⟩; case h => conv => lhs; whnf
@[reducible] noncomputable def S33 : Scope := by refine Subtype.val (p := fun x => sScope (stm 3) = x) ⟨?_, ?h⟩; case h => conv => lhs; whnf
@[reducible] noncomputable def A40 : Arguments := by refine Subtype.val (p := fun x => sArgs (stm 4) = x) ⟨?_, ?h⟩; case h => conv => lhs; whnf
@[reducible] noncomputable def B40 : List Stmt := by refine Subtype.val (p := fun x => sBody (stm 4) = x) ⟨?_, ?h⟩; case h => conv => lhs; whnf
@[reducible] noncomputable def S40 : Scope := by refine Subtype.val (p := fun x => sScope (stm 4) = x) ⟨?_, ?h⟩; case h => conv => lhs; whnf
@[reducible] noncomputable def A111 : Arguments := by refine Subtype.val (p := fun x => sArgs (stm 14) = x) ⟨?_, ?h⟩; case h => conv => lhs; whnf
@[reducible] noncomputable def B111 : List Stmt := by refine Subtype.val (p := fun x => sBody (stm 14) = x) ⟨?_, ?h⟩; case h => conv => lhs; whnf
@[reducible] noncomputable def S111 : Scope := by refine Subtype.val (p := fun x => sScope (stm 14) = x) ⟨?_, ?h⟩; case h => conv => lhs; whnf
@[reducible] noncomputable def A118 : Arguments := by refine Subtype.val (p := fun x => sArgs (stm 15) = x) ⟨?_, ?h⟩; case h => conv => lhs; whnf
@[reducible] noncomputable def B118 : List Stmt := by refine Subtype.val (p := fun x => sBody (stm 15) = x) ⟨?_, ?h⟩; case h => conv => lhs; whnf
@[reducible] noncomputable def S118 : Scope := by refine Subtype.val (p := fun x => sScope (stm 15) = x) ⟨?_, ?h⟩; case h => conv => lhs; whnf
@[reducible] noncomputable def A125 : Arguments := by refine Subtype.val (p := fun x => sArgs (stm 16) = x) ⟨?_, ?h⟩; case h => conv => lhs; whnf
@[reducible] noncomputable def B125 : List Stmt := by refine Subtype.val (p := fun x => sBody (stm 16) = x) ⟨?_, ?h⟩; case h => conv => lhs; whnf
@[reducible] noncomputable def S125 : Scope := by refine Subtype.val (p := fun x => sScope (stm 16) = x) ⟨?_, ?h⟩; case h => conv => lhs; whnf
@[reducible] noncomputable def A139 : Arguments := by refine Subtype.val (p := fun x => sArgs (sub 17 0) = x) ⟨?_, ?h⟩; case h => conv => lhs; whnf
@[reducible] noncomputable def B139 : List Stmt := by refine Subtype.val (p := fun x => sBody (sub 17 0) = x) ⟨?_, ?h⟩; case h => conv => lhs; whnf
@[reducible] noncomputable def S139 : Scope := by refine Subtype.val (p := fun x => sScope (sub 17 0) = x) ⟨?_, ?h⟩; case h => conv => lhs; whnf
@[reducible] noncomputable def A146 : Arguments := by refine Subtype.val (p := fun x => sArgs (sub 17 1) = x) ⟨?_, ?h⟩; case h => conv => lhs; whnf
@[reducible] noncomputable def B146 : List Stmt := by refine Subtype.val (p := fun x => sBody (sub 17 1) = x) ⟨?_, ?h⟩; case h => conv => lhs; whnf
@[reducible] noncomputable def S146 : Scope := by refine Subtype.val (p := fun x => sScope (sub 17 1) = x) ⟨?_, ?h⟩; case h => conv => lhs; whnf
@[reducible] noncomputable def A607 : Arguments := by refine Subtype.val (p := fun x => sArgs (stm 102) = x) ⟨?_, ?h⟩; case h => conv => lhs; whnf
@[reducible] noncomputable def B607 : List Stmt := by refine Subtype.val (p := fun x => sBody (stm 102) = x) ⟨?_, ?h⟩; case h => conv => lhs; whnf
@[reducible] noncomputable def S607 : Scope := by refine Subtype.val (p := fun x => sScope (stm 102) = x) ⟨?_, ?h⟩; case h => conv => lhs; whnf
@[reducible] noncomputable def A614 : Arguments := by refine Subtype.val (p := fun x => sArgs (stm 103) = x) ⟨?_, ?h⟩; case h => conv => lhs; whnf
@[reducible] noncomputable def B614 : List Stmt := by refine Subtype.val (p := fun x => sBody (stm 103) = x) ⟨?_, ?h⟩; case h => conv => lhs; whnf
@[reducible] noncomputable def S614 : Scope := by refine Subtype.val (p := fun x => sScope (stm 103) = x) ⟨?_, ?h⟩; case h => conv => lhs; whnf
@[reducible] noncomputable def A621 : Arguments := by refine Subtype.val (p := fun x => sArgs (stm 104) = x) ⟨?_, ?h⟩; case h => conv => lhs; whnf
@[reducible] noncomputable def B621 : List Stmt := by refine Subtype.val (p := fun x => sBody (stm 104) = x) ⟨?_, ?h⟩; case h => conv => lhs; whnf
@[reducible] noncomputable def S621 : Scope := by refine Subtype.val (p := fun x => sScope (stm 104) = x) ⟨?_, ?h⟩; case h => conv => lhs; whnf
@[reducible] noncomputable def A694 : Arguments := by refine Subtype.val (p := fun x => sArgs (sub 121 0) = x) ⟨?_, ?h⟩; case h => conv => lhs; whnf
@[reducible] noncomputable def B694 : List Stmt := by refine Subtype.val (p := fun x => sBody (sub 121 0) = x) ⟨?_, ?h⟩; case h => conv => lhs; whnf
@[reducible] noncomputable def S694 : Scope := by refine Subtype.val (p := fun x => sScope (sub 121 0) = x) ⟨?_, ?h⟩; case h => conv => lhs; whnf
@[reducible] noncomputable def A786 : Arguments := by refine Subtype.val (p := fun x => sArgs (stm 133) = x) ⟨?_, ?h⟩; case h => conv => lhs; whnf
@[reducible] noncomputable def B786 : List Stmt := by refine Subtype.val (p := fun x => sBody (stm 133) = x) ⟨?_, ?h⟩; case h => conv => lhs; whnf
@[reducible] noncomputable def S786 : Scope := by refine Subtype.val (p := fun x => sScope (stm 133) = x) ⟨?_, ?h⟩; case h => conv => lhs; whnf
@[reducible] noncomputable def A793 : Arguments := by refine Subtype.val (p := fun x => sArgs (stm 134) = x) ⟨?_, ?h⟩; case h => conv => lhs; whnf
@[reducible] noncomputable def B793 : List Stmt := by refine Subtype.val (p := fun x => sBody (stm 134) = x) ⟨?_, ?h⟩; case h => conv => lhs; whnf
@[reducible] noncomputable def S793 : Scope := by refine Subtype.val (p := fun x => sScope (stm 134) = x) ⟨?_, ?h⟩; case h => conv => lhs; whnf
@[reducible] noncomputable def A800 : Arguments := by refine Subtype.val (p := fun x => sArgs (stm 135) = x) ⟨?_, ?h⟩; case h => conv => lhs; whnf
@[reducible] noncomputable def B800 : List Stmt := by refine Subtype.val (p := fun x => sBody (stm 135) = x) ⟨?_, ?h⟩; case h => conv => lhs; whnf
@[reducible] noncomputable def S800 : Scope := by refine Subtype.val (p := fun x => sScope (stm 135) = x) ⟨?_, ?h⟩; case h => conv => lhs; whnf
@[reducible] noncomputable def A807 : Arguments := by refine Subtype.val (p := fun x => sArgs (stm 136) = x) ⟨?_, ?h⟩; case h => conv => lhs; whnf
@[reducible] noncomputable def B807 : List Stmt := by refine Subtype.val (p := fun x => sBody (stm 136) = x) ⟨?_, ?h⟩; case h => conv => lhs; whnf
@[reducible] noncomputable def S807 : Scope := by refine Subtype.val (p := fun x => sScope (stm 136) = x) ⟨?_, ?h⟩; case h => conv => lhs; whnf
@[reducible] noncomputable def A814 : Arguments := by refine Subtype.val (p := fun x => sArgs (stm 137) = x) ⟨?_, ?h⟩; case h => conv => lhs; whnf
@[reducible] noncomputable def B814 : List Stmt := by refine Subtype.val (p := fun x => sBody (stm 137) = x) ⟨?_, ?h⟩; case h => conv => lhs; whnf
@[reducible] noncomputable def S814 : Scope := by refine Subtype.val (p := fun x => sScope (stm 137) = x) ⟨?_, ?h⟩; case h => conv => lhs; whnf
@[reducible] noncomputable def A819 : Arguments := by refine Subtype.val (p := fun x => sArgs (stm 138) = x) ⟨?_, ?h⟩; case h => conv => lhs; whnf
@[reducible] noncomputable def B819 : List Stmt := by refine Subtype.val (p := fun x => sBody (stm 138) = x) ⟨?_, ?h⟩; case h => conv => lhs; whnf
@[reducible] noncomputable def S819 : Scope := by refine Subtype.val (p := fun x => sScope (stm 138) = x) ⟨?_, ?h⟩; case h => conv => lhs; whnf
@[reducible] noncomputable def A826 : Arguments := by refine Subtype.val (p := fun x => sArgs (stm 139) = x) ⟨?_, ?h⟩; case h => conv => lhs; whnf
@[reducible] noncomputable def B826 : List Stmt := by refine Subtype.val (p := fun x => sBody (stm 139) = x) ⟨?_, ?h⟩; case h => conv => lhs; whnf
@[reducible] noncomputable def S826 : Scope := by refine Subtype.val (p := fun x => sScope (stm 139) = x) ⟨?_, ?h⟩; case h => conv => lhs; whnf
@[reducible] noncomputable def A831 : Arguments := by refine Subtype.val (p := fun x => sArgs (stm 141) = x) ⟨?_, ?h⟩; case h => conv => lhs; whnf
@[reducible] noncomputable def B831 : List Stmt := by refine Subtype.val (p := fun x => sBody (stm 141) = x) ⟨?_, ?h⟩; case h => conv => lhs; whnf
@[reducible] noncomputable def S831 : Scope := by refine Subtype.val (p := fun x => sScope (stm 141) = x) ⟨?_, ?h⟩; case h => conv => lhs; whnf
@[reducible] noncomputable def A838 : Arguments := by refine Subtype.val (p := fun x => sArgs (stm 142) = x) ⟨?_, ?h⟩; case h => conv => lhs; whnf
@[reducible] noncomputable def B838 : List Stmt := by refine Subtype.val (p := fun x => sBody (stm 142) = x) ⟨?_, ?h⟩; case h => conv => lhs; whnf
@[reducible] noncomputable def S838 : Scope := by refine Subtype.val (p := fun x => sScope (stm 142) = x) ⟨?_, ?h⟩; case h => conv => lhs; whnf
@[reducible] noncomputable def A843 : Arguments := by refine Subtype.val (p := fun x => sArgs (stm 143) = x) ⟨?_, ?h⟩; case h => conv => lhs; whnf
@[reducible] noncomputable def B843 : List Stmt := by refine Subtype.val (p := fun x => sBody (stm 143) = x) ⟨?_, ?h⟩; case h => conv => lhs; whnf
@[reducible] noncomputable def S843 : Scope := by refine Subtype.val (p := fun x => sScope (stm 143) = x) ⟨?_, ?h⟩; case h => conv => lhs; whnf
@[reducible] noncomputable def A848 : Arguments := by refine Subtype.val (p := fun x => sArgs (stm 144) = x) ⟨?_, ?h⟩; case h => conv => lhs; whnf
@[reducible] noncomputable def B848 : List Stmt := by refine Subtype.val (p := fun x => sBody (stm 144) = x) ⟨?_, ?h⟩; case h => conv => lhs; whnf
@[reducible] noncomputable def S848 : Scope := by refine Subtype.val (p := fun x => sScope (stm 144) = x) ⟨?_, ?h⟩; case h => conv => lhs; whnf
@[reducible] noncomputable def A857 : Arguments := by refine Subtype.val (p := fun x => sArgs (stm 148) = x) ⟨?_, ?h⟩; case h => conv => lhs; whnf
@[reducible] noncomputable def B857 : List Stmt := by refine Subtype.val (p := fun x => sBody (stm 148) = x) ⟨?_, ?h⟩; case h => conv => lhs; whnf
@[reducible] noncomputable def S857 : Scope := by refine Subtype.val (p := fun x => sScope (stm 148) = x) ⟨?_, ?h⟩; case h => conv => lhs; whnf
@[reducible] noncomputable def A862 : Arguments := by refine Subtype.val (p := fun x => sArgs (stm 149) = x) ⟨?_, ?h⟩; case h => conv => lhs; whnf
@[reducible] noncomputable def B862 : List Stmt := by refine Subtype.val (p := fun x => sBody (stm 149) = x) ⟨?_, ?h⟩; case h => conv => lhs; whnf
@[reducible] noncomputable def S862 : Scope := by refine Subtype.val (p := fun x => sScope (stm 149) = x) ⟨?_, ?h⟩; case h => conv => lhs; whnf
@[reducible] noncomputable def A869 : Arguments := by refine Subtype.val (p := fun x => sArgs (stm 150) = x) ⟨?_, ?h⟩; case h => conv => lhs; whnf
@[reducible] noncomputable def B869 : List Stmt := by refine Subtype.val (p := fun x => sBody (stm 150) = x) ⟨?_, ?h⟩; case h => conv => lhs; whnf
@[reducible] noncomputable def S869 : Scope := by refine Subtype.val (p := fun x => sScope (stm 150) = x) ⟨?_, ?h⟩; case h => conv => lhs; whnf
@[reducible] noncomputable def A876 : Arguments := by refine Subtype.val (p := fun x => sArgs (stm 151) = x) ⟨?_, ?h⟩; case h => conv => lhs; whnf
@[reducible] noncomputable def B876 : List Stmt := by refine Subtype.val (p := fun x => sBody (stm 151) = x) ⟨?_, ?h⟩; case h => conv => lhs; whnf
@[reducible] noncomputable def S876 : Scope := by refine Subtype.val (p := fun x => sScope (stm 151) = x) ⟨?_, ?h⟩; case h => conv => lhs; whnf
@[reducible] noncomputable def A881 : Arguments := by refine Subtype.val (p := fun x => sArgs (stm 152) = x) ⟨?_, ?h⟩; case h => conv => lhs; whnf
@[reducible] noncomputable def B881 : List Stmt := by refine Subtype.val (p := fun x => sBody (stm 152) = x) ⟨?_, ?h⟩; case h => conv => lhs; whnf
@[reducible] noncomputable def S881 : Scope := by refine Subtype.val (p := fun x => sScope (stm 152) = x) ⟨?_, ?h⟩; case h => conv => lhs; whnf
@[reducible] noncomputable def A888 : Arguments := by refine Subtype.val (p := fun x => sArgs (stm 153) = x) ⟨?_, ?h⟩; case h => conv => lhs; whnf
@[reducible] noncomputable def B888 : List Stmt := by refine Subtype.val (p := fun x => sBody (stm 153) = x) ⟨?_, ?h⟩; case h => conv => lhs; whnf
@[reducible] noncomputable def S888 : Scope := by refine Subtype.val (p := fun x => sScope (stm 153) = x) ⟨?_, ?h⟩; case h => conv => lhs; whnf
@[reducible] noncomputable def A893 : Arguments := by refine Subtype.val (p := fun x => sArgs (stm 154) = x) ⟨?_, ?h⟩; case h => conv => lhs; whnf
@[reducible] noncomputable def B893 : List Stmt := by refine Subtype.val (p := fun x => sBody (stm 154) = x) ⟨?_, ?h⟩; case h => conv => lhs; whnf
@[reducible] noncomputable def S893 : Scope := by refine Subtype.val (p := fun x => sScope (stm 154) = x) ⟨?_, ?h⟩; case h => conv => lhs; whnf
noncomputable def o11 (P : Params) : Obj := ⟨(.type "tuple"), none, .seq #[] 0, #[]⟩
noncomputable def o12 (P : Params) : Obj := ⟨.none, none, .fields #[], #[]⟩
noncomputable def o13 (P : Params) : Obj := ⟨(.type "code"), none, .fields #[(.str (Str.ofString "<module>") 182), (.str (Str.ofString "<module>") 183), (.str (Str.ofString "/claim/cut.py") 184), (.int (1) 0), (.int (0) 0), (.int (0) 0), (.int (0) 0), (.int (0) 0), (.ref 11), (.bool false), (.int (181) 0), (.ref 12), .none, .none, .none, .none, (.int (185) 0), (.int (1) 0), (.str (Str.ofString "/claim/cut.py") 186)], #[]⟩
noncomputable def o14 (P : Params) : Obj := ⟨(.type "frame"), none, .plain, #[(some (.ref 13)), (some (.ref 3)), (some (.ref 3)), none, (some (.str (Str.ofString "__main__") 164)), none, (some (.ref 0))]⟩
noncomputable def heap0 (P : Params) : Heap := ⟨#[boot_o_0 P, boot_o_1 P, boot_o_2 P, boot_o_3 P, boot_o_4 P, boot_o_5 P, boot_o_6 P, boot_o_7 P, boot_o_8 P, boot_o_9 P, boot_o_10 P, o11 P, o12 P, o13 P, o14 P], {}⟩
noncomputable abbrev st0 (w : World) (os : OsState) : Shared := ⟨heap0 w.params, #[], {}, 187, os⟩
noncomputable abbrev pos0 : Pos := ⟨0, 0, 0, 0⟩
noncomputable def o2x16 (P : Params) : Obj := ⟨.none, none, .dict #[⟨PyData.keyHash P (Str.ofString "type.__subclasses__.Exception.0"), .str (Str.ofString "type.__subclasses__.Exception.0") 261, (.int (65) 0)⟩, ⟨PyData.keyHash P (Str.ofString "type.__subclasses__.Exception.n"), .str (Str.ofString "type.__subclasses__.Exception.n") 262, (.int (1) 0)⟩] 2, #[]⟩
noncomputable def o3x16 (P : Params) : Obj := ⟨(.type "dict"), none, .dict #[⟨PyData.keyHash P (Str.ofString "__name__"), .str (Str.ofString "__name__") 165, (.str (Str.ofString "postkeep.boxes") 313)⟩, ⟨PyData.keyHash P (Str.ofString "__doc__"), .str (Str.ofString "__doc__") 166, .none⟩, ⟨PyData.keyHash P (Str.ofString "__package__"), .str (Str.ofString "__package__") 167, .none⟩, ⟨PyData.keyHash P (Str.ofString "__loader__"), .str (Str.ofString "__loader__") 168, (.builtin "__main__.__loader__#opaque")⟩, ⟨PyData.keyHash P (Str.ofString "__spec__"), .str (Str.ofString "__spec__") 169, .none⟩, ⟨PyData.keyHash P (Str.ofString "__annotations__"), .str (Str.ofString "__annotations__") 170, (.ref 6)⟩, ⟨PyData.keyHash P (Str.ofString "__builtins__"), .str (Str.ofString "__builtins__") 171, (.ref 4)⟩, ⟨PyData.keyHash P (Str.ofString "__file__"), .str (Str.ofString "__file__") 173, (.str (Str.ofString "/claim/cut.py") 172)⟩, ⟨PyData.keyHash P (Str.ofString "__cached__"), .str (Str.ofString "__cached__") 174, .none⟩, ⟨PyData.keyHash P (Str.ofString "row_of"), .str (Str.ofString "row_of") 196, (.ref 21)⟩, ⟨PyData.keyHash P (Str.ofString "leaves_of"), .str (Str.ofString "leaves_of") 206, (.ref 28)⟩, ⟨PyData.keyHash P (Str.ofString "has_kind"), .str (Str.ofString "has_kind") 212, (.ref 33)⟩, ⟨PyData.keyHash P (Str.ofString "decide"), .str (Str.ofString "decide") 222, (.ref 40)⟩, ⟨PyData.keyHash P (Str.ofString "PostError"), .str (Str.ofString "PostError") 264, (.ref 65)⟩, ⟨PyData.keyHash P (Str.ofString "WordFault"), .str (Str.ofString "WordFault") 280, (.ref 78)⟩, ⟨PyData.keyHash P (Str.ofString "MimeFault"), .str (Str.ofString "MimeFault") 296, (.ref 90)⟩, ⟨PyData.keyHash P (Str.ofString "StoreFault"), .str (Str.ofString "StoreFault") 312, (.ref 102)⟩, ⟨PyData.keyHash P (Str.ofString "SYSTEM"), .str (Str.ofString "SYSTEM") 316, (.str (Str.ofString "\\Seen \\Answered \\Flagged \\Deleted \\Draft") 315)⟩, ⟨PyData.keyHash P (Str.ofString "NO_KEYWORD"), .str (Str.ofString "NO_KEYWORD") 318, (.str (Str.ofString "(){ %*\"\\]") 317)⟩, ⟨PyData.keyHash P (Str.ofString "MOST_KEYWORD"), .str (Str.ofString "MOST_KEYWORD") 320, (.int (60) 319)⟩, ⟨PyData.keyHash P (Str.ofString "system_flags"), .str (Str.ofString "system_flags") 326, (.ref 111)⟩, ⟨PyData.keyHash P (Str.ofString "is_keyword"), .str (Str.ofString "is_keyword") 334, (.ref 118)⟩] 22, #[]⟩
noncomputable def o12x16 (P : Params) : Obj := ⟨.none, none, .fields #[(.int (2) 0), (.int (0) 0), (.ref 20), (.int (9) 0), (.int (0) 0), (.ref 27), (.int (20) 0), (.int (0) 0), (.ref 32), (.int (22) 0), (.int (0) 0), (.ref 39), (.int (37) 0), (.int (0) 0), (.ref 46), (.int (46) 0), (.int (0) 0), (.ref 74), (.int (48) 0), (.int (0) 0), (.ref 86), (.int (50) 0), (.int (0) 0), (.ref 98), (.int (56) 0), (.int (0) 0), (.ref 110), (.int (58) 0), (.int (0) 0), (.ref 117)], #[]⟩
noncomputable def o15 (P : Params) : Obj := ⟨(.type "tuple"), none, .seq #[] 0, #[]⟩
noncomputable def o16 (P : Params) : Obj := ⟨.none, none, .fields #[], #[]⟩
noncomputable def o17 (P : Params) : Obj := ⟨(.type "tuple"), none, .seq #[(.str (Str.ofString "tree") 192), (.str (Str.ofString "found") 193)] 0, #[]⟩
noncomputable def o18 (P : Params) : Obj := ⟨(.type "tuple"), none, .seq #[] 0, #[]⟩
noncomputable def o19 (P : Params) : Obj := ⟨.none, none, .func ⟨(Str.ofString "row_of"), (Str.ofString "row_of"), (sArgs (stm 1)), .stmts (sBody (stm 1)), (sScope (stm 1)), 0, [], .none, .none, .none, .none, none, .none, .none, 0⟩, #[]⟩
noncomputable def o20 (P : Params) : Obj := ⟨(.type "code"), none, .fields #[(.str (Str.ofString "row_of") 189), (.str (Str.ofString "row_of") 190), (.str (Str.ofString "/claim/cut.py") 191), (.int (2) 0), (.int (1) 0), (.int (0) 0), (.int (0) 0), (.int (3) 0), (.ref 15), (.bool true), (.int (181) 0), (.ref 16), .none, (.ref 17), (.ref 18), (.ref 19), (.int (194) 0), (.int (2) 0), (.str (Str.ofString "/claim/cut.py") 195)], #[]⟩
@[reducible] noncomputable def o21 (P : Params) : Obj := ⟨(.type "function"), none, .func ⟨(Str.ofString "row_of"), (Str.ofString "row_of"), A21, .stmts B21, S21, 3, [], .none, .none, .none, (.str (Str.ofString "postkeep.query") 187), none, (.ref 20), .none, 0⟩, #[]⟩
noncomputable def o22 (P : Params) : Obj := ⟨(.type "tuple"), none, .seq #[] 0, #[]⟩
noncomputable def o23 (P : Params) : Obj := ⟨.none, none, .fields #[], #[]⟩
noncomputable def o24 (P : Params) : Obj := ⟨(.type "tuple"), none, .seq #[(.str (Str.ofString "tree") 200), (.str (Str.ofString "found") 201), (.str (Str.ofString "left") 202), (.str (Str.ofString "here") 203)] 0, #[]⟩
noncomputable def o25 (P : Params) : Obj := ⟨(.type "tuple"), none, .seq #[] 0, #[]⟩
noncomputable def o26 (P : Params) : Obj := ⟨.none, none, .func ⟨(Str.ofString "leaves_of"), (Str.ofString "leaves_of"), (sArgs (stm 2)), .stmts (sBody (stm 2)), (sScope (stm 2)), 0, [], .none, .none, .none, .none, none, .none, .none, 0⟩, #[]⟩
noncomputable def o27 (P : Params) : Obj := ⟨(.type "code"), none, .fields #[(.str (Str.ofString "leaves_of") 197), (.str (Str.ofString "leaves_of") 198), (.str (Str.ofString "/claim/cut.py") 199), (.int (9) 0), (.int (1) 0), (.int (0) 0), (.int (0) 0), (.int (3) 0), (.ref 22), (.bool true), (.int (181) 0), (.ref 23), .none, (.ref 24), (.ref 25), (.ref 26), (.int (204) 0), (.int (9) 0), (.str (Str.ofString "/claim/cut.py") 205)], #[]⟩
@[reducible] noncomputable def o28 (P : Params) : Obj := ⟨(.type "function"), none, .func ⟨(Str.ofString "leaves_of"), (Str.ofString "leaves_of"), A28, .stmts B28, S28, 3, [], .none, .none, .none, (.str (Str.ofString "postkeep.query") 187), none, (.ref 27), .none, 0⟩, #[]⟩
noncomputable def o29 (P : Params) : Obj := ⟨(.type "tuple"), none, .seq #[] 0, #[]⟩
noncomputable def o30 (P : Params) : Obj := ⟨.none, none, .fields #[], #[]⟩
noncomputable def o31 (P : Params) : Obj := ⟨.none, none, .func ⟨(Str.ofString "has_kind"), (Str.ofString "has_kind"), (sArgs (stm 3)), .stmts (sBody (stm 3)), (sScope (stm 3)), 0, [], .none, .none, .none, .none, none, .none, .none, 0⟩, #[]⟩
noncomputable def o32 (P : Params) : Obj := ⟨(.type "code"), none, .fields #[(.str (Str.ofString "has_kind") 207), (.str (Str.ofString "has_kind") 208), (.str (Str.ofString "/claim/cut.py") 209), (.int (20) 0), (.int (2) 0), (.int (0) 0), (.int (0) 0), (.int (3) 0), (.ref 29), (.bool true), (.int (181) 0), (.ref 30), .none, .none, .none, (.ref 31), (.int (210) 0), (.int (20) 0), (.str (Str.ofString "/claim/cut.py") 211)], #[]⟩
@[reducible] noncomputable def o33 (P : Params) : Obj := ⟨(.type "function"), none, .func ⟨(Str.ofString "has_kind"), (Str.ofString "has_kind"), A33, .stmts B33, S33, 3, [], .none, .none, .none, (.str (Str.ofString "postkeep.query") 187), none, (.ref 32), .none, 0⟩, #[]⟩
noncomputable def o34 (P : Params) : Obj := ⟨(.type "tuple"), none, .seq #[] 0, #[]⟩
noncomputable def o35 (P : Params) : Obj := ⟨.none, none, .fields #[], #[]⟩
noncomputable def o36 (P : Params) : Obj := ⟨(.type "tuple"), none, .seq #[(.str (Str.ofString "tree") 216), (.str (Str.ofString "holds") 217), (.str (Str.ofString "kind") 218), (.str (Str.ofString "part") 219)] 0, #[]⟩
noncomputable def o37 (P : Params) : Obj := ⟨(.type "tuple"), none, .seq #[] 0, #[]⟩
noncomputable def o38 (P : Params) : Obj := ⟨.none, none, .func ⟨(Str.ofString "decide"), (Str.ofString "decide"), (sArgs (stm 4)), .stmts (sBody (stm 4)), (sScope (stm 4)), 0, [], .none, .none, .none, .none, none, .none, .none, 0⟩, #[]⟩
noncomputable def o39 (P : Params) : Obj := ⟨(.type "code"), none, .fields #[(.str (Str.ofString "decide") 213), (.str (Str.ofString "decide") 214), (.str (Str.ofString "/claim/cut.py") 215), (.int (22) 0), (.int (2) 0), (.int (0) 0), (.int (0) 0), (.int (3) 0), (.ref 34), (.bool true), (.int (181) 0), (.ref 35), .none, (.ref 36), (.ref 37), (.ref 38), (.int (220) 0), (.int (22) 0), (.str (Str.ofString "/claim/cut.py") 221)], #[]⟩
@[reducible] noncomputable def o40 (P : Params) : Obj := ⟨(.type "function"), none, .func ⟨(Str.ofString "decide"), (Str.ofString "decide"), A40, .stmts B40, S40, 3, [], .none, .none, .none, (.str (Str.ofString "postkeep.query") 187), none, (.ref 39), .none, 0⟩, #[]⟩
noncomputable def o41 (P : Params) : Obj := ⟨(.type "tuple"), none, .seq #[(.type "Exception")] 0, #[]⟩
noncomputable def o42 (P : Params) : Obj := ⟨(.type "builtin_function_or_method"), none, .fields #[(.builtin "type.__prepare__"), (.type "type")], #[]⟩
noncomputable def o43 (P : Params) : Obj := ⟨(.type "dict"), none, .dict #[⟨PyData.keyHash P (Str.ofString "__module__"), .str (Str.ofString "__module__") 232, (.str (Str.ofString "postkeep.errors") 223)⟩, ⟨PyData.keyHash P (Str.ofString "__qualname__"), .str (Str.ofString "__qualname__") 234, (.str (Str.ofString "PostError") 233)⟩, ⟨PyData.keyHash P (Str.ofString "__firstlineno__"), .str (Str.ofString "__firstlineno__") 236, (.int (37) 235)⟩, ⟨PyData.keyHash P (Str.ofString "__init__"), .str (Str.ofString "__init__") 247, (.ref 55)⟩, ⟨PyData.keyHash P (Str.ofString "told"), .str (Str.ofString "told") 254, (.ref 62)⟩, ⟨PyData.keyHash P (Str.ofString "__static_attributes__"), .str (Str.ofString "__static_attributes__") 257, (.ref 63)⟩] 6, #[]⟩
noncomputable def o44 (P : Params) : Obj := ⟨(.type "tuple"), none, .seq #[] 0, #[]⟩
noncomputable def o45 (P : Params) : Obj := ⟨.none, none, .fields #[(.int (39) 0), (.int (4) 0), (.ref 54), (.int (44) 0), (.int (4) 0), (.ref 61)], #[]⟩
noncomputable def o46 (P : Params) : Obj := ⟨(.type "code"), none, .fields #[(.str (Str.ofString "PostError") 227), (.str (Str.ofString "PostError") 228), (.str (Str.ofString "/claim/cut.py") 229), (.int (37) 0), (.int (0) 0), (.int (0) 0), (.int (0) 0), (.int (0) 0), (.ref 44), (.bool false), (.int (181) 0), (.ref 45), .none, .none, .none, .none, (.int (230) 0), (.int (37) 0), (.str (Str.ofString "/claim/cut.py") 231)], #[]⟩
noncomputable def o47 (P : Params) : Obj := ⟨(.type "frame"), none, .plain, #[(some (.ref 46)), (some (.ref 3)), (some (.ref 43)), none, (some (.str (Str.ofString "postkeep.errors") 223)), none, (some (.ref 0))]⟩
noncomputable def o48 (P : Params) : Obj := ⟨(.type "tuple"), none, .seq #[(.int (-1) 238)] 0, #[]⟩
noncomputable def o49 (P : Params) : Obj := ⟨(.type "tuple"), none, .seq #[] 0, #[]⟩
noncomputable def o50 (P : Params) : Obj := ⟨.none, none, .fields #[], #[]⟩
noncomputable def o51 (P : Params) : Obj := ⟨(.type "tuple"), none, .seq #[(.str (Str.ofString "self") 242), (.str (Str.ofString "what") 243), (.str (Str.ofString "at") 244)] 0, #[]⟩
noncomputable def o52 (P : Params) : Obj := ⟨(.type "tuple"), none, .seq #[] 0, #[]⟩
noncomputable def o53 (P : Params) : Obj := ⟨.none, none, .func ⟨(Str.ofString "__init__"), (Str.ofString "PostError.__init__"), (sArgs (sub 6 0)), .stmts (sBody (sub 6 0)), (sScope (sub 6 0)), 0, [], .none, .none, .none, .none, none, .none, .none, 0⟩, #[]⟩
noncomputable def o54 (P : Params) : Obj := ⟨(.type "code"), none, .fields #[(.str (Str.ofString "__init__") 239), (.str (Str.ofString "PostError.__init__") 240), (.str (Str.ofString "/claim/cut.py") 241), (.int (39) 0), (.int (3) 0), (.int (0) 0), (.int (0) 0), (.int (3) 0), (.ref 49), (.bool true), (.int (181) 0), (.ref 50), .none, (.ref 51), (.ref 52), (.ref 53), (.int (245) 0), (.int (39) 0), (.str (Str.ofString "/claim/cut.py") 246)], #[]⟩
noncomputable def o55 (P : Params) : Obj := ⟨(.type "function"), none, .func ⟨(Str.ofString "__init__"), (Str.ofString "PostError.__init__"), (sArgs (sub 6 0)), .stmts (sBody (sub 6 0)), (sScope (sub 6 0)), 3, [], (.ref 48), .none, .none, (.str (Str.ofString "postkeep.errors") 223), none, (.ref 54), .none, 0⟩, #[]⟩
noncomputable def o56 (P : Params) : Obj := ⟨(.type "tuple"), none, .seq #[] 0, #[]⟩
noncomputable def o57 (P : Params) : Obj := ⟨.none, none, .fields #[], #[]⟩
noncomputable def o58 (P : Params) : Obj := ⟨(.type "tuple"), none, .seq #[(.str (Str.ofString "self") 251)] 0, #[]⟩
noncomputable def o59 (P : Params) : Obj := ⟨(.type "tuple"), none, .seq #[] 0, #[]⟩
noncomputable def o60 (P : Params) : Obj := ⟨.none, none, .func ⟨(Str.ofString "told"), (Str.ofString "PostError.told"), (sArgs (sub 6 1)), .stmts (sBody (sub 6 1)), (sScope (sub 6 1)), 0, [], .none, .none, .none, .none, none, .none, .none, 0⟩, #[]⟩
noncomputable def o61 (P : Params) : Obj := ⟨(.type "code"), none, .fields #[(.str (Str.ofString "told") 248), (.str (Str.ofString "PostError.told") 249), (.str (Str.ofString "/claim/cut.py") 250), (.int (44) 0), (.int (1) 0), (.int (0) 0), (.int (0) 0), (.int (3) 0), (.ref 56), (.bool true), (.int (181) 0), (.ref 57), .none, (.ref 58), (.ref 59), (.ref 60), (.int (252) 0), (.int (44) 0), (.str (Str.ofString "/claim/cut.py") 253)], #[]⟩
noncomputable def o62 (P : Params) : Obj := ⟨(.type "function"), none, .func ⟨(Str.ofString "told"), (Str.ofString "PostError.told"), (sArgs (sub 6 1)), .stmts (sBody (sub 6 1)), (sScope (sub 6 1)), 3, [], .none, .none, .none, (.str (Str.ofString "postkeep.errors") 223), none, (.ref 61), .none, 0⟩, #[]⟩
noncomputable def o63 (P : Params) : Obj := ⟨(.type "tuple"), none, .seq #[(.str (Str.ofString "at") 255), (.str (Str.ofString "what") 256)] 0, #[]⟩
noncomputable def o64 (P : Params) : Obj := ⟨(.type "dict"), none, .dict #[⟨PyData.keyHash P (Str.ofString "__module__"), .str (Str.ofString "__module__") 232, (.str (Str.ofString "postkeep.errors") 223)⟩, ⟨PyData.keyHash P (Str.ofString "__firstlineno__"), .str (Str.ofString "__firstlineno__") 236, (.int (37) 235)⟩, ⟨PyData.keyHash P (Str.ofString "__init__"), .str (Str.ofString "__init__") 247, (.ref 55)⟩, ⟨PyData.keyHash P (Str.ofString "told"), .str (Str.ofString "told") 254, (.ref 62)⟩, ⟨PyData.keyHash P (Str.ofString "__static_attributes__"), .str (Str.ofString "__static_attributes__") 257, (.ref 63)⟩, ⟨PyData.keyHash P (Str.ofString "__weakref__"), .str (Str.ofString "__weakref__") 259, (.ref 66)⟩, ⟨PyData.keyHash P (Str.ofString "__doc__"), .str (Str.ofString "__doc__") 260, .none⟩] 3, #[]⟩
noncomputable def o65 (P : Params) : Obj := ⟨(.type "type"), none, .cls ⟨(Str.ofString "PostError"), [(.type "Exception")], [(.ref 65), (.type "Exception"), (.type "BaseException"), (.type "object")], 64, (Str.ofString "PostError"), true, [], [(.ref 78), (.ref 90), (.ref 102)], false, none, false⟩, #[(some (.ref 41)), none, (some (.str (Str.ofString "PostError") 225)), (some (.str (Str.ofString "PostError") 233)), (some (.builtin "Exception.__new__")), (some (.bool true))]⟩
noncomputable def o66 (P : Params) : Obj := ⟨(.type "getset_descriptor"), none, .fields #[(.str (Str.ofString "__weakref__") 258), (.ref 65), (.builtin "ExceptionGroup.__weakref__"), .none], #[]⟩
noncomputable def o67 (P : Params) : Obj := ⟨(.type "super"), none, .fields #[(.ref 65), (.ref 65), (.ref 65)], #[]⟩
noncomputable def o68 (P : Params) : Obj := ⟨(.type "builtin_function_or_method"), none, .fields #[(.builtin "object.__init_subclass__"), (.ref 65)], #[]⟩
noncomputable def o69 (P : Params) : Obj := ⟨(.type "tuple"), none, .seq #[(.ref 65)] 0, #[]⟩
noncomputable def o70 (P : Params) : Obj := ⟨(.type "builtin_function_or_method"), none, .fields #[(.builtin "type.__prepare__"), (.type "type")], #[]⟩
noncomputable def o71 (P : Params) : Obj := ⟨(.type "dict"), none, .dict #[⟨PyData.keyHash P (Str.ofString "__module__"), .str (Str.ofString "__module__") 272, (.str (Str.ofString "postkeep.errors") 223)⟩, ⟨PyData.keyHash P (Str.ofString "__qualname__"), .str (Str.ofString "__qualname__") 274, (.str (Str.ofString "WordFault") 273)⟩, ⟨PyData.keyHash P (Str.ofString "__firstlineno__"), .str (Str.ofString "__firstlineno__") 276, (.int (46) 275)⟩, ⟨PyData.keyHash P (Str.ofString "__static_attributes__"), .str (Str.ofString "__static_attributes__") 277, (.ref 76)⟩] 4, #[]⟩
noncomputable def o72 (P : Params) : Obj := ⟨(.type "tuple"), none, .seq #[] 0, #[]⟩
noncomputable def o73 (P : Params) : Obj := ⟨.none, none, .fields #[], #[]⟩
noncomputable def o74 (P : Params) : Obj := ⟨(.type "code"), none, .fields #[(.str (Str.ofString "WordFault") 267), (.str (Str.ofString "WordFault") 268), (.str (Str.ofString "/claim/cut.py") 269), (.int (46) 0), (.int (0) 0), (.int (0) 0), (.int (0) 0), (.int (0) 0), (.ref 72), (.bool false), (.int (181) 0), (.ref 73), .none, .none, .none, .none, (.int (270) 0), (.int (46) 0), (.str (Str.ofString "/claim/cut.py") 271)], #[]⟩
noncomputable def o75 (P : Params) : Obj := ⟨(.type "frame"), none, .plain, #[(some (.ref 74)), (some (.ref 3)), (some (.ref 71)), none, (some (.str (Str.ofString "postkeep.errors") 223)), none, (some (.ref 0))]⟩
noncomputable def o76 (P : Params) : Obj := ⟨(.type "tuple"), none, .seq #[] 0, #[]⟩
noncomputable def o77 (P : Params) : Obj := ⟨(.type "dict"), none, .dict #[⟨PyData.keyHash P (Str.ofString "__module__"), .str (Str.ofString "__module__") 272, (.str (Str.ofString "postkeep.errors") 223)⟩, ⟨PyData.keyHash P (Str.ofString "__firstlineno__"), .str (Str.ofString "__firstlineno__") 276, (.int (46) 275)⟩, ⟨PyData.keyHash P (Str.ofString "__static_attributes__"), .str (Str.ofString "__static_attributes__") 277, (.ref 76)⟩, ⟨PyData.keyHash P (Str.ofString "__doc__"), .str (Str.ofString "__doc__") 278, .none⟩] 2, #[]⟩
noncomputable def o78 (P : Params) : Obj := ⟨(.type "type"), none, .cls ⟨(Str.ofString "WordFault"), [(.ref 65)], [(.ref 78), (.ref 65), (.type "Exception"), (.type "BaseException"), (.type "object")], 77, (Str.ofString "WordFault"), true, [], [], false, none, false⟩, #[(some (.ref 69)), none, (some (.str (Str.ofString "WordFault") 265)), (some (.str (Str.ofString "WordFault") 273)), (some (.builtin "Exception.__new__")), (some (.bool true))]⟩
noncomputable def o79 (P : Params) : Obj := ⟨(.type "super"), none, .fields #[(.ref 78), (.ref 78), (.ref 78)], #[]⟩
noncomputable def o80 (P : Params) : Obj := ⟨(.type "builtin_function_or_method"), none, .fields #[(.builtin "object.__init_subclass__"), (.ref 78)], #[]⟩
noncomputable def o81 (P : Params) : Obj := ⟨(.type "tuple"), none, .seq #[(.ref 65)] 0, #[]⟩
noncomputable def o82 (P : Params) : Obj := ⟨(.type "builtin_function_or_method"), none, .fields #[(.builtin "type.__prepare__"), (.type "type")], #[]⟩
noncomputable def o83 (P : Params) : Obj := ⟨(.type "dict"), none, .dict #[⟨PyData.keyHash P (Str.ofString "__module__"), .str (Str.ofString "__module__") 288, (.str (Str.ofString "postkeep.errors") 223)⟩, ⟨PyData.keyHash P (Str.ofString "__qualname__"), .str (Str.ofString "__qualname__") 290, (.str (Str.ofString "MimeFault") 289)⟩, ⟨PyData.keyHash P (Str.ofString "__firstlineno__"), .str (Str.ofString "__firstlineno__") 292, (.int (48) 291)⟩, ⟨PyData.keyHash P (Str.ofString "__static_attributes__"), .str (Str.ofString "__static_attributes__") 293, (.ref 88)⟩] 4, #[]⟩
noncomputable def o84 (P : Params) : Obj := ⟨(.type "tuple"), none, .seq #[] 0, #[]⟩
noncomputable def o85 (P : Params) : Obj := ⟨.none, none, .fields #[], #[]⟩
noncomputable def o86 (P : Params) : Obj := ⟨(.type "code"), none, .fields #[(.str (Str.ofString "MimeFault") 283), (.str (Str.ofString "MimeFault") 284), (.str (Str.ofString "/claim/cut.py") 285), (.int (48) 0), (.int (0) 0), (.int (0) 0), (.int (0) 0), (.int (0) 0), (.ref 84), (.bool false), (.int (181) 0), (.ref 85), .none, .none, .none, .none, (.int (286) 0), (.int (48) 0), (.str (Str.ofString "/claim/cut.py") 287)], #[]⟩
noncomputable def o87 (P : Params) : Obj := ⟨(.type "frame"), none, .plain, #[(some (.ref 86)), (some (.ref 3)), (some (.ref 83)), none, (some (.str (Str.ofString "postkeep.errors") 223)), none, (some (.ref 0))]⟩
noncomputable def o88 (P : Params) : Obj := ⟨(.type "tuple"), none, .seq #[] 0, #[]⟩
noncomputable def o89 (P : Params) : Obj := ⟨(.type "dict"), none, .dict #[⟨PyData.keyHash P (Str.ofString "__module__"), .str (Str.ofString "__module__") 288, (.str (Str.ofString "postkeep.errors") 223)⟩, ⟨PyData.keyHash P (Str.ofString "__firstlineno__"), .str (Str.ofString "__firstlineno__") 292, (.int (48) 291)⟩, ⟨PyData.keyHash P (Str.ofString "__static_attributes__"), .str (Str.ofString "__static_attributes__") 293, (.ref 88)⟩, ⟨PyData.keyHash P (Str.ofString "__doc__"), .str (Str.ofString "__doc__") 294, .none⟩] 2, #[]⟩
noncomputable def o90 (P : Params) : Obj := ⟨(.type "type"), none, .cls ⟨(Str.ofString "MimeFault"), [(.ref 65)], [(.ref 90), (.ref 65), (.type "Exception"), (.type "BaseException"), (.type "object")], 89, (Str.ofString "MimeFault"), true, [], [], false, none, false⟩, #[(some (.ref 81)), none, (some (.str (Str.ofString "MimeFault") 281)), (some (.str (Str.ofString "MimeFault") 289)), (some (.builtin "Exception.__new__")), (some (.bool true))]⟩
noncomputable def o91 (P : Params) : Obj := ⟨(.type "super"), none, .fields #[(.ref 90), (.ref 90), (.ref 90)], #[]⟩
noncomputable def o92 (P : Params) : Obj := ⟨(.type "builtin_function_or_method"), none, .fields #[(.builtin "object.__init_subclass__"), (.ref 90)], #[]⟩
noncomputable def o93 (P : Params) : Obj := ⟨(.type "tuple"), none, .seq #[(.ref 65)] 0, #[]⟩
noncomputable def o94 (P : Params) : Obj := ⟨(.type "builtin_function_or_method"), none, .fields #[(.builtin "type.__prepare__"), (.type "type")], #[]⟩
noncomputable def o95 (P : Params) : Obj := ⟨(.type "dict"), none, .dict #[⟨PyData.keyHash P (Str.ofString "__module__"), .str (Str.ofString "__module__") 304, (.str (Str.ofString "postkeep.errors") 223)⟩, ⟨PyData.keyHash P (Str.ofString "__qualname__"), .str (Str.ofString "__qualname__") 306, (.str (Str.ofString "StoreFault") 305)⟩, ⟨PyData.keyHash P (Str.ofString "__firstlineno__"), .str (Str.ofString "__firstlineno__") 308, (.int (50) 307)⟩, ⟨PyData.keyHash P (Str.ofString "__static_attributes__"), .str (Str.ofString "__static_attributes__") 309, (.ref 100)⟩] 4, #[]⟩
noncomputable def o96 (P : Params) : Obj := ⟨(.type "tuple"), none, .seq #[] 0, #[]⟩
noncomputable def o97 (P : Params) : Obj := ⟨.none, none, .fields #[], #[]⟩
noncomputable def o98 (P : Params) : Obj := ⟨(.type "code"), none, .fields #[(.str (Str.ofString "StoreFault") 299), (.str (Str.ofString "StoreFault") 300), (.str (Str.ofString "/claim/cut.py") 301), (.int (50) 0), (.int (0) 0), (.int (0) 0), (.int (0) 0), (.int (0) 0), (.ref 96), (.bool false), (.int (181) 0), (.ref 97), .none, .none, .none, .none, (.int (302) 0), (.int (50) 0), (.str (Str.ofString "/claim/cut.py") 303)], #[]⟩
noncomputable def o99 (P : Params) : Obj := ⟨(.type "frame"), none, .plain, #[(some (.ref 98)), (some (.ref 3)), (some (.ref 95)), none, (some (.str (Str.ofString "postkeep.errors") 223)), none, (some (.ref 0))]⟩
noncomputable def o100 (P : Params) : Obj := ⟨(.type "tuple"), none, .seq #[] 0, #[]⟩
noncomputable def o101 (P : Params) : Obj := ⟨(.type "dict"), none, .dict #[⟨PyData.keyHash P (Str.ofString "__module__"), .str (Str.ofString "__module__") 304, (.str (Str.ofString "postkeep.errors") 223)⟩, ⟨PyData.keyHash P (Str.ofString "__firstlineno__"), .str (Str.ofString "__firstlineno__") 308, (.int (50) 307)⟩, ⟨PyData.keyHash P (Str.ofString "__static_attributes__"), .str (Str.ofString "__static_attributes__") 309, (.ref 100)⟩, ⟨PyData.keyHash P (Str.ofString "__doc__"), .str (Str.ofString "__doc__") 310, .none⟩] 2, #[]⟩
noncomputable def o102 (P : Params) : Obj := ⟨(.type "type"), none, .cls ⟨(Str.ofString "StoreFault"), [(.ref 65)], [(.ref 102), (.ref 65), (.type "Exception"), (.type "BaseException"), (.type "object")], 101, (Str.ofString "StoreFault"), true, [], [], false, none, false⟩, #[(some (.ref 93)), none, (some (.str (Str.ofString "StoreFault") 297)), (some (.str (Str.ofString "StoreFault") 305)), (some (.builtin "Exception.__new__")), (some (.bool true))]⟩
noncomputable def o103 (P : Params) : Obj := ⟨(.type "super"), none, .fields #[(.ref 102), (.ref 102), (.ref 102)], #[]⟩
noncomputable def o104 (P : Params) : Obj := ⟨(.type "builtin_function_or_method"), none, .fields #[(.builtin "object.__init_subclass__"), (.ref 102)], #[]⟩
noncomputable def o105 (P : Params) : Obj := ⟨(.type "tuple"), none, .seq #[] 0, #[]⟩
noncomputable def o106 (P : Params) : Obj := ⟨.none, none, .fields #[], #[]⟩
noncomputable def o107 (P : Params) : Obj := ⟨(.type "tuple"), none, .seq #[] 0, #[]⟩
noncomputable def o108 (P : Params) : Obj := ⟨(.type "tuple"), none, .seq #[] 0, #[]⟩
noncomputable def o109 (P : Params) : Obj := ⟨.none, none, .func ⟨(Str.ofString "system_flags"), (Str.ofString "system_flags"), (sArgs (stm 14)), .stmts (sBody (stm 14)), (sScope (stm 14)), 0, [], .none, .none, .none, .none, none, .none, .none, 0⟩, #[]⟩
noncomputable def o110 (P : Params) : Obj := ⟨(.type "code"), none, .fields #[(.str (Str.ofString "system_flags") 321), (.str (Str.ofString "system_flags") 322), (.str (Str.ofString "/claim/cut.py") 323), (.int (56) 0), (.int (0) 0), (.int (0) 0), (.int (0) 0), (.int (3) 0), (.ref 105), (.bool true), (.int (181) 0), (.ref 106), .none, (.ref 107), (.ref 108), (.ref 109), (.int (324) 0), (.int (56) 0), (.str (Str.ofString "/claim/cut.py") 325)], #[]⟩
@[reducible] noncomputable def o111 (P : Params) : Obj := ⟨(.type "function"), none, .func ⟨(Str.ofString "system_flags"), (Str.ofString "system_flags"), A111, .stmts B111, S111, 3, [], .none, .none, .none, (.str (Str.ofString "postkeep.boxes") 313), none, (.ref 110), .none, 0⟩, #[]⟩
noncomputable def o112 (P : Params) : Obj := ⟨(.type "tuple"), none, .seq #[] 0, #[]⟩
noncomputable def o113 (P : Params) : Obj := ⟨.none, none, .fields #[], #[]⟩
noncomputable def o114 (P : Params) : Obj := ⟨(.type "tuple"), none, .seq #[(.str (Str.ofString "text") 330), (.str (Str.ofString "sign") 331)] 0, #[]⟩
noncomputable def o115 (P : Params) : Obj := ⟨(.type "tuple"), none, .seq #[] 0, #[]⟩
noncomputable def o116 (P : Params) : Obj := ⟨.none, none, .func ⟨(Str.ofString "is_keyword"), (Str.ofString "is_keyword"), (sArgs (stm 15)), .stmts (sBody (stm 15)), (sScope (stm 15)), 0, [], .none, .none, .none, .none, none, .none, .none, 0⟩, #[]⟩
noncomputable def o117 (P : Params) : Obj := ⟨(.type "code"), none, .fields #[(.str (Str.ofString "is_keyword") 327), (.str (Str.ofString "is_keyword") 328), (.str (Str.ofString "/claim/cut.py") 329), (.int (58) 0), (.int (1) 0), (.int (0) 0), (.int (0) 0), (.int (3) 0), (.ref 112), (.bool true), (.int (181) 0), (.ref 113), .none, (.ref 114), (.ref 115), (.ref 116), (.int (332) 0), (.int (58) 0), (.str (Str.ofString "/claim/cut.py") 333)], #[]⟩
@[reducible] noncomputable def o118 (P : Params) : Obj := ⟨(.type "function"), none, .func ⟨(Str.ofString "is_keyword"), (Str.ofString "is_keyword"), A118, .stmts B118, S118, 3, [], .none, .none, .none, (.str (Str.ofString "postkeep.boxes") 313), none, (.ref 117), .none, 0⟩, #[]⟩
noncomputable def heap16 (P : Params) : Heap := ⟨#[boot_o_0 P, boot_o_1 P, o2x16 P, o3x16 P, boot_o_4 P, boot_o_5 P, boot_o_6 P, boot_o_7 P, boot_o_8 P, boot_o_9 P, boot_o_10 P, o11 P, o12x16 P, o13 P, o14 P, o15 P, o16 P, o17 P, o18 P, o19 P, o20 P, o21 P, o22 P, o23 P, o24 P, o25 P, o26 P, o27 P, o28 P, o29 P, o30 P, o31 P, o32 P, o33 P, o34 P, o35 P, o36 P, o37 P, o38 P, o39 P, o40 P, o41 P, o42 P, o43 P, o44 P, o45 P, o46 P, o47 P, o48 P, o49 P, o50 P, o51 P, o52 P, o53 P, o54 P, o55 P, o56 P, o57 P, o58 P, o59 P, o60 P, o61 P, o62 P, o63 P, o64 P, o65 P, o66 P, o67 P, o68 P, o69 P, o70 P, o71 P, o72 P, o73 P, o74 P, o75 P, o76 P, o77 P, o78 P, o79 P, o80 P, o81 P, o82 P, o83 P, o84 P, o85 P, o86 P, o87 P, o88 P, o89 P, o90 P, o91 P, o92 P, o93 P, o94 P, o95 P, o96 P, o97 P, o98 P, o99 P, o100 P, o101 P, o102 P, o103 P, o104 P, o105 P, o106 P, o107 P, o108 P, o109 P, o110 P, o111 P, o112 P, o113 P, o114 P, o115 P, o116 P, o117 P, o118 P], {}⟩
noncomputable abbrev st16 (w : World) (os : OsState) : Shared := ⟨heap16 w.params, #[], {}, 335, os⟩
noncomputable abbrev pos16 : Pos := ⟨58, 0, 64, 15⟩
noncomputable def o3x52 (P : Params) : Obj := ⟨(.type "dict"), none, .dict #[⟨PyData.keyHash P (Str.ofString "__name__"), .str (Str.ofString "__name__") 165, (.str (Str.ofString "postkeep.dates") 613)⟩, ⟨PyData.keyHash P (Str.ofString "__doc__"), .str (Str.ofString "__doc__") 166, .none⟩, ⟨PyData.keyHash P (Str.ofString "__package__"), .str (Str.ofString "__package__") 167, .none⟩, ⟨PyData.keyHash P (Str.ofString "__loader__"), .str (Str.ofString "__loader__") 168, (.builtin "__main__.__loader__#opaque")⟩, ⟨PyData.keyHash P (Str.ofString "__spec__"), .str (Str.ofString "__spec__") 169, .none⟩, ⟨PyData.keyHash P (Str.ofString "__annotations__"), .str (Str.ofString "__annotations__") 170, (.ref 6)⟩, ⟨PyData.keyHash P (Str.ofString "__builtins__"), .str (Str.ofString "__builtins__") 171, (.ref 4)⟩, ⟨PyData.keyHash P (Str.ofString "__file__"), .str (Str.ofString "__file__") 173, (.str (Str.ofString "/claim/cut.py") 172)⟩, ⟨PyData.keyHash P (Str.ofString "__cached__"), .str (Str.ofString "__cached__") 174, .none⟩, ⟨PyData.keyHash P (Str.ofString "row_of"), .str (Str.ofString "row_of") 196, (.ref 21)⟩, ⟨PyData.keyHash P (Str.ofString "leaves_of"), .str (Str.ofString "leaves_of") 206, (.ref 28)⟩, ⟨PyData.keyHash P (Str.ofString "has_kind"), .str (Str.ofString "has_kind") 212, (.ref 33)⟩, ⟨PyData.keyHash P (Str.ofString "decide"), .str (Str.ofString "decide") 222, (.ref 40)⟩, ⟨PyData.keyHash P (Str.ofString "PostError"), .str (Str.ofString "PostError") 264, (.ref 65)⟩, ⟨PyData.keyHash P (Str.ofString "WordFault"), .str (Str.ofString "WordFault") 280, (.ref 78)⟩, ⟨PyData.keyHash P (Str.ofString "MimeFault"), .str (Str.ofString "MimeFault") 296, (.ref 90)⟩, ⟨PyData.keyHash P (Str.ofString "StoreFault"), .str (Str.ofString "StoreFault") 312, (.ref 102)⟩, ⟨PyData.keyHash P (Str.ofString "SYSTEM"), .str (Str.ofString "SYSTEM") 316, (.str (Str.ofString "\\Seen \\Answered \\Flagged \\Deleted \\Draft") 315)⟩, ⟨PyData.keyHash P (Str.ofString "NO_KEYWORD"), .str (Str.ofString "NO_KEYWORD") 318, (.str (Str.ofString "(){ %*\"\\]") 317)⟩, ⟨PyData.keyHash P (Str.ofString "MOST_KEYWORD"), .str (Str.ofString "MOST_KEYWORD") 320, (.int (60) 319)⟩, ⟨PyData.keyHash P (Str.ofString "system_flags"), .str (Str.ofString "system_flags") 326, (.ref 111)⟩, ⟨PyData.keyHash P (Str.ofString "is_keyword"), .str (Str.ofString "is_keyword") 334, (.ref 118)⟩, ⟨PyData.keyHash P (Str.ofString "flag_name"), .str (Str.ofString "flag_name") 342, (.ref 125)⟩, ⟨PyData.keyHash P (Str.ofString "Letter"), .str (Str.ofString "Letter") 394, (.ref 156)⟩, ⟨PyData.keyHash P (Str.ofString "lower_code"), .str (Str.ofString "lower_code") 403, (.ref 167)⟩, ⟨PyData.keyHash P (Str.ofString "lower_text"), .str (Str.ofString "lower_text") 409, (.ref 172)⟩, ⟨PyData.keyHash P (Str.ofString "ASCII"), .str (Str.ofString "ASCII") 413, (.str (Str.ofString "us-ascii") 412)⟩, ⟨PyData.keyHash P (Str.ofString "LATIN"), .str (Str.ofString "LATIN") 415, (.str (Str.ofString "iso-8859-1") 414)⟩, ⟨PyData.keyHash P (Str.ofString "UTF8"), .str (Str.ofString "UTF8") 417, (.str (Str.ofString "utf-8") 416)⟩, ⟨PyData.keyHash P (Str.ofString "CHARSETS"), .str (Str.ofString "CHARSETS") 418, (.ref 173)⟩, ⟨PyData.keyHash P (Str.ofString "UNKNOWN_SIGN"), .str (Str.ofString "UNKNOWN_SIGN") 421, (.str (Str.ofString "�") 420)⟩, ⟨PyData.keyHash P (Str.ofString "charset_names"), .str (Str.ofString "charset_names") 429, (.ref 180)⟩, ⟨PyData.keyHash P (Str.ofString "charset_name"), .str (Str.ofString "charset_name") 436, (.ref 187)⟩, ⟨PyData.keyHash P (Str.ofString "need_charset"), .str (Str.ofString "need_charset") 443, (.ref 194)⟩, ⟨PyData.keyHash P (Str.ofString "follower_span"), .str (Str.ofString "follower_span") 450, (.ref 201)⟩, ⟨PyData.keyHash P (Str.ofString "utf8_sign"), .str (Str.ofString "utf8_sign") 464, (.ref 208)⟩, ⟨PyData.keyHash P (Str.ofString "sign_at"), .str (Str.ofString "sign_at") 473, (.ref 215)⟩, ⟨PyData.keyHash P (Str.ofString "text_in"), .str (Str.ofString "text_in") 485, (.ref 222)⟩, ⟨PyData.keyHash P (Str.ofString "strict_text"), .str (Str.ofString "strict_text") 497, (.ref 229)⟩, ⟨PyData.keyHash P (Str.ofString "guessed_text"), .str (Str.ofString "guessed_text") 504, (.ref 236)⟩, ⟨PyData.keyHash P (Str.ofString "MOST_DEPTH_tokens"), .str (Str.ofString "MOST_DEPTH_tokens") 508, (.int (20) 507)⟩, ⟨PyData.keyHash P (Str.ofString "SIGNS_tokens"), .str (Str.ofString "SIGNS_tokens") 510, (.bytes #[60, 62, 64, 44, 59, 58, 46, 92] 509)⟩, ⟨PyData.keyHash P (Str.ofString "ATOM_SIGNS"), .str (Str.ofString "ATOM_SIGNS") 512, (.bytes #[33, 35, 36, 37, 38, 39, 42, 43, 45, 47, 61, 63, 94, 95, 96, 123, 124, 125, 126] 511)⟩, ⟨PyData.keyHash P (Str.ofString "NEVER_ESCAPED"), .str (Str.ofString "NEVER_ESCAPED") 516, (.ref 237)⟩, ⟨PyData.keyHash P (Str.ofString "is_atom_code"), .str (Str.ofString "is_atom_code") 523, (.ref 244)⟩, ⟨PyData.keyHash P (Str.ofString "line_end"), .str (Str.ofString "line_end") 531, (.ref 251)⟩, ⟨PyData.keyHash P (Str.ofString "inside_at"), .str (Str.ofString "inside_at") 541, (.ref 258)⟩, ⟨PyData.keyHash P (Str.ofString "closed_at"), .str (Str.ofString "closed_at") 554, (.ref 265)⟩, ⟨PyData.keyHash P (Str.ofString "comment_at"), .str (Str.ofString "comment_at") 567, (.ref 272)⟩, ⟨PyData.keyHash P (Str.ofString "atom_at"), .str (Str.ofString "atom_at") 576, (.ref 279)⟩, ⟨PyData.keyHash P (Str.ofString "token_at"), .str (Str.ofString "token_at") 587, (.ref 286)⟩, ⟨PyData.keyHash P (Str.ofString "past_white"), .str (Str.ofString "past_white") 596, (.ref 293)⟩, ⟨PyData.keyHash P (Str.ofString "tokens_of"), .str (Str.ofString "tokens_of") 606, (.ref 300)⟩, ⟨PyData.keyHash P (Str.ofString "without_comments"), .str (Str.ofString "without_comments") 612, (.ref 305)⟩] 54, #[]⟩
noncomputable def o12x52 (P : Params) : Obj := ⟨.none, none, .fields #[(.int (2) 0), (.int (0) 0), (.ref 20), (.int (9) 0), (.int (0) 0), (.ref 27), (.int (20) 0), (.int (0) 0), (.ref 32), (.int (22) 0), (.int (0) 0), (.ref 39), (.int (37) 0), (.int (0) 0), (.ref 46), (.int (46) 0), (.int (0) 0), (.ref 74), (.int (48) 0), (.int (0) 0), (.ref 86), (.int (50) 0), (.int (0) 0), (.ref 98), (.int (56) 0), (.int (0) 0), (.ref 110), (.int (58) 0), (.int (0) 0), (.ref 117), (.int (65) 0), (.int (0) 0), (.ref 124), (.int (72) 0), (.int (0) 0), (.ref 131), (.int (87) 0), (.int (0) 0), (.ref 166), (.int (89) 0), (.int (0) 0), (.ref 171), (.int (97) 0), (.int (0) 0), (.ref 179), (.int (106) 0), (.int (0) 0), (.ref 186), (.int (108) 0), (.int (0) 0), (.ref 193), (.int (111) 0), (.int (0) 0), (.ref 200), (.int (119) 0), (.int (0) 0), (.ref 207), (.int (133) 0), (.int (0) 0), (.ref 214), (.int (139) 0), (.int (0) 0), (.ref 221), (.int (148) 0), (.int (0) 0), (.ref 228), (.int (159) 0), (.int (0) 0), (.ref 235), (.int (169) 0), (.int (0) 0), (.ref 243), (.int (171) 0), (.int (0) 0), (.ref 250), (.int (175) 0), (.int (0) 0), (.ref 257), (.int (188) 0), (.int (0) 0), (.ref 264), (.int (197) 0), (.int (0) 0), (.ref 271), (.int (212) 0), (.int (0) 0), (.ref 278), (.int (217) 0), (.int (0) 0), (.ref 285), (.int (234) 0), (.int (0) 0), (.ref 292), (.int (241) 0), (.int (0) 0), (.ref 299), (.int (249) 0), (.int (0) 0), (.ref 304)], #[]⟩
noncomputable def o119 (P : Params) : Obj := ⟨(.type "tuple"), none, .seq #[] 0, #[]⟩
noncomputable def o120 (P : Params) : Obj := ⟨.none, none, .fields #[], #[]⟩
noncomputable def o121 (P : Params) : Obj := ⟨(.type "tuple"), none, .seq #[(.str (Str.ofString "text") 338), (.str (Str.ofString "name") 339)] 0, #[]⟩
noncomputable def o122 (P : Params) : Obj := ⟨(.type "tuple"), none, .seq #[] 0, #[]⟩
noncomputable def o123 (P : Params) : Obj := ⟨.none, none, .func ⟨(Str.ofString "flag_name"), (Str.ofString "flag_name"), (sArgs (stm 16)), .stmts (sBody (stm 16)), (sScope (stm 16)), 0, [], .none, .none, .none, .none, none, .none, .none, 0⟩, #[]⟩
noncomputable def o124 (P : Params) : Obj := ⟨(.type "code"), none, .fields #[(.str (Str.ofString "flag_name") 335), (.str (Str.ofString "flag_name") 336), (.str (Str.ofString "/claim/cut.py") 337), (.int (65) 0), (.int (1) 0), (.int (0) 0), (.int (0) 0), (.int (3) 0), (.ref 119), (.bool true), (.int (181) 0), (.ref 120), .none, (.ref 121), (.ref 122), (.ref 123), (.int (340) 0), (.int (65) 0), (.str (Str.ofString "/claim/cut.py") 341)], #[]⟩
@[reducible] noncomputable def o125 (P : Params) : Obj := ⟨(.type "function"), none, .func ⟨(Str.ofString "flag_name"), (Str.ofString "flag_name"), A125, .stmts B125, S125, 3, [], .none, .none, .none, (.str (Str.ofString "postkeep.boxes") 313), none, (.ref 124), .none, 0⟩, #[]⟩
noncomputable def o126 (P : Params) : Obj := ⟨(.type "tuple"), none, .seq #[] 0, #[]⟩
noncomputable def o127 (P : Params) : Obj := ⟨(.type "builtin_function_or_method"), none, .fields #[(.builtin "type.__prepare__"), (.type "type")], #[]⟩
noncomputable def o128 (P : Params) : Obj := ⟨(.type "dict"), none, .dict #[⟨PyData.keyHash P (Str.ofString "__module__"), .str (Str.ofString "__module__") 350, (.str (Str.ofString "postkeep.boxes") 313)⟩, ⟨PyData.keyHash P (Str.ofString "__qualname__"), .str (Str.ofString "__qualname__") 352, (.str (Str.ofString "Letter") 351)⟩, ⟨PyData.keyHash P (Str.ofString "__firstlineno__"), .str (Str.ofString "__firstlineno__") 354, (.int (72) 353)⟩, ⟨PyData.keyHash P (Str.ofString "__init__"), .str (Str.ofString "__init__") 366, (.ref 139)⟩, ⟨PyData.keyHash P (Str.ofString "has"), .str (Str.ofString "has") 374, (.ref 146)⟩, ⟨PyData.keyHash P (Str.ofString "told"), .str (Str.ofString "told") 381, (.ref 153)⟩, ⟨PyData.keyHash P (Str.ofString "__static_attributes__"), .str (Str.ofString "__static_attributes__") 387, (.ref 154)⟩] 7, #[]⟩
noncomputable def o129 (P : Params) : Obj := ⟨(.type "tuple"), none, .seq #[] 0, #[]⟩
noncomputable def o130 (P : Params) : Obj := ⟨.none, none, .fields #[(.int (74) 0), (.int (4) 0), (.ref 138), (.int (81) 0), (.int (4) 0), (.ref 145), (.int (84) 0), (.int (4) 0), (.ref 152)], #[]⟩
noncomputable def o131 (P : Params) : Obj := ⟨(.type "code"), none, .fields #[(.str (Str.ofString "Letter") 345), (.str (Str.ofString "Letter") 346), (.str (Str.ofString "/claim/cut.py") 347), (.int (72) 0), (.int (0) 0), (.int (0) 0), (.int (0) 0), (.int (0) 0), (.ref 129), (.bool false), (.int (181) 0), (.ref 130), .none, .none, .none, .none, (.int (348) 0), (.int (72) 0), (.str (Str.ofString "/claim/cut.py") 349)], #[]⟩
noncomputable def o132 (P : Params) : Obj := ⟨(.type "frame"), none, .plain, #[(some (.ref 131)), (some (.ref 3)), (some (.ref 128)), none, (some (.str (Str.ofString "postkeep.boxes") 313)), none, (some (.ref 0))]⟩
noncomputable def o133 (P : Params) : Obj := ⟨(.type "tuple"), none, .seq #[] 0, #[]⟩
noncomputable def o134 (P : Params) : Obj := ⟨.none, none, .fields #[], #[]⟩
noncomputable def o135 (P : Params) : Obj := ⟨(.type "tuple"), none, .seq #[(.str (Str.ofString "self") 358), (.str (Str.ofString "uid") 359), (.str (Str.ofString "octets") 360), (.str (Str.ofString "flags") 361), (.str (Str.ofString "instant") 362), (.str (Str.ofString "modseq") 363)] 0, #[]⟩
noncomputable def o136 (P : Params) : Obj := ⟨(.type "tuple"), none, .seq #[] 0, #[]⟩
noncomputable def o137 (P : Params) : Obj := ⟨.none, none, .func ⟨(Str.ofString "__init__"), (Str.ofString "Letter.__init__"), (sArgs (sub 17 0)), .stmts (sBody (sub 17 0)), (sScope (sub 17 0)), 0, [], .none, .none, .none, .none, none, .none, .none, 0⟩, #[]⟩
noncomputable def o138 (P : Params) : Obj := ⟨(.type "code"), none, .fields #[(.str (Str.ofString "__init__") 355), (.str (Str.ofString "Letter.__init__") 356), (.str (Str.ofString "/claim/cut.py") 357), (.int (74) 0), (.int (6) 0), (.int (0) 0), (.int (0) 0), (.int (3) 0), (.ref 133), (.bool true), (.int (181) 0), (.ref 134), .none, (.ref 135), (.ref 136), (.ref 137), (.int (364) 0), (.int (74) 0), (.str (Str.ofString "/claim/cut.py") 365)], #[]⟩
@[reducible] noncomputable def o139 (P : Params) : Obj := ⟨(.type "function"), none, .func ⟨(Str.ofString "__init__"), (Str.ofString "Letter.__init__"), A139, .stmts B139, S139, 3, [], .none, .none, .none, (.str (Str.ofString "postkeep.boxes") 313), none, (.ref 138), .none, 0⟩, #[]⟩
noncomputable def o140 (P : Params) : Obj := ⟨(.type "tuple"), none, .seq #[] 0, #[]⟩
noncomputable def o141 (P : Params) : Obj := ⟨.none, none, .fields #[], #[]⟩
noncomputable def o142 (P : Params) : Obj := ⟨(.type "tuple"), none, .seq #[(.str (Str.ofString "self") 370), (.str (Str.ofString "name") 371)] 0, #[]⟩
noncomputable def o143 (P : Params) : Obj := ⟨(.type "tuple"), none, .seq #[] 0, #[]⟩
noncomputable def o144 (P : Params) : Obj := ⟨.none, none, .func ⟨(Str.ofString "has"), (Str.ofString "Letter.has"), (sArgs (sub 17 1)), .stmts (sBody (sub 17 1)), (sScope (sub 17 1)), 0, [], .none, .none, .none, .none, none, .none, .none, 0⟩, #[]⟩
noncomputable def o145 (P : Params) : Obj := ⟨(.type "code"), none, .fields #[(.str (Str.ofString "has") 367), (.str (Str.ofString "Letter.has") 368), (.str (Str.ofString "/claim/cut.py") 369), (.int (81) 0), (.int (2) 0), (.int (0) 0), (.int (0) 0), (.int (3) 0), (.ref 140), (.bool true), (.int (181) 0), (.ref 141), .none, (.ref 142), (.ref 143), (.ref 144), (.int (372) 0), (.int (81) 0), (.str (Str.ofString "/claim/cut.py") 373)], #[]⟩
@[reducible] noncomputable def o146 (P : Params) : Obj := ⟨(.type "function"), none, .func ⟨(Str.ofString "has"), (Str.ofString "Letter.has"), A146, .stmts B146, S146, 3, [], .none, .none, .none, (.str (Str.ofString "postkeep.boxes") 313), none, (.ref 145), .none, 0⟩, #[]⟩
noncomputable def o147 (P : Params) : Obj := ⟨(.type "tuple"), none, .seq #[] 0, #[]⟩
noncomputable def o148 (P : Params) : Obj := ⟨.none, none, .fields #[], #[]⟩
noncomputable def o149 (P : Params) : Obj := ⟨(.type "tuple"), none, .seq #[(.str (Str.ofString "self") 378)] 0, #[]⟩
noncomputable def o150 (P : Params) : Obj := ⟨(.type "tuple"), none, .seq #[] 0, #[]⟩
noncomputable def o151 (P : Params) : Obj := ⟨.none, none, .func ⟨(Str.ofString "told"), (Str.ofString "Letter.told"), (sArgs (sub 17 2)), .stmts (sBody (sub 17 2)), (sScope (sub 17 2)), 0, [], .none, .none, .none, .none, none, .none, .none, 0⟩, #[]⟩
noncomputable def o152 (P : Params) : Obj := ⟨(.type "code"), none, .fields #[(.str (Str.ofString "told") 375), (.str (Str.ofString "Letter.told") 376), (.str (Str.ofString "/claim/cut.py") 377), (.int (84) 0), (.int (1) 0), (.int (0) 0), (.int (0) 0), (.int (3) 0), (.ref 147), (.bool true), (.int (181) 0), (.ref 148), .none, (.ref 149), (.ref 150), (.ref 151), (.int (379) 0), (.int (84) 0), (.str (Str.ofString "/claim/cut.py") 380)], #[]⟩
noncomputable def o153 (P : Params) : Obj := ⟨(.type "function"), none, .func ⟨(Str.ofString "told"), (Str.ofString "Letter.told"), (sArgs (sub 17 2)), .stmts (sBody (sub 17 2)), (sScope (sub 17 2)), 3, [], .none, .none, .none, (.str (Str.ofString "postkeep.boxes") 313), none, (.ref 152), .none, 0⟩, #[]⟩
noncomputable def o154 (P : Params) : Obj := ⟨(.type "tuple"), none, .seq #[(.str (Str.ofString "flags") 382), (.str (Str.ofString "instant") 383), (.str (Str.ofString "modseq") 384), (.str (Str.ofString "octets") 385), (.str (Str.ofString "uid") 386)] 0, #[]⟩
noncomputable def o155 (P : Params) : Obj := ⟨(.type "dict"), none, .dict #[⟨PyData.keyHash P (Str.ofString "__module__"), .str (Str.ofString "__module__") 350, (.str (Str.ofString "postkeep.boxes") 313)⟩, ⟨PyData.keyHash P (Str.ofString "__firstlineno__"), .str (Str.ofString "__firstlineno__") 354, (.int (72) 353)⟩, ⟨PyData.keyHash P (Str.ofString "__init__"), .str (Str.ofString "__init__") 366, (.ref 139)⟩, ⟨PyData.keyHash P (Str.ofString "has"), .str (Str.ofString "has") 374, (.ref 146)⟩, ⟨PyData.keyHash P (Str.ofString "told"), .str (Str.ofString "told") 381, (.ref 153)⟩, ⟨PyData.keyHash P (Str.ofString "__static_attributes__"), .str (Str.ofString "__static_attributes__") 387, (.ref 154)⟩, ⟨PyData.keyHash P (Str.ofString "__dict__"), .str (Str.ofString "__dict__") 389, (.ref 157)⟩, ⟨PyData.keyHash P (Str.ofString "__weakref__"), .str (Str.ofString "__weakref__") 391, (.ref 158)⟩, ⟨PyData.keyHash P (Str.ofString "__doc__"), .str (Str.ofString "__doc__") 392, .none⟩] 4, #[]⟩
noncomputable def o156 (P : Params) : Obj := ⟨(.type "type"), none, .cls ⟨(Str.ofString "Letter"), [(.type "object")], [(.ref 156), (.type "object")], 155, (Str.ofString "Letter"), true, [], [], false, none, false⟩, #[none, none, (some (.str (Str.ofString "Letter") 343)), (some (.str (Str.ofString "Letter") 351)), (some (.builtin "object.__new__")), (some (.bool true))]⟩
noncomputable def o157 (P : Params) : Obj := ⟨(.type "getset_descriptor"), none, .fields #[(.str (Str.ofString "__dict__") 388), (.ref 156), (.builtin "function.__dict__"), (.builtin "function.__dict__#set")], #[]⟩
noncomputable def o158 (P : Params) : Obj := ⟨(.type "getset_descriptor"), none, .fields #[(.str (Str.ofString "__weakref__") 390), (.ref 156), (.builtin "ExceptionGroup.__weakref__"), .none], #[]⟩
noncomputable def o159 (P : Params) : Obj := ⟨(.type "super"), none, .fields #[(.ref 156), (.ref 156), (.ref 156)], #[]⟩
noncomputable def o160 (P : Params) : Obj := ⟨(.type "builtin_function_or_method"), none, .fields #[(.builtin "object.__init_subclass__"), (.ref 156)], #[]⟩
noncomputable def o161 (P : Params) : Obj := ⟨(.type "tuple"), none, .seq #[] 0, #[]⟩
noncomputable def o162 (P : Params) : Obj := ⟨.none, none, .fields #[], #[]⟩
noncomputable def o163 (P : Params) : Obj := ⟨(.type "tuple"), none, .seq #[(.str (Str.ofString "code") 400)] 0, #[]⟩
noncomputable def o164 (P : Params) : Obj := ⟨(.type "tuple"), none, .seq #[] 0, #[]⟩
noncomputable def o165 (P : Params) : Obj := ⟨.none, none, .func ⟨(Str.ofString "lower_code"), (Str.ofString "lower_code"), (sArgs (stm 19)), .stmts (sBody (stm 19)), (sScope (stm 19)), 0, [], .none, .none, .none, .none, none, .none, .none, 0⟩, #[]⟩
noncomputable def o166 (P : Params) : Obj := ⟨(.type "code"), none, .fields #[(.str (Str.ofString "lower_code") 397), (.str (Str.ofString "lower_code") 398), (.str (Str.ofString "/claim/cut.py") 399), (.int (87) 0), (.int (1) 0), (.int (0) 0), (.int (0) 0), (.int (3) 0), (.ref 161), (.bool true), (.int (181) 0), (.ref 162), .none, (.ref 163), (.ref 164), (.ref 165), (.int (401) 0), (.int (87) 0), (.str (Str.ofString "/claim/cut.py") 402)], #[]⟩
noncomputable def o167 (P : Params) : Obj := ⟨(.type "function"), none, .func ⟨(Str.ofString "lower_code"), (Str.ofString "lower_code"), (sArgs (stm 19)), .stmts (sBody (stm 19)), (sScope (stm 19)), 3, [], .none, .none, .none, (.str (Str.ofString "postkeep.octets") 395), none, (.ref 166), .none, 0⟩, #[]⟩
noncomputable def o168 (P : Params) : Obj := ⟨(.type "tuple"), none, .seq #[] 0, #[]⟩
noncomputable def o169 (P : Params) : Obj := ⟨.none, none, .fields #[], #[]⟩
noncomputable def o170 (P : Params) : Obj := ⟨.none, none, .func ⟨(Str.ofString "lower_text"), (Str.ofString "lower_text"), (sArgs (stm 20)), .stmts (sBody (stm 20)), (sScope (stm 20)), 0, [], .none, .none, .none, .none, none, .none, .none, 0⟩, #[]⟩
noncomputable def o171 (P : Params) : Obj := ⟨(.type "code"), none, .fields #[(.str (Str.ofString "lower_text") 404), (.str (Str.ofString "lower_text") 405), (.str (Str.ofString "/claim/cut.py") 406), (.int (89) 0), (.int (1) 0), (.int (0) 0), (.int (0) 0), (.int (3) 0), (.ref 168), (.bool true), (.int (181) 0), (.ref 169), .none, .none, .none, (.ref 170), (.int (407) 0), (.int (89) 0), (.str (Str.ofString "/claim/cut.py") 408)], #[]⟩
noncomputable def o172 (P : Params) : Obj := ⟨(.type "function"), none, .func ⟨(Str.ofString "lower_text"), (Str.ofString "lower_text"), (sArgs (stm 20)), .stmts (sBody (stm 20)), (sScope (stm 20)), 3, [], .none, .none, .none, (.str (Str.ofString "postkeep.octets") 395), none, (.ref 171), .none, 0⟩, #[]⟩
noncomputable def o173 (P : Params) : Obj := ⟨(.type "tuple"), none, .seq #[(.str (Str.ofString "us-ascii") 412), (.str (Str.ofString "iso-8859-1") 414), (.str (Str.ofString "utf-8") 416)] 0, #[]⟩
noncomputable def o174 (P : Params) : Obj := ⟨(.type "tuple"), none, .seq #[] 0, #[]⟩
noncomputable def o175 (P : Params) : Obj := ⟨.none, none, .fields #[], #[]⟩
noncomputable def o176 (P : Params) : Obj := ⟨(.type "tuple"), none, .seq #[(.str (Str.ofString "found") 425), (.str (Str.ofString "alias") 426)] 0, #[]⟩
noncomputable def o177 (P : Params) : Obj := ⟨(.type "tuple"), none, .seq #[] 0, #[]⟩
noncomputable def o178 (P : Params) : Obj := ⟨.none, none, .func ⟨(Str.ofString "charset_names"), (Str.ofString "charset_names"), (sArgs (stm 27)), .stmts (sBody (stm 27)), (sScope (stm 27)), 0, [], .none, .none, .none, .none, none, .none, .none, 0⟩, #[]⟩
noncomputable def o179 (P : Params) : Obj := ⟨(.type "code"), none, .fields #[(.str (Str.ofString "charset_names") 422), (.str (Str.ofString "charset_names") 423), (.str (Str.ofString "/claim/cut.py") 424), (.int (97) 0), (.int (0) 0), (.int (0) 0), (.int (0) 0), (.int (3) 0), (.ref 174), (.bool true), (.int (181) 0), (.ref 175), .none, (.ref 176), (.ref 177), (.ref 178), (.int (427) 0), (.int (97) 0), (.str (Str.ofString "/claim/cut.py") 428)], #[]⟩
noncomputable def o180 (P : Params) : Obj := ⟨(.type "function"), none, .func ⟨(Str.ofString "charset_names"), (Str.ofString "charset_names"), (sArgs (stm 27)), .stmts (sBody (stm 27)), (sScope (stm 27)), 3, [], .none, .none, .none, (.str (Str.ofString "postkeep.charsets") 410), none, (.ref 179), .none, 0⟩, #[]⟩
noncomputable def o181 (P : Params) : Obj := ⟨(.type "tuple"), none, .seq #[] 0, #[]⟩
noncomputable def o182 (P : Params) : Obj := ⟨.none, none, .fields #[], #[]⟩
noncomputable def o183 (P : Params) : Obj := ⟨(.type "tuple"), none, .seq #[(.str (Str.ofString "text") 433)] 0, #[]⟩
noncomputable def o184 (P : Params) : Obj := ⟨(.type "tuple"), none, .seq #[] 0, #[]⟩
noncomputable def o185 (P : Params) : Obj := ⟨.none, none, .func ⟨(Str.ofString "charset_name"), (Str.ofString "charset_name"), (sArgs (stm 28)), .stmts (sBody (stm 28)), (sScope (stm 28)), 0, [], .none, .none, .none, .none, none, .none, .none, 0⟩, #[]⟩
noncomputable def o186 (P : Params) : Obj := ⟨(.type "code"), none, .fields #[(.str (Str.ofString "charset_name") 430), (.str (Str.ofString "charset_name") 431), (.str (Str.ofString "/claim/cut.py") 432), (.int (106) 0), (.int (1) 0), (.int (0) 0), (.int (0) 0), (.int (3) 0), (.ref 181), (.bool true), (.int (181) 0), (.ref 182), .none, (.ref 183), (.ref 184), (.ref 185), (.int (434) 0), (.int (106) 0), (.str (Str.ofString "/claim/cut.py") 435)], #[]⟩
noncomputable def o187 (P : Params) : Obj := ⟨(.type "function"), none, .func ⟨(Str.ofString "charset_name"), (Str.ofString "charset_name"), (sArgs (stm 28)), .stmts (sBody (stm 28)), (sScope (stm 28)), 3, [], .none, .none, .none, (.str (Str.ofString "postkeep.charsets") 410), none, (.ref 186), .none, 0⟩, #[]⟩
noncomputable def o188 (P : Params) : Obj := ⟨(.type "tuple"), none, .seq #[] 0, #[]⟩
noncomputable def o189 (P : Params) : Obj := ⟨.none, none, .fields #[], #[]⟩
noncomputable def o190 (P : Params) : Obj := ⟨(.type "tuple"), none, .seq #[(.str (Str.ofString "charset") 440)] 0, #[]⟩
noncomputable def o191 (P : Params) : Obj := ⟨(.type "tuple"), none, .seq #[] 0, #[]⟩
noncomputable def o192 (P : Params) : Obj := ⟨.none, none, .func ⟨(Str.ofString "need_charset"), (Str.ofString "need_charset"), (sArgs (stm 29)), .stmts (sBody (stm 29)), (sScope (stm 29)), 0, [], .none, .none, .none, .none, none, .none, .none, 0⟩, #[]⟩
noncomputable def o193 (P : Params) : Obj := ⟨(.type "code"), none, .fields #[(.str (Str.ofString "need_charset") 437), (.str (Str.ofString "need_charset") 438), (.str (Str.ofString "/claim/cut.py") 439), (.int (108) 0), (.int (1) 0), (.int (0) 0), (.int (0) 0), (.int (3) 0), (.ref 188), (.bool true), (.int (181) 0), (.ref 189), .none, (.ref 190), (.ref 191), (.ref 192), (.int (441) 0), (.int (108) 0), (.str (Str.ofString "/claim/cut.py") 442)], #[]⟩
noncomputable def o194 (P : Params) : Obj := ⟨(.type "function"), none, .func ⟨(Str.ofString "need_charset"), (Str.ofString "need_charset"), (sArgs (stm 29)), .stmts (sBody (stm 29)), (sScope (stm 29)), 3, [], .none, .none, .none, (.str (Str.ofString "postkeep.charsets") 410), none, (.ref 193), .none, 0⟩, #[]⟩
noncomputable def o195 (P : Params) : Obj := ⟨(.type "tuple"), none, .seq #[] 0, #[]⟩
noncomputable def o196 (P : Params) : Obj := ⟨.none, none, .fields #[], #[]⟩
noncomputable def o197 (P : Params) : Obj := ⟨(.type "tuple"), none, .seq #[(.str (Str.ofString "lead") 447)] 0, #[]⟩
noncomputable def o198 (P : Params) : Obj := ⟨(.type "tuple"), none, .seq #[] 0, #[]⟩
noncomputable def o199 (P : Params) : Obj := ⟨.none, none, .func ⟨(Str.ofString "follower_span"), (Str.ofString "follower_span"), (sArgs (stm 30)), .stmts (sBody (stm 30)), (sScope (stm 30)), 0, [], .none, .none, .none, .none, none, .none, .none, 0⟩, #[]⟩
noncomputable def o200 (P : Params) : Obj := ⟨(.type "code"), none, .fields #[(.str (Str.ofString "follower_span") 444), (.str (Str.ofString "follower_span") 445), (.str (Str.ofString "/claim/cut.py") 446), (.int (111) 0), (.int (1) 0), (.int (0) 0), (.int (0) 0), (.int (3) 0), (.ref 195), (.bool true), (.int (181) 0), (.ref 196), .none, (.ref 197), (.ref 198), (.ref 199), (.int (448) 0), (.int (111) 0), (.str (Str.ofString "/claim/cut.py") 449)], #[]⟩
noncomputable def o201 (P : Params) : Obj := ⟨(.type "function"), none, .func ⟨(Str.ofString "follower_span"), (Str.ofString "follower_span"), (sArgs (stm 30)), .stmts (sBody (stm 30)), (sScope (stm 30)), 3, [], .none, .none, .none, (.str (Str.ofString "postkeep.charsets") 410), none, (.ref 200), .none, 0⟩, #[]⟩
noncomputable def o202 (P : Params) : Obj := ⟨(.type "tuple"), none, .seq #[] 0, #[]⟩
noncomputable def o203 (P : Params) : Obj := ⟨.none, none, .fields #[], #[]⟩
noncomputable def o204 (P : Params) : Obj := ⟨(.type "tuple"), none, .seq #[(.str (Str.ofString "octets") 454), (.str (Str.ofString "at") 455), (.str (Str.ofString "lead") 456), (.str (Str.ofString "least") 457), (.str (Str.ofString "most") 458), (.str (Str.ofString "count") 459), (.str (Str.ofString "code") 460), (.str (Str.ofString "place") 461)] 0, #[]⟩
noncomputable def o205 (P : Params) : Obj := ⟨(.type "tuple"), none, .seq #[] 0, #[]⟩
noncomputable def o206 (P : Params) : Obj := ⟨.none, none, .func ⟨(Str.ofString "utf8_sign"), (Str.ofString "utf8_sign"), (sArgs (stm 31)), .stmts (sBody (stm 31)), (sScope (stm 31)), 0, [], .none, .none, .none, .none, none, .none, .none, 0⟩, #[]⟩
noncomputable def o207 (P : Params) : Obj := ⟨(.type "code"), none, .fields #[(.str (Str.ofString "utf8_sign") 451), (.str (Str.ofString "utf8_sign") 452), (.str (Str.ofString "/claim/cut.py") 453), (.int (119) 0), (.int (2) 0), (.int (0) 0), (.int (0) 0), (.int (3) 0), (.ref 202), (.bool true), (.int (181) 0), (.ref 203), .none, (.ref 204), (.ref 205), (.ref 206), (.int (462) 0), (.int (119) 0), (.str (Str.ofString "/claim/cut.py") 463)], #[]⟩
noncomputable def o208 (P : Params) : Obj := ⟨(.type "function"), none, .func ⟨(Str.ofString "utf8_sign"), (Str.ofString "utf8_sign"), (sArgs (stm 31)), .stmts (sBody (stm 31)), (sScope (stm 31)), 3, [], .none, .none, .none, (.str (Str.ofString "postkeep.charsets") 410), none, (.ref 207), .none, 0⟩, #[]⟩
noncomputable def o209 (P : Params) : Obj := ⟨(.type "tuple"), none, .seq #[] 0, #[]⟩
noncomputable def o210 (P : Params) : Obj := ⟨.none, none, .fields #[], #[]⟩
noncomputable def o211 (P : Params) : Obj := ⟨(.type "tuple"), none, .seq #[(.str (Str.ofString "charset") 468), (.str (Str.ofString "octets") 469), (.str (Str.ofString "at") 470)] 0, #[]⟩
noncomputable def o212 (P : Params) : Obj := ⟨(.type "tuple"), none, .seq #[] 0, #[]⟩
noncomputable def o213 (P : Params) : Obj := ⟨.none, none, .func ⟨(Str.ofString "sign_at"), (Str.ofString "sign_at"), (sArgs (stm 32)), .stmts (sBody (stm 32)), (sScope (stm 32)), 0, [], .none, .none, .none, .none, none, .none, .none, 0⟩, #[]⟩
noncomputable def o214 (P : Params) : Obj := ⟨(.type "code"), none, .fields #[(.str (Str.ofString "sign_at") 465), (.str (Str.ofString "sign_at") 466), (.str (Str.ofString "/claim/cut.py") 467), (.int (133) 0), (.int (3) 0), (.int (0) 0), (.int (0) 0), (.int (3) 0), (.ref 209), (.bool true), (.int (181) 0), (.ref 210), .none, (.ref 211), (.ref 212), (.ref 213), (.int (471) 0), (.int (133) 0), (.str (Str.ofString "/claim/cut.py") 472)], #[]⟩
noncomputable def o215 (P : Params) : Obj := ⟨(.type "function"), none, .func ⟨(Str.ofString "sign_at"), (Str.ofString "sign_at"), (sArgs (stm 32)), .stmts (sBody (stm 32)), (sScope (stm 32)), 3, [], .none, .none, .none, (.str (Str.ofString "postkeep.charsets") 410), none, (.ref 214), .none, 0⟩, #[]⟩
noncomputable def o216 (P : Params) : Obj := ⟨(.type "tuple"), none, .seq #[] 0, #[]⟩
noncomputable def o217 (P : Params) : Obj := ⟨.none, none, .fields #[], #[]⟩
noncomputable def o218 (P : Params) : Obj := ⟨(.type "tuple"), none, .seq #[(.str (Str.ofString "charset") 477), (.str (Str.ofString "octets") 478), (.str (Str.ofString "signs") 479), (.str (Str.ofString "at") 480), (.str (Str.ofString "code") 481), (.str (Str.ofString "length") 482)] 0, #[]⟩
noncomputable def o219 (P : Params) : Obj := ⟨(.type "tuple"), none, .seq #[] 0, #[]⟩
noncomputable def o220 (P : Params) : Obj := ⟨.none, none, .func ⟨(Str.ofString "text_in"), (Str.ofString "text_in"), (sArgs (stm 33)), .stmts (sBody (stm 33)), (sScope (stm 33)), 0, [], .none, .none, .none, .none, none, .none, .none, 0⟩, #[]⟩
noncomputable def o221 (P : Params) : Obj := ⟨(.type "code"), none, .fields #[(.str (Str.ofString "text_in") 474), (.str (Str.ofString "text_in") 475), (.str (Str.ofString "/claim/cut.py") 476), (.int (139) 0), (.int (2) 0), (.int (0) 0), (.int (0) 0), (.int (3) 0), (.ref 216), (.bool true), (.int (181) 0), (.ref 217), .none, (.ref 218), (.ref 219), (.ref 220), (.int (483) 0), (.int (139) 0), (.str (Str.ofString "/claim/cut.py") 484)], #[]⟩
noncomputable def o222 (P : Params) : Obj := ⟨(.type "function"), none, .func ⟨(Str.ofString "text_in"), (Str.ofString "text_in"), (sArgs (stm 33)), .stmts (sBody (stm 33)), (sScope (stm 33)), 3, [], .none, .none, .none, (.str (Str.ofString "postkeep.charsets") 410), none, (.ref 221), .none, 0⟩, #[]⟩
noncomputable def o223 (P : Params) : Obj := ⟨(.type "tuple"), none, .seq #[] 0, #[]⟩
noncomputable def o224 (P : Params) : Obj := ⟨.none, none, .fields #[], #[]⟩
noncomputable def o225 (P : Params) : Obj := ⟨(.type "tuple"), none, .seq #[(.str (Str.ofString "charset") 489), (.str (Str.ofString "octets") 490), (.str (Str.ofString "signs") 491), (.str (Str.ofString "at") 492), (.str (Str.ofString "code") 493), (.str (Str.ofString "length") 494)] 0, #[]⟩
noncomputable def o226 (P : Params) : Obj := ⟨(.type "tuple"), none, .seq #[] 0, #[]⟩
noncomputable def o227 (P : Params) : Obj := ⟨.none, none, .func ⟨(Str.ofString "strict_text"), (Str.ofString "strict_text"), (sArgs (stm 34)), .stmts (sBody (stm 34)), (sScope (stm 34)), 0, [], .none, .none, .none, .none, none, .none, .none, 0⟩, #[]⟩
noncomputable def o228 (P : Params) : Obj := ⟨(.type "code"), none, .fields #[(.str (Str.ofString "strict_text") 486), (.str (Str.ofString "strict_text") 487), (.str (Str.ofString "/claim/cut.py") 488), (.int (148) 0), (.int (2) 0), (.int (0) 0), (.int (0) 0), (.int (3) 0), (.ref 223), (.bool true), (.int (181) 0), (.ref 224), .none, (.ref 225), (.ref 226), (.ref 227), (.int (495) 0), (.int (148) 0), (.str (Str.ofString "/claim/cut.py") 496)], #[]⟩
noncomputable def o229 (P : Params) : Obj := ⟨(.type "function"), none, .func ⟨(Str.ofString "strict_text"), (Str.ofString "strict_text"), (sArgs (stm 34)), .stmts (sBody (stm 34)), (sScope (stm 34)), 3, [], .none, .none, .none, (.str (Str.ofString "postkeep.charsets") 410), none, (.ref 228), .none, 0⟩, #[]⟩
noncomputable def o230 (P : Params) : Obj := ⟨(.type "tuple"), none, .seq #[] 0, #[]⟩
noncomputable def o231 (P : Params) : Obj := ⟨.none, none, .fields #[], #[]⟩
noncomputable def o232 (P : Params) : Obj := ⟨(.type "tuple"), none, .seq #[(.str (Str.ofString "octets") 501)] 0, #[]⟩
noncomputable def o233 (P : Params) : Obj := ⟨(.type "tuple"), none, .seq #[] 0, #[]⟩
noncomputable def o234 (P : Params) : Obj := ⟨.none, none, .func ⟨(Str.ofString "guessed_text"), (Str.ofString "guessed_text"), (sArgs (stm 35)), .stmts (sBody (stm 35)), (sScope (stm 35)), 0, [], .none, .none, .none, .none, none, .none, .none, 0⟩, #[]⟩
noncomputable def o235 (P : Params) : Obj := ⟨(.type "code"), none, .fields #[(.str (Str.ofString "guessed_text") 498), (.str (Str.ofString "guessed_text") 499), (.str (Str.ofString "/claim/cut.py") 500), (.int (159) 0), (.int (1) 0), (.int (0) 0), (.int (0) 0), (.int (3) 0), (.ref 230), (.bool true), (.int (181) 0), (.ref 231), .none, (.ref 232), (.ref 233), (.ref 234), (.int (502) 0), (.int (159) 0), (.str (Str.ofString "/claim/cut.py") 503)], #[]⟩
noncomputable def o236 (P : Params) : Obj := ⟨(.type "function"), none, .func ⟨(Str.ofString "guessed_text"), (Str.ofString "guessed_text"), (sArgs (stm 35)), .stmts (sBody (stm 35)), (sScope (stm 35)), 3, [], .none, .none, .none, (.str (Str.ofString "postkeep.charsets") 410), none, (.ref 235), .none, 0⟩, #[]⟩
noncomputable def o237 (P : Params) : Obj := ⟨(.type "tuple"), none, .seq #[(.int (0) 513), (.int (10) 514), (.int (13) 515)] 0, #[]⟩
noncomputable def o238 (P : Params) : Obj := ⟨(.type "tuple"), none, .seq #[] 0, #[]⟩
noncomputable def o239 (P : Params) : Obj := ⟨.none, none, .fields #[], #[]⟩
noncomputable def o240 (P : Params) : Obj := ⟨(.type "tuple"), none, .seq #[(.str (Str.ofString "code") 520)] 0, #[]⟩
noncomputable def o241 (P : Params) : Obj := ⟨(.type "tuple"), none, .seq #[] 0, #[]⟩
noncomputable def o242 (P : Params) : Obj := ⟨.none, none, .func ⟨(Str.ofString "is_atom_code"), (Str.ofString "is_atom_code"), (sArgs (stm 41)), .stmts (sBody (stm 41)), (sScope (stm 41)), 0, [], .none, .none, .none, .none, none, .none, .none, 0⟩, #[]⟩
noncomputable def o243 (P : Params) : Obj := ⟨(.type "code"), none, .fields #[(.str (Str.ofString "is_atom_code") 517), (.str (Str.ofString "is_atom_code") 518), (.str (Str.ofString "/claim/cut.py") 519), (.int (169) 0), (.int (1) 0), (.int (0) 0), (.int (0) 0), (.int (3) 0), (.ref 238), (.bool true), (.int (181) 0), (.ref 239), .none, (.ref 240), (.ref 241), (.ref 242), (.int (521) 0), (.int (169) 0), (.str (Str.ofString "/claim/cut.py") 522)], #[]⟩
noncomputable def o244 (P : Params) : Obj := ⟨(.type "function"), none, .func ⟨(Str.ofString "is_atom_code"), (Str.ofString "is_atom_code"), (sArgs (stm 41)), .stmts (sBody (stm 41)), (sScope (stm 41)), 3, [], .none, .none, .none, (.str (Str.ofString "postkeep.tokens") 505), none, (.ref 243), .none, 0⟩, #[]⟩
noncomputable def o245 (P : Params) : Obj := ⟨(.type "tuple"), none, .seq #[] 0, #[]⟩
noncomputable def o246 (P : Params) : Obj := ⟨.none, none, .fields #[], #[]⟩
noncomputable def o247 (P : Params) : Obj := ⟨(.type "tuple"), none, .seq #[(.str (Str.ofString "data") 527), (.str (Str.ofString "at") 528)] 0, #[]⟩
noncomputable def o248 (P : Params) : Obj := ⟨(.type "tuple"), none, .seq #[] 0, #[]⟩
noncomputable def o249 (P : Params) : Obj := ⟨.none, none, .func ⟨(Str.ofString "line_end"), (Str.ofString "line_end"), (sArgs (stm 42)), .stmts (sBody (stm 42)), (sScope (stm 42)), 0, [], .none, .none, .none, .none, none, .none, .none, 0⟩, #[]⟩
noncomputable def o250 (P : Params) : Obj := ⟨(.type "code"), none, .fields #[(.str (Str.ofString "line_end") 524), (.str (Str.ofString "line_end") 525), (.str (Str.ofString "/claim/cut.py") 526), (.int (171) 0), (.int (2) 0), (.int (0) 0), (.int (0) 0), (.int (3) 0), (.ref 245), (.bool true), (.int (181) 0), (.ref 246), .none, (.ref 247), (.ref 248), (.ref 249), (.int (529) 0), (.int (171) 0), (.str (Str.ofString "/claim/cut.py") 530)], #[]⟩
noncomputable def o251 (P : Params) : Obj := ⟨(.type "function"), none, .func ⟨(Str.ofString "line_end"), (Str.ofString "line_end"), (sArgs (stm 42)), .stmts (sBody (stm 42)), (sScope (stm 42)), 3, [], .none, .none, .none, (.str (Str.ofString "postkeep.tokens") 505), none, (.ref 250), .none, 0⟩, #[]⟩
noncomputable def o252 (P : Params) : Obj := ⟨(.type "tuple"), none, .seq #[] 0, #[]⟩
noncomputable def o253 (P : Params) : Obj := ⟨.none, none, .fields #[], #[]⟩
noncomputable def o254 (P : Params) : Obj := ⟨(.type "tuple"), none, .seq #[(.str (Str.ofString "data") 535), (.str (Str.ofString "at") 536), (.str (Str.ofString "begun") 537), (.str (Str.ofString "behind") 538)] 0, #[]⟩
noncomputable def o255 (P : Params) : Obj := ⟨(.type "tuple"), none, .seq #[] 0, #[]⟩
noncomputable def o256 (P : Params) : Obj := ⟨.none, none, .func ⟨(Str.ofString "inside_at"), (Str.ofString "inside_at"), (sArgs (stm 43)), .stmts (sBody (stm 43)), (sScope (stm 43)), 0, [], .none, .none, .none, .none, none, .none, .none, 0⟩, #[]⟩
noncomputable def o257 (P : Params) : Obj := ⟨(.type "code"), none, .fields #[(.str (Str.ofString "inside_at") 532), (.str (Str.ofString "inside_at") 533), (.str (Str.ofString "/claim/cut.py") 534), (.int (175) 0), (.int (3) 0), (.int (0) 0), (.int (0) 0), (.int (3) 0), (.ref 252), (.bool true), (.int (181) 0), (.ref 253), .none, (.ref 254), (.ref 255), (.ref 256), (.int (539) 0), (.int (175) 0), (.str (Str.ofString "/claim/cut.py") 540)], #[]⟩
noncomputable def o258 (P : Params) : Obj := ⟨(.type "function"), none, .func ⟨(Str.ofString "inside_at"), (Str.ofString "inside_at"), (sArgs (stm 43)), .stmts (sBody (stm 43)), (sScope (stm 43)), 3, [], .none, .none, .none, (.str (Str.ofString "postkeep.tokens") 505), none, (.ref 257), .none, 0⟩, #[]⟩
noncomputable def o259 (P : Params) : Obj := ⟨(.type "tuple"), none, .seq #[] 0, #[]⟩
noncomputable def o260 (P : Params) : Obj := ⟨.none, none, .fields #[], #[]⟩
noncomputable def o261 (P : Params) : Obj := ⟨(.type "tuple"), none, .seq #[(.str (Str.ofString "data") 545), (.str (Str.ofString "begun") 546), (.str (Str.ofString "closing") 547), (.str (Str.ofString "barred") 548), (.str (Str.ofString "parts") 549), (.str (Str.ofString "at") 550), (.str (Str.ofString "octets") 551)] 0, #[]⟩
noncomputable def o262 (P : Params) : Obj := ⟨(.type "tuple"), none, .seq #[] 0, #[]⟩
noncomputable def o263 (P : Params) : Obj := ⟨.none, none, .func ⟨(Str.ofString "closed_at"), (Str.ofString "closed_at"), (sArgs (stm 44)), .stmts (sBody (stm 44)), (sScope (stm 44)), 0, [], .none, .none, .none, .none, none, .none, .none, 0⟩, #[]⟩
noncomputable def o264 (P : Params) : Obj := ⟨(.type "code"), none, .fields #[(.str (Str.ofString "closed_at") 542), (.str (Str.ofString "closed_at") 543), (.str (Str.ofString "/claim/cut.py") 544), (.int (188) 0), (.int (4) 0), (.int (0) 0), (.int (0) 0), (.int (3) 0), (.ref 259), (.bool true), (.int (181) 0), (.ref 260), .none, (.ref 261), (.ref 262), (.ref 263), (.int (552) 0), (.int (188) 0), (.str (Str.ofString "/claim/cut.py") 553)], #[]⟩
noncomputable def o265 (P : Params) : Obj := ⟨(.type "function"), none, .func ⟨(Str.ofString "closed_at"), (Str.ofString "closed_at"), (sArgs (stm 44)), .stmts (sBody (stm 44)), (sScope (stm 44)), 3, [], .none, .none, .none, (.str (Str.ofString "postkeep.tokens") 505), none, (.ref 264), .none, 0⟩, #[]⟩
noncomputable def o266 (P : Params) : Obj := ⟨(.type "tuple"), none, .seq #[] 0, #[]⟩
noncomputable def o267 (P : Params) : Obj := ⟨.none, none, .fields #[], #[]⟩
noncomputable def o268 (P : Params) : Obj := ⟨(.type "tuple"), none, .seq #[(.str (Str.ofString "data") 558), (.str (Str.ofString "begun") 559), (.str (Str.ofString "parts") 560), (.str (Str.ofString "depth") 561), (.str (Str.ofString "at") 562), (.str (Str.ofString "sign") 563), (.str (Str.ofString "octets") 564)] 0, #[]⟩
noncomputable def o269 (P : Params) : Obj := ⟨(.type "tuple"), none, .seq #[] 0, #[]⟩
noncomputable def o270 (P : Params) : Obj := ⟨.none, none, .func ⟨(Str.ofString "comment_at"), (Str.ofString "comment_at"), (sArgs (stm 45)), .stmts (sBody (stm 45)), (sScope (stm 45)), 0, [], .none, .none, .none, .none, none, .none, .none, 0⟩, #[]⟩
noncomputable def o271 (P : Params) : Obj := ⟨(.type "code"), none, .fields #[(.str (Str.ofString "comment_at") 555), (.str (Str.ofString "comment_at") 556), (.str (Str.ofString "/claim/cut.py") 557), (.int (197) 0), (.int (2) 0), (.int (0) 0), (.int (0) 0), (.int (3) 0), (.ref 266), (.bool true), (.int (181) 0), (.ref 267), .none, (.ref 268), (.ref 269), (.ref 270), (.int (565) 0), (.int (197) 0), (.str (Str.ofString "/claim/cut.py") 566)], #[]⟩
noncomputable def o272 (P : Params) : Obj := ⟨(.type "function"), none, .func ⟨(Str.ofString "comment_at"), (Str.ofString "comment_at"), (sArgs (stm 45)), .stmts (sBody (stm 45)), (sScope (stm 45)), 3, [], .none, .none, .none, (.str (Str.ofString "postkeep.tokens") 505), none, (.ref 271), .none, 0⟩, #[]⟩
noncomputable def o273 (P : Params) : Obj := ⟨(.type "tuple"), none, .seq #[] 0, #[]⟩
noncomputable def o274 (P : Params) : Obj := ⟨.none, none, .fields #[], #[]⟩
noncomputable def o275 (P : Params) : Obj := ⟨(.type "tuple"), none, .seq #[(.str (Str.ofString "data") 571), (.str (Str.ofString "at") 572), (.str (Str.ofString "end") 573)] 0, #[]⟩
noncomputable def o276 (P : Params) : Obj := ⟨(.type "tuple"), none, .seq #[] 0, #[]⟩
noncomputable def o277 (P : Params) : Obj := ⟨.none, none, .func ⟨(Str.ofString "atom_at"), (Str.ofString "atom_at"), (sArgs (stm 46)), .stmts (sBody (stm 46)), (sScope (stm 46)), 0, [], .none, .none, .none, .none, none, .none, .none, 0⟩, #[]⟩
noncomputable def o278 (P : Params) : Obj := ⟨(.type "code"), none, .fields #[(.str (Str.ofString "atom_at") 568), (.str (Str.ofString "atom_at") 569), (.str (Str.ofString "/claim/cut.py") 570), (.int (212) 0), (.int (2) 0), (.int (0) 0), (.int (0) 0), (.int (3) 0), (.ref 273), (.bool true), (.int (181) 0), (.ref 274), .none, (.ref 275), (.ref 276), (.ref 277), (.int (574) 0), (.int (212) 0), (.str (Str.ofString "/claim/cut.py") 575)], #[]⟩
noncomputable def o279 (P : Params) : Obj := ⟨(.type "function"), none, .func ⟨(Str.ofString "atom_at"), (Str.ofString "atom_at"), (sArgs (stm 46)), .stmts (sBody (stm 46)), (sScope (stm 46)), 3, [], .none, .none, .none, (.str (Str.ofString "postkeep.tokens") 505), none, (.ref 278), .none, 0⟩, #[]⟩
noncomputable def o280 (P : Params) : Obj := ⟨(.type "tuple"), none, .seq #[] 0, #[]⟩
noncomputable def o281 (P : Params) : Obj := ⟨.none, none, .fields #[], #[]⟩
noncomputable def o282 (P : Params) : Obj := ⟨(.type "tuple"), none, .seq #[(.str (Str.ofString "data") 580), (.str (Str.ofString "at") 581), (.str (Str.ofString "sign") 582), (.str (Str.ofString "worth") 583), (.str (Str.ofString "behind") 584)] 0, #[]⟩
noncomputable def o283 (P : Params) : Obj := ⟨(.type "tuple"), none, .seq #[] 0, #[]⟩
noncomputable def o284 (P : Params) : Obj := ⟨.none, none, .func ⟨(Str.ofString "token_at"), (Str.ofString "token_at"), (sArgs (stm 47)), .stmts (sBody (stm 47)), (sScope (stm 47)), 0, [], .none, .none, .none, .none, none, .none, .none, 0⟩, #[]⟩
noncomputable def o285 (P : Params) : Obj := ⟨(.type "code"), none, .fields #[(.str (Str.ofString "token_at") 577), (.str (Str.ofString "token_at") 578), (.str (Str.ofString "/claim/cut.py") 579), (.int (217) 0), (.int (2) 0), (.int (0) 0), (.int (0) 0), (.int (3) 0), (.ref 280), (.bool true), (.int (181) 0), (.ref 281), .none, (.ref 282), (.ref 283), (.ref 284), (.int (585) 0), (.int (217) 0), (.str (Str.ofString "/claim/cut.py") 586)], #[]⟩
noncomputable def o286 (P : Params) : Obj := ⟨(.type "function"), none, .func ⟨(Str.ofString "token_at"), (Str.ofString "token_at"), (sArgs (stm 47)), .stmts (sBody (stm 47)), (sScope (stm 47)), 3, [], .none, .none, .none, (.str (Str.ofString "postkeep.tokens") 505), none, (.ref 285), .none, 0⟩, #[]⟩
noncomputable def o287 (P : Params) : Obj := ⟨(.type "tuple"), none, .seq #[] 0, #[]⟩
noncomputable def o288 (P : Params) : Obj := ⟨.none, none, .fields #[], #[]⟩
noncomputable def o289 (P : Params) : Obj := ⟨(.type "tuple"), none, .seq #[(.str (Str.ofString "data") 591), (.str (Str.ofString "at") 592), (.str (Str.ofString "behind") 593)] 0, #[]⟩
noncomputable def o290 (P : Params) : Obj := ⟨(.type "tuple"), none, .seq #[] 0, #[]⟩
noncomputable def o291 (P : Params) : Obj := ⟨.none, none, .func ⟨(Str.ofString "past_white"), (Str.ofString "past_white"), (sArgs (stm 48)), .stmts (sBody (stm 48)), (sScope (stm 48)), 0, [], .none, .none, .none, .none, none, .none, .none, 0⟩, #[]⟩
noncomputable def o292 (P : Params) : Obj := ⟨(.type "code"), none, .fields #[(.str (Str.ofString "past_white") 588), (.str (Str.ofString "past_white") 589), (.str (Str.ofString "/claim/cut.py") 590), (.int (234) 0), (.int (2) 0), (.int (0) 0), (.int (0) 0), (.int (3) 0), (.ref 287), (.bool true), (.int (181) 0), (.ref 288), .none, (.ref 289), (.ref 290), (.ref 291), (.int (594) 0), (.int (234) 0), (.str (Str.ofString "/claim/cut.py") 595)], #[]⟩
noncomputable def o293 (P : Params) : Obj := ⟨(.type "function"), none, .func ⟨(Str.ofString "past_white"), (Str.ofString "past_white"), (sArgs (stm 48)), .stmts (sBody (stm 48)), (sScope (stm 48)), 3, [], .none, .none, .none, (.str (Str.ofString "postkeep.tokens") 505), none, (.ref 292), .none, 0⟩, #[]⟩
noncomputable def o294 (P : Params) : Obj := ⟨(.type "tuple"), none, .seq #[] 0, #[]⟩
noncomputable def o295 (P : Params) : Obj := ⟨.none, none, .fields #[], #[]⟩
noncomputable def o296 (P : Params) : Obj := ⟨(.type "tuple"), none, .seq #[(.str (Str.ofString "octets") 600), (.str (Str.ofString "found") 601), (.str (Str.ofString "at") 602), (.str (Str.ofString "token") 603)] 0, #[]⟩
noncomputable def o297 (P : Params) : Obj := ⟨(.type "tuple"), none, .seq #[] 0, #[]⟩
noncomputable def o298 (P : Params) : Obj := ⟨.none, none, .func ⟨(Str.ofString "tokens_of"), (Str.ofString "tokens_of"), (sArgs (stm 49)), .stmts (sBody (stm 49)), (sScope (stm 49)), 0, [], .none, .none, .none, .none, none, .none, .none, 0⟩, #[]⟩
noncomputable def o299 (P : Params) : Obj := ⟨(.type "code"), none, .fields #[(.str (Str.ofString "tokens_of") 597), (.str (Str.ofString "tokens_of") 598), (.str (Str.ofString "/claim/cut.py") 599), (.int (241) 0), (.int (1) 0), (.int (0) 0), (.int (0) 0), (.int (3) 0), (.ref 294), (.bool true), (.int (181) 0), (.ref 295), .none, (.ref 296), (.ref 297), (.ref 298), (.int (604) 0), (.int (241) 0), (.str (Str.ofString "/claim/cut.py") 605)], #[]⟩
noncomputable def o300 (P : Params) : Obj := ⟨(.type "function"), none, .func ⟨(Str.ofString "tokens_of"), (Str.ofString "tokens_of"), (sArgs (stm 49)), .stmts (sBody (stm 49)), (sScope (stm 49)), 3, [], .none, .none, .none, (.str (Str.ofString "postkeep.tokens") 505), none, (.ref 299), .none, 0⟩, #[]⟩
noncomputable def o301 (P : Params) : Obj := ⟨(.type "tuple"), none, .seq #[] 0, #[]⟩
noncomputable def o302 (P : Params) : Obj := ⟨.none, none, .fields #[], #[]⟩
noncomputable def o303 (P : Params) : Obj := ⟨.none, none, .func ⟨(Str.ofString "without_comments"), (Str.ofString "without_comments"), (sArgs (stm 50)), .stmts (sBody (stm 50)), (sScope (stm 50)), 0, [], .none, .none, .none, .none, none, .none, .none, 0⟩, #[]⟩
noncomputable def o304 (P : Params) : Obj := ⟨(.type "code"), none, .fields #[(.str (Str.ofString "without_comments") 607), (.str (Str.ofString "without_comments") 608), (.str (Str.ofString "/claim/cut.py") 609), (.int (249) 0), (.int (1) 0), (.int (0) 0), (.int (0) 0), (.int (3) 0), (.ref 301), (.bool true), (.int (181) 0), (.ref 302), .none, .none, .none, (.ref 303), (.int (610) 0), (.int (249) 0), (.str (Str.ofString "/claim/cut.py") 611)], #[]⟩
noncomputable def o305 (P : Params) : Obj := ⟨(.type "function"), none, .func ⟨(Str.ofString "without_comments"), (Str.ofString "without_comments"), (sArgs (stm 50)), .stmts (sBody (stm 50)), (sScope (stm 50)), 3, [], .none, .none, .none, (.str (Str.ofString "postkeep.tokens") 505), none, (.ref 304), .none, 0⟩, #[]⟩
noncomputable def heap52 (P : Params) : Heap := ⟨#[boot_o_0 P, boot_o_1 P, o2x16 P, o3x52 P, boot_o_4 P, boot_o_5 P, boot_o_6 P, boot_o_7 P, boot_o_8 P, boot_o_9 P, boot_o_10 P, o11 P, o12x52 P, o13 P, o14 P, o15 P, o16 P, o17 P, o18 P, o19 P, o20 P, o21 P, o22 P, o23 P, o24 P, o25 P, o26 P, o27 P, o28 P, o29 P, o30 P, o31 P, o32 P, o33 P, o34 P, o35 P, o36 P, o37 P, o38 P, o39 P, o40 P, o41 P, o42 P, o43 P, o44 P, o45 P, o46 P, o47 P, o48 P, o49 P, o50 P, o51 P, o52 P, o53 P, o54 P, o55 P, o56 P, o57 P, o58 P, o59 P, o60 P, o61 P, o62 P, o63 P, o64 P, o65 P, o66 P, o67 P, o68 P, o69 P, o70 P, o71 P, o72 P, o73 P, o74 P, o75 P, o76 P, o77 P, o78 P, o79 P, o80 P, o81 P, o82 P, o83 P, o84 P, o85 P, o86 P, o87 P, o88 P, o89 P, o90 P, o91 P, o92 P, o93 P, o94 P, o95 P, o96 P, o97 P, o98 P, o99 P, o100 P, o101 P, o102 P, o103 P, o104 P, o105 P, o106 P, o107 P, o108 P, o109 P, o110 P, o111 P, o112 P, o113 P, o114 P, o115 P, o116 P, o117 P, o118 P, o119 P, o120 P, o121 P, o122 P, o123 P, o124 P, o125 P, o126 P, o127 P, o128 P, o129 P, o130 P, o131 P, o132 P, o133 P, o134 P, o135 P, o136 P, o137 P, o138 P, o139 P, o140 P, o141 P, o142 P, o143 P, o144 P, o145 P, o146 P, o147 P, o148 P, o149 P, o150 P, o151 P, o152 P, o153 P, o154 P, o155 P, o156 P, o157 P, o158 P, o159 P, o160 P, o161 P, o162 P, o163 P, o164 P, o165 P, o166 P, o167 P, o168 P, o169 P, o170 P, o171 P, o172 P, o173 P, o174 P, o175 P, o176 P, o177 P, o178 P, o179 P, o180 P, o181 P, o182 P, o183 P, o184 P, o185 P, o186 P, o187 P, o188 P, o189 P, o190 P, o191 P, o192 P, o193 P, o194 P, o195 P, o196 P, o197 P, o198 P, o199 P, o200 P, o201 P, o202 P, o203 P, o204 P, o205 P, o206 P, o207 P, o208 P, o209 P, o210 P, o211 P, o212 P, o213 P, o214 P, o215 P, o216 P, o217 P, o218 P, o219 P, o220 P, o221 P, o222 P, o223 P, o224 P, o225 P, o226 P, o227 P, o228 P, o229 P, o230 P, o231 P, o232 P, o233 P, o234 P, o235 P, o236 P, o237 P, o238 P, o239 P, o240 P, o241 P, o242 P, o243 P, o244 P, o245 P, o246 P, o247 P, o248 P, o249 P, o250 P, o251 P, o252 P, o253 P, o254 P, o255 P, o256 P, o257 P, o258 P, o259 P, o260 P, o261 P, o262 P, o263 P, o264 P, o265 P, o266 P, o267 P, o268 P, o269 P, o270 P, o271 P, o272 P, o273 P, o274 P, o275 P, o276 P, o277 P, o278 P, o279 P, o280 P, o281 P, o282 P, o283 P, o284 P, o285 P, o286 P, o287 P, o288 P, o289 P, o290 P, o291 P, o292 P, o293 P, o294 P, o295 P, o296 P, o297 P, o298 P, o299 P, o300 P, o301 P, o302 P, o303 P, o304 P, o305 P], {}⟩
noncomputable abbrev st52 (w : World) (os : OsState) : Shared := ⟨heap52 w.params, #[], {}, 615, os⟩
noncomputable abbrev pos52 : Pos := ⟨251, 0, 251, 8⟩
noncomputable def o3x73 (P : Params) : Obj := ⟨(.type "dict"), none, .dict #[⟨PyData.keyHash P (Str.ofString "__name__"), .str (Str.ofString "__name__") 165, (.str (Str.ofString "postkeep.dates") 613)⟩, ⟨PyData.keyHash P (Str.ofString "__doc__"), .str (Str.ofString "__doc__") 166, .none⟩, ⟨PyData.keyHash P (Str.ofString "__package__"), .str (Str.ofString "__package__") 167, .none⟩, ⟨PyData.keyHash P (Str.ofString "__loader__"), .str (Str.ofString "__loader__") 168, (.builtin "__main__.__loader__#opaque")⟩, ⟨PyData.keyHash P (Str.ofString "__spec__"), .str (Str.ofString "__spec__") 169, .none⟩, ⟨PyData.keyHash P (Str.ofString "__annotations__"), .str (Str.ofString "__annotations__") 170, (.ref 6)⟩, ⟨PyData.keyHash P (Str.ofString "__builtins__"), .str (Str.ofString "__builtins__") 171, (.ref 4)⟩, ⟨PyData.keyHash P (Str.ofString "__file__"), .str (Str.ofString "__file__") 173, (.str (Str.ofString "/claim/cut.py") 172)⟩, ⟨PyData.keyHash P (Str.ofString "__cached__"), .str (Str.ofString "__cached__") 174, .none⟩, ⟨PyData.keyHash P (Str.ofString "row_of"), .str (Str.ofString "row_of") 196, (.ref 21)⟩, ⟨PyData.keyHash P (Str.ofString "leaves_of"), .str (Str.ofString "leaves_of") 206, (.ref 28)⟩, ⟨PyData.keyHash P (Str.ofString "has_kind"), .str (Str.ofString "has_kind") 212, (.ref 33)⟩, ⟨PyData.keyHash P (Str.ofString "decide"), .str (Str.ofString "decide") 222, (.ref 40)⟩, ⟨PyData.keyHash P (Str.ofString "PostError"), .str (Str.ofString "PostError") 264, (.ref 65)⟩, ⟨PyData.keyHash P (Str.ofString "WordFault"), .str (Str.ofString "WordFault") 280, (.ref 78)⟩, ⟨PyData.keyHash P (Str.ofString "MimeFault"), .str (Str.ofString "MimeFault") 296, (.ref 90)⟩, ⟨PyData.keyHash P (Str.ofString "StoreFault"), .str (Str.ofString "StoreFault") 312, (.ref 102)⟩, ⟨PyData.keyHash P (Str.ofString "SYSTEM"), .str (Str.ofString "SYSTEM") 316, (.str (Str.ofString "\\Seen \\Answered \\Flagged \\Deleted \\Draft") 315)⟩, ⟨PyData.keyHash P (Str.ofString "NO_KEYWORD"), .str (Str.ofString "NO_KEYWORD") 318, (.str (Str.ofString "(){ %*\"\\]") 317)⟩, ⟨PyData.keyHash P (Str.ofString "MOST_KEYWORD"), .str (Str.ofString "MOST_KEYWORD") 320, (.int (60) 319)⟩, ⟨PyData.keyHash P (Str.ofString "system_flags"), .str (Str.ofString "system_flags") 326, (.ref 111)⟩, ⟨PyData.keyHash P (Str.ofString "is_keyword"), .str (Str.ofString "is_keyword") 334, (.ref 118)⟩, ⟨PyData.keyHash P (Str.ofString "flag_name"), .str (Str.ofString "flag_name") 342, (.ref 125)⟩, ⟨PyData.keyHash P (Str.ofString "Letter"), .str (Str.ofString "Letter") 394, (.ref 156)⟩, ⟨PyData.keyHash P (Str.ofString "lower_code"), .str (Str.ofString "lower_code") 403, (.ref 167)⟩, ⟨PyData.keyHash P (Str.ofString "lower_text"), .str (Str.ofString "lower_text") 409, (.ref 172)⟩, ⟨PyData.keyHash P (Str.ofString "ASCII"), .str (Str.ofString "ASCII") 413, (.str (Str.ofString "us-ascii") 412)⟩, ⟨PyData.keyHash P (Str.ofString "LATIN"), .str (Str.ofString "LATIN") 415, (.str (Str.ofString "iso-8859-1") 414)⟩, ⟨PyData.keyHash P (Str.ofString "UTF8"), .str (Str.ofString "UTF8") 417, (.str (Str.ofString "utf-8") 416)⟩, ⟨PyData.keyHash P (Str.ofString "CHARSETS"), .str (Str.ofString "CHARSETS") 418, (.ref 173)⟩, ⟨PyData.keyHash P (Str.ofString "UNKNOWN_SIGN"), .str (Str.ofString "UNKNOWN_SIGN") 421, (.str (Str.ofString "�") 420)⟩, ⟨PyData.keyHash P (Str.ofString "charset_names"), .str (Str.ofString "charset_names") 429, (.ref 180)⟩, ⟨PyData.keyHash P (Str.ofString "charset_name"), .str (Str.ofString "charset_name") 436, (.ref 187)⟩, ⟨PyData.keyHash P (Str.ofString "need_charset"), .str (Str.ofString "need_charset") 443, (.ref 194)⟩, ⟨PyData.keyHash P (Str.ofString "follower_span"), .str (Str.ofString "follower_span") 450, (.ref 201)⟩, ⟨PyData.keyHash P (Str.ofString "utf8_sign"), .str (Str.ofString "utf8_sign") 464, (.ref 208)⟩, ⟨PyData.keyHash P (Str.ofString "sign_at"), .str (Str.ofString "sign_at") 473, (.ref 215)⟩, ⟨PyData.keyHash P (Str.ofString "text_in"), .str (Str.ofString "text_in") 485, (.ref 222)⟩, ⟨PyData.keyHash P (Str.ofString "strict_text"), .str (Str.ofString "strict_text") 497, (.ref 229)⟩, ⟨PyData.keyHash P (Str.ofString "guessed_text"), .str (Str.ofString "guessed_text") 504, (.ref 236)⟩, ⟨PyData.keyHash P (Str.ofString "MOST_DEPTH_tokens"), .str (Str.ofString "MOST_DEPTH_tokens") 508, (.int (20) 507)⟩, ⟨PyData.keyHash P (Str.ofString "SIGNS_tokens"), .str (Str.ofString "SIGNS_tokens") 510, (.bytes #[60, 62, 64, 44, 59, 58, 46, 92] 509)⟩, ⟨PyData.keyHash P (Str.ofString "ATOM_SIGNS"), .str (Str.ofString "ATOM_SIGNS") 512, (.bytes #[33, 35, 36, 37, 38, 39, 42, 43, 45, 47, 61, 63, 94, 95, 96, 123, 124, 125, 126] 511)⟩, ⟨PyData.keyHash P (Str.ofString "NEVER_ESCAPED"), .str (Str.ofString "NEVER_ESCAPED") 516, (.ref 237)⟩, ⟨PyData.keyHash P (Str.ofString "is_atom_code"), .str (Str.ofString "is_atom_code") 523, (.ref 244)⟩, ⟨PyData.keyHash P (Str.ofString "line_end"), .str (Str.ofString "line_end") 531, (.ref 251)⟩, ⟨PyData.keyHash P (Str.ofString "inside_at"), .str (Str.ofString "inside_at") 541, (.ref 258)⟩, ⟨PyData.keyHash P (Str.ofString "closed_at"), .str (Str.ofString "closed_at") 554, (.ref 265)⟩, ⟨PyData.keyHash P (Str.ofString "comment_at"), .str (Str.ofString "comment_at") 567, (.ref 272)⟩, ⟨PyData.keyHash P (Str.ofString "atom_at"), .str (Str.ofString "atom_at") 576, (.ref 279)⟩, ⟨PyData.keyHash P (Str.ofString "token_at"), .str (Str.ofString "token_at") 587, (.ref 286)⟩, ⟨PyData.keyHash P (Str.ofString "past_white"), .str (Str.ofString "past_white") 596, (.ref 293)⟩, ⟨PyData.keyHash P (Str.ofString "tokens_of"), .str (Str.ofString "tokens_of") 606, (.ref 300)⟩, ⟨PyData.keyHash P (Str.ofString "without_comments"), .str (Str.ofString "without_comments") 612, (.ref 305)⟩, ⟨PyData.keyHash P (Str.ofString "MONTHS"), .str (Str.ofString "MONTHS") 627, (.ref 306)⟩, ⟨PyData.keyHash P (Str.ofString "DAYS"), .str (Str.ofString "DAYS") 635, (.ref 307)⟩, ⟨PyData.keyHash P (Str.ofString "MOST_YEAR"), .str (Str.ofString "MOST_YEAR") 637, (.int (9999) 636)⟩, ⟨PyData.keyHash P (Str.ofString "DAY_SECONDS"), .str (Str.ofString "DAY_SECONDS") 639, (.int (86400) 638)⟩, ⟨PyData.keyHash P (Str.ofString "FIRST_DAY"), .str (Str.ofString "FIRST_DAY") 641, (.int (719162) 640)⟩, ⟨PyData.keyHash P (Str.ofString "Moment"), .str (Str.ofString "Moment") 689, (.ref 331)⟩, ⟨PyData.keyHash P (Str.ofString "is_leap"), .str (Str.ofString "is_leap") 696, (.ref 342)⟩, ⟨PyData.keyHash P (Str.ofString "month_length"), .str (Str.ofString "month_length") 704, (.ref 349)⟩, ⟨PyData.keyHash P (Str.ofString "days_before_year"), .str (Str.ofString "days_before_year") 712, (.ref 356)⟩, ⟨PyData.keyHash P (Str.ofString "day_told"), .str (Str.ofString "day_told") 723, (.ref 363)⟩, ⟨PyData.keyHash P (Str.ofString "is_day"), .str (Str.ofString "is_day") 732, (.ref 370)⟩, ⟨PyData.keyHash P (Str.ofString "is_time"), .str (Str.ofString "is_time") 741, (.ref 377)⟩, ⟨PyData.keyHash P (Str.ofString "day_of"), .str (Str.ofString "day_of") 750, (.ref 385)⟩, ⟨PyData.keyHash P (Str.ofString "month_number"), .str (Str.ofString "month_number") 756, (.ref 390)⟩, ⟨PyData.keyHash P (Str.ofString "is_day_name"), .str (Str.ofString "is_day_name") 762, (.ref 395)⟩, ⟨PyData.keyHash P (Str.ofString "is_figures"), .str (Str.ofString "is_figures") 768, (.ref 400)⟩, ⟨PyData.keyHash P (Str.ofString "zone_in"), .str (Str.ofString "zone_in") 776, (.ref 407)⟩, ⟨PyData.keyHash P (Str.ofString "named_zone"), .str (Str.ofString "named_zone") 782, (.ref 412)⟩, ⟨PyData.keyHash P (Str.ofString "DateReader"), .str (Str.ofString "DateReader") 853, (.ref 462)⟩, ⟨PyData.keyHash P (Str.ofString "full_year"), .str (Str.ofString "full_year") 861, (.ref 473)⟩, ⟨PyData.keyHash P (Str.ofString "read_clock"), .str (Str.ofString "read_clock") 871, (.ref 480)⟩] 75, #[]⟩
noncomputable def o12x73 (P : Params) : Obj := ⟨.none, none, .fields #[(.int (2) 0), (.int (0) 0), (.ref 20), (.int (9) 0), (.int (0) 0), (.ref 27), (.int (20) 0), (.int (0) 0), (.ref 32), (.int (22) 0), (.int (0) 0), (.ref 39), (.int (37) 0), (.int (0) 0), (.ref 46), (.int (46) 0), (.int (0) 0), (.ref 74), (.int (48) 0), (.int (0) 0), (.ref 86), (.int (50) 0), (.int (0) 0), (.ref 98), (.int (56) 0), (.int (0) 0), (.ref 110), (.int (58) 0), (.int (0) 0), (.ref 117), (.int (65) 0), (.int (0) 0), (.ref 124), (.int (72) 0), (.int (0) 0), (.ref 131), (.int (87) 0), (.int (0) 0), (.ref 166), (.int (89) 0), (.int (0) 0), (.ref 171), (.int (97) 0), (.int (0) 0), (.ref 179), (.int (106) 0), (.int (0) 0), (.ref 186), (.int (108) 0), (.int (0) 0), (.ref 193), (.int (111) 0), (.int (0) 0), (.ref 200), (.int (119) 0), (.int (0) 0), (.ref 207), (.int (133) 0), (.int (0) 0), (.ref 214), (.int (139) 0), (.int (0) 0), (.ref 221), (.int (148) 0), (.int (0) 0), (.ref 228), (.int (159) 0), (.int (0) 0), (.ref 235), (.int (169) 0), (.int (0) 0), (.ref 243), (.int (171) 0), (.int (0) 0), (.ref 250), (.int (175) 0), (.int (0) 0), (.ref 257), (.int (188) 0), (.int (0) 0), (.ref 264), (.int (197) 0), (.int (0) 0), (.ref 271), (.int (212) 0), (.int (0) 0), (.ref 278), (.int (217) 0), (.int (0) 0), (.ref 285), (.int (234) 0), (.int (0) 0), (.ref 292), (.int (241) 0), (.int (0) 0), (.ref 299), (.int (249) 0), (.int (0) 0), (.ref 304), (.int (257) 0), (.int (0) 0), (.ref 313), (.int (270) 0), (.int (0) 0), (.ref 341), (.int (272) 0), (.int (0) 0), (.ref 348), (.int (276) 0), (.int (0) 0), (.ref 355), (.int (279) 0), (.int (0) 0), (.ref 362), (.int (292) 0), (.int (0) 0), (.ref 369), (.int (294) 0), (.int (0) 0), (.ref 376), (.int (296) 0), (.int (0) 0), (.ref 384), (.int (298) 0), (.int (0) 0), (.ref 389), (.int (301) 0), (.int (0) 0), (.ref 394), (.int (303) 0), (.int (0) 0), (.ref 399), (.int (305) 0), (.int (0) 0), (.ref 406), (.int (310) 0), (.int (0) 0), (.ref 411), (.int (315) 0), (.int (0) 0), (.ref 418), (.int (347) 0), (.int (0) 0), (.ref 472), (.int (351) 0), (.int (0) 0), (.ref 479)], #[]⟩
noncomputable def o306 (P : Params) : Obj := ⟨(.type "tuple"), none, .seq #[(.str (Str.ofString "Jan") 615), (.str (Str.ofString "Feb") 616), (.str (Str.ofString "Mar") 617), (.str (Str.ofString "Apr") 618), (.str (Str.ofString "May") 619), (.str (Str.ofString "Jun") 620), (.str (Str.ofString "Jul") 621), (.str (Str.ofString "Aug") 622), (.str (Str.ofString "Sep") 623), (.str (Str.ofString "Oct") 624), (.str (Str.ofString "Nov") 625), (.str (Str.ofString "Dec") 626)] 0, #[]⟩
noncomputable def o307 (P : Params) : Obj := ⟨(.type "tuple"), none, .seq #[(.str (Str.ofString "Mon") 628), (.str (Str.ofString "Tue") 629), (.str (Str.ofString "Wed") 630), (.str (Str.ofString "Thu") 631), (.str (Str.ofString "Fri") 632), (.str (Str.ofString "Sat") 633), (.str (Str.ofString "Sun") 634)] 0, #[]⟩
noncomputable def o308 (P : Params) : Obj := ⟨(.type "tuple"), none, .seq #[] 0, #[]⟩
noncomputable def o309 (P : Params) : Obj := ⟨(.type "builtin_function_or_method"), none, .fields #[(.builtin "type.__prepare__"), (.type "type")], #[]⟩
noncomputable def o310 (P : Params) : Obj := ⟨(.type "dict"), none, .dict #[⟨PyData.keyHash P (Str.ofString "__module__"), .str (Str.ofString "__module__") 649, (.str (Str.ofString "postkeep.dates") 613)⟩, ⟨PyData.keyHash P (Str.ofString "__qualname__"), .str (Str.ofString "__qualname__") 651, (.str (Str.ofString "Moment") 650)⟩, ⟨PyData.keyHash P (Str.ofString "__firstlineno__"), .str (Str.ofString "__firstlineno__") 653, (.int (257) 652)⟩, ⟨PyData.keyHash P (Str.ofString "__init__"), .str (Str.ofString "__init__") 667, (.ref 321)⟩, ⟨PyData.keyHash P (Str.ofString "told"), .str (Str.ofString "told") 674, (.ref 328)⟩, ⟨PyData.keyHash P (Str.ofString "__static_attributes__"), .str (Str.ofString "__static_attributes__") 682, (.ref 329)⟩] 6, #[]⟩
noncomputable def o311 (P : Params) : Obj := ⟨(.type "tuple"), none, .seq #[] 0, #[]⟩
noncomputable def o312 (P : Params) : Obj := ⟨.none, none, .fields #[(.int (259) 0), (.int (4) 0), (.ref 320), (.int (268) 0), (.int (4) 0), (.ref 327)], #[]⟩
noncomputable def o313 (P : Params) : Obj := ⟨(.type "code"), none, .fields #[(.str (Str.ofString "Moment") 644), (.str (Str.ofString "Moment") 645), (.str (Str.ofString "/claim/cut.py") 646), (.int (257) 0), (.int (0) 0), (.int (0) 0), (.int (0) 0), (.int (0) 0), (.ref 311), (.bool false), (.int (181) 0), (.ref 312), .none, .none, .none, .none, (.int (647) 0), (.int (257) 0), (.str (Str.ofString "/claim/cut.py") 648)], #[]⟩
noncomputable def o314 (P : Params) : Obj := ⟨(.type "frame"), none, .plain, #[(some (.ref 313)), (some (.ref 3)), (some (.ref 310)), none, (some (.str (Str.ofString "postkeep.dates") 613)), none, (some (.ref 0))]⟩
noncomputable def o315 (P : Params) : Obj := ⟨(.type "tuple"), none, .seq #[] 0, #[]⟩
noncomputable def o316 (P : Params) : Obj := ⟨.none, none, .fields #[], #[]⟩
noncomputable def o317 (P : Params) : Obj := ⟨(.type "tuple"), none, .seq #[(.str (Str.ofString "self") 657), (.str (Str.ofString "year") 658), (.str (Str.ofString "month") 659), (.str (Str.ofString "day") 660), (.str (Str.ofString "hour") 661), (.str (Str.ofString "minute") 662), (.str (Str.ofString "second") 663), (.str (Str.ofString "zone") 664)] 0, #[]⟩
noncomputable def o318 (P : Params) : Obj := ⟨(.type "tuple"), none, .seq #[] 0, #[]⟩
noncomputable def o319 (P : Params) : Obj := ⟨.none, none, .func ⟨(Str.ofString "__init__"), (Str.ofString "Moment.__init__"), (sArgs (sub 57 0)), .stmts (sBody (sub 57 0)), (sScope (sub 57 0)), 0, [], .none, .none, .none, .none, none, .none, .none, 0⟩, #[]⟩
noncomputable def o320 (P : Params) : Obj := ⟨(.type "code"), none, .fields #[(.str (Str.ofString "__init__") 654), (.str (Str.ofString "Moment.__init__") 655), (.str (Str.ofString "/claim/cut.py") 656), (.int (259) 0), (.int (8) 0), (.int (0) 0), (.int (0) 0), (.int (3) 0), (.ref 315), (.bool true), (.int (181) 0), (.ref 316), .none, (.ref 317), (.ref 318), (.ref 319), (.int (665) 0), (.int (259) 0), (.str (Str.ofString "/claim/cut.py") 666)], #[]⟩
noncomputable def o321 (P : Params) : Obj := ⟨(.type "function"), none, .func ⟨(Str.ofString "__init__"), (Str.ofString "Moment.__init__"), (sArgs (sub 57 0)), .stmts (sBody (sub 57 0)), (sScope (sub 57 0)), 3, [], .none, .none, .none, (.str (Str.ofString "postkeep.dates") 613), none, (.ref 320), .none, 0⟩, #[]⟩
noncomputable def o322 (P : Params) : Obj := ⟨(.type "tuple"), none, .seq #[] 0, #[]⟩
noncomputable def o323 (P : Params) : Obj := ⟨.none, none, .fields #[], #[]⟩
noncomputable def o324 (P : Params) : Obj := ⟨(.type "tuple"), none, .seq #[(.str (Str.ofString "self") 671)] 0, #[]⟩
noncomputable def o325 (P : Params) : Obj := ⟨(.type "tuple"), none, .seq #[] 0, #[]⟩
noncomputable def o326 (P : Params) : Obj := ⟨.none, none, .func ⟨(Str.ofString "told"), (Str.ofString "Moment.told"), (sArgs (sub 57 1)), .stmts (sBody (sub 57 1)), (sScope (sub 57 1)), 0, [], .none, .none, .none, .none, none, .none, .none, 0⟩, #[]⟩
noncomputable def o327 (P : Params) : Obj := ⟨(.type "code"), none, .fields #[(.str (Str.ofString "told") 668), (.str (Str.ofString "Moment.told") 669), (.str (Str.ofString "/claim/cut.py") 670), (.int (268) 0), (.int (1) 0), (.int (0) 0), (.int (0) 0), (.int (3) 0), (.ref 322), (.bool true), (.int (181) 0), (.ref 323), .none, (.ref 324), (.ref 325), (.ref 326), (.int (672) 0), (.int (268) 0), (.str (Str.ofString "/claim/cut.py") 673)], #[]⟩
noncomputable def o328 (P : Params) : Obj := ⟨(.type "function"), none, .func ⟨(Str.ofString "told"), (Str.ofString "Moment.told"), (sArgs (sub 57 1)), .stmts (sBody (sub 57 1)), (sScope (sub 57 1)), 3, [], .none, .none, .none, (.str (Str.ofString "postkeep.dates") 613), none, (.ref 327), .none, 0⟩, #[]⟩
noncomputable def o329 (P : Params) : Obj := ⟨(.type "tuple"), none, .seq #[(.str (Str.ofString "day") 675), (.str (Str.ofString "hour") 676), (.str (Str.ofString "minute") 677), (.str (Str.ofString "month") 678), (.str (Str.ofString "second") 679), (.str (Str.ofString "year") 680), (.str (Str.ofString "zone") 681)] 0, #[]⟩
noncomputable def o330 (P : Params) : Obj := ⟨(.type "dict"), none, .dict #[⟨PyData.keyHash P (Str.ofString "__module__"), .str (Str.ofString "__module__") 649, (.str (Str.ofString "postkeep.dates") 613)⟩, ⟨PyData.keyHash P (Str.ofString "__firstlineno__"), .str (Str.ofString "__firstlineno__") 653, (.int (257) 652)⟩, ⟨PyData.keyHash P (Str.ofString "__init__"), .str (Str.ofString "__init__") 667, (.ref 321)⟩, ⟨PyData.keyHash P (Str.ofString "told"), .str (Str.ofString "told") 674, (.ref 328)⟩, ⟨PyData.keyHash P (Str.ofString "__static_attributes__"), .str (Str.ofString "__static_attributes__") 682, (.ref 329)⟩, ⟨PyData.keyHash P (Str.ofString "__dict__"), .str (Str.ofString "__dict__") 684, (.ref 332)⟩, ⟨PyData.keyHash P (Str.ofString "__weakref__"), .str (Str.ofString "__weakref__") 686, (.ref 333)⟩, ⟨PyData.keyHash P (Str.ofString "__doc__"), .str (Str.ofString "__doc__") 687, .none⟩] 4, #[]⟩
noncomputable def o331 (P : Params) : Obj := ⟨(.type "type"), none, .cls ⟨(Str.ofString "Moment"), [(.type "object")], [(.ref 331), (.type "object")], 330, (Str.ofString "Moment"), true, [], [], false, none, false⟩, #[none, none, (some (.str (Str.ofString "Moment") 642)), (some (.str (Str.ofString "Moment") 650)), (some (.builtin "object.__new__")), (some (.bool true))]⟩
noncomputable def o332 (P : Params) : Obj := ⟨(.type "getset_descriptor"), none, .fields #[(.str (Str.ofString "__dict__") 683), (.ref 331), (.builtin "function.__dict__"), (.builtin "function.__dict__#set")], #[]⟩
noncomputable def o333 (P : Params) : Obj := ⟨(.type "getset_descriptor"), none, .fields #[(.str (Str.ofString "__weakref__") 685), (.ref 331), (.builtin "ExceptionGroup.__weakref__"), .none], #[]⟩
noncomputable def o334 (P : Params) : Obj := ⟨(.type "super"), none, .fields #[(.ref 331), (.ref 331), (.ref 331)], #[]⟩
noncomputable def o335 (P : Params) : Obj := ⟨(.type "builtin_function_or_method"), none, .fields #[(.builtin "object.__init_subclass__"), (.ref 331)], #[]⟩
noncomputable def o336 (P : Params) : Obj := ⟨(.type "tuple"), none, .seq #[] 0, #[]⟩
noncomputable def o337 (P : Params) : Obj := ⟨.none, none, .fields #[], #[]⟩
noncomputable def o338 (P : Params) : Obj := ⟨(.type "tuple"), none, .seq #[(.str (Str.ofString "year") 693)] 0, #[]⟩
noncomputable def o339 (P : Params) : Obj := ⟨(.type "tuple"), none, .seq #[] 0, #[]⟩
noncomputable def o340 (P : Params) : Obj := ⟨.none, none, .func ⟨(Str.ofString "is_leap"), (Str.ofString "is_leap"), (sArgs (stm 58)), .stmts (sBody (stm 58)), (sScope (stm 58)), 0, [], .none, .none, .none, .none, none, .none, .none, 0⟩, #[]⟩
noncomputable def o341 (P : Params) : Obj := ⟨(.type "code"), none, .fields #[(.str (Str.ofString "is_leap") 690), (.str (Str.ofString "is_leap") 691), (.str (Str.ofString "/claim/cut.py") 692), (.int (270) 0), (.int (1) 0), (.int (0) 0), (.int (0) 0), (.int (3) 0), (.ref 336), (.bool true), (.int (181) 0), (.ref 337), .none, (.ref 338), (.ref 339), (.ref 340), (.int (694) 0), (.int (270) 0), (.str (Str.ofString "/claim/cut.py") 695)], #[]⟩
noncomputable def o342 (P : Params) : Obj := ⟨(.type "function"), none, .func ⟨(Str.ofString "is_leap"), (Str.ofString "is_leap"), (sArgs (stm 58)), .stmts (sBody (stm 58)), (sScope (stm 58)), 3, [], .none, .none, .none, (.str (Str.ofString "postkeep.dates") 613), none, (.ref 341), .none, 0⟩, #[]⟩
noncomputable def o343 (P : Params) : Obj := ⟨(.type "tuple"), none, .seq #[] 0, #[]⟩
noncomputable def o344 (P : Params) : Obj := ⟨.none, none, .fields #[], #[]⟩
noncomputable def o345 (P : Params) : Obj := ⟨(.type "tuple"), none, .seq #[(.str (Str.ofString "year") 700), (.str (Str.ofString "month") 701)] 0, #[]⟩
noncomputable def o346 (P : Params) : Obj := ⟨(.type "tuple"), none, .seq #[] 0, #[]⟩
noncomputable def o347 (P : Params) : Obj := ⟨.none, none, .func ⟨(Str.ofString "month_length"), (Str.ofString "month_length"), (sArgs (stm 59)), .stmts (sBody (stm 59)), (sScope (stm 59)), 0, [], .none, .none, .none, .none, none, .none, .none, 0⟩, #[]⟩
noncomputable def o348 (P : Params) : Obj := ⟨(.type "code"), none, .fields #[(.str (Str.ofString "month_length") 697), (.str (Str.ofString "month_length") 698), (.str (Str.ofString "/claim/cut.py") 699), (.int (272) 0), (.int (2) 0), (.int (0) 0), (.int (0) 0), (.int (3) 0), (.ref 343), (.bool true), (.int (181) 0), (.ref 344), .none, (.ref 345), (.ref 346), (.ref 347), (.int (702) 0), (.int (272) 0), (.str (Str.ofString "/claim/cut.py") 703)], #[]⟩
noncomputable def o349 (P : Params) : Obj := ⟨(.type "function"), none, .func ⟨(Str.ofString "month_length"), (Str.ofString "month_length"), (sArgs (stm 59)), .stmts (sBody (stm 59)), (sScope (stm 59)), 3, [], .none, .none, .none, (.str (Str.ofString "postkeep.dates") 613), none, (.ref 348), .none, 0⟩, #[]⟩
noncomputable def o350 (P : Params) : Obj := ⟨(.type "tuple"), none, .seq #[] 0, #[]⟩
noncomputable def o351 (P : Params) : Obj := ⟨.none, none, .fields #[], #[]⟩
noncomputable def o352 (P : Params) : Obj := ⟨(.type "tuple"), none, .seq #[(.str (Str.ofString "year") 708), (.str (Str.ofString "past") 709)] 0, #[]⟩
noncomputable def o353 (P : Params) : Obj := ⟨(.type "tuple"), none, .seq #[] 0, #[]⟩
noncomputable def o354 (P : Params) : Obj := ⟨.none, none, .func ⟨(Str.ofString "days_before_year"), (Str.ofString "days_before_year"), (sArgs (stm 60)), .stmts (sBody (stm 60)), (sScope (stm 60)), 0, [], .none, .none, .none, .none, none, .none, .none, 0⟩, #[]⟩
noncomputable def o355 (P : Params) : Obj := ⟨(.type "code"), none, .fields #[(.str (Str.ofString "days_before_year") 705), (.str (Str.ofString "days_before_year") 706), (.str (Str.ofString "/claim/cut.py") 707), (.int (276) 0), (.int (1) 0), (.int (0) 0), (.int (0) 0), (.int (3) 0), (.ref 350), (.bool true), (.int (181) 0), (.ref 351), .none, (.ref 352), (.ref 353), (.ref 354), (.int (710) 0), (.int (276) 0), (.str (Str.ofString "/claim/cut.py") 711)], #[]⟩
noncomputable def o356 (P : Params) : Obj := ⟨(.type "function"), none, .func ⟨(Str.ofString "days_before_year"), (Str.ofString "days_before_year"), (sArgs (stm 60)), .stmts (sBody (stm 60)), (sScope (stm 60)), 3, [], .none, .none, .none, (.str (Str.ofString "postkeep.dates") 613), none, (.ref 355), .none, 0⟩, #[]⟩
noncomputable def o357 (P : Params) : Obj := ⟨(.type "tuple"), none, .seq #[] 0, #[]⟩
noncomputable def o358 (P : Params) : Obj := ⟨.none, none, .fields #[], #[]⟩
noncomputable def o359 (P : Params) : Obj := ⟨(.type "tuple"), none, .seq #[(.str (Str.ofString "number") 716), (.str (Str.ofString "days") 717), (.str (Str.ofString "year") 718), (.str (Str.ofString "rest") 719), (.str (Str.ofString "month") 720)] 0, #[]⟩
noncomputable def o360 (P : Params) : Obj := ⟨(.type "tuple"), none, .seq #[] 0, #[]⟩
noncomputable def o361 (P : Params) : Obj := ⟨.none, none, .func ⟨(Str.ofString "day_told"), (Str.ofString "day_told"), (sArgs (stm 61)), .stmts (sBody (stm 61)), (sScope (stm 61)), 0, [], .none, .none, .none, .none, none, .none, .none, 0⟩, #[]⟩
noncomputable def o362 (P : Params) : Obj := ⟨(.type "code"), none, .fields #[(.str (Str.ofString "day_told") 713), (.str (Str.ofString "day_told") 714), (.str (Str.ofString "/claim/cut.py") 715), (.int (279) 0), (.int (1) 0), (.int (0) 0), (.int (0) 0), (.int (3) 0), (.ref 357), (.bool true), (.int (181) 0), (.ref 358), .none, (.ref 359), (.ref 360), (.ref 361), (.int (721) 0), (.int (279) 0), (.str (Str.ofString "/claim/cut.py") 722)], #[]⟩
noncomputable def o363 (P : Params) : Obj := ⟨(.type "function"), none, .func ⟨(Str.ofString "day_told"), (Str.ofString "day_told"), (sArgs (stm 61)), .stmts (sBody (stm 61)), (sScope (stm 61)), 3, [], .none, .none, .none, (.str (Str.ofString "postkeep.dates") 613), none, (.ref 362), .none, 0⟩, #[]⟩
noncomputable def o364 (P : Params) : Obj := ⟨(.type "tuple"), none, .seq #[] 0, #[]⟩
noncomputable def o365 (P : Params) : Obj := ⟨.none, none, .fields #[], #[]⟩
noncomputable def o366 (P : Params) : Obj := ⟨(.type "tuple"), none, .seq #[(.str (Str.ofString "year") 727), (.str (Str.ofString "month") 728), (.str (Str.ofString "day") 729)] 0, #[]⟩
noncomputable def o367 (P : Params) : Obj := ⟨(.type "tuple"), none, .seq #[] 0, #[]⟩
noncomputable def o368 (P : Params) : Obj := ⟨.none, none, .func ⟨(Str.ofString "is_day"), (Str.ofString "is_day"), (sArgs (stm 62)), .stmts (sBody (stm 62)), (sScope (stm 62)), 0, [], .none, .none, .none, .none, none, .none, .none, 0⟩, #[]⟩
noncomputable def o369 (P : Params) : Obj := ⟨(.type "code"), none, .fields #[(.str (Str.ofString "is_day") 724), (.str (Str.ofString "is_day") 725), (.str (Str.ofString "/claim/cut.py") 726), (.int (292) 0), (.int (3) 0), (.int (0) 0), (.int (0) 0), (.int (3) 0), (.ref 364), (.bool true), (.int (181) 0), (.ref 365), .none, (.ref 366), (.ref 367), (.ref 368), (.int (730) 0), (.int (292) 0), (.str (Str.ofString "/claim/cut.py") 731)], #[]⟩
noncomputable def o370 (P : Params) : Obj := ⟨(.type "function"), none, .func ⟨(Str.ofString "is_day"), (Str.ofString "is_day"), (sArgs (stm 62)), .stmts (sBody (stm 62)), (sScope (stm 62)), 3, [], .none, .none, .none, (.str (Str.ofString "postkeep.dates") 613), none, (.ref 369), .none, 0⟩, #[]⟩
noncomputable def o371 (P : Params) : Obj := ⟨(.type "tuple"), none, .seq #[] 0, #[]⟩
noncomputable def o372 (P : Params) : Obj := ⟨.none, none, .fields #[], #[]⟩
noncomputable def o373 (P : Params) : Obj := ⟨(.type "tuple"), none, .seq #[(.str (Str.ofString "hour") 736), (.str (Str.ofString "minute") 737), (.str (Str.ofString "second") 738)] 0, #[]⟩
noncomputable def o374 (P : Params) : Obj := ⟨(.type "tuple"), none, .seq #[] 0, #[]⟩
noncomputable def o375 (P : Params) : Obj := ⟨.none, none, .func ⟨(Str.ofString "is_time"), (Str.ofString "is_time"), (sArgs (stm 63)), .stmts (sBody (stm 63)), (sScope (stm 63)), 0, [], .none, .none, .none, .none, none, .none, .none, 0⟩, #[]⟩
noncomputable def o376 (P : Params) : Obj := ⟨(.type "code"), none, .fields #[(.str (Str.ofString "is_time") 733), (.str (Str.ofString "is_time") 734), (.str (Str.ofString "/claim/cut.py") 735), (.int (294) 0), (.int (3) 0), (.int (0) 0), (.int (0) 0), (.int (3) 0), (.ref 371), (.bool true), (.int (181) 0), (.ref 372), .none, (.ref 373), (.ref 374), (.ref 375), (.int (739) 0), (.int (294) 0), (.str (Str.ofString "/claim/cut.py") 740)], #[]⟩
noncomputable def o377 (P : Params) : Obj := ⟨(.type "function"), none, .func ⟨(Str.ofString "is_time"), (Str.ofString "is_time"), (sArgs (stm 63)), .stmts (sBody (stm 63)), (sScope (stm 63)), 3, [], .none, .none, .none, (.str (Str.ofString "postkeep.dates") 613), none, (.ref 376), .none, 0⟩, #[]⟩
noncomputable def o378 (P : Params) : Obj := ⟨(.type "tuple"), none, .seq #[(.int (0) 742)] 0, #[]⟩
noncomputable def o379 (P : Params) : Obj := ⟨(.type "tuple"), none, .seq #[] 0, #[]⟩
noncomputable def o380 (P : Params) : Obj := ⟨.none, none, .fields #[], #[]⟩
noncomputable def o381 (P : Params) : Obj := ⟨(.type "tuple"), none, .seq #[(.str (Str.ofString "seconds") 746), (.str (Str.ofString "zone") 747)] 0, #[]⟩
noncomputable def o382 (P : Params) : Obj := ⟨(.type "tuple"), none, .seq #[] 0, #[]⟩
noncomputable def o383 (P : Params) : Obj := ⟨.none, none, .func ⟨(Str.ofString "day_of"), (Str.ofString "day_of"), (sArgs (stm 64)), .stmts (sBody (stm 64)), (sScope (stm 64)), 0, [], .none, .none, .none, .none, none, .none, .none, 0⟩, #[]⟩
noncomputable def o384 (P : Params) : Obj := ⟨(.type "code"), none, .fields #[(.str (Str.ofString "day_of") 743), (.str (Str.ofString "day_of") 744), (.str (Str.ofString "/claim/cut.py") 745), (.int (296) 0), (.int (2) 0), (.int (0) 0), (.int (0) 0), (.int (3) 0), (.ref 379), (.bool true), (.int (181) 0), (.ref 380), .none, (.ref 381), (.ref 382), (.ref 383), (.int (748) 0), (.int (296) 0), (.str (Str.ofString "/claim/cut.py") 749)], #[]⟩
noncomputable def o385 (P : Params) : Obj := ⟨(.type "function"), none, .func ⟨(Str.ofString "day_of"), (Str.ofString "day_of"), (sArgs (stm 64)), .stmts (sBody (stm 64)), (sScope (stm 64)), 3, [], (.ref 378), .none, .none, (.str (Str.ofString "postkeep.dates") 613), none, (.ref 384), .none, 0⟩, #[]⟩
noncomputable def o386 (P : Params) : Obj := ⟨(.type "tuple"), none, .seq #[] 0, #[]⟩
noncomputable def o387 (P : Params) : Obj := ⟨.none, none, .fields #[], #[]⟩
noncomputable def o388 (P : Params) : Obj := ⟨.none, none, .func ⟨(Str.ofString "month_number"), (Str.ofString "month_number"), (sArgs (stm 65)), .stmts (sBody (stm 65)), (sScope (stm 65)), 0, [], .none, .none, .none, .none, none, .none, .none, 0⟩, #[]⟩
noncomputable def o389 (P : Params) : Obj := ⟨(.type "code"), none, .fields #[(.str (Str.ofString "month_number") 751), (.str (Str.ofString "month_number") 752), (.str (Str.ofString "/claim/cut.py") 753), (.int (298) 0), (.int (1) 0), (.int (0) 0), (.int (0) 0), (.int (3) 0), (.ref 386), (.bool true), (.int (181) 0), (.ref 387), .none, .none, .none, (.ref 388), (.int (754) 0), (.int (298) 0), (.str (Str.ofString "/claim/cut.py") 755)], #[]⟩
noncomputable def o390 (P : Params) : Obj := ⟨(.type "function"), none, .func ⟨(Str.ofString "month_number"), (Str.ofString "month_number"), (sArgs (stm 65)), .stmts (sBody (stm 65)), (sScope (stm 65)), 3, [], .none, .none, .none, (.str (Str.ofString "postkeep.dates") 613), none, (.ref 389), .none, 0⟩, #[]⟩
noncomputable def o391 (P : Params) : Obj := ⟨(.type "tuple"), none, .seq #[] 0, #[]⟩
noncomputable def o392 (P : Params) : Obj := ⟨.none, none, .fields #[], #[]⟩
noncomputable def o393 (P : Params) : Obj := ⟨.none, none, .func ⟨(Str.ofString "is_day_name"), (Str.ofString "is_day_name"), (sArgs (stm 66)), .stmts (sBody (stm 66)), (sScope (stm 66)), 0, [], .none, .none, .none, .none, none, .none, .none, 0⟩, #[]⟩
noncomputable def o394 (P : Params) : Obj := ⟨(.type "code"), none, .fields #[(.str (Str.ofString "is_day_name") 757), (.str (Str.ofString "is_day_name") 758), (.str (Str.ofString "/claim/cut.py") 759), (.int (301) 0), (.int (1) 0), (.int (0) 0), (.int (0) 0), (.int (3) 0), (.ref 391), (.bool true), (.int (181) 0), (.ref 392), .none, .none, .none, (.ref 393), (.int (760) 0), (.int (301) 0), (.str (Str.ofString "/claim/cut.py") 761)], #[]⟩
noncomputable def o395 (P : Params) : Obj := ⟨(.type "function"), none, .func ⟨(Str.ofString "is_day_name"), (Str.ofString "is_day_name"), (sArgs (stm 66)), .stmts (sBody (stm 66)), (sScope (stm 66)), 3, [], .none, .none, .none, (.str (Str.ofString "postkeep.dates") 613), none, (.ref 394), .none, 0⟩, #[]⟩
noncomputable def o396 (P : Params) : Obj := ⟨(.type "tuple"), none, .seq #[] 0, #[]⟩
noncomputable def o397 (P : Params) : Obj := ⟨.none, none, .fields #[], #[]⟩
noncomputable def o398 (P : Params) : Obj := ⟨.none, none, .func ⟨(Str.ofString "is_figures"), (Str.ofString "is_figures"), (sArgs (stm 67)), .stmts (sBody (stm 67)), (sScope (stm 67)), 0, [], .none, .none, .none, .none, none, .none, .none, 0⟩, #[]⟩
noncomputable def o399 (P : Params) : Obj := ⟨(.type "code"), none, .fields #[(.str (Str.ofString "is_figures") 763), (.str (Str.ofString "is_figures") 764), (.str (Str.ofString "/claim/cut.py") 765), (.int (303) 0), (.int (1) 0), (.int (0) 0), (.int (0) 0), (.int (3) 0), (.ref 396), (.bool true), (.int (181) 0), (.ref 397), .none, .none, .none, (.ref 398), (.int (766) 0), (.int (303) 0), (.str (Str.ofString "/claim/cut.py") 767)], #[]⟩
noncomputable def o400 (P : Params) : Obj := ⟨(.type "function"), none, .func ⟨(Str.ofString "is_figures"), (Str.ofString "is_figures"), (sArgs (stm 67)), .stmts (sBody (stm 67)), (sScope (stm 67)), 3, [], .none, .none, .none, (.str (Str.ofString "postkeep.dates") 613), none, (.ref 399), .none, 0⟩, #[]⟩
noncomputable def o401 (P : Params) : Obj := ⟨(.type "tuple"), none, .seq #[] 0, #[]⟩
noncomputable def o402 (P : Params) : Obj := ⟨.none, none, .fields #[], #[]⟩
noncomputable def o403 (P : Params) : Obj := ⟨(.type "tuple"), none, .seq #[(.str (Str.ofString "text") 772), (.str (Str.ofString "minutes") 773)] 0, #[]⟩
noncomputable def o404 (P : Params) : Obj := ⟨(.type "tuple"), none, .seq #[] 0, #[]⟩
noncomputable def o405 (P : Params) : Obj := ⟨.none, none, .func ⟨(Str.ofString "zone_in"), (Str.ofString "zone_in"), (sArgs (stm 68)), .stmts (sBody (stm 68)), (sScope (stm 68)), 0, [], .none, .none, .none, .none, none, .none, .none, 0⟩, #[]⟩
noncomputable def o406 (P : Params) : Obj := ⟨(.type "code"), none, .fields #[(.str (Str.ofString "zone_in") 769), (.str (Str.ofString "zone_in") 770), (.str (Str.ofString "/claim/cut.py") 771), (.int (305) 0), (.int (1) 0), (.int (0) 0), (.int (0) 0), (.int (3) 0), (.ref 401), (.bool true), (.int (181) 0), (.ref 402), .none, (.ref 403), (.ref 404), (.ref 405), (.int (774) 0), (.int (305) 0), (.str (Str.ofString "/claim/cut.py") 775)], #[]⟩
noncomputable def o407 (P : Params) : Obj := ⟨(.type "function"), none, .func ⟨(Str.ofString "zone_in"), (Str.ofString "zone_in"), (sArgs (stm 68)), .stmts (sBody (stm 68)), (sScope (stm 68)), 3, [], .none, .none, .none, (.str (Str.ofString "postkeep.dates") 613), none, (.ref 406), .none, 0⟩, #[]⟩
noncomputable def o408 (P : Params) : Obj := ⟨(.type "tuple"), none, .seq #[] 0, #[]⟩
noncomputable def o409 (P : Params) : Obj := ⟨.none, none, .fields #[], #[]⟩
noncomputable def o410 (P : Params) : Obj := ⟨.none, none, .func ⟨(Str.ofString "named_zone"), (Str.ofString "named_zone"), (sArgs (stm 69)), .stmts (sBody (stm 69)), (sScope (stm 69)), 0, [], .none, .none, .none, .none, none, .none, .none, 0⟩, #[]⟩
noncomputable def o411 (P : Params) : Obj := ⟨(.type "code"), none, .fields #[(.str (Str.ofString "named_zone") 777), (.str (Str.ofString "named_zone") 778), (.str (Str.ofString "/claim/cut.py") 779), (.int (310) 0), (.int (1) 0), (.int (0) 0), (.int (0) 0), (.int (3) 0), (.ref 408), (.bool true), (.int (181) 0), (.ref 409), .none, .none, .none, (.ref 410), (.int (780) 0), (.int (310) 0), (.str (Str.ofString "/claim/cut.py") 781)], #[]⟩
noncomputable def o412 (P : Params) : Obj := ⟨(.type "function"), none, .func ⟨(Str.ofString "named_zone"), (Str.ofString "named_zone"), (sArgs (stm 69)), .stmts (sBody (stm 69)), (sScope (stm 69)), 3, [], .none, .none, .none, (.str (Str.ofString "postkeep.dates") 613), none, (.ref 411), .none, 0⟩, #[]⟩
noncomputable def o413 (P : Params) : Obj := ⟨(.type "tuple"), none, .seq #[] 0, #[]⟩
noncomputable def o414 (P : Params) : Obj := ⟨(.type "builtin_function_or_method"), none, .fields #[(.builtin "type.__prepare__"), (.type "type")], #[]⟩
noncomputable def o415 (P : Params) : Obj := ⟨(.type "dict"), none, .dict #[⟨PyData.keyHash P (Str.ofString "__module__"), .str (Str.ofString "__module__") 790, (.str (Str.ofString "postkeep.dates") 613)⟩, ⟨PyData.keyHash P (Str.ofString "__qualname__"), .str (Str.ofString "__qualname__") 792, (.str (Str.ofString "DateReader") 791)⟩, ⟨PyData.keyHash P (Str.ofString "__firstlineno__"), .str (Str.ofString "__firstlineno__") 794, (.int (315) 793)⟩, ⟨PyData.keyHash P (Str.ofString "__init__"), .str (Str.ofString "__init__") 802, (.ref 426)⟩, ⟨PyData.keyHash P (Str.ofString "place"), .str (Str.ofString "place") 809, (.ref 433)⟩, ⟨PyData.keyHash P (Str.ofString "atom"), .str (Str.ofString "atom") 815, (.ref 438)⟩, ⟨PyData.keyHash P (Str.ofString "skip"), .str (Str.ofString "skip") 823, (.ref 445)⟩, ⟨PyData.keyHash P (Str.ofString "number"), .str (Str.ofString "number") 833, (.ref 452)⟩, ⟨PyData.keyHash P (Str.ofString "need"), .str (Str.ofString "need") 842, (.ref 459)⟩, ⟨PyData.keyHash P (Str.ofString "__static_attributes__"), .str (Str.ofString "__static_attributes__") 846, (.ref 460)⟩] 10, #[]⟩
noncomputable def o416 (P : Params) : Obj := ⟨(.type "tuple"), none, .seq #[] 0, #[]⟩
noncomputable def o417 (P : Params) : Obj := ⟨.none, none, .fields #[(.int (317) 0), (.int (4) 0), (.ref 425), (.int (322) 0), (.int (4) 0), (.ref 432), (.int (325) 0), (.int (4) 0), (.ref 437), (.int (330) 0), (.int (4) 0), (.ref 444), (.int (336) 0), (.int (4) 0), (.ref 451), (.int (343) 0), (.int (4) 0), (.ref 458)], #[]⟩
noncomputable def o418 (P : Params) : Obj := ⟨(.type "code"), none, .fields #[(.str (Str.ofString "DateReader") 785), (.str (Str.ofString "DateReader") 786), (.str (Str.ofString "/claim/cut.py") 787), (.int (315) 0), (.int (0) 0), (.int (0) 0), (.int (0) 0), (.int (0) 0), (.ref 416), (.bool false), (.int (181) 0), (.ref 417), .none, .none, .none, .none, (.int (788) 0), (.int (315) 0), (.str (Str.ofString "/claim/cut.py") 789)], #[]⟩
noncomputable def o419 (P : Params) : Obj := ⟨(.type "frame"), none, .plain, #[(some (.ref 418)), (some (.ref 3)), (some (.ref 415)), none, (some (.str (Str.ofString "postkeep.dates") 613)), none, (some (.ref 0))]⟩
noncomputable def o420 (P : Params) : Obj := ⟨(.type "tuple"), none, .seq #[] 0, #[]⟩
noncomputable def o421 (P : Params) : Obj := ⟨.none, none, .fields #[], #[]⟩
noncomputable def o422 (P : Params) : Obj := ⟨(.type "tuple"), none, .seq #[(.str (Str.ofString "self") 798), (.str (Str.ofString "octets") 799)] 0, #[]⟩
noncomputable def o423 (P : Params) : Obj := ⟨(.type "tuple"), none, .seq #[] 0, #[]⟩
noncomputable def o424 (P : Params) : Obj := ⟨.none, none, .func ⟨(Str.ofString "__init__"), (Str.ofString "DateReader.__init__"), (sArgs (sub 70 0)), .stmts (sBody (sub 70 0)), (sScope (sub 70 0)), 0, [], .none, .none, .none, .none, none, .none, .none, 0⟩, #[]⟩
noncomputable def o425 (P : Params) : Obj := ⟨(.type "code"), none, .fields #[(.str (Str.ofString "__init__") 795), (.str (Str.ofString "DateReader.__init__") 796), (.str (Str.ofString "/claim/cut.py") 797), (.int (317) 0), (.int (2) 0), (.int (0) 0), (.int (0) 0), (.int (3) 0), (.ref 420), (.bool true), (.int (181) 0), (.ref 421), .none, (.ref 422), (.ref 423), (.ref 424), (.int (800) 0), (.int (317) 0), (.str (Str.ofString "/claim/cut.py") 801)], #[]⟩
noncomputable def o426 (P : Params) : Obj := ⟨(.type "function"), none, .func ⟨(Str.ofString "__init__"), (Str.ofString "DateReader.__init__"), (sArgs (sub 70 0)), .stmts (sBody (sub 70 0)), (sScope (sub 70 0)), 3, [], .none, .none, .none, (.str (Str.ofString "postkeep.dates") 613), none, (.ref 425), .none, 0⟩, #[]⟩
noncomputable def o427 (P : Params) : Obj := ⟨(.type "tuple"), none, .seq #[] 0, #[]⟩
noncomputable def o428 (P : Params) : Obj := ⟨.none, none, .fields #[], #[]⟩
noncomputable def o429 (P : Params) : Obj := ⟨(.type "tuple"), none, .seq #[(.str (Str.ofString "self") 806)] 0, #[]⟩
noncomputable def o430 (P : Params) : Obj := ⟨(.type "tuple"), none, .seq #[] 0, #[]⟩
noncomputable def o431 (P : Params) : Obj := ⟨.none, none, .func ⟨(Str.ofString "place"), (Str.ofString "DateReader.place"), (sArgs (sub 70 1)), .stmts (sBody (sub 70 1)), (sScope (sub 70 1)), 0, [], .none, .none, .none, .none, none, .none, .none, 0⟩, #[]⟩
noncomputable def o432 (P : Params) : Obj := ⟨(.type "code"), none, .fields #[(.str (Str.ofString "place") 803), (.str (Str.ofString "DateReader.place") 804), (.str (Str.ofString "/claim/cut.py") 805), (.int (322) 0), (.int (1) 0), (.int (0) 0), (.int (0) 0), (.int (3) 0), (.ref 427), (.bool true), (.int (181) 0), (.ref 428), .none, (.ref 429), (.ref 430), (.ref 431), (.int (807) 0), (.int (322) 0), (.str (Str.ofString "/claim/cut.py") 808)], #[]⟩
noncomputable def o433 (P : Params) : Obj := ⟨(.type "function"), none, .func ⟨(Str.ofString "place"), (Str.ofString "DateReader.place"), (sArgs (sub 70 1)), .stmts (sBody (sub 70 1)), (sScope (sub 70 1)), 3, [], .none, .none, .none, (.str (Str.ofString "postkeep.dates") 613), none, (.ref 432), .none, 0⟩, #[]⟩
noncomputable def o434 (P : Params) : Obj := ⟨(.type "tuple"), none, .seq #[] 0, #[]⟩
noncomputable def o435 (P : Params) : Obj := ⟨.none, none, .fields #[], #[]⟩
noncomputable def o436 (P : Params) : Obj := ⟨.none, none, .func ⟨(Str.ofString "atom"), (Str.ofString "DateReader.atom"), (sArgs (sub 70 2)), .stmts (sBody (sub 70 2)), (sScope (sub 70 2)), 0, [], .none, .none, .none, .none, none, .none, .none, 0⟩, #[]⟩
noncomputable def o437 (P : Params) : Obj := ⟨(.type "code"), none, .fields #[(.str (Str.ofString "atom") 810), (.str (Str.ofString "DateReader.atom") 811), (.str (Str.ofString "/claim/cut.py") 812), (.int (325) 0), (.int (1) 0), (.int (0) 0), (.int (0) 0), (.int (3) 0), (.ref 434), (.bool true), (.int (181) 0), (.ref 435), .none, .none, .none, (.ref 436), (.int (813) 0), (.int (325) 0), (.str (Str.ofString "/claim/cut.py") 814)], #[]⟩
noncomputable def o438 (P : Params) : Obj := ⟨(.type "function"), none, .func ⟨(Str.ofString "atom"), (Str.ofString "DateReader.atom"), (sArgs (sub 70 2)), .stmts (sBody (sub 70 2)), (sScope (sub 70 2)), 3, [], .none, .none, .none, (.str (Str.ofString "postkeep.dates") 613), none, (.ref 437), .none, 0⟩, #[]⟩
noncomputable def o439 (P : Params) : Obj := ⟨(.type "tuple"), none, .seq #[] 0, #[]⟩
noncomputable def o440 (P : Params) : Obj := ⟨.none, none, .fields #[], #[]⟩
noncomputable def o441 (P : Params) : Obj := ⟨(.type "tuple"), none, .seq #[(.str (Str.ofString "self") 819), (.str (Str.ofString "sign") 820)] 0, #[]⟩
noncomputable def o442 (P : Params) : Obj := ⟨(.type "tuple"), none, .seq #[] 0, #[]⟩
noncomputable def o443 (P : Params) : Obj := ⟨.none, none, .func ⟨(Str.ofString "skip"), (Str.ofString "DateReader.skip"), (sArgs (sub 70 3)), .stmts (sBody (sub 70 3)), (sScope (sub 70 3)), 0, [], .none, .none, .none, .none, none, .none, .none, 0⟩, #[]⟩
noncomputable def o444 (P : Params) : Obj := ⟨(.type "code"), none, .fields #[(.str (Str.ofString "skip") 816), (.str (Str.ofString "DateReader.skip") 817), (.str (Str.ofString "/claim/cut.py") 818), (.int (330) 0), (.int (2) 0), (.int (0) 0), (.int (0) 0), (.int (3) 0), (.ref 439), (.bool true), (.int (181) 0), (.ref 440), .none, (.ref 441), (.ref 442), (.ref 443), (.int (821) 0), (.int (330) 0), (.str (Str.ofString "/claim/cut.py") 822)], #[]⟩
noncomputable def o445 (P : Params) : Obj := ⟨(.type "function"), none, .func ⟨(Str.ofString "skip"), (Str.ofString "DateReader.skip"), (sArgs (sub 70 3)), .stmts (sBody (sub 70 3)), (sScope (sub 70 3)), 3, [], .none, .none, .none, (.str (Str.ofString "postkeep.dates") 613), none, (.ref 444), .none, 0⟩, #[]⟩
noncomputable def o446 (P : Params) : Obj := ⟨(.type "tuple"), none, .seq #[] 0, #[]⟩
noncomputable def o447 (P : Params) : Obj := ⟨.none, none, .fields #[], #[]⟩
noncomputable def o448 (P : Params) : Obj := ⟨(.type "tuple"), none, .seq #[(.str (Str.ofString "self") 827), (.str (Str.ofString "least_figures") 828), (.str (Str.ofString "most_figures") 829), (.str (Str.ofString "text") 830)] 0, #[]⟩
noncomputable def o449 (P : Params) : Obj := ⟨(.type "tuple"), none, .seq #[] 0, #[]⟩
noncomputable def o450 (P : Params) : Obj := ⟨.none, none, .func ⟨(Str.ofString "number"), (Str.ofString "DateReader.number"), (sArgs (sub 70 4)), .stmts (sBody (sub 70 4)), (sScope (sub 70 4)), 0, [], .none, .none, .none, .none, none, .none, .none, 0⟩, #[]⟩
noncomputable def o451 (P : Params) : Obj := ⟨(.type "code"), none, .fields #[(.str (Str.ofString "number") 824), (.str (Str.ofString "DateReader.number") 825), (.str (Str.ofString "/claim/cut.py") 826), (.int (336) 0), (.int (3) 0), (.int (0) 0), (.int (0) 0), (.int (3) 0), (.ref 446), (.bool true), (.int (181) 0), (.ref 447), .none, (.ref 448), (.ref 449), (.ref 450), (.int (831) 0), (.int (336) 0), (.str (Str.ofString "/claim/cut.py") 832)], #[]⟩
noncomputable def o452 (P : Params) : Obj := ⟨(.type "function"), none, .func ⟨(Str.ofString "number"), (Str.ofString "DateReader.number"), (sArgs (sub 70 4)), .stmts (sBody (sub 70 4)), (sScope (sub 70 4)), 3, [], .none, .none, .none, (.str (Str.ofString "postkeep.dates") 613), none, (.ref 451), .none, 0⟩, #[]⟩
noncomputable def o453 (P : Params) : Obj := ⟨(.type "tuple"), none, .seq #[] 0, #[]⟩
noncomputable def o454 (P : Params) : Obj := ⟨.none, none, .fields #[], #[]⟩
noncomputable def o455 (P : Params) : Obj := ⟨(.type "tuple"), none, .seq #[(.str (Str.ofString "self") 837), (.str (Str.ofString "is_right") 838), (.str (Str.ofString "what") 839)] 0, #[]⟩
noncomputable def o456 (P : Params) : Obj := ⟨(.type "tuple"), none, .seq #[] 0, #[]⟩
noncomputable def o457 (P : Params) : Obj := ⟨.none, none, .func ⟨(Str.ofString "need"), (Str.ofString "DateReader.need"), (sArgs (sub 70 5)), .stmts (sBody (sub 70 5)), (sScope (sub 70 5)), 0, [], .none, .none, .none, .none, none, .none, .none, 0⟩, #[]⟩
noncomputable def o458 (P : Params) : Obj := ⟨(.type "code"), none, .fields #[(.str (Str.ofString "need") 834), (.str (Str.ofString "DateReader.need") 835), (.str (Str.ofString "/claim/cut.py") 836), (.int (343) 0), (.int (3) 0), (.int (0) 0), (.int (0) 0), (.int (3) 0), (.ref 453), (.bool true), (.int (181) 0), (.ref 454), .none, (.ref 455), (.ref 456), (.ref 457), (.int (840) 0), (.int (343) 0), (.str (Str.ofString "/claim/cut.py") 841)], #[]⟩
noncomputable def o459 (P : Params) : Obj := ⟨(.type "function"), none, .func ⟨(Str.ofString "need"), (Str.ofString "DateReader.need"), (sArgs (sub 70 5)), .stmts (sBody (sub 70 5)), (sScope (sub 70 5)), 3, [], .none, .none, .none, (.str (Str.ofString "postkeep.dates") 613), none, (.ref 458), .none, 0⟩, #[]⟩
noncomputable def o460 (P : Params) : Obj := ⟨(.type "tuple"), none, .seq #[(.str (Str.ofString "at") 843), (.str (Str.ofString "length") 844), (.str (Str.ofString "tokens") 845)] 0, #[]⟩
noncomputable def o461 (P : Params) : Obj := ⟨(.type "dict"), none, .dict #[⟨PyData.keyHash P (Str.ofString "__module__"), .str (Str.ofString "__module__") 790, (.str (Str.ofString "postkeep.dates") 613)⟩, ⟨PyData.keyHash P (Str.ofString "__firstlineno__"), .str (Str.ofString "__firstlineno__") 794, (.int (315) 793)⟩, ⟨PyData.keyHash P (Str.ofString "__init__"), .str (Str.ofString "__init__") 802, (.ref 426)⟩, ⟨PyData.keyHash P (Str.ofString "place"), .str (Str.ofString "place") 809, (.ref 433)⟩, ⟨PyData.keyHash P (Str.ofString "atom"), .str (Str.ofString "atom") 815, (.ref 438)⟩, ⟨PyData.keyHash P (Str.ofString "skip"), .str (Str.ofString "skip") 823, (.ref 445)⟩, ⟨PyData.keyHash P (Str.ofString "number"), .str (Str.ofString "number") 833, (.ref 452)⟩, ⟨PyData.keyHash P (Str.ofString "need"), .str (Str.ofString "need") 842, (.ref 459)⟩, ⟨PyData.keyHash P (Str.ofString "__static_attributes__"), .str (Str.ofString "__static_attributes__") 846, (.ref 460)⟩, ⟨PyData.keyHash P (Str.ofString "__dict__"), .str (Str.ofString "__dict__") 848, (.ref 463)⟩, ⟨PyData.keyHash P (Str.ofString "__weakref__"), .str (Str.ofString "__weakref__") 850, (.ref 464)⟩, ⟨PyData.keyHash P (Str.ofString "__doc__"), .str (Str.ofString "__doc__") 851, .none⟩] 4, #[]⟩
noncomputable def o462 (P : Params) : Obj := ⟨(.type "type"), none, .cls ⟨(Str.ofString "DateReader"), [(.type "object")], [(.ref 462), (.type "object")], 461, (Str.ofString "DateReader"), true, [], [], false, none, false⟩, #[none, none, (some (.str (Str.ofString "DateReader") 783)), (some (.str (Str.ofString "DateReader") 791)), (some (.builtin "object.__new__")), (some (.bool true))]⟩
noncomputable def o463 (P : Params) : Obj := ⟨(.type "getset_descriptor"), none, .fields #[(.str (Str.ofString "__dict__") 847), (.ref 462), (.builtin "function.__dict__"), (.builtin "function.__dict__#set")], #[]⟩
noncomputable def o464 (P : Params) : Obj := ⟨(.type "getset_descriptor"), none, .fields #[(.str (Str.ofString "__weakref__") 849), (.ref 462), (.builtin "ExceptionGroup.__weakref__"), .none], #[]⟩
noncomputable def o465 (P : Params) : Obj := ⟨(.type "super"), none, .fields #[(.ref 462), (.ref 462), (.ref 462)], #[]⟩
noncomputable def o466 (P : Params) : Obj := ⟨(.type "builtin_function_or_method"), none, .fields #[(.builtin "object.__init_subclass__"), (.ref 462)], #[]⟩
noncomputable def o467 (P : Params) : Obj := ⟨(.type "tuple"), none, .seq #[] 0, #[]⟩
noncomputable def o468 (P : Params) : Obj := ⟨.none, none, .fields #[], #[]⟩
noncomputable def o469 (P : Params) : Obj := ⟨(.type "tuple"), none, .seq #[(.str (Str.ofString "number") 857), (.str (Str.ofString "figures") 858)] 0, #[]⟩
noncomputable def o470 (P : Params) : Obj := ⟨(.type "tuple"), none, .seq #[] 0, #[]⟩
noncomputable def o471 (P : Params) : Obj := ⟨.none, none, .func ⟨(Str.ofString "full_year"), (Str.ofString "full_year"), (sArgs (stm 71)), .stmts (sBody (stm 71)), (sScope (stm 71)), 0, [], .none, .none, .none, .none, none, .none, .none, 0⟩, #[]⟩
noncomputable def o472 (P : Params) : Obj := ⟨(.type "code"), none, .fields #[(.str (Str.ofString "full_year") 854), (.str (Str.ofString "full_year") 855), (.str (Str.ofString "/claim/cut.py") 856), (.int (347) 0), (.int (2) 0), (.int (0) 0), (.int (0) 0), (.int (3) 0), (.ref 467), (.bool true), (.int (181) 0), (.ref 468), .none, (.ref 469), (.ref 470), (.ref 471), (.int (859) 0), (.int (347) 0), (.str (Str.ofString "/claim/cut.py") 860)], #[]⟩
noncomputable def o473 (P : Params) : Obj := ⟨(.type "function"), none, .func ⟨(Str.ofString "full_year"), (Str.ofString "full_year"), (sArgs (stm 71)), .stmts (sBody (stm 71)), (sScope (stm 71)), 3, [], .none, .none, .none, (.str (Str.ofString "postkeep.dates") 613), none, (.ref 472), .none, 0⟩, #[]⟩
noncomputable def o474 (P : Params) : Obj := ⟨(.type "tuple"), none, .seq #[] 0, #[]⟩
noncomputable def o475 (P : Params) : Obj := ⟨.none, none, .fields #[], #[]⟩
noncomputable def o476 (P : Params) : Obj := ⟨(.type "tuple"), none, .seq #[(.str (Str.ofString "reader") 865), (.str (Str.ofString "hour") 866), (.str (Str.ofString "minute") 867), (.str (Str.ofString "second") 868)] 0, #[]⟩
noncomputable def o477 (P : Params) : Obj := ⟨(.type "tuple"), none, .seq #[] 0, #[]⟩
noncomputable def o478 (P : Params) : Obj := ⟨.none, none, .func ⟨(Str.ofString "read_clock"), (Str.ofString "read_clock"), (sArgs (stm 72)), .stmts (sBody (stm 72)), (sScope (stm 72)), 0, [], .none, .none, .none, .none, none, .none, .none, 0⟩, #[]⟩
noncomputable def o479 (P : Params) : Obj := ⟨(.type "code"), none, .fields #[(.str (Str.ofString "read_clock") 862), (.str (Str.ofString "read_clock") 863), (.str (Str.ofString "/claim/cut.py") 864), (.int (351) 0), (.int (1) 0), (.int (0) 0), (.int (0) 0), (.int (3) 0), (.ref 474), (.bool true), (.int (181) 0), (.ref 475), .none, (.ref 476), (.ref 477), (.ref 478), (.int (869) 0), (.int (351) 0), (.str (Str.ofString "/claim/cut.py") 870)], #[]⟩
noncomputable def o480 (P : Params) : Obj := ⟨(.type "function"), none, .func ⟨(Str.ofString "read_clock"), (Str.ofString "read_clock"), (sArgs (stm 72)), .stmts (sBody (stm 72)), (sScope (stm 72)), 3, [], .none, .none, .none, (.str (Str.ofString "postkeep.dates") 613), none, (.ref 479), .none, 0⟩, #[]⟩
noncomputable def heap73 (P : Params) : Heap := ⟨#[boot_o_0 P, boot_o_1 P, o2x16 P, o3x73 P, boot_o_4 P, boot_o_5 P, boot_o_6 P, boot_o_7 P, boot_o_8 P, boot_o_9 P, boot_o_10 P, o11 P, o12x73 P, o13 P, o14 P, o15 P, o16 P, o17 P, o18 P, o19 P, o20 P, o21 P, o22 P, o23 P, o24 P, o25 P, o26 P, o27 P, o28 P, o29 P, o30 P, o31 P, o32 P, o33 P, o34 P, o35 P, o36 P, o37 P, o38 P, o39 P, o40 P, o41 P, o42 P, o43 P, o44 P, o45 P, o46 P, o47 P, o48 P, o49 P, o50 P, o51 P, o52 P, o53 P, o54 P, o55 P, o56 P, o57 P, o58 P, o59 P, o60 P, o61 P, o62 P, o63 P, o64 P, o65 P, o66 P, o67 P, o68 P, o69 P, o70 P, o71 P, o72 P, o73 P, o74 P, o75 P, o76 P, o77 P, o78 P, o79 P, o80 P, o81 P, o82 P, o83 P, o84 P, o85 P, o86 P, o87 P, o88 P, o89 P, o90 P, o91 P, o92 P, o93 P, o94 P, o95 P, o96 P, o97 P, o98 P, o99 P, o100 P, o101 P, o102 P, o103 P, o104 P, o105 P, o106 P, o107 P, o108 P, o109 P, o110 P, o111 P, o112 P, o113 P, o114 P, o115 P, o116 P, o117 P, o118 P, o119 P, o120 P, o121 P, o122 P, o123 P, o124 P, o125 P, o126 P, o127 P, o128 P, o129 P, o130 P, o131 P, o132 P, o133 P, o134 P, o135 P, o136 P, o137 P, o138 P, o139 P, o140 P, o141 P, o142 P, o143 P, o144 P, o145 P, o146 P, o147 P, o148 P, o149 P, o150 P, o151 P, o152 P, o153 P, o154 P, o155 P, o156 P, o157 P, o158 P, o159 P, o160 P, o161 P, o162 P, o163 P, o164 P, o165 P, o166 P, o167 P, o168 P, o169 P, o170 P, o171 P, o172 P, o173 P, o174 P, o175 P, o176 P, o177 P, o178 P, o179 P, o180 P, o181 P, o182 P, o183 P, o184 P, o185 P, o186 P, o187 P, o188 P, o189 P, o190 P, o191 P, o192 P, o193 P, o194 P, o195 P, o196 P, o197 P, o198 P, o199 P, o200 P, o201 P, o202 P, o203 P, o204 P, o205 P, o206 P, o207 P, o208 P, o209 P, o210 P, o211 P, o212 P, o213 P, o214 P, o215 P, o216 P, o217 P, o218 P, o219 P, o220 P, o221 P, o222 P, o223 P, o224 P, o225 P, o226 P, o227 P, o228 P, o229 P, o230 P, o231 P, o232 P, o233 P, o234 P, o235 P, o236 P, o237 P, o238 P, o239 P, o240 P, o241 P, o242 P, o243 P, o244 P, o245 P, o246 P, o247 P, o248 P, o249 P, o250 P, o251 P, o252 P, o253 P, o254 P, o255 P, o256 P, o257 P, o258 P, o259 P, o260 P, o261 P, o262 P, o263 P, o264 P, o265 P, o266 P, o267 P, o268 P, o269 P, o270 P, o271 P, o272 P, o273 P, o274 P, o275 P, o276 P, o277 P, o278 P, o279 P, o280 P, o281 P, o282 P, o283 P, o284 P, o285 P, o286 P, o287 P, o288 P, o289 P, o290 P, o291 P, o292 P, o293 P, o294 P, o295 P, o296 P, o297 P, o298 P, o299 P, o300 P, o301 P, o302 P, o303 P, o304 P, o305 P, o306 P, o307 P, o308 P, o309 P, o310 P, o311 P, o312 P, o313 P, o314 P, o315 P, o316 P, o317 P, o318 P, o319 P, o320 P, o321 P, o322 P, o323 P, o324 P, o325 P, o326 P, o327 P, o328 P, o329 P, o330 P, o331 P, o332 P, o333 P, o334 P, o335 P, o336 P, o337 P, o338 P, o339 P, o340 P, o341 P, o342 P, o343 P, o344 P, o345 P, o346 P, o347 P, o348 P, o349 P, o350 P, o351 P, o352 P, o353 P, o354 P, o355 P, o356 P, o357 P, o358 P, o359 P, o360 P, o361 P, o362 P, o363 P, o364 P, o365 P, o366 P, o367 P, o368 P, o369 P, o370 P, o371 P, o372 P, o373 P, o374 P, o375 P, o376 P, o377 P, o378 P, o379 P, o380 P, o381 P, o382 P, o383 P, o384 P, o385 P, o386 P, o387 P, o388 P, o389 P, o390 P, o391 P, o392 P, o393 P, o394 P, o395 P, o396 P, o397 P, o398 P, o399 P, o400 P, o401 P, o402 P, o403 P, o404 P, o405 P, o406 P, o407 P, o408 P, o409 P, o410 P, o411 P, o412 P, o413 P, o414 P, o415 P, o416 P, o417 P, o418 P, o419 P, o420 P, o421 P, o422 P, o423 P, o424 P, o425 P, o426 P, o427 P, o428 P, o429 P, o430 P, o431 P, o432 P, o433 P, o434 P, o435 P, o436 P, o437 P, o438 P, o439 P, o440 P, o441 P, o442 P, o443 P, o444 P, o445 P, o446 P, o447 P, o448 P, o449 P, o450 P, o451 P, o452 P, o453 P, o454 P, o455 P, o456 P, o457 P, o458 P, o459 P, o460 P, o461 P, o462 P, o463 P, o464 P, o465 P, o466 P, o467 P, o468 P, o469 P, o470 P, o471 P, o472 P, o473 P, o474 P, o475 P, o476 P, o477 P, o478 P, o479 P, o480 P], {}⟩
noncomputable abbrev st73 (w : World) (os : OsState) : Shared := ⟨heap73 w.params, #[], {}, 872, os⟩
noncomputable abbrev pos73 : Pos := ⟨351, 0, 357, 33⟩
noncomputable def o3x112 (P : Params) : Obj := ⟨(.type "dict"), none, .dict #[⟨PyData.keyHash P (Str.ofString "__name__"), .str (Str.ofString "__name__") 165, (.str (Str.ofString "postkeep.words") 1092)⟩, ⟨PyData.keyHash P (Str.ofString "__doc__"), .str (Str.ofString "__doc__") 166, .none⟩, ⟨PyData.keyHash P (Str.ofString "__package__"), .str (Str.ofString "__package__") 167, .none⟩, ⟨PyData.keyHash P (Str.ofString "__loader__"), .str (Str.ofString "__loader__") 168, (.builtin "__main__.__loader__#opaque")⟩, ⟨PyData.keyHash P (Str.ofString "__spec__"), .str (Str.ofString "__spec__") 169, .none⟩, ⟨PyData.keyHash P (Str.ofString "__annotations__"), .str (Str.ofString "__annotations__") 170, (.ref 6)⟩, ⟨PyData.keyHash P (Str.ofString "__builtins__"), .str (Str.ofString "__builtins__") 171, (.ref 4)⟩, ⟨PyData.keyHash P (Str.ofString "__file__"), .str (Str.ofString "__file__") 173, (.str (Str.ofString "/claim/cut.py") 172)⟩, ⟨PyData.keyHash P (Str.ofString "__cached__"), .str (Str.ofString "__cached__") 174, .none⟩, ⟨PyData.keyHash P (Str.ofString "row_of"), .str (Str.ofString "row_of") 196, (.ref 21)⟩, ⟨PyData.keyHash P (Str.ofString "leaves_of"), .str (Str.ofString "leaves_of") 206, (.ref 28)⟩, ⟨PyData.keyHash P (Str.ofString "has_kind"), .str (Str.ofString "has_kind") 212, (.ref 33)⟩, ⟨PyData.keyHash P (Str.ofString "decide"), .str (Str.ofString "decide") 222, (.ref 40)⟩, ⟨PyData.keyHash P (Str.ofString "PostError"), .str (Str.ofString "PostError") 264, (.ref 65)⟩, ⟨PyData.keyHash P (Str.ofString "WordFault"), .str (Str.ofString "WordFault") 280, (.ref 78)⟩, ⟨PyData.keyHash P (Str.ofString "MimeFault"), .str (Str.ofString "MimeFault") 296, (.ref 90)⟩, ⟨PyData.keyHash P (Str.ofString "StoreFault"), .str (Str.ofString "StoreFault") 312, (.ref 102)⟩, ⟨PyData.keyHash P (Str.ofString "SYSTEM"), .str (Str.ofString "SYSTEM") 316, (.str (Str.ofString "\\Seen \\Answered \\Flagged \\Deleted \\Draft") 315)⟩, ⟨PyData.keyHash P (Str.ofString "NO_KEYWORD"), .str (Str.ofString "NO_KEYWORD") 318, (.str (Str.ofString "(){ %*\"\\]") 317)⟩, ⟨PyData.keyHash P (Str.ofString "MOST_KEYWORD"), .str (Str.ofString "MOST_KEYWORD") 320, (.int (60) 319)⟩, ⟨PyData.keyHash P (Str.ofString "system_flags"), .str (Str.ofString "system_flags") 326, (.ref 111)⟩, ⟨PyData.keyHash P (Str.ofString "is_keyword"), .str (Str.ofString "is_keyword") 334, (.ref 118)⟩, ⟨PyData.keyHash P (Str.ofString "flag_name"), .str (Str.ofString "flag_name") 342, (.ref 125)⟩, ⟨PyData.keyHash P (Str.ofString "Letter"), .str (Str.ofString "Letter") 394, (.ref 156)⟩, ⟨PyData.keyHash P (Str.ofString "lower_code"), .str (Str.ofString "lower_code") 403, (.ref 167)⟩, ⟨PyData.keyHash P (Str.ofString "lower_text"), .str (Str.ofString "lower_text") 409, (.ref 172)⟩, ⟨PyData.keyHash P (Str.ofString "ASCII"), .str (Str.ofString "ASCII") 413, (.str (Str.ofString "us-ascii") 412)⟩, ⟨PyData.keyHash P (Str.ofString "LATIN"), .str (Str.ofString "LATIN") 415, (.str (Str.ofString "iso-8859-1") 414)⟩, ⟨PyData.keyHash P (Str.ofString "UTF8"), .str (Str.ofString "UTF8") 417, (.str (Str.ofString "utf-8") 416)⟩, ⟨PyData.keyHash P (Str.ofString "CHARSETS"), .str (Str.ofString "CHARSETS") 418, (.ref 173)⟩, ⟨PyData.keyHash P (Str.ofString "UNKNOWN_SIGN"), .str (Str.ofString "UNKNOWN_SIGN") 421, (.str (Str.ofString "�") 420)⟩, ⟨PyData.keyHash P (Str.ofString "charset_names"), .str (Str.ofString "charset_names") 429, (.ref 180)⟩, ⟨PyData.keyHash P (Str.ofString "charset_name"), .str (Str.ofString "charset_name") 436, (.ref 187)⟩, ⟨PyData.keyHash P (Str.ofString "need_charset"), .str (Str.ofString "need_charset") 443, (.ref 194)⟩, ⟨PyData.keyHash P (Str.ofString "follower_span"), .str (Str.ofString "follower_span") 450, (.ref 201)⟩, ⟨PyData.keyHash P (Str.ofString "utf8_sign"), .str (Str.ofString "utf8_sign") 464, (.ref 208)⟩, ⟨PyData.keyHash P (Str.ofString "sign_at"), .str (Str.ofString "sign_at") 473, (.ref 215)⟩, ⟨PyData.keyHash P (Str.ofString "text_in"), .str (Str.ofString "text_in") 485, (.ref 222)⟩, ⟨PyData.keyHash P (Str.ofString "strict_text"), .str (Str.ofString "strict_text") 497, (.ref 229)⟩, ⟨PyData.keyHash P (Str.ofString "guessed_text"), .str (Str.ofString "guessed_text") 504, (.ref 236)⟩, ⟨PyData.keyHash P (Str.ofString "MOST_DEPTH_tokens"), .str (Str.ofString "MOST_DEPTH_tokens") 508, (.int (20) 507)⟩, ⟨PyData.keyHash P (Str.ofString "SIGNS_tokens"), .str (Str.ofString "SIGNS_tokens") 510, (.bytes #[60, 62, 64, 44, 59, 58, 46, 92] 509)⟩, ⟨PyData.keyHash P (Str.ofString "ATOM_SIGNS"), .str (Str.ofString "ATOM_SIGNS") 512, (.bytes #[33, 35, 36, 37, 38, 39, 42, 43, 45, 47, 61, 63, 94, 95, 96, 123, 124, 125, 126] 511)⟩, ⟨PyData.keyHash P (Str.ofString "NEVER_ESCAPED"), .str (Str.ofString "NEVER_ESCAPED") 516, (.ref 237)⟩, ⟨PyData.keyHash P (Str.ofString "is_atom_code"), .str (Str.ofString "is_atom_code") 523, (.ref 244)⟩, ⟨PyData.keyHash P (Str.ofString "line_end"), .str (Str.ofString "line_end") 531, (.ref 251)⟩, ⟨PyData.keyHash P (Str.ofString "inside_at"), .str (Str.ofString "inside_at") 541, (.ref 258)⟩, ⟨PyData.keyHash P (Str.ofString "closed_at"), .str (Str.ofString "closed_at") 554, (.ref 265)⟩, ⟨PyData.keyHash P (Str.ofString "comment_at"), .str (Str.ofString "comment_at") 567, (.ref 272)⟩, ⟨PyData.keyHash P (Str.ofString "atom_at"), .str (Str.ofString "atom_at") 576, (.ref 279)⟩, ⟨PyData.keyHash P (Str.ofString "token_at"), .str (Str.ofString "token_at") 587, (.ref 286)⟩, ⟨PyData.keyHash P (Str.ofString "past_white"), .str (Str.ofString "past_white") 596, (.ref 293)⟩, ⟨PyData.keyHash P (Str.ofString "tokens_of"), .str (Str.ofString "tokens_of") 606, (.ref 300)⟩, ⟨PyData.keyHash P (Str.ofString "without_comments"), .str (Str.ofString "without_comments") 612, (.ref 305)⟩, ⟨PyData.keyHash P (Str.ofString "MONTHS"), .str (Str.ofString "MONTHS") 627, (.ref 306)⟩, ⟨PyData.keyHash P (Str.ofString "DAYS"), .str (Str.ofString "DAYS") 635, (.ref 307)⟩, ⟨PyData.keyHash P (Str.ofString "MOST_YEAR"), .str (Str.ofString "MOST_YEAR") 637, (.int (9999) 636)⟩, ⟨PyData.keyHash P (Str.ofString "DAY_SECONDS"), .str (Str.ofString "DAY_SECONDS") 639, (.int (86400) 638)⟩, ⟨PyData.keyHash P (Str.ofString "FIRST_DAY"), .str (Str.ofString "FIRST_DAY") 641, (.int (719162) 640)⟩, ⟨PyData.keyHash P (Str.ofString "Moment"), .str (Str.ofString "Moment") 689, (.ref 331)⟩, ⟨PyData.keyHash P (Str.ofString "is_leap"), .str (Str.ofString "is_leap") 696, (.ref 342)⟩, ⟨PyData.keyHash P (Str.ofString "month_length"), .str (Str.ofString "month_length") 704, (.ref 349)⟩, ⟨PyData.keyHash P (Str.ofString "days_before_year"), .str (Str.ofString "days_before_year") 712, (.ref 356)⟩, ⟨PyData.keyHash P (Str.ofString "day_told"), .str (Str.ofString "day_told") 723, (.ref 363)⟩, ⟨PyData.keyHash P (Str.ofString "is_day"), .str (Str.ofString "is_day") 732, (.ref 370)⟩, ⟨PyData.keyHash P (Str.ofString "is_time"), .str (Str.ofString "is_time") 741, (.ref 377)⟩, ⟨PyData.keyHash P (Str.ofString "day_of"), .str (Str.ofString "day_of") 750, (.ref 385)⟩, ⟨PyData.keyHash P (Str.ofString "month_number"), .str (Str.ofString "month_number") 756, (.ref 390)⟩, ⟨PyData.keyHash P (Str.ofString "is_day_name"), .str (Str.ofString "is_day_name") 762, (.ref 395)⟩, ⟨PyData.keyHash P (Str.ofString "is_figures"), .str (Str.ofString "is_figures") 768, (.ref 400)⟩, ⟨PyData.keyHash P (Str.ofString "zone_in"), .str (Str.ofString "zone_in") 776, (.ref 407)⟩, ⟨PyData.keyHash P (Str.ofString "named_zone"), .str (Str.ofString "named_zone") 782, (.ref 412)⟩, ⟨PyData.keyHash P (Str.ofString "DateReader"), .str (Str.ofString "DateReader") 853, (.ref 462)⟩, ⟨PyData.keyHash P (Str.ofString "full_year"), .str (Str.ofString "full_year") 861, (.ref 473)⟩, ⟨PyData.keyHash P (Str.ofString "read_clock"), .str (Str.ofString "read_clock") 871, (.ref 480)⟩, ⟨PyData.keyHash P (Str.ofString "read_zone"), .str (Str.ofString "read_zone") 880, (.ref 487)⟩, ⟨PyData.keyHash P (Str.ofString "read_date"), .str (Str.ofString "read_date") 898, (.ref 494)⟩, ⟨PyData.keyHash P (Str.ofString "line_at"), .str (Str.ofString "line_at") 910, (.ref 501)⟩, ⟨PyData.keyHash P (Str.ofString "rows_of"), .str (Str.ofString "rows_of") 921, (.ref 508)⟩, ⟨PyData.keyHash P (Str.ofString "unfolded"), .str (Str.ofString "unfolded") 928, (.ref 515)⟩, ⟨PyData.keyHash P (Str.ofString "first_body"), .str (Str.ofString "first_body") 938, (.ref 522)⟩, ⟨PyData.keyHash P (Str.ofString "SIGNS_base64"), .str (Str.ofString "SIGNS_base64") 942, (.bytes #[65, 66, 67, 68, 69, 70, 71, 72, 73, 74, 75, 76, 77, 78, 79, 80, 81, 82, 83, 84, 85, 86, 87, 88, 89, 90, 97, 98, 99, 100, 101, 102, 103, 104, 105, 106, 107, 108, 109, 110, 111, 112, 113, 114, 115, 116, 117, 118, 119, 120, 121, 122, 48, 49, 50, 51, 52, 53, 54, 55, 56, 57, 43, 47] 941)⟩, ⟨PyData.keyHash P (Str.ofString "PAD"), .str (Str.ofString "PAD") 944, (.int (61) 943)⟩, ⟨PyData.keyHash P (Str.ofString "worth_table"), .str (Str.ofString "worth_table") 950, (.ref 527)⟩, ⟨PyData.keyHash P (Str.ofString "group_octets"), .str (Str.ofString "group_octets") 956, (.ref 532)⟩, ⟨PyData.keyHash P (Str.ofString "decoded"), .str (Str.ofString "decoded") 968, (.ref 539)⟩, ⟨PyData.keyHash P (Str.ofString "EQUALS"), .str (Str.ofString "EQUALS") 972, (.int (61) 971)⟩, ⟨PyData.keyHash P (Str.ofString "BLANK"), .str (Str.ofString "BLANK") 974, (.int (32) 973)⟩, ⟨PyData.keyHash P (Str.ofString "RETURN"), .str (Str.ofString "RETURN") 976, (.int (13) 975)⟩, ⟨PyData.keyHash P (Str.ofString "UNDERLINE"), .str (Str.ofString "UNDERLINE") 978, (.int (95) 977)⟩, ⟨PyData.keyHash P (Str.ofString "hex_worth"), .str (Str.ofString "hex_worth") 985, (.ref 546)⟩, ⟨PyData.keyHash P (Str.ofString "quoted_at"), .str (Str.ofString "quoted_at") 995, (.ref 553)⟩, ⟨PyData.keyHash P (Str.ofString "line_parts"), .str (Str.ofString "line_parts") 1005, (.ref 560)⟩, ⟨PyData.keyHash P (Str.ofString "unquoted"), .str (Str.ofString "unquoted") 1015, (.ref 567)⟩, ⟨PyData.keyHash P (Str.ofString "quoted_decoded"), .str (Str.ofString "quoted_decoded") 1026, (.ref 574)⟩, ⟨PyData.keyHash P (Str.ofString "word_q_decoded"), .str (Str.ofString "word_q_decoded") 1032, (.ref 579)⟩, ⟨PyData.keyHash P (Str.ofString "undone"), .str (Str.ofString "undone") 1042, (.ref 586)⟩, ⟨PyData.keyHash P (Str.ofString "body_octets"), .str (Str.ofString "body_octets") 1050, (.ref 593)⟩, ⟨PyData.keyHash P (Str.ofString "body_text"), .str (Str.ofString "body_text") 1059, (.ref 600)⟩, ⟨PyData.keyHash P (Str.ofString "ends_of"), .str (Str.ofString "ends_of") 1071, (.ref 607)⟩, ⟨PyData.keyHash P (Str.ofString "ranges_of"), .str (Str.ofString "ranges_of") 1080, (.ref 614)⟩, ⟨PyData.keyHash P (Str.ofString "has"), .str (Str.ofString "has") 1091, (.ref 621)⟩, ⟨PyData.keyHash P (Str.ofString "WHITE"), .str (Str.ofString "WHITE") 1098, (.ref 622)⟩, ⟨PyData.keyHash P (Str.ofString "OPENING"), .str (Str.ofString "OPENING") 1100, (.int (40) 1099)⟩, ⟨PyData.keyHash P (Str.ofString "CLOSING"), .str (Str.ofString "CLOSING") 1102, (.int (41) 1101)⟩, ⟨PyData.keyHash P (Str.ofString "WAYS"), .str (Str.ofString "WAYS") 1105, (.ref 623)⟩, ⟨PyData.keyHash P (Str.ofString "is_word_sign"), .str (Str.ofString "is_word_sign") 1112, (.ref 630)⟩, ⟨PyData.keyHash P (Str.ofString "part_end"), .str (Str.ofString "part_end") 1121, (.ref 637)⟩] 108, #[]⟩
noncomputable def o12x112 (P : Params) : Obj := ⟨.none, none, .fields #[(.int (2) 0), (.int (0) 0), (.ref 20), (.int (9) 0), (.int (0) 0), (.ref 27), (.int (20) 0), (.int (0) 0), (.ref 32), (.int (22) 0), (.int (0) 0), (.ref 39), (.int (37) 0), (.int (0) 0), (.ref 46), (.int (46) 0), (.int (0) 0), (.ref 74), (.int (48) 0), (.int (0) 0), (.ref 86), (.int (50) 0), (.int (0) 0), (.ref 98), (.int (56) 0), (.int (0) 0), (.ref 110), (.int (58) 0), (.int (0) 0), (.ref 117), (.int (65) 0), (.int (0) 0), (.ref 124), (.int (72) 0), (.int (0) 0), (.ref 131), (.int (87) 0), (.int (0) 0), (.ref 166), (.int (89) 0), (.int (0) 0), (.ref 171), (.int (97) 0), (.int (0) 0), (.ref 179), (.int (106) 0), (.int (0) 0), (.ref 186), (.int (108) 0), (.int (0) 0), (.ref 193), (.int (111) 0), (.int (0) 0), (.ref 200), (.int (119) 0), (.int (0) 0), (.ref 207), (.int (133) 0), (.int (0) 0), (.ref 214), (.int (139) 0), (.int (0) 0), (.ref 221), (.int (148) 0), (.int (0) 0), (.ref 228), (.int (159) 0), (.int (0) 0), (.ref 235), (.int (169) 0), (.int (0) 0), (.ref 243), (.int (171) 0), (.int (0) 0), (.ref 250), (.int (175) 0), (.int (0) 0), (.ref 257), (.int (188) 0), (.int (0) 0), (.ref 264), (.int (197) 0), (.int (0) 0), (.ref 271), (.int (212) 0), (.int (0) 0), (.ref 278), (.int (217) 0), (.int (0) 0), (.ref 285), (.int (234) 0), (.int (0) 0), (.ref 292), (.int (241) 0), (.int (0) 0), (.ref 299), (.int (249) 0), (.int (0) 0), (.ref 304), (.int (257) 0), (.int (0) 0), (.ref 313), (.int (270) 0), (.int (0) 0), (.ref 341), (.int (272) 0), (.int (0) 0), (.ref 348), (.int (276) 0), (.int (0) 0), (.ref 355), (.int (279) 0), (.int (0) 0), (.ref 362), (.int (292) 0), (.int (0) 0), (.ref 369), (.int (294) 0), (.int (0) 0), (.ref 376), (.int (296) 0), (.int (0) 0), (.ref 384), (.int (298) 0), (.int (0) 0), (.ref 389), (.int (301) 0), (.int (0) 0), (.ref 394), (.int (303) 0), (.int (0) 0), (.ref 399), (.int (305) 0), (.int (0) 0), (.ref 406), (.int (310) 0), (.int (0) 0), (.ref 411), (.int (315) 0), (.int (0) 0), (.ref 418), (.int (347) 0), (.int (0) 0), (.ref 472), (.int (351) 0), (.int (0) 0), (.ref 479), (.int (358) 0), (.int (0) 0), (.ref 486), (.int (365) 0), (.int (0) 0), (.ref 493), (.int (387) 0), (.int (0) 0), (.ref 500), (.int (394) 0), (.int (0) 0), (.ref 507), (.int (403) 0), (.int (0) 0), (.ref 514), (.int (405) 0), (.int (0) 0), (.ref 521), (.int (414) 0), (.int (0) 0), (.ref 526), (.int (416) 0), (.int (0) 0), (.ref 531), (.int (424) 0), (.int (0) 0), (.ref 538), (.int (442) 0), (.int (0) 0), (.ref 545), (.int (450) 0), (.int (0) 0), (.ref 552), (.int (456) 0), (.int (0) 0), (.ref 559), (.int (468) 0), (.int (0) 0), (.ref 566), (.int (480) 0), (.int (0) 0), (.ref 573), (.int (489) 0), (.int (0) 0), (.ref 578), (.int (492) 0), (.int (0) 0), (.ref 585), (.int (498) 0), (.int (0) 0), (.ref 592), (.int (500) 0), (.int (0) 0), (.ref 599), (.int (504) 0), (.int (0) 0), (.ref 606), (.int (513) 0), (.int (0) 0), (.ref 613), (.int (521) 0), (.int (0) 0), (.ref 620), (.int (532) 0), (.int (0) 0), (.ref 629), (.int (534) 0), (.int (0) 0), (.ref 636)], #[]⟩
noncomputable def o481 (P : Params) : Obj := ⟨(.type "tuple"), none, .seq #[] 0, #[]⟩
noncomputable def o482 (P : Params) : Obj := ⟨.none, none, .fields #[], #[]⟩
noncomputable def o483 (P : Params) : Obj := ⟨(.type "tuple"), none, .seq #[(.str (Str.ofString "reader") 875), (.str (Str.ofString "text") 876), (.str (Str.ofString "zone") 877)] 0, #[]⟩
noncomputable def o484 (P : Params) : Obj := ⟨(.type "tuple"), none, .seq #[] 0, #[]⟩
noncomputable def o485 (P : Params) : Obj := ⟨.none, none, .func ⟨(Str.ofString "read_zone"), (Str.ofString "read_zone"), (sArgs (stm 73)), .stmts (sBody (stm 73)), (sScope (stm 73)), 0, [], .none, .none, .none, .none, none, .none, .none, 0⟩, #[]⟩
noncomputable def o486 (P : Params) : Obj := ⟨(.type "code"), none, .fields #[(.str (Str.ofString "read_zone") 872), (.str (Str.ofString "read_zone") 873), (.str (Str.ofString "/claim/cut.py") 874), (.int (358) 0), (.int (1) 0), (.int (0) 0), (.int (0) 0), (.int (3) 0), (.ref 481), (.bool true), (.int (181) 0), (.ref 482), .none, (.ref 483), (.ref 484), (.ref 485), (.int (878) 0), (.int (358) 0), (.str (Str.ofString "/claim/cut.py") 879)], #[]⟩
noncomputable def o487 (P : Params) : Obj := ⟨(.type "function"), none, .func ⟨(Str.ofString "read_zone"), (Str.ofString "read_zone"), (sArgs (stm 73)), .stmts (sBody (stm 73)), (sScope (stm 73)), 3, [], .none, .none, .none, (.str (Str.ofString "postkeep.dates") 613), none, (.ref 486), .none, 0⟩, #[]⟩
noncomputable def o488 (P : Params) : Obj := ⟨(.type "tuple"), none, .seq #[] 0, #[]⟩
noncomputable def o489 (P : Params) : Obj := ⟨.none, none, .fields #[], #[]⟩
noncomputable def o490 (P : Params) : Obj := ⟨(.type "tuple"), none, .seq #[(.str (Str.ofString "octets") 884), (.str (Str.ofString "reader") 885), (.str (Str.ofString "begun") 886), (.str (Str.ofString "day") 887), (.str (Str.ofString "month") 888), (.str (Str.ofString "number") 889), (.str (Str.ofString "figures") 890), (.str (Str.ofString "year") 891), (.str (Str.ofString "hour") 892), (.str (Str.ofString "minute") 893), (.str (Str.ofString "second") 894), (.str (Str.ofString "zone") 895)] 0, #[]⟩
noncomputable def o491 (P : Params) : Obj := ⟨(.type "tuple"), none, .seq #[] 0, #[]⟩
noncomputable def o492 (P : Params) : Obj := ⟨.none, none, .func ⟨(Str.ofString "read_date"), (Str.ofString "read_date"), (sArgs (stm 74)), .stmts (sBody (stm 74)), (sScope (stm 74)), 0, [], .none, .none, .none, .none, none, .none, .none, 0⟩, #[]⟩
noncomputable def o493 (P : Params) : Obj := ⟨(.type "code"), none, .fields #[(.str (Str.ofString "read_date") 881), (.str (Str.ofString "read_date") 882), (.str (Str.ofString "/claim/cut.py") 883), (.int (365) 0), (.int (1) 0), (.int (0) 0), (.int (0) 0), (.int (3) 0), (.ref 488), (.bool true), (.int (181) 0), (.ref 489), .none, (.ref 490), (.ref 491), (.ref 492), (.int (896) 0), (.int (365) 0), (.str (Str.ofString "/claim/cut.py") 897)], #[]⟩
noncomputable def o494 (P : Params) : Obj := ⟨(.type "function"), none, .func ⟨(Str.ofString "read_date"), (Str.ofString "read_date"), (sArgs (stm 74)), .stmts (sBody (stm 74)), (sScope (stm 74)), 3, [], .none, .none, .none, (.str (Str.ofString "postkeep.dates") 613), none, (.ref 493), .none, 0⟩, #[]⟩
noncomputable def o495 (P : Params) : Obj := ⟨(.type "tuple"), none, .seq #[] 0, #[]⟩
noncomputable def o496 (P : Params) : Obj := ⟨.none, none, .fields #[], #[]⟩
noncomputable def o497 (P : Params) : Obj := ⟨(.type "tuple"), none, .seq #[(.str (Str.ofString "data") 904), (.str (Str.ofString "at") 905), (.str (Str.ofString "end") 906), (.str (Str.ofString "spot") 907)] 0, #[]⟩
noncomputable def o498 (P : Params) : Obj := ⟨(.type "tuple"), none, .seq #[] 0, #[]⟩
noncomputable def o499 (P : Params) : Obj := ⟨.none, none, .func ⟨(Str.ofString "line_at"), (Str.ofString "line_at"), (sArgs (stm 76)), .stmts (sBody (stm 76)), (sScope (stm 76)), 0, [], .none, .none, .none, .none, none, .none, .none, 0⟩, #[]⟩
noncomputable def o500 (P : Params) : Obj := ⟨(.type "code"), none, .fields #[(.str (Str.ofString "line_at") 901), (.str (Str.ofString "line_at") 902), (.str (Str.ofString "/claim/cut.py") 903), (.int (387) 0), (.int (3) 0), (.int (0) 0), (.int (0) 0), (.int (3) 0), (.ref 495), (.bool true), (.int (181) 0), (.ref 496), .none, (.ref 497), (.ref 498), (.ref 499), (.int (908) 0), (.int (387) 0), (.str (Str.ofString "/claim/cut.py") 909)], #[]⟩
noncomputable def o501 (P : Params) : Obj := ⟨(.type "function"), none, .func ⟨(Str.ofString "line_at"), (Str.ofString "line_at"), (sArgs (stm 76)), .stmts (sBody (stm 76)), (sScope (stm 76)), 3, [], .none, .none, .none, (.str (Str.ofString "postkeep.headers") 899), none, (.ref 500), .none, 0⟩, #[]⟩
noncomputable def o502 (P : Params) : Obj := ⟨(.type "tuple"), none, .seq #[] 0, #[]⟩
noncomputable def o503 (P : Params) : Obj := ⟨.none, none, .fields #[], #[]⟩
noncomputable def o504 (P : Params) : Obj := ⟨(.type "tuple"), none, .seq #[(.str (Str.ofString "raw") 914), (.str (Str.ofString "rows") 915), (.str (Str.ofString "at") 916), (.str (Str.ofString "last") 917), (.str (Str.ofString "later") 918)] 0, #[]⟩
noncomputable def o505 (P : Params) : Obj := ⟨(.type "tuple"), none, .seq #[] 0, #[]⟩
noncomputable def o506 (P : Params) : Obj := ⟨.none, none, .func ⟨(Str.ofString "rows_of"), (Str.ofString "rows_of"), (sArgs (stm 77)), .stmts (sBody (stm 77)), (sScope (stm 77)), 0, [], .none, .none, .none, .none, none, .none, .none, 0⟩, #[]⟩
noncomputable def o507 (P : Params) : Obj := ⟨(.type "code"), none, .fields #[(.str (Str.ofString "rows_of") 911), (.str (Str.ofString "rows_of") 912), (.str (Str.ofString "/claim/cut.py") 913), (.int (394) 0), (.int (1) 0), (.int (0) 0), (.int (0) 0), (.int (3) 0), (.ref 502), (.bool true), (.int (181) 0), (.ref 503), .none, (.ref 504), (.ref 505), (.ref 506), (.int (919) 0), (.int (394) 0), (.str (Str.ofString "/claim/cut.py") 920)], #[]⟩
noncomputable def o508 (P : Params) : Obj := ⟨(.type "function"), none, .func ⟨(Str.ofString "rows_of"), (Str.ofString "rows_of"), (sArgs (stm 77)), .stmts (sBody (stm 77)), (sScope (stm 77)), 3, [], .none, .none, .none, (.str (Str.ofString "postkeep.headers") 899), none, (.ref 507), .none, 0⟩, #[]⟩
noncomputable def o509 (P : Params) : Obj := ⟨(.type "tuple"), none, .seq #[] 0, #[]⟩
noncomputable def o510 (P : Params) : Obj := ⟨.none, none, .fields #[], #[]⟩
noncomputable def o511 (P : Params) : Obj := ⟨(.type "tuple"), none, .seq #[(.str (Str.ofString "raw") 925)] 0, #[]⟩
noncomputable def o512 (P : Params) : Obj := ⟨(.type "tuple"), none, .seq #[] 0, #[]⟩
noncomputable def o513 (P : Params) : Obj := ⟨.none, none, .func ⟨(Str.ofString "unfolded"), (Str.ofString "unfolded"), (sArgs (stm 78)), .stmts (sBody (stm 78)), (sScope (stm 78)), 0, [], .none, .none, .none, .none, none, .none, .none, 0⟩, #[]⟩
noncomputable def o514 (P : Params) : Obj := ⟨(.type "code"), none, .fields #[(.str (Str.ofString "unfolded") 922), (.str (Str.ofString "unfolded") 923), (.str (Str.ofString "/claim/cut.py") 924), (.int (403) 0), (.int (1) 0), (.int (0) 0), (.int (0) 0), (.int (3) 0), (.ref 509), (.bool true), (.int (181) 0), (.ref 510), .none, (.ref 511), (.ref 512), (.ref 513), (.int (926) 0), (.int (403) 0), (.str (Str.ofString "/claim/cut.py") 927)], #[]⟩
noncomputable def o515 (P : Params) : Obj := ⟨(.type "function"), none, .func ⟨(Str.ofString "unfolded"), (Str.ofString "unfolded"), (sArgs (stm 78)), .stmts (sBody (stm 78)), (sScope (stm 78)), 3, [], .none, .none, .none, (.str (Str.ofString "postkeep.headers") 899), none, (.ref 514), .none, 0⟩, #[]⟩
noncomputable def o516 (P : Params) : Obj := ⟨(.type "tuple"), none, .seq #[] 0, #[]⟩
noncomputable def o517 (P : Params) : Obj := ⟨.none, none, .fields #[], #[]⟩
noncomputable def o518 (P : Params) : Obj := ⟨(.type "tuple"), none, .seq #[(.str (Str.ofString "fields") 932), (.str (Str.ofString "word") 933), (.str (Str.ofString "wanted") 934), (.str (Str.ofString "field") 935)] 0, #[]⟩
noncomputable def o519 (P : Params) : Obj := ⟨(.type "tuple"), none, .seq #[] 0, #[]⟩
noncomputable def o520 (P : Params) : Obj := ⟨.none, none, .func ⟨(Str.ofString "first_body"), (Str.ofString "first_body"), (sArgs (stm 79)), .stmts (sBody (stm 79)), (sScope (stm 79)), 0, [], .none, .none, .none, .none, none, .none, .none, 0⟩, #[]⟩
noncomputable def o521 (P : Params) : Obj := ⟨(.type "code"), none, .fields #[(.str (Str.ofString "first_body") 929), (.str (Str.ofString "first_body") 930), (.str (Str.ofString "/claim/cut.py") 931), (.int (405) 0), (.int (2) 0), (.int (0) 0), (.int (0) 0), (.int (3) 0), (.ref 516), (.bool true), (.int (181) 0), (.ref 517), .none, (.ref 518), (.ref 519), (.ref 520), (.int (936) 0), (.int (405) 0), (.str (Str.ofString "/claim/cut.py") 937)], #[]⟩
noncomputable def o522 (P : Params) : Obj := ⟨(.type "function"), none, .func ⟨(Str.ofString "first_body"), (Str.ofString "first_body"), (sArgs (stm 79)), .stmts (sBody (stm 79)), (sScope (stm 79)), 3, [], .none, .none, .none, (.str (Str.ofString "postkeep.headers") 899), none, (.ref 521), .none, 0⟩, #[]⟩
noncomputable def o523 (P : Params) : Obj := ⟨(.type "tuple"), none, .seq #[] 0, #[]⟩
noncomputable def o524 (P : Params) : Obj := ⟨.none, none, .fields #[], #[]⟩
noncomputable def o525 (P : Params) : Obj := ⟨.none, none, .func ⟨(Str.ofString "worth_table"), (Str.ofString "worth_table"), (sArgs (stm 83)), .stmts (sBody (stm 83)), (sScope (stm 83)), 0, [], .none, .none, .none, .none, none, .none, .none, 0⟩, #[]⟩
noncomputable def o526 (P : Params) : Obj := ⟨(.type "code"), none, .fields #[(.str (Str.ofString "worth_table") 945), (.str (Str.ofString "worth_table") 946), (.str (Str.ofString "/claim/cut.py") 947), (.int (414) 0), (.int (1) 0), (.int (0) 0), (.int (0) 0), (.int (3) 0), (.ref 523), (.bool true), (.int (181) 0), (.ref 524), .none, .none, .none, (.ref 525), (.int (948) 0), (.int (414) 0), (.str (Str.ofString "/claim/cut.py") 949)], #[]⟩
noncomputable def o527 (P : Params) : Obj := ⟨(.type "function"), none, .func ⟨(Str.ofString "worth_table"), (Str.ofString "worth_table"), (sArgs (stm 83)), .stmts (sBody (stm 83)), (sScope (stm 83)), 3, [], .none, .none, .none, (.str (Str.ofString "postkeep.base64") 939), none, (.ref 526), .none, 0⟩, #[]⟩
noncomputable def o528 (P : Params) : Obj := ⟨(.type "tuple"), none, .seq #[] 0, #[]⟩
noncomputable def o529 (P : Params) : Obj := ⟨.none, none, .fields #[], #[]⟩
noncomputable def o530 (P : Params) : Obj := ⟨.none, none, .func ⟨(Str.ofString "group_octets"), (Str.ofString "group_octets"), (sArgs (stm 84)), .stmts (sBody (stm 84)), (sScope (stm 84)), 0, [], .none, .none, .none, .none, none, .none, .none, 0⟩, #[]⟩
noncomputable def o531 (P : Params) : Obj := ⟨(.type "code"), none, .fields #[(.str (Str.ofString "group_octets") 951), (.str (Str.ofString "group_octets") 952), (.str (Str.ofString "/claim/cut.py") 953), (.int (416) 0), (.int (1) 0), (.int (0) 0), (.int (0) 0), (.int (3) 0), (.ref 528), (.bool true), (.int (181) 0), (.ref 529), .none, .none, .none, (.ref 530), (.int (954) 0), (.int (416) 0), (.str (Str.ofString "/claim/cut.py") 955)], #[]⟩
noncomputable def o532 (P : Params) : Obj := ⟨(.type "function"), none, .func ⟨(Str.ofString "group_octets"), (Str.ofString "group_octets"), (sArgs (stm 84)), .stmts (sBody (stm 84)), (sScope (stm 84)), 3, [], .none, .none, .none, (.str (Str.ofString "postkeep.base64") 939), none, (.ref 531), .none, 0⟩, #[]⟩
noncomputable def o533 (P : Params) : Obj := ⟨(.type "tuple"), none, .seq #[] 0, #[]⟩
noncomputable def o534 (P : Params) : Obj := ⟨.none, none, .fields #[], #[]⟩
noncomputable def o535 (P : Params) : Obj := ⟨(.type "tuple"), none, .seq #[(.str (Str.ofString "data") 960), (.str (Str.ofString "worths") 961), (.str (Str.ofString "worth_row") 962), (.str (Str.ofString "code") 963), (.str (Str.ofString "found") 964), (.str (Str.ofString "begin") 965)] 0, #[]⟩
noncomputable def o536 (P : Params) : Obj := ⟨(.type "tuple"), none, .seq #[] 0, #[]⟩
noncomputable def o537 (P : Params) : Obj := ⟨.none, none, .func ⟨(Str.ofString "decoded"), (Str.ofString "decoded"), (sArgs (stm 85)), .stmts (sBody (stm 85)), (sScope (stm 85)), 0, [], .none, .none, .none, .none, none, .none, .none, 0⟩, #[]⟩
noncomputable def o538 (P : Params) : Obj := ⟨(.type "code"), none, .fields #[(.str (Str.ofString "decoded") 957), (.str (Str.ofString "decoded") 958), (.str (Str.ofString "/claim/cut.py") 959), (.int (424) 0), (.int (1) 0), (.int (0) 0), (.int (0) 0), (.int (3) 0), (.ref 533), (.bool true), (.int (181) 0), (.ref 534), .none, (.ref 535), (.ref 536), (.ref 537), (.int (966) 0), (.int (424) 0), (.str (Str.ofString "/claim/cut.py") 967)], #[]⟩
noncomputable def o539 (P : Params) : Obj := ⟨(.type "function"), none, .func ⟨(Str.ofString "decoded"), (Str.ofString "decoded"), (sArgs (stm 85)), .stmts (sBody (stm 85)), (sScope (stm 85)), 3, [], .none, .none, .none, (.str (Str.ofString "postkeep.base64") 939), none, (.ref 538), .none, 0⟩, #[]⟩
noncomputable def o540 (P : Params) : Obj := ⟨(.type "tuple"), none, .seq #[] 0, #[]⟩
noncomputable def o541 (P : Params) : Obj := ⟨.none, none, .fields #[], #[]⟩
noncomputable def o542 (P : Params) : Obj := ⟨(.type "tuple"), none, .seq #[(.str (Str.ofString "code") 982)] 0, #[]⟩
noncomputable def o543 (P : Params) : Obj := ⟨(.type "tuple"), none, .seq #[] 0, #[]⟩
noncomputable def o544 (P : Params) : Obj := ⟨.none, none, .func ⟨(Str.ofString "hex_worth"), (Str.ofString "hex_worth"), (sArgs (stm 91)), .stmts (sBody (stm 91)), (sScope (stm 91)), 0, [], .none, .none, .none, .none, none, .none, .none, 0⟩, #[]⟩
noncomputable def o545 (P : Params) : Obj := ⟨(.type "code"), none, .fields #[(.str (Str.ofString "hex_worth") 979), (.str (Str.ofString "hex_worth") 980), (.str (Str.ofString "/claim/cut.py") 981), (.int (442) 0), (.int (1) 0), (.int (0) 0), (.int (0) 0), (.int (3) 0), (.ref 540), (.bool true), (.int (181) 0), (.ref 541), .none, (.ref 542), (.ref 543), (.ref 544), (.int (983) 0), (.int (442) 0), (.str (Str.ofString "/claim/cut.py") 984)], #[]⟩
noncomputable def o546 (P : Params) : Obj := ⟨(.type "function"), none, .func ⟨(Str.ofString "hex_worth"), (Str.ofString "hex_worth"), (sArgs (stm 91)), .stmts (sBody (stm 91)), (sScope (stm 91)), 3, [], .none, .none, .none, (.str (Str.ofString "postkeep.quoted") 969), none, (.ref 545), .none, 0⟩, #[]⟩
noncomputable def o547 (P : Params) : Obj := ⟨(.type "tuple"), none, .seq #[] 0, #[]⟩
noncomputable def o548 (P : Params) : Obj := ⟨.none, none, .fields #[], #[]⟩
noncomputable def o549 (P : Params) : Obj := ⟨(.type "tuple"), none, .seq #[(.str (Str.ofString "data") 989), (.str (Str.ofString "at") 990), (.str (Str.ofString "high") 991), (.str (Str.ofString "low") 992)] 0, #[]⟩
noncomputable def o550 (P : Params) : Obj := ⟨(.type "tuple"), none, .seq #[] 0, #[]⟩
noncomputable def o551 (P : Params) : Obj := ⟨.none, none, .func ⟨(Str.ofString "quoted_at"), (Str.ofString "quoted_at"), (sArgs (stm 92)), .stmts (sBody (stm 92)), (sScope (stm 92)), 0, [], .none, .none, .none, .none, none, .none, .none, 0⟩, #[]⟩
noncomputable def o552 (P : Params) : Obj := ⟨(.type "code"), none, .fields #[(.str (Str.ofString "quoted_at") 986), (.str (Str.ofString "quoted_at") 987), (.str (Str.ofString "/claim/cut.py") 988), (.int (450) 0), (.int (2) 0), (.int (0) 0), (.int (0) 0), (.int (3) 0), (.ref 547), (.bool true), (.int (181) 0), (.ref 548), .none, (.ref 549), (.ref 550), (.ref 551), (.int (993) 0), (.int (450) 0), (.str (Str.ofString "/claim/cut.py") 994)], #[]⟩
noncomputable def o553 (P : Params) : Obj := ⟨(.type "function"), none, .func ⟨(Str.ofString "quoted_at"), (Str.ofString "quoted_at"), (sArgs (stm 92)), .stmts (sBody (stm 92)), (sScope (stm 92)), 3, [], .none, .none, .none, (.str (Str.ofString "postkeep.quoted") 969), none, (.ref 552), .none, 0⟩, #[]⟩
noncomputable def o554 (P : Params) : Obj := ⟨(.type "tuple"), none, .seq #[] 0, #[]⟩
noncomputable def o555 (P : Params) : Obj := ⟨.none, none, .fields #[], #[]⟩
noncomputable def o556 (P : Params) : Obj := ⟨(.type "tuple"), none, .seq #[(.str (Str.ofString "data") 999), (.str (Str.ofString "found") 1000), (.str (Str.ofString "begin") 1001), (.str (Str.ofString "at") 1002)] 0, #[]⟩
noncomputable def o557 (P : Params) : Obj := ⟨(.type "tuple"), none, .seq #[] 0, #[]⟩
noncomputable def o558 (P : Params) : Obj := ⟨.none, none, .func ⟨(Str.ofString "line_parts"), (Str.ofString "line_parts"), (sArgs (stm 93)), .stmts (sBody (stm 93)), (sScope (stm 93)), 0, [], .none, .none, .none, .none, none, .none, .none, 0⟩, #[]⟩
noncomputable def o559 (P : Params) : Obj := ⟨(.type "code"), none, .fields #[(.str (Str.ofString "line_parts") 996), (.str (Str.ofString "line_parts") 997), (.str (Str.ofString "/claim/cut.py") 998), (.int (456) 0), (.int (1) 0), (.int (0) 0), (.int (0) 0), (.int (3) 0), (.ref 554), (.bool true), (.int (181) 0), (.ref 555), .none, (.ref 556), (.ref 557), (.ref 558), (.int (1003) 0), (.int (456) 0), (.str (Str.ofString "/claim/cut.py") 1004)], #[]⟩
noncomputable def o560 (P : Params) : Obj := ⟨(.type "function"), none, .func ⟨(Str.ofString "line_parts"), (Str.ofString "line_parts"), (sArgs (stm 93)), .stmts (sBody (stm 93)), (sScope (stm 93)), 3, [], .none, .none, .none, (.str (Str.ofString "postkeep.quoted") 969), none, (.ref 559), .none, 0⟩, #[]⟩
noncomputable def o561 (P : Params) : Obj := ⟨(.type "tuple"), none, .seq #[] 0, #[]⟩
noncomputable def o562 (P : Params) : Obj := ⟨.none, none, .fields #[], #[]⟩
noncomputable def o563 (P : Params) : Obj := ⟨(.type "tuple"), none, .seq #[(.str (Str.ofString "line") 1009), (.str (Str.ofString "codes") 1010), (.str (Str.ofString "at") 1011), (.str (Str.ofString "code") 1012)] 0, #[]⟩
noncomputable def o564 (P : Params) : Obj := ⟨(.type "tuple"), none, .seq #[] 0, #[]⟩
noncomputable def o565 (P : Params) : Obj := ⟨.none, none, .func ⟨(Str.ofString "unquoted"), (Str.ofString "unquoted"), (sArgs (stm 94)), .stmts (sBody (stm 94)), (sScope (stm 94)), 0, [], .none, .none, .none, .none, none, .none, .none, 0⟩, #[]⟩
noncomputable def o566 (P : Params) : Obj := ⟨(.type "code"), none, .fields #[(.str (Str.ofString "unquoted") 1006), (.str (Str.ofString "unquoted") 1007), (.str (Str.ofString "/claim/cut.py") 1008), (.int (468) 0), (.int (1) 0), (.int (0) 0), (.int (0) 0), (.int (3) 0), (.ref 561), (.bool true), (.int (181) 0), (.ref 562), .none, (.ref 563), (.ref 564), (.ref 565), (.int (1013) 0), (.int (468) 0), (.str (Str.ofString "/claim/cut.py") 1014)], #[]⟩
noncomputable def o567 (P : Params) : Obj := ⟨(.type "function"), none, .func ⟨(Str.ofString "unquoted"), (Str.ofString "unquoted"), (sArgs (stm 94)), .stmts (sBody (stm 94)), (sScope (stm 94)), 3, [], .none, .none, .none, (.str (Str.ofString "postkeep.quoted") 969), none, (.ref 566), .none, 0⟩, #[]⟩
noncomputable def o568 (P : Params) : Obj := ⟨(.type "tuple"), none, .seq #[] 0, #[]⟩
noncomputable def o569 (P : Params) : Obj := ⟨.none, none, .fields #[], #[]⟩
noncomputable def o570 (P : Params) : Obj := ⟨(.type "tuple"), none, .seq #[(.str (Str.ofString "data") 1019), (.str (Str.ofString "parts") 1020), (.str (Str.ofString "line") 1021), (.str (Str.ofString "end") 1022), (.str (Str.ofString "kept") 1023)] 0, #[]⟩
noncomputable def o571 (P : Params) : Obj := ⟨(.type "tuple"), none, .seq #[] 0, #[]⟩
noncomputable def o572 (P : Params) : Obj := ⟨.none, none, .func ⟨(Str.ofString "quoted_decoded"), (Str.ofString "quoted_decoded"), (sArgs (stm 95)), .stmts (sBody (stm 95)), (sScope (stm 95)), 0, [], .none, .none, .none, .none, none, .none, .none, 0⟩, #[]⟩
noncomputable def o573 (P : Params) : Obj := ⟨(.type "code"), none, .fields #[(.str (Str.ofString "quoted_decoded") 1016), (.str (Str.ofString "quoted_decoded") 1017), (.str (Str.ofString "/claim/cut.py") 1018), (.int (480) 0), (.int (1) 0), (.int (0) 0), (.int (0) 0), (.int (3) 0), (.ref 568), (.bool true), (.int (181) 0), (.ref 569), .none, (.ref 570), (.ref 571), (.ref 572), (.int (1024) 0), (.int (480) 0), (.str (Str.ofString "/claim/cut.py") 1025)], #[]⟩
noncomputable def o574 (P : Params) : Obj := ⟨(.type "function"), none, .func ⟨(Str.ofString "quoted_decoded"), (Str.ofString "quoted_decoded"), (sArgs (stm 95)), .stmts (sBody (stm 95)), (sScope (stm 95)), 3, [], .none, .none, .none, (.str (Str.ofString "postkeep.quoted") 969), none, (.ref 573), .none, 0⟩, #[]⟩
noncomputable def o575 (P : Params) : Obj := ⟨(.type "tuple"), none, .seq #[] 0, #[]⟩
noncomputable def o576 (P : Params) : Obj := ⟨.none, none, .fields #[], #[]⟩
noncomputable def o577 (P : Params) : Obj := ⟨.none, none, .func ⟨(Str.ofString "word_q_decoded"), (Str.ofString "word_q_decoded"), (sArgs (stm 96)), .stmts (sBody (stm 96)), (sScope (stm 96)), 0, [], .none, .none, .none, .none, none, .none, .none, 0⟩, #[]⟩
noncomputable def o578 (P : Params) : Obj := ⟨(.type "code"), none, .fields #[(.str (Str.ofString "word_q_decoded") 1027), (.str (Str.ofString "word_q_decoded") 1028), (.str (Str.ofString "/claim/cut.py") 1029), (.int (489) 0), (.int (1) 0), (.int (0) 0), (.int (0) 0), (.int (3) 0), (.ref 575), (.bool true), (.int (181) 0), (.ref 576), .none, .none, .none, (.ref 577), (.int (1030) 0), (.int (489) 0), (.str (Str.ofString "/claim/cut.py") 1031)], #[]⟩
noncomputable def o579 (P : Params) : Obj := ⟨(.type "function"), none, .func ⟨(Str.ofString "word_q_decoded"), (Str.ofString "word_q_decoded"), (sArgs (stm 96)), .stmts (sBody (stm 96)), (sScope (stm 96)), 3, [], .none, .none, .none, (.str (Str.ofString "postkeep.quoted") 969), none, (.ref 578), .none, 0⟩, #[]⟩
noncomputable def o580 (P : Params) : Obj := ⟨(.type "tuple"), none, .seq #[] 0, #[]⟩
noncomputable def o581 (P : Params) : Obj := ⟨.none, none, .fields #[], #[]⟩
noncomputable def o582 (P : Params) : Obj := ⟨(.type "tuple"), none, .seq #[(.str (Str.ofString "encoding") 1038), (.str (Str.ofString "octets") 1039)] 0, #[]⟩
noncomputable def o583 (P : Params) : Obj := ⟨(.type "tuple"), none, .seq #[] 0, #[]⟩
noncomputable def o584 (P : Params) : Obj := ⟨.none, none, .func ⟨(Str.ofString "undone"), (Str.ofString "undone"), (sArgs (stm 98)), .stmts (sBody (stm 98)), (sScope (stm 98)), 0, [], .none, .none, .none, .none, none, .none, .none, 0⟩, #[]⟩
noncomputable def o585 (P : Params) : Obj := ⟨(.type "code"), none, .fields #[(.str (Str.ofString "undone") 1035), (.str (Str.ofString "undone") 1036), (.str (Str.ofString "/claim/cut.py") 1037), (.int (492) 0), (.int (2) 0), (.int (0) 0), (.int (0) 0), (.int (3) 0), (.ref 580), (.bool true), (.int (181) 0), (.ref 581), .none, (.ref 582), (.ref 583), (.ref 584), (.int (1040) 0), (.int (492) 0), (.str (Str.ofString "/claim/cut.py") 1041)], #[]⟩
noncomputable def o586 (P : Params) : Obj := ⟨(.type "function"), none, .func ⟨(Str.ofString "undone"), (Str.ofString "undone"), (sArgs (stm 98)), .stmts (sBody (stm 98)), (sScope (stm 98)), 3, [], .none, .none, .none, (.str (Str.ofString "postkeep.parts") 1033), none, (.ref 585), .none, 0⟩, #[]⟩
noncomputable def o587 (P : Params) : Obj := ⟨(.type "tuple"), none, .seq #[] 0, #[]⟩
noncomputable def o588 (P : Params) : Obj := ⟨.none, none, .fields #[], #[]⟩
noncomputable def o589 (P : Params) : Obj := ⟨(.type "tuple"), none, .seq #[(.str (Str.ofString "data") 1046), (.str (Str.ofString "part") 1047)] 0, #[]⟩
noncomputable def o590 (P : Params) : Obj := ⟨(.type "tuple"), none, .seq #[] 0, #[]⟩
noncomputable def o591 (P : Params) : Obj := ⟨.none, none, .func ⟨(Str.ofString "body_octets"), (Str.ofString "body_octets"), (sArgs (stm 99)), .stmts (sBody (stm 99)), (sScope (stm 99)), 0, [], .none, .none, .none, .none, none, .none, .none, 0⟩, #[]⟩
noncomputable def o592 (P : Params) : Obj := ⟨(.type "code"), none, .fields #[(.str (Str.ofString "body_octets") 1043), (.str (Str.ofString "body_octets") 1044), (.str (Str.ofString "/claim/cut.py") 1045), (.int (498) 0), (.int (2) 0), (.int (0) 0), (.int (0) 0), (.int (3) 0), (.ref 587), (.bool true), (.int (181) 0), (.ref 588), .none, (.ref 589), (.ref 590), (.ref 591), (.int (1048) 0), (.int (498) 0), (.str (Str.ofString "/claim/cut.py") 1049)], #[]⟩
noncomputable def o593 (P : Params) : Obj := ⟨(.type "function"), none, .func ⟨(Str.ofString "body_octets"), (Str.ofString "body_octets"), (sArgs (stm 99)), .stmts (sBody (stm 99)), (sScope (stm 99)), 3, [], .none, .none, .none, (.str (Str.ofString "postkeep.parts") 1033), none, (.ref 592), .none, 0⟩, #[]⟩
noncomputable def o594 (P : Params) : Obj := ⟨(.type "tuple"), none, .seq #[] 0, #[]⟩
noncomputable def o595 (P : Params) : Obj := ⟨.none, none, .fields #[], #[]⟩
noncomputable def o596 (P : Params) : Obj := ⟨(.type "tuple"), none, .seq #[(.str (Str.ofString "data") 1054), (.str (Str.ofString "part") 1055), (.str (Str.ofString "charset") 1056)] 0, #[]⟩
noncomputable def o597 (P : Params) : Obj := ⟨(.type "tuple"), none, .seq #[] 0, #[]⟩
noncomputable def o598 (P : Params) : Obj := ⟨.none, none, .func ⟨(Str.ofString "body_text"), (Str.ofString "body_text"), (sArgs (stm 100)), .stmts (sBody (stm 100)), (sScope (stm 100)), 0, [], .none, .none, .none, .none, none, .none, .none, 0⟩, #[]⟩
noncomputable def o599 (P : Params) : Obj := ⟨(.type "code"), none, .fields #[(.str (Str.ofString "body_text") 1051), (.str (Str.ofString "body_text") 1052), (.str (Str.ofString "/claim/cut.py") 1053), (.int (500) 0), (.int (2) 0), (.int (0) 0), (.int (0) 0), (.int (3) 0), (.ref 594), (.bool true), (.int (181) 0), (.ref 595), .none, (.ref 596), (.ref 597), (.ref 598), (.int (1057) 0), (.int (500) 0), (.str (Str.ofString "/claim/cut.py") 1058)], #[]⟩
noncomputable def o600 (P : Params) : Obj := ⟨(.type "function"), none, .func ⟨(Str.ofString "body_text"), (Str.ofString "body_text"), (sArgs (stm 100)), .stmts (sBody (stm 100)), (sScope (stm 100)), 3, [], .none, .none, .none, (.str (Str.ofString "postkeep.parts") 1033), none, (.ref 599), .none, 0⟩, #[]⟩
noncomputable def o601 (P : Params) : Obj := ⟨(.type "tuple"), none, .seq #[] 0, #[]⟩
noncomputable def o602 (P : Params) : Obj := ⟨.none, none, .fields #[], #[]⟩
noncomputable def o603 (P : Params) : Obj := ⟨(.type "tuple"), none, .seq #[(.str (Str.ofString "pair") 1065), (.str (Str.ofString "greatest") 1066), (.str (Str.ofString "low") 1067), (.str (Str.ofString "high") 1068)] 0, #[]⟩
noncomputable def o604 (P : Params) : Obj := ⟨(.type "tuple"), none, .seq #[] 0, #[]⟩
noncomputable def o605 (P : Params) : Obj := ⟨.none, none, .func ⟨(Str.ofString "ends_of"), (Str.ofString "ends_of"), (sArgs (stm 102)), .stmts (sBody (stm 102)), (sScope (stm 102)), 0, [], .none, .none, .none, .none, none, .none, .none, 0⟩, #[]⟩
noncomputable def o606 (P : Params) : Obj := ⟨(.type "code"), none, .fields #[(.str (Str.ofString "ends_of") 1062), (.str (Str.ofString "ends_of") 1063), (.str (Str.ofString "/claim/cut.py") 1064), (.int (504) 0), (.int (2) 0), (.int (0) 0), (.int (0) 0), (.int (3) 0), (.ref 601), (.bool true), (.int (181) 0), (.ref 602), .none, (.ref 603), (.ref 604), (.ref 605), (.int (1069) 0), (.int (504) 0), (.str (Str.ofString "/claim/cut.py") 1070)], #[]⟩
@[reducible] noncomputable def o607 (P : Params) : Obj := ⟨(.type "function"), none, .func ⟨(Str.ofString "ends_of"), (Str.ofString "ends_of"), A607, .stmts B607, S607, 3, [], .none, .none, .none, (.str (Str.ofString "postkeep.sets") 1060), none, (.ref 606), .none, 0⟩, #[]⟩
noncomputable def o608 (P : Params) : Obj := ⟨(.type "tuple"), none, .seq #[] 0, #[]⟩
noncomputable def o609 (P : Params) : Obj := ⟨.none, none, .fields #[], #[]⟩
noncomputable def o610 (P : Params) : Obj := ⟨(.type "tuple"), none, .seq #[(.str (Str.ofString "numbers") 1075), (.str (Str.ofString "out") 1076), (.str (Str.ofString "number") 1077)] 0, #[]⟩
noncomputable def o611 (P : Params) : Obj := ⟨(.type "tuple"), none, .seq #[] 0, #[]⟩
noncomputable def o612 (P : Params) : Obj := ⟨.none, none, .func ⟨(Str.ofString "ranges_of"), (Str.ofString "ranges_of"), (sArgs (stm 103)), .stmts (sBody (stm 103)), (sScope (stm 103)), 0, [], .none, .none, .none, .none, none, .none, .none, 0⟩, #[]⟩
noncomputable def o613 (P : Params) : Obj := ⟨(.type "code"), none, .fields #[(.str (Str.ofString "ranges_of") 1072), (.str (Str.ofString "ranges_of") 1073), (.str (Str.ofString "/claim/cut.py") 1074), (.int (513) 0), (.int (1) 0), (.int (0) 0), (.int (0) 0), (.int (3) 0), (.ref 608), (.bool true), (.int (181) 0), (.ref 609), .none, (.ref 610), (.ref 611), (.ref 612), (.int (1078) 0), (.int (513) 0), (.str (Str.ofString "/claim/cut.py") 1079)], #[]⟩
@[reducible] noncomputable def o614 (P : Params) : Obj := ⟨(.type "function"), none, .func ⟨(Str.ofString "ranges_of"), (Str.ofString "ranges_of"), A614, .stmts B614, S614, 3, [], .none, .none, .none, (.str (Str.ofString "postkeep.sets") 1060), none, (.ref 613), .none, 0⟩, #[]⟩
noncomputable def o615 (P : Params) : Obj := ⟨(.type "tuple"), none, .seq #[] 0, #[]⟩
noncomputable def o616 (P : Params) : Obj := ⟨.none, none, .fields #[], #[]⟩
noncomputable def o617 (P : Params) : Obj := ⟨(.type "tuple"), none, .seq #[(.str (Str.ofString "some") 1084), (.str (Str.ofString "number") 1085), (.str (Str.ofString "greatest") 1086), (.str (Str.ofString "pair") 1087), (.str (Str.ofString "ends") 1088)] 0, #[]⟩
noncomputable def o618 (P : Params) : Obj := ⟨(.type "tuple"), none, .seq #[] 0, #[]⟩
noncomputable def o619 (P : Params) : Obj := ⟨.none, none, .func ⟨(Str.ofString "has"), (Str.ofString "has"), (sArgs (stm 104)), .stmts (sBody (stm 104)), (sScope (stm 104)), 0, [], .none, .none, .none, .none, none, .none, .none, 0⟩, #[]⟩
noncomputable def o620 (P : Params) : Obj := ⟨(.type "code"), none, .fields #[(.str (Str.ofString "has") 1081), (.str (Str.ofString "has") 1082), (.str (Str.ofString "/claim/cut.py") 1083), (.int (521) 0), (.int (3) 0), (.int (0) 0), (.int (0) 0), (.int (3) 0), (.ref 615), (.bool true), (.int (181) 0), (.ref 616), .none, (.ref 617), (.ref 618), (.ref 619), (.int (1089) 0), (.int (521) 0), (.str (Str.ofString "/claim/cut.py") 1090)], #[]⟩
@[reducible] noncomputable def o621 (P : Params) : Obj := ⟨(.type "function"), none, .func ⟨(Str.ofString "has"), (Str.ofString "has"), A621, .stmts B621, S621, 3, [], .none, .none, .none, (.str (Str.ofString "postkeep.sets") 1060), none, (.ref 620), .none, 0⟩, #[]⟩
noncomputable def o622 (P : Params) : Obj := ⟨(.type "tuple"), none, .seq #[(.int (9) 1094), (.int (10) 1095), (.int (13) 1096), (.int (32) 1097)] 0, #[]⟩
noncomputable def o623 (P : Params) : Obj := ⟨(.type "tuple"), none, .seq #[(.str (Str.ofString "Q") 1103), (.str (Str.ofString "B") 1104)] 0, #[]⟩
noncomputable def o624 (P : Params) : Obj := ⟨(.type "tuple"), none, .seq #[] 0, #[]⟩
noncomputable def o625 (P : Params) : Obj := ⟨.none, none, .fields #[], #[]⟩
noncomputable def o626 (P : Params) : Obj := ⟨(.type "tuple"), none, .seq #[(.str (Str.ofString "code") 1109)] 0, #[]⟩
noncomputable def o627 (P : Params) : Obj := ⟨(.type "tuple"), none, .seq #[] 0, #[]⟩
noncomputable def o628 (P : Params) : Obj := ⟨.none, none, .func ⟨(Str.ofString "is_word_sign"), (Str.ofString "is_word_sign"), (sArgs (stm 110)), .stmts (sBody (stm 110)), (sScope (stm 110)), 0, [], .none, .none, .none, .none, none, .none, .none, 0⟩, #[]⟩
noncomputable def o629 (P : Params) : Obj := ⟨(.type "code"), none, .fields #[(.str (Str.ofString "is_word_sign") 1106), (.str (Str.ofString "is_word_sign") 1107), (.str (Str.ofString "/claim/cut.py") 1108), (.int (532) 0), (.int (1) 0), (.int (0) 0), (.int (0) 0), (.int (3) 0), (.ref 624), (.bool true), (.int (181) 0), (.ref 625), .none, (.ref 626), (.ref 627), (.ref 628), (.int (1110) 0), (.int (532) 0), (.str (Str.ofString "/claim/cut.py") 1111)], #[]⟩
noncomputable def o630 (P : Params) : Obj := ⟨(.type "function"), none, .func ⟨(Str.ofString "is_word_sign"), (Str.ofString "is_word_sign"), (sArgs (stm 110)), .stmts (sBody (stm 110)), (sScope (stm 110)), 3, [], .none, .none, .none, (.str (Str.ofString "postkeep.words") 1092), none, (.ref 629), .none, 0⟩, #[]⟩
noncomputable def o631 (P : Params) : Obj := ⟨(.type "tuple"), none, .seq #[] 0, #[]⟩
noncomputable def o632 (P : Params) : Obj := ⟨.none, none, .fields #[], #[]⟩
noncomputable def o633 (P : Params) : Obj := ⟨(.type "tuple"), none, .seq #[(.str (Str.ofString "octets") 1116), (.str (Str.ofString "at") 1117), (.str (Str.ofString "here") 1118)] 0, #[]⟩
noncomputable def o634 (P : Params) : Obj := ⟨(.type "tuple"), none, .seq #[] 0, #[]⟩
noncomputable def o635 (P : Params) : Obj := ⟨.none, none, .func ⟨(Str.ofString "part_end"), (Str.ofString "part_end"), (sArgs (stm 111)), .stmts (sBody (stm 111)), (sScope (stm 111)), 0, [], .none, .none, .none, .none, none, .none, .none, 0⟩, #[]⟩
noncomputable def o636 (P : Params) : Obj := ⟨(.type "code"), none, .fields #[(.str (Str.ofString "part_end") 1113), (.str (Str.ofString "part_end") 1114), (.str (Str.ofString "/claim/cut.py") 1115), (.int (534) 0), (.int (2) 0), (.int (0) 0), (.int (0) 0), (.int (3) 0), (.ref 631), (.bool true), (.int (181) 0), (.ref 632), .none, (.ref 633), (.ref 634), (.ref 635), (.int (1119) 0), (.int (534) 0), (.str (Str.ofString "/claim/cut.py") 1120)], #[]⟩
noncomputable def o637 (P : Params) : Obj := ⟨(.type "function"), none, .func ⟨(Str.ofString "part_end"), (Str.ofString "part_end"), (sArgs (stm 111)), .stmts (sBody (stm 111)), (sScope (stm 111)), 3, [], .none, .none, .none, (.str (Str.ofString "postkeep.words") 1092), none, (.ref 636), .none, 0⟩, #[]⟩
noncomputable def heap112 (P : Params) : Heap := ⟨#[boot_o_0 P, boot_o_1 P, o2x16 P, o3x112 P, boot_o_4 P, boot_o_5 P, boot_o_6 P, boot_o_7 P, boot_o_8 P, boot_o_9 P, boot_o_10 P, o11 P, o12x112 P, o13 P, o14 P, o15 P, o16 P, o17 P, o18 P, o19 P, o20 P, o21 P, o22 P, o23 P, o24 P, o25 P, o26 P, o27 P, o28 P, o29 P, o30 P, o31 P, o32 P, o33 P, o34 P, o35 P, o36 P, o37 P, o38 P, o39 P, o40 P, o41 P, o42 P, o43 P, o44 P, o45 P, o46 P, o47 P, o48 P, o49 P, o50 P, o51 P, o52 P, o53 P, o54 P, o55 P, o56 P, o57 P, o58 P, o59 P, o60 P, o61 P, o62 P, o63 P, o64 P, o65 P, o66 P, o67 P, o68 P, o69 P, o70 P, o71 P, o72 P, o73 P, o74 P, o75 P, o76 P, o77 P, o78 P, o79 P, o80 P, o81 P, o82 P, o83 P, o84 P, o85 P, o86 P, o87 P, o88 P, o89 P, o90 P, o91 P, o92 P, o93 P, o94 P, o95 P, o96 P, o97 P, o98 P, o99 P, o100 P, o101 P, o102 P, o103 P, o104 P, o105 P, o106 P, o107 P, o108 P, o109 P, o110 P, o111 P, o112 P, o113 P, o114 P, o115 P, o116 P, o117 P, o118 P, o119 P, o120 P, o121 P, o122 P, o123 P, o124 P, o125 P, o126 P, o127 P, o128 P, o129 P, o130 P, o131 P, o132 P, o133 P, o134 P, o135 P, o136 P, o137 P, o138 P, o139 P, o140 P, o141 P, o142 P, o143 P, o144 P, o145 P, o146 P, o147 P, o148 P, o149 P, o150 P, o151 P, o152 P, o153 P, o154 P, o155 P, o156 P, o157 P, o158 P, o159 P, o160 P, o161 P, o162 P, o163 P, o164 P, o165 P, o166 P, o167 P, o168 P, o169 P, o170 P, o171 P, o172 P, o173 P, o174 P, o175 P, o176 P, o177 P, o178 P, o179 P, o180 P, o181 P, o182 P, o183 P, o184 P, o185 P, o186 P, o187 P, o188 P, o189 P, o190 P, o191 P, o192 P, o193 P, o194 P, o195 P, o196 P, o197 P, o198 P, o199 P, o200 P, o201 P, o202 P, o203 P, o204 P, o205 P, o206 P, o207 P, o208 P, o209 P, o210 P, o211 P, o212 P, o213 P, o214 P, o215 P, o216 P, o217 P, o218 P, o219 P, o220 P, o221 P, o222 P, o223 P, o224 P, o225 P, o226 P, o227 P, o228 P, o229 P, o230 P, o231 P, o232 P, o233 P, o234 P, o235 P, o236 P, o237 P, o238 P, o239 P, o240 P, o241 P, o242 P, o243 P, o244 P, o245 P, o246 P, o247 P, o248 P, o249 P, o250 P, o251 P, o252 P, o253 P, o254 P, o255 P, o256 P, o257 P, o258 P, o259 P, o260 P, o261 P, o262 P, o263 P, o264 P, o265 P, o266 P, o267 P, o268 P, o269 P, o270 P, o271 P, o272 P, o273 P, o274 P, o275 P, o276 P, o277 P, o278 P, o279 P, o280 P, o281 P, o282 P, o283 P, o284 P, o285 P, o286 P, o287 P, o288 P, o289 P, o290 P, o291 P, o292 P, o293 P, o294 P, o295 P, o296 P, o297 P, o298 P, o299 P, o300 P, o301 P, o302 P, o303 P, o304 P, o305 P, o306 P, o307 P, o308 P, o309 P, o310 P, o311 P, o312 P, o313 P, o314 P, o315 P, o316 P, o317 P, o318 P, o319 P, o320 P, o321 P, o322 P, o323 P, o324 P, o325 P, o326 P, o327 P, o328 P, o329 P, o330 P, o331 P, o332 P, o333 P, o334 P, o335 P, o336 P, o337 P, o338 P, o339 P, o340 P, o341 P, o342 P, o343 P, o344 P, o345 P, o346 P, o347 P, o348 P, o349 P, o350 P, o351 P, o352 P, o353 P, o354 P, o355 P, o356 P, o357 P, o358 P, o359 P, o360 P, o361 P, o362 P, o363 P, o364 P, o365 P, o366 P, o367 P, o368 P, o369 P, o370 P, o371 P, o372 P, o373 P, o374 P, o375 P, o376 P, o377 P, o378 P, o379 P, o380 P, o381 P, o382 P, o383 P, o384 P, o385 P, o386 P, o387 P, o388 P, o389 P, o390 P, o391 P, o392 P, o393 P, o394 P, o395 P, o396 P, o397 P, o398 P, o399 P, o400 P, o401 P, o402 P, o403 P, o404 P, o405 P, o406 P, o407 P, o408 P, o409 P, o410 P, o411 P, o412 P, o413 P, o414 P, o415 P, o416 P, o417 P, o418 P, o419 P, o420 P, o421 P, o422 P, o423 P, o424 P, o425 P, o426 P, o427 P, o428 P, o429 P, o430 P, o431 P, o432 P, o433 P, o434 P, o435 P, o436 P, o437 P, o438 P, o439 P, o440 P, o441 P, o442 P, o443 P, o444 P, o445 P, o446 P, o447 P, o448 P, o449 P, o450 P, o451 P, o452 P, o453 P, o454 P, o455 P, o456 P, o457 P, o458 P, o459 P, o460 P, o461 P, o462 P, o463 P, o464 P, o465 P, o466 P, o467 P, o468 P, o469 P, o470 P, o471 P, o472 P, o473 P, o474 P, o475 P, o476 P, o477 P, o478 P, o479 P, o480 P, o481 P, o482 P, o483 P, o484 P, o485 P, o486 P, o487 P, o488 P, o489 P, o490 P, o491 P, o492 P, o493 P, o494 P, o495 P, o496 P, o497 P, o498 P, o499 P, o500 P, o501 P, o502 P, o503 P, o504 P, o505 P, o506 P, o507 P, o508 P, o509 P, o510 P, o511 P, o512 P, o513 P, o514 P, o515 P, o516 P, o517 P, o518 P, o519 P, o520 P, o521 P, o522 P, o523 P, o524 P, o525 P, o526 P, o527 P, o528 P, o529 P, o530 P, o531 P, o532 P, o533 P, o534 P, o535 P, o536 P, o537 P, o538 P, o539 P, o540 P, o541 P, o542 P, o543 P, o544 P, o545 P, o546 P, o547 P, o548 P, o549 P, o550 P, o551 P, o552 P, o553 P, o554 P, o555 P, o556 P, o557 P, o558 P, o559 P, o560 P, o561 P, o562 P, o563 P, o564 P, o565 P, o566 P, o567 P, o568 P, o569 P, o570 P, o571 P, o572 P, o573 P, o574 P, o575 P, o576 P, o577 P, o578 P, o579 P, o580 P, o581 P, o582 P, o583 P, o584 P, o585 P, o586 P, o587 P, o588 P, o589 P, o590 P, o591 P, o592 P, o593 P, o594 P, o595 P, o596 P, o597 P, o598 P, o599 P, o600 P, o601 P, o602 P, o603 P, o604 P, o605 P, o606 P, o607 P, o608 P, o609 P, o610 P, o611 P, o612 P, o613 P, o614 P, o615 P, o616 P, o617 P, o618 P, o619 P, o620 P, o621 P, o622 P, o623 P, o624 P, o625 P, o626 P, o627 P, o628 P, o629 P, o630 P, o631 P, o632 P, o633 P, o634 P, o635 P, o636 P, o637 P], {}⟩
noncomputable abbrev st112 (w : World) (os : OsState) : Shared := ⟨heap112 w.params, #[], {}, 1122, os⟩
noncomputable abbrev pos112 : Pos := ⟨534, 0, 538, 68⟩
noncomputable def o3x155 (P : Params) : Obj := ⟨(.type "dict"), none, .dict #[⟨PyData.keyHash P (Str.ofString "__name__"), .str (Str.ofString "__name__") 165, (.str (Str.ofString "law_nz0336_01") 1412)⟩, ⟨PyData.keyHash P (Str.ofString "__doc__"), .str (Str.ofString "__doc__") 166, .none⟩, ⟨PyData.keyHash P (Str.ofString "__package__"), .str (Str.ofString "__package__") 167, .none⟩, ⟨PyData.keyHash P (Str.ofString "__loader__"), .str (Str.ofString "__loader__") 168, (.builtin "__main__.__loader__#opaque")⟩, ⟨PyData.keyHash P (Str.ofString "__spec__"), .str (Str.ofString "__spec__") 169, .none⟩, ⟨PyData.keyHash P (Str.ofString "__annotations__"), .str (Str.ofString "__annotations__") 170, (.ref 6)⟩, ⟨PyData.keyHash P (Str.ofString "__builtins__"), .str (Str.ofString "__builtins__") 171, (.ref 4)⟩, ⟨PyData.keyHash P (Str.ofString "__file__"), .str (Str.ofString "__file__") 173, (.str (Str.ofString "/claim/cut.py") 172)⟩, ⟨PyData.keyHash P (Str.ofString "__cached__"), .str (Str.ofString "__cached__") 174, .none⟩, ⟨PyData.keyHash P (Str.ofString "row_of"), .str (Str.ofString "row_of") 196, (.ref 21)⟩, ⟨PyData.keyHash P (Str.ofString "leaves_of"), .str (Str.ofString "leaves_of") 206, (.ref 28)⟩, ⟨PyData.keyHash P (Str.ofString "has_kind"), .str (Str.ofString "has_kind") 212, (.ref 33)⟩, ⟨PyData.keyHash P (Str.ofString "decide"), .str (Str.ofString "decide") 222, (.ref 40)⟩, ⟨PyData.keyHash P (Str.ofString "PostError"), .str (Str.ofString "PostError") 264, (.ref 65)⟩, ⟨PyData.keyHash P (Str.ofString "WordFault"), .str (Str.ofString "WordFault") 280, (.ref 78)⟩, ⟨PyData.keyHash P (Str.ofString "MimeFault"), .str (Str.ofString "MimeFault") 296, (.ref 90)⟩, ⟨PyData.keyHash P (Str.ofString "StoreFault"), .str (Str.ofString "StoreFault") 312, (.ref 102)⟩, ⟨PyData.keyHash P (Str.ofString "SYSTEM"), .str (Str.ofString "SYSTEM") 316, (.str (Str.ofString "\\Seen \\Answered \\Flagged \\Deleted \\Draft") 315)⟩, ⟨PyData.keyHash P (Str.ofString "NO_KEYWORD"), .str (Str.ofString "NO_KEYWORD") 318, (.str (Str.ofString "(){ %*\"\\]") 317)⟩, ⟨PyData.keyHash P (Str.ofString "MOST_KEYWORD"), .str (Str.ofString "MOST_KEYWORD") 320, (.int (60) 319)⟩, ⟨PyData.keyHash P (Str.ofString "system_flags"), .str (Str.ofString "system_flags") 326, (.ref 111)⟩, ⟨PyData.keyHash P (Str.ofString "is_keyword"), .str (Str.ofString "is_keyword") 334, (.ref 118)⟩, ⟨PyData.keyHash P (Str.ofString "flag_name"), .str (Str.ofString "flag_name") 342, (.ref 125)⟩, ⟨PyData.keyHash P (Str.ofString "Letter"), .str (Str.ofString "Letter") 394, (.ref 156)⟩, ⟨PyData.keyHash P (Str.ofString "lower_code"), .str (Str.ofString "lower_code") 403, (.ref 167)⟩, ⟨PyData.keyHash P (Str.ofString "lower_text"), .str (Str.ofString "lower_text") 409, (.ref 172)⟩, ⟨PyData.keyHash P (Str.ofString "ASCII"), .str (Str.ofString "ASCII") 413, (.str (Str.ofString "us-ascii") 412)⟩, ⟨PyData.keyHash P (Str.ofString "LATIN"), .str (Str.ofString "LATIN") 415, (.str (Str.ofString "iso-8859-1") 414)⟩, ⟨PyData.keyHash P (Str.ofString "UTF8"), .str (Str.ofString "UTF8") 417, (.str (Str.ofString "utf-8") 416)⟩, ⟨PyData.keyHash P (Str.ofString "CHARSETS"), .str (Str.ofString "CHARSETS") 418, (.ref 173)⟩, ⟨PyData.keyHash P (Str.ofString "UNKNOWN_SIGN"), .str (Str.ofString "UNKNOWN_SIGN") 421, (.str (Str.ofString "�") 420)⟩, ⟨PyData.keyHash P (Str.ofString "charset_names"), .str (Str.ofString "charset_names") 429, (.ref 180)⟩, ⟨PyData.keyHash P (Str.ofString "charset_name"), .str (Str.ofString "charset_name") 436, (.ref 187)⟩, ⟨PyData.keyHash P (Str.ofString "need_charset"), .str (Str.ofString "need_charset") 443, (.ref 194)⟩, ⟨PyData.keyHash P (Str.ofString "follower_span"), .str (Str.ofString "follower_span") 450, (.ref 201)⟩, ⟨PyData.keyHash P (Str.ofString "utf8_sign"), .str (Str.ofString "utf8_sign") 464, (.ref 208)⟩, ⟨PyData.keyHash P (Str.ofString "sign_at"), .str (Str.ofString "sign_at") 473, (.ref 215)⟩, ⟨PyData.keyHash P (Str.ofString "text_in"), .str (Str.ofString "text_in") 485, (.ref 222)⟩, ⟨PyData.keyHash P (Str.ofString "strict_text"), .str (Str.ofString "strict_text") 497, (.ref 229)⟩, ⟨PyData.keyHash P (Str.ofString "guessed_text"), .str (Str.ofString "guessed_text") 504, (.ref 236)⟩, ⟨PyData.keyHash P (Str.ofString "MOST_DEPTH_tokens"), .str (Str.ofString "MOST_DEPTH_tokens") 508, (.int (20) 507)⟩, ⟨PyData.keyHash P (Str.ofString "SIGNS_tokens"), .str (Str.ofString "SIGNS_tokens") 510, (.bytes #[60, 62, 64, 44, 59, 58, 46, 92] 509)⟩, ⟨PyData.keyHash P (Str.ofString "ATOM_SIGNS"), .str (Str.ofString "ATOM_SIGNS") 512, (.bytes #[33, 35, 36, 37, 38, 39, 42, 43, 45, 47, 61, 63, 94, 95, 96, 123, 124, 125, 126] 511)⟩, ⟨PyData.keyHash P (Str.ofString "NEVER_ESCAPED"), .str (Str.ofString "NEVER_ESCAPED") 516, (.ref 237)⟩, ⟨PyData.keyHash P (Str.ofString "is_atom_code"), .str (Str.ofString "is_atom_code") 523, (.ref 244)⟩, ⟨PyData.keyHash P (Str.ofString "line_end"), .str (Str.ofString "line_end") 531, (.ref 251)⟩, ⟨PyData.keyHash P (Str.ofString "inside_at"), .str (Str.ofString "inside_at") 541, (.ref 258)⟩, ⟨PyData.keyHash P (Str.ofString "closed_at"), .str (Str.ofString "closed_at") 554, (.ref 265)⟩, ⟨PyData.keyHash P (Str.ofString "comment_at"), .str (Str.ofString "comment_at") 567, (.ref 272)⟩, ⟨PyData.keyHash P (Str.ofString "atom_at"), .str (Str.ofString "atom_at") 576, (.ref 279)⟩, ⟨PyData.keyHash P (Str.ofString "token_at"), .str (Str.ofString "token_at") 587, (.ref 286)⟩, ⟨PyData.keyHash P (Str.ofString "past_white"), .str (Str.ofString "past_white") 596, (.ref 293)⟩, ⟨PyData.keyHash P (Str.ofString "tokens_of"), .str (Str.ofString "tokens_of") 606, (.ref 300)⟩, ⟨PyData.keyHash P (Str.ofString "without_comments"), .str (Str.ofString "without_comments") 612, (.ref 305)⟩, ⟨PyData.keyHash P (Str.ofString "MONTHS"), .str (Str.ofString "MONTHS") 627, (.ref 306)⟩, ⟨PyData.keyHash P (Str.ofString "DAYS"), .str (Str.ofString "DAYS") 635, (.ref 307)⟩, ⟨PyData.keyHash P (Str.ofString "MOST_YEAR"), .str (Str.ofString "MOST_YEAR") 637, (.int (9999) 636)⟩, ⟨PyData.keyHash P (Str.ofString "DAY_SECONDS"), .str (Str.ofString "DAY_SECONDS") 639, (.int (86400) 638)⟩, ⟨PyData.keyHash P (Str.ofString "FIRST_DAY"), .str (Str.ofString "FIRST_DAY") 641, (.int (719162) 640)⟩, ⟨PyData.keyHash P (Str.ofString "Moment"), .str (Str.ofString "Moment") 689, (.ref 331)⟩, ⟨PyData.keyHash P (Str.ofString "is_leap"), .str (Str.ofString "is_leap") 696, (.ref 342)⟩, ⟨PyData.keyHash P (Str.ofString "month_length"), .str (Str.ofString "month_length") 704, (.ref 349)⟩, ⟨PyData.keyHash P (Str.ofString "days_before_year"), .str (Str.ofString "days_before_year") 712, (.ref 356)⟩, ⟨PyData.keyHash P (Str.ofString "day_told"), .str (Str.ofString "day_told") 723, (.ref 363)⟩, ⟨PyData.keyHash P (Str.ofString "is_day"), .str (Str.ofString "is_day") 732, (.ref 370)⟩, ⟨PyData.keyHash P (Str.ofString "is_time"), .str (Str.ofString "is_time") 741, (.ref 377)⟩, ⟨PyData.keyHash P (Str.ofString "day_of"), .str (Str.ofString "day_of") 750, (.ref 385)⟩, ⟨PyData.keyHash P (Str.ofString "month_number"), .str (Str.ofString "month_number") 756, (.ref 390)⟩, ⟨PyData.keyHash P (Str.ofString "is_day_name"), .str (Str.ofString "is_day_name") 762, (.ref 395)⟩, ⟨PyData.keyHash P (Str.ofString "is_figures"), .str (Str.ofString "is_figures") 768, (.ref 400)⟩, ⟨PyData.keyHash P (Str.ofString "zone_in"), .str (Str.ofString "zone_in") 776, (.ref 407)⟩, ⟨PyData.keyHash P (Str.ofString "named_zone"), .str (Str.ofString "named_zone") 782, (.ref 412)⟩, ⟨PyData.keyHash P (Str.ofString "DateReader"), .str (Str.ofString "DateReader") 853, (.ref 462)⟩, ⟨PyData.keyHash P (Str.ofString "full_year"), .str (Str.ofString "full_year") 861, (.ref 473)⟩, ⟨PyData.keyHash P (Str.ofString "read_clock"), .str (Str.ofString "read_clock") 871, (.ref 480)⟩, ⟨PyData.keyHash P (Str.ofString "read_zone"), .str (Str.ofString "read_zone") 880, (.ref 487)⟩, ⟨PyData.keyHash P (Str.ofString "read_date"), .str (Str.ofString "read_date") 898, (.ref 494)⟩, ⟨PyData.keyHash P (Str.ofString "line_at"), .str (Str.ofString "line_at") 910, (.ref 501)⟩, ⟨PyData.keyHash P (Str.ofString "rows_of"), .str (Str.ofString "rows_of") 921, (.ref 508)⟩, ⟨PyData.keyHash P (Str.ofString "unfolded"), .str (Str.ofString "unfolded") 928, (.ref 515)⟩, ⟨PyData.keyHash P (Str.ofString "first_body"), .str (Str.ofString "first_body") 938, (.ref 522)⟩, ⟨PyData.keyHash P (Str.ofString "SIGNS_base64"), .str (Str.ofString "SIGNS_base64") 942, (.bytes #[65, 66, 67, 68, 69, 70, 71, 72, 73, 74, 75, 76, 77, 78, 79, 80, 81, 82, 83, 84, 85, 86, 87, 88, 89, 90, 97, 98, 99, 100, 101, 102, 103, 104, 105, 106, 107, 108, 109, 110, 111, 112, 113, 114, 115, 116, 117, 118, 119, 120, 121, 122, 48, 49, 50, 51, 52, 53, 54, 55, 56, 57, 43, 47] 941)⟩, ⟨PyData.keyHash P (Str.ofString "PAD"), .str (Str.ofString "PAD") 944, (.int (61) 943)⟩, ⟨PyData.keyHash P (Str.ofString "worth_table"), .str (Str.ofString "worth_table") 950, (.ref 527)⟩, ⟨PyData.keyHash P (Str.ofString "group_octets"), .str (Str.ofString "group_octets") 956, (.ref 532)⟩, ⟨PyData.keyHash P (Str.ofString "decoded"), .str (Str.ofString "decoded") 968, (.ref 539)⟩, ⟨PyData.keyHash P (Str.ofString "EQUALS"), .str (Str.ofString "EQUALS") 972, (.int (61) 971)⟩, ⟨PyData.keyHash P (Str.ofString "BLANK"), .str (Str.ofString "BLANK") 974, (.int (32) 973)⟩, ⟨PyData.keyHash P (Str.ofString "RETURN"), .str (Str.ofString "RETURN") 976, (.int (13) 975)⟩, ⟨PyData.keyHash P (Str.ofString "UNDERLINE"), .str (Str.ofString "UNDERLINE") 978, (.int (95) 977)⟩, ⟨PyData.keyHash P (Str.ofString "hex_worth"), .str (Str.ofString "hex_worth") 985, (.ref 546)⟩, ⟨PyData.keyHash P (Str.ofString "quoted_at"), .str (Str.ofString "quoted_at") 995, (.ref 553)⟩, ⟨PyData.keyHash P (Str.ofString "line_parts"), .str (Str.ofString "line_parts") 1005, (.ref 560)⟩, ⟨PyData.keyHash P (Str.ofString "unquoted"), .str (Str.ofString "unquoted") 1015, (.ref 567)⟩, ⟨PyData.keyHash P (Str.ofString "quoted_decoded"), .str (Str.ofString "quoted_decoded") 1026, (.ref 574)⟩, ⟨PyData.keyHash P (Str.ofString "word_q_decoded"), .str (Str.ofString "word_q_decoded") 1032, (.ref 579)⟩, ⟨PyData.keyHash P (Str.ofString "undone"), .str (Str.ofString "undone") 1042, (.ref 586)⟩, ⟨PyData.keyHash P (Str.ofString "body_octets"), .str (Str.ofString "body_octets") 1050, (.ref 593)⟩, ⟨PyData.keyHash P (Str.ofString "body_text"), .str (Str.ofString "body_text") 1059, (.ref 600)⟩, ⟨PyData.keyHash P (Str.ofString "ends_of"), .str (Str.ofString "ends_of") 1071, (.ref 607)⟩, ⟨PyData.keyHash P (Str.ofString "ranges_of"), .str (Str.ofString "ranges_of") 1080, (.ref 614)⟩, ⟨PyData.keyHash P (Str.ofString "has"), .str (Str.ofString "has") 1091, (.ref 621)⟩, ⟨PyData.keyHash P (Str.ofString "WHITE"), .str (Str.ofString "WHITE") 1098, (.ref 622)⟩, ⟨PyData.keyHash P (Str.ofString "OPENING"), .str (Str.ofString "OPENING") 1100, (.int (40) 1099)⟩, ⟨PyData.keyHash P (Str.ofString "CLOSING"), .str (Str.ofString "CLOSING") 1102, (.int (41) 1101)⟩, ⟨PyData.keyHash P (Str.ofString "WAYS"), .str (Str.ofString "WAYS") 1105, (.ref 623)⟩, ⟨PyData.keyHash P (Str.ofString "is_word_sign"), .str (Str.ofString "is_word_sign") 1112, (.ref 630)⟩, ⟨PyData.keyHash P (Str.ofString "part_end"), .str (Str.ofString "part_end") 1121, (.ref 637)⟩, ⟨PyData.keyHash P (Str.ofString "word_parts"), .str (Str.ofString "word_parts") 1127, (.ref 642)⟩, ⟨PyData.keyHash P (Str.ofString "is_apart"), .str (Str.ofString "is_apart") 1136, (.ref 649)⟩, ⟨PyData.keyHash P (Str.ofString "plain_text"), .str (Str.ofString "plain_text") 1142, (.ref 654)⟩, ⟨PyData.keyHash P (Str.ofString "word_at"), .str (Str.ofString "word_at") 1154, (.ref 661)⟩, ⟨PyData.keyHash P (Str.ofString "pieces_of"), .str (Str.ofString "pieces_of") 1165, (.ref 668)⟩, ⟨PyData.keyHash P (Str.ofString "all_white"), .str (Str.ofString "all_white") 1171, (.ref 673)⟩, ⟨PyData.keyHash P (Str.ofString "decoded_words"), .str (Str.ofString "decoded_words") 1183, (.ref 680)⟩, ⟨PyData.keyHash P (Str.ofString "MOST_DEPTH_search"), .str (Str.ofString "MOST_DEPTH_search") 1187, (.int (20) 1186)⟩, ⟨PyData.keyHash P (Str.ofString "Seen"), .str (Str.ofString "Seen") 1220, (.ref 697)⟩, ⟨PyData.keyHash P (Str.ofString "is_within"), .str (Str.ofString "is_within") 1228, (.ref 708)⟩, ⟨PyData.keyHash P (Str.ofString "field_text"), .str (Str.ofString "field_text") 1235, (.ref 715)⟩, ⟨PyData.keyHash P (Str.ofString "field_line"), .str (Str.ofString "field_line") 1242, (.ref 722)⟩, ⟨PyData.keyHash P (Str.ofString "header_holds"), .str (Str.ofString "header_holds") 1252, (.ref 729)⟩, ⟨PyData.keyHash P (Str.ofString "head_holds"), .str (Str.ofString "head_holds") 1261, (.ref 736)⟩, ⟨PyData.keyHash P (Str.ofString "inner_holds"), .str (Str.ofString "inner_holds") 1271, (.ref 743)⟩, ⟨PyData.keyHash P (Str.ofString "texts_hold"), .str (Str.ofString "texts_hold") 1283, (.ref 751)⟩, ⟨PyData.keyHash P (Str.ofString "look_holds"), .str (Str.ofString "look_holds") 1292, (.ref 758)⟩, ⟨PyData.keyHash P (Str.ofString "day_holds"), .str (Str.ofString "day_holds") 1301, (.ref 765)⟩, ⟨PyData.keyHash P (Str.ofString "sent_day"), .str (Str.ofString "sent_day") 1310, (.ref 772)⟩, ⟨PyData.keyHash P (Str.ofString "sent_holds"), .str (Str.ofString "sent_holds") 1319, (.ref 779)⟩, ⟨PyData.keyHash P (Str.ofString "number_holds"), .str (Str.ofString "number_holds") 1331, (.ref 786)⟩, ⟨PyData.keyHash P (Str.ofString "simple_holds"), .str (Str.ofString "simple_holds") 1341, (.ref 793)⟩, ⟨PyData.keyHash P (Str.ofString "leaf_holds"), .str (Str.ofString "leaf_holds") 1350, (.ref 800)⟩, ⟨PyData.keyHash P (Str.ofString "matches"), .str (Str.ofString "matches") 1361, (.ref 807)⟩, ⟨PyData.keyHash P (Str.ofString "context_of"), .str (Str.ofString "context_of") 1368, (.ref 814)⟩, ⟨PyData.keyHash P (Str.ofString "search_seen"), .str (Str.ofString "search_seen") 1374, (.ref 819)⟩, ⟨PyData.keyHash P (Str.ofString "esearch"), .str (Str.ofString "esearch") 1383, (.ref 826)⟩, ⟨PyData.keyHash P (Str.ofString "met"), .str (Str.ofString "met") 1391, (.ref 831)⟩, ⟨PyData.keyHash P (Str.ofString "told_number"), .str (Str.ofString "told_number") 1399, (.ref 838)⟩, ⟨PyData.keyHash P (Str.ofString "by_uid"), .str (Str.ofString "by_uid") 1405, (.ref 843)⟩, ⟨PyData.keyHash P (Str.ofString "search_answer"), .str (Str.ofString "search_answer") 1411, (.ref 848)⟩, ⟨PyData.keyHash P (Str.ofString "_law_FLAGS"), .str (Str.ofString "_law_FLAGS") 1417, (.ref 849)⟩, ⟨PyData.keyHash P (Str.ofString "_law_WANTS"), .str (Str.ofString "_law_WANTS") 1422, (.ref 850)⟩, ⟨PyData.keyHash P (Str.ofString "_law_draw"), .str (Str.ofString "_law_draw") 1432, (.ref 857)⟩, ⟨PyData.keyHash P (Str.ofString "_law_tree"), .str (Str.ofString "_law_tree") 1438, (.ref 862)⟩, ⟨PyData.keyHash P (Str.ofString "_law_in"), .str (Str.ofString "_law_in") 1451, (.ref 869)⟩, ⟨PyData.keyHash P (Str.ofString "_law_meets"), .str (Str.ofString "_law_meets") 1462, (.ref 876)⟩, ⟨PyData.keyHash P (Str.ofString "_law_asks"), .str (Str.ofString "_law_asks") 1468, (.ref 881)⟩, ⟨PyData.keyHash P (Str.ofString "_law_pairs"), .str (Str.ofString "_law_pairs") 1480, (.ref 888)⟩, ⟨PyData.keyHash P (Str.ofString "law"), .str (Str.ofString "law") 1486, (.ref 893)⟩] 148, #[]⟩
noncomputable def o12x155 (P : Params) : Obj := ⟨.none, none, .fields #[(.int (2) 0), (.int (0) 0), (.ref 20), (.int (9) 0), (.int (0) 0), (.ref 27), (.int (20) 0), (.int (0) 0), (.ref 32), (.int (22) 0), (.int (0) 0), (.ref 39), (.int (37) 0), (.int (0) 0), (.ref 46), (.int (46) 0), (.int (0) 0), (.ref 74), (.int (48) 0), (.int (0) 0), (.ref 86), (.int (50) 0), (.int (0) 0), (.ref 98), (.int (56) 0), (.int (0) 0), (.ref 110), (.int (58) 0), (.int (0) 0), (.ref 117), (.int (65) 0), (.int (0) 0), (.ref 124), (.int (72) 0), (.int (0) 0), (.ref 131), (.int (87) 0), (.int (0) 0), (.ref 166), (.int (89) 0), (.int (0) 0), (.ref 171), (.int (97) 0), (.int (0) 0), (.ref 179), (.int (106) 0), (.int (0) 0), (.ref 186), (.int (108) 0), (.int (0) 0), (.ref 193), (.int (111) 0), (.int (0) 0), (.ref 200), (.int (119) 0), (.int (0) 0), (.ref 207), (.int (133) 0), (.int (0) 0), (.ref 214), (.int (139) 0), (.int (0) 0), (.ref 221), (.int (148) 0), (.int (0) 0), (.ref 228), (.int (159) 0), (.int (0) 0), (.ref 235), (.int (169) 0), (.int (0) 0), (.ref 243), (.int (171) 0), (.int (0) 0), (.ref 250), (.int (175) 0), (.int (0) 0), (.ref 257), (.int (188) 0), (.int (0) 0), (.ref 264), (.int (197) 0), (.int (0) 0), (.ref 271), (.int (212) 0), (.int (0) 0), (.ref 278), (.int (217) 0), (.int (0) 0), (.ref 285), (.int (234) 0), (.int (0) 0), (.ref 292), (.int (241) 0), (.int (0) 0), (.ref 299), (.int (249) 0), (.int (0) 0), (.ref 304), (.int (257) 0), (.int (0) 0), (.ref 313), (.int (270) 0), (.int (0) 0), (.ref 341), (.int (272) 0), (.int (0) 0), (.ref 348), (.int (276) 0), (.int (0) 0), (.ref 355), (.int (279) 0), (.int (0) 0), (.ref 362), (.int (292) 0), (.int (0) 0), (.ref 369), (.int (294) 0), (.int (0) 0), (.ref 376), (.int (296) 0), (.int (0) 0), (.ref 384), (.int (298) 0), (.int (0) 0), (.ref 389), (.int (301) 0), (.int (0) 0), (.ref 394), (.int (303) 0), (.int (0) 0), (.ref 399), (.int (305) 0), (.int (0) 0), (.ref 406), (.int (310) 0), (.int (0) 0), (.ref 411), (.int (315) 0), (.int (0) 0), (.ref 418), (.int (347) 0), (.int (0) 0), (.ref 472), (.int (351) 0), (.int (0) 0), (.ref 479), (.int (358) 0), (.int (0) 0), (.ref 486), (.int (365) 0), (.int (0) 0), (.ref 493), (.int (387) 0), (.int (0) 0), (.ref 500), (.int (394) 0), (.int (0) 0), (.ref 507), (.int (403) 0), (.int (0) 0), (.ref 514), (.int (405) 0), (.int (0) 0), (.ref 521), (.int (414) 0), (.int (0) 0), (.ref 526), (.int (416) 0), (.int (0) 0), (.ref 531), (.int (424) 0), (.int (0) 0), (.ref 538), (.int (442) 0), (.int (0) 0), (.ref 545), (.int (450) 0), (.int (0) 0), (.ref 552), (.int (456) 0), (.int (0) 0), (.ref 559), (.int (468) 0), (.int (0) 0), (.ref 566), (.int (480) 0), (.int (0) 0), (.ref 573), (.int (489) 0), (.int (0) 0), (.ref 578), (.int (492) 0), (.int (0) 0), (.ref 585), (.int (498) 0), (.int (0) 0), (.ref 592), (.int (500) 0), (.int (0) 0), (.ref 599), (.int (504) 0), (.int (0) 0), (.ref 606), (.int (513) 0), (.int (0) 0), (.ref 613), (.int (521) 0), (.int (0) 0), (.ref 620), (.int (532) 0), (.int (0) 0), (.ref 629), (.int (534) 0), (.int (0) 0), (.ref 636), (.int (539) 0), (.int (0) 0), (.ref 641), (.int (552) 0), (.int (0) 0), (.ref 648), (.int (556) 0), (.int (0) 0), (.ref 653), (.int (558) 0), (.int (0) 0), (.ref 660), (.int (568) 0), (.int (0) 0), (.ref 667), (.int (582) 0), (.int (0) 0), (.ref 672), (.int (584) 0), (.int (0) 0), (.ref 679), (.int (596) 0), (.int (0) 0), (.ref 686), (.int (602) 0), (.int (0) 0), (.ref 707), (.int (604) 0), (.int (0) 0), (.ref 714), (.int (606) 0), (.int (0) 0), (.ref 721), (.int (608) 0), (.int (0) 0), (.ref 728), (.int (613) 0), (.int (0) 0), (.ref 735), (.int (618) 0), (.int (0) 0), (.ref 742), (.int (620) 0), (.int (0) 0), (.ref 750), (.int (631) 0), (.int (0) 0), (.ref 757), (.int (637) 0), (.int (0) 0), (.ref 764), (.int (641) 0), (.int (0) 0), (.ref 771), (.int (650) 0), (.int (0) 0), (.ref 778), (.int (653) 0), (.int (0) 0), (.ref 785), (.int (662) 0), (.int (0) 0), (.ref 792), (.int (668) 0), (.int (0) 0), (.ref 799), (.int (674) 0), (.int (0) 0), (.ref 806), (.int (676) 0), (.int (0) 0), (.ref 813), (.int (678) 0), (.int (0) 0), (.ref 818), (.int (681) 0), (.int (0) 0), (.ref 825), (.int (694) 0), (.int (0) 0), (.ref 830), (.int (697) 0), (.int (0) 0), (.ref 837), (.int (699) 0), (.int (0) 0), (.ref 842), (.int (701) 0), (.int (0) 0), (.ref 847), (.int (712) 0), (.int (0) 0), (.ref 856), (.int (717) 0), (.int (0) 0), (.ref 861), (.int (733) 0), (.int (0) 0), (.ref 868), (.int (740) 0), (.int (0) 0), (.ref 875), (.int (760) 0), (.int (0) 0), (.ref 880), (.int (762) 0), (.int (0) 0), (.ref 887), (.int (779) 0), (.int (0) 0), (.ref 892)], #[]⟩
noncomputable def o638 (P : Params) : Obj := ⟨(.type "tuple"), none, .seq #[] 0, #[]⟩
noncomputable def o639 (P : Params) : Obj := ⟨.none, none, .fields #[], #[]⟩
noncomputable def o640 (P : Params) : Obj := ⟨.none, none, .func ⟨(Str.ofString "word_parts"), (Str.ofString "word_parts"), (sArgs (stm 112)), .stmts (sBody (stm 112)), (sScope (stm 112)), 0, [], .none, .none, .none, .none, none, .none, .none, 0⟩, #[]⟩
noncomputable def o641 (P : Params) : Obj := ⟨(.type "code"), none, .fields #[(.str (Str.ofString "word_parts") 1122), (.str (Str.ofString "word_parts") 1123), (.str (Str.ofString "/claim/cut.py") 1124), (.int (539) 0), (.int (2) 0), (.int (0) 0), (.int (0) 0), (.int (3) 0), (.ref 638), (.bool true), (.int (181) 0), (.ref 639), .none, .none, .none, (.ref 640), (.int (1125) 0), (.int (539) 0), (.str (Str.ofString "/claim/cut.py") 1126)], #[]⟩
noncomputable def o642 (P : Params) : Obj := ⟨(.type "function"), none, .func ⟨(Str.ofString "word_parts"), (Str.ofString "word_parts"), (sArgs (stm 112)), .stmts (sBody (stm 112)), (sScope (stm 112)), 3, [], .none, .none, .none, (.str (Str.ofString "postkeep.words") 1092), none, (.ref 641), .none, 0⟩, #[]⟩
noncomputable def o643 (P : Params) : Obj := ⟨(.type "tuple"), none, .seq #[] 0, #[]⟩
noncomputable def o644 (P : Params) : Obj := ⟨.none, none, .fields #[], #[]⟩
noncomputable def o645 (P : Params) : Obj := ⟨(.type "tuple"), none, .seq #[(.str (Str.ofString "octets") 1131), (.str (Str.ofString "begin") 1132), (.str (Str.ofString "end") 1133)] 0, #[]⟩
noncomputable def o646 (P : Params) : Obj := ⟨(.type "tuple"), none, .seq #[] 0, #[]⟩
noncomputable def o647 (P : Params) : Obj := ⟨.none, none, .func ⟨(Str.ofString "is_apart"), (Str.ofString "is_apart"), (sArgs (stm 113)), .stmts (sBody (stm 113)), (sScope (stm 113)), 0, [], .none, .none, .none, .none, none, .none, .none, 0⟩, #[]⟩
noncomputable def o648 (P : Params) : Obj := ⟨(.type "code"), none, .fields #[(.str (Str.ofString "is_apart") 1128), (.str (Str.ofString "is_apart") 1129), (.str (Str.ofString "/claim/cut.py") 1130), (.int (552) 0), (.int (3) 0), (.int (0) 0), (.int (0) 0), (.int (3) 0), (.ref 643), (.bool true), (.int (181) 0), (.ref 644), .none, (.ref 645), (.ref 646), (.ref 647), (.int (1134) 0), (.int (552) 0), (.str (Str.ofString "/claim/cut.py") 1135)], #[]⟩
noncomputable def o649 (P : Params) : Obj := ⟨(.type "function"), none, .func ⟨(Str.ofString "is_apart"), (Str.ofString "is_apart"), (sArgs (stm 113)), .stmts (sBody (stm 113)), (sScope (stm 113)), 3, [], .none, .none, .none, (.str (Str.ofString "postkeep.words") 1092), none, (.ref 648), .none, 0⟩, #[]⟩
noncomputable def o650 (P : Params) : Obj := ⟨(.type "tuple"), none, .seq #[] 0, #[]⟩
noncomputable def o651 (P : Params) : Obj := ⟨.none, none, .fields #[], #[]⟩
noncomputable def o652 (P : Params) : Obj := ⟨.none, none, .func ⟨(Str.ofString "plain_text"), (Str.ofString "plain_text"), (sArgs (stm 114)), .stmts (sBody (stm 114)), (sScope (stm 114)), 0, [], .none, .none, .none, .none, none, .none, .none, 0⟩, #[]⟩
noncomputable def o653 (P : Params) : Obj := ⟨(.type "code"), none, .fields #[(.str (Str.ofString "plain_text") 1137), (.str (Str.ofString "plain_text") 1138), (.str (Str.ofString "/claim/cut.py") 1139), (.int (556) 0), (.int (1) 0), (.int (0) 0), (.int (0) 0), (.int (3) 0), (.ref 650), (.bool true), (.int (181) 0), (.ref 651), .none, .none, .none, (.ref 652), (.int (1140) 0), (.int (556) 0), (.str (Str.ofString "/claim/cut.py") 1141)], #[]⟩
noncomputable def o654 (P : Params) : Obj := ⟨(.type "function"), none, .func ⟨(Str.ofString "plain_text"), (Str.ofString "plain_text"), (sArgs (stm 114)), .stmts (sBody (stm 114)), (sScope (stm 114)), 3, [], .none, .none, .none, (.str (Str.ofString "postkeep.words") 1092), none, (.ref 653), .none, 0⟩, #[]⟩
noncomputable def o655 (P : Params) : Obj := ⟨(.type "tuple"), none, .seq #[] 0, #[]⟩
noncomputable def o656 (P : Params) : Obj := ⟨.none, none, .fields #[], #[]⟩
noncomputable def o657 (P : Params) : Obj := ⟨(.type "tuple"), none, .seq #[(.str (Str.ofString "octets") 1146), (.str (Str.ofString "at") 1147), (.str (Str.ofString "found") 1148), (.str (Str.ofString "charset") 1149), (.str (Str.ofString "way") 1150), (.str (Str.ofString "row") 1151)] 0, #[]⟩
noncomputable def o658 (P : Params) : Obj := ⟨(.type "tuple"), none, .seq #[] 0, #[]⟩
noncomputable def o659 (P : Params) : Obj := ⟨.none, none, .func ⟨(Str.ofString "word_at"), (Str.ofString "word_at"), (sArgs (stm 115)), .stmts (sBody (stm 115)), (sScope (stm 115)), 0, [], .none, .none, .none, .none, none, .none, .none, 0⟩, #[]⟩
noncomputable def o660 (P : Params) : Obj := ⟨(.type "code"), none, .fields #[(.str (Str.ofString "word_at") 1143), (.str (Str.ofString "word_at") 1144), (.str (Str.ofString "/claim/cut.py") 1145), (.int (558) 0), (.int (2) 0), (.int (0) 0), (.int (0) 0), (.int (3) 0), (.ref 655), (.bool true), (.int (181) 0), (.ref 656), .none, (.ref 657), (.ref 658), (.ref 659), (.int (1152) 0), (.int (558) 0), (.str (Str.ofString "/claim/cut.py") 1153)], #[]⟩
noncomputable def o661 (P : Params) : Obj := ⟨(.type "function"), none, .func ⟨(Str.ofString "word_at"), (Str.ofString "word_at"), (sArgs (stm 115)), .stmts (sBody (stm 115)), (sScope (stm 115)), 3, [], .none, .none, .none, (.str (Str.ofString "postkeep.words") 1092), none, (.ref 660), .none, 0⟩, #[]⟩
noncomputable def o662 (P : Params) : Obj := ⟨(.type "tuple"), none, .seq #[] 0, #[]⟩
noncomputable def o663 (P : Params) : Obj := ⟨.none, none, .fields #[], #[]⟩
noncomputable def o664 (P : Params) : Obj := ⟨(.type "tuple"), none, .seq #[(.str (Str.ofString "octets") 1158), (.str (Str.ofString "pieces") 1159), (.str (Str.ofString "begun") 1160), (.str (Str.ofString "at") 1161), (.str (Str.ofString "found") 1162)] 0, #[]⟩
noncomputable def o665 (P : Params) : Obj := ⟨(.type "tuple"), none, .seq #[] 0, #[]⟩
noncomputable def o666 (P : Params) : Obj := ⟨.none, none, .func ⟨(Str.ofString "pieces_of"), (Str.ofString "pieces_of"), (sArgs (stm 116)), .stmts (sBody (stm 116)), (sScope (stm 116)), 0, [], .none, .none, .none, .none, none, .none, .none, 0⟩, #[]⟩
noncomputable def o667 (P : Params) : Obj := ⟨(.type "code"), none, .fields #[(.str (Str.ofString "pieces_of") 1155), (.str (Str.ofString "pieces_of") 1156), (.str (Str.ofString "/claim/cut.py") 1157), (.int (568) 0), (.int (1) 0), (.int (0) 0), (.int (0) 0), (.int (3) 0), (.ref 662), (.bool true), (.int (181) 0), (.ref 663), .none, (.ref 664), (.ref 665), (.ref 666), (.int (1163) 0), (.int (568) 0), (.str (Str.ofString "/claim/cut.py") 1164)], #[]⟩
noncomputable def o668 (P : Params) : Obj := ⟨(.type "function"), none, .func ⟨(Str.ofString "pieces_of"), (Str.ofString "pieces_of"), (sArgs (stm 116)), .stmts (sBody (stm 116)), (sScope (stm 116)), 3, [], .none, .none, .none, (.str (Str.ofString "postkeep.words") 1092), none, (.ref 667), .none, 0⟩, #[]⟩
noncomputable def o669 (P : Params) : Obj := ⟨(.type "tuple"), none, .seq #[] 0, #[]⟩
noncomputable def o670 (P : Params) : Obj := ⟨.none, none, .fields #[], #[]⟩
noncomputable def o671 (P : Params) : Obj := ⟨.none, none, .func ⟨(Str.ofString "all_white"), (Str.ofString "all_white"), (sArgs (stm 117)), .stmts (sBody (stm 117)), (sScope (stm 117)), 0, [], .none, .none, .none, .none, none, .none, .none, 0⟩, #[]⟩
noncomputable def o672 (P : Params) : Obj := ⟨(.type "code"), none, .fields #[(.str (Str.ofString "all_white") 1166), (.str (Str.ofString "all_white") 1167), (.str (Str.ofString "/claim/cut.py") 1168), (.int (582) 0), (.int (1) 0), (.int (0) 0), (.int (0) 0), (.int (3) 0), (.ref 669), (.bool true), (.int (181) 0), (.ref 670), .none, .none, .none, (.ref 671), (.int (1169) 0), (.int (582) 0), (.str (Str.ofString "/claim/cut.py") 1170)], #[]⟩
noncomputable def o673 (P : Params) : Obj := ⟨(.type "function"), none, .func ⟨(Str.ofString "all_white"), (Str.ofString "all_white"), (sArgs (stm 117)), .stmts (sBody (stm 117)), (sScope (stm 117)), 3, [], .none, .none, .none, (.str (Str.ofString "postkeep.words") 1092), none, (.ref 672), .none, 0⟩, #[]⟩
noncomputable def o674 (P : Params) : Obj := ⟨(.type "tuple"), none, .seq #[] 0, #[]⟩
noncomputable def o675 (P : Params) : Obj := ⟨.none, none, .fields #[], #[]⟩
noncomputable def o676 (P : Params) : Obj := ⟨(.type "tuple"), none, .seq #[(.str (Str.ofString "octets") 1175), (.str (Str.ofString "pieces") 1176), (.str (Str.ofString "found") 1177), (.str (Str.ofString "spot") 1178), (.str (Str.ofString "is_word") 1179), (.str (Str.ofString "worth") 1180)] 0, #[]⟩
noncomputable def o677 (P : Params) : Obj := ⟨(.type "tuple"), none, .seq #[] 0, #[]⟩
noncomputable def o678 (P : Params) : Obj := ⟨.none, none, .func ⟨(Str.ofString "decoded_words"), (Str.ofString "decoded_words"), (sArgs (stm 118)), .stmts (sBody (stm 118)), (sScope (stm 118)), 0, [], .none, .none, .none, .none, none, .none, .none, 0⟩, #[]⟩
noncomputable def o679 (P : Params) : Obj := ⟨(.type "code"), none, .fields #[(.str (Str.ofString "decoded_words") 1172), (.str (Str.ofString "decoded_words") 1173), (.str (Str.ofString "/claim/cut.py") 1174), (.int (584) 0), (.int (1) 0), (.int (0) 0), (.int (0) 0), (.int (3) 0), (.ref 674), (.bool true), (.int (181) 0), (.ref 675), .none, (.ref 676), (.ref 677), (.ref 678), (.int (1181) 0), (.int (584) 0), (.str (Str.ofString "/claim/cut.py") 1182)], #[]⟩
noncomputable def o680 (P : Params) : Obj := ⟨(.type "function"), none, .func ⟨(Str.ofString "decoded_words"), (Str.ofString "decoded_words"), (sArgs (stm 118)), .stmts (sBody (stm 118)), (sScope (stm 118)), 3, [], .none, .none, .none, (.str (Str.ofString "postkeep.words") 1092), none, (.ref 679), .none, 0⟩, #[]⟩
noncomputable def o681 (P : Params) : Obj := ⟨(.type "tuple"), none, .seq #[] 0, #[]⟩
noncomputable def o682 (P : Params) : Obj := ⟨(.type "builtin_function_or_method"), none, .fields #[(.builtin "type.__prepare__"), (.type "type")], #[]⟩
noncomputable def o683 (P : Params) : Obj := ⟨(.type "dict"), none, .dict #[⟨PyData.keyHash P (Str.ofString "__module__"), .str (Str.ofString "__module__") 1195, (.str (Str.ofString "postkeep.search") 1184)⟩, ⟨PyData.keyHash P (Str.ofString "__qualname__"), .str (Str.ofString "__qualname__") 1197, (.str (Str.ofString "Seen") 1196)⟩, ⟨PyData.keyHash P (Str.ofString "__firstlineno__"), .str (Str.ofString "__firstlineno__") 1199, (.int (596) 1198)⟩, ⟨PyData.keyHash P (Str.ofString "__init__"), .str (Str.ofString "__init__") 1209, (.ref 694)⟩, ⟨PyData.keyHash P (Str.ofString "__static_attributes__"), .str (Str.ofString "__static_attributes__") 1213, (.ref 695)⟩] 5, #[]⟩
noncomputable def o684 (P : Params) : Obj := ⟨(.type "tuple"), none, .seq #[] 0, #[]⟩
noncomputable def o685 (P : Params) : Obj := ⟨.none, none, .fields #[(.int (598) 0), (.int (4) 0), (.ref 693)], #[]⟩
noncomputable def o686 (P : Params) : Obj := ⟨(.type "code"), none, .fields #[(.str (Str.ofString "Seen") 1190), (.str (Str.ofString "Seen") 1191), (.str (Str.ofString "/claim/cut.py") 1192), (.int (596) 0), (.int (0) 0), (.int (0) 0), (.int (0) 0), (.int (0) 0), (.ref 684), (.bool false), (.int (181) 0), (.ref 685), .none, .none, .none, .none, (.int (1193) 0), (.int (596) 0), (.str (Str.ofString "/claim/cut.py") 1194)], #[]⟩
noncomputable def o687 (P : Params) : Obj := ⟨(.type "frame"), none, .plain, #[(some (.ref 686)), (some (.ref 3)), (some (.ref 683)), none, (some (.str (Str.ofString "postkeep.search") 1184)), none, (some (.ref 0))]⟩
noncomputable def o688 (P : Params) : Obj := ⟨(.type "tuple"), none, .seq #[] 0, #[]⟩
noncomputable def o689 (P : Params) : Obj := ⟨.none, none, .fields #[], #[]⟩
noncomputable def o690 (P : Params) : Obj := ⟨(.type "tuple"), none, .seq #[(.str (Str.ofString "self") 1203), (.str (Str.ofString "letter") 1204), (.str (Str.ofString "number") 1205), (.str (Str.ofString "part") 1206)] 0, #[]⟩
noncomputable def o691 (P : Params) : Obj := ⟨(.type "tuple"), none, .seq #[] 0, #[]⟩
noncomputable def o692 (P : Params) : Obj := ⟨.none, none, .func ⟨(Str.ofString "__init__"), (Str.ofString "Seen.__init__"), (sArgs (sub 121 0)), .stmts (sBody (sub 121 0)), (sScope (sub 121 0)), 0, [], .none, .none, .none, .none, none, .none, .none, 0⟩, #[]⟩
noncomputable def o693 (P : Params) : Obj := ⟨(.type "code"), none, .fields #[(.str (Str.ofString "__init__") 1200), (.str (Str.ofString "Seen.__init__") 1201), (.str (Str.ofString "/claim/cut.py") 1202), (.int (598) 0), (.int (4) 0), (.int (0) 0), (.int (0) 0), (.int (3) 0), (.ref 688), (.bool true), (.int (181) 0), (.ref 689), .none, (.ref 690), (.ref 691), (.ref 692), (.int (1207) 0), (.int (598) 0), (.str (Str.ofString "/claim/cut.py") 1208)], #[]⟩
@[reducible] noncomputable def o694 (P : Params) : Obj := ⟨(.type "function"), none, .func ⟨(Str.ofString "__init__"), (Str.ofString "Seen.__init__"), A694, .stmts B694, S694, 3, [], .none, .none, .none, (.str (Str.ofString "postkeep.search") 1184), none, (.ref 693), .none, 0⟩, #[]⟩
noncomputable def o695 (P : Params) : Obj := ⟨(.type "tuple"), none, .seq #[(.str (Str.ofString "letter") 1210), (.str (Str.ofString "number") 1211), (.str (Str.ofString "part") 1212)] 0, #[]⟩
noncomputable def o696 (P : Params) : Obj := ⟨(.type "dict"), none, .dict #[⟨PyData.keyHash P (Str.ofString "__module__"), .str (Str.ofString "__module__") 1195, (.str (Str.ofString "postkeep.search") 1184)⟩, ⟨PyData.keyHash P (Str.ofString "__firstlineno__"), .str (Str.ofString "__firstlineno__") 1199, (.int (596) 1198)⟩, ⟨PyData.keyHash P (Str.ofString "__init__"), .str (Str.ofString "__init__") 1209, (.ref 694)⟩, ⟨PyData.keyHash P (Str.ofString "__static_attributes__"), .str (Str.ofString "__static_attributes__") 1213, (.ref 695)⟩, ⟨PyData.keyHash P (Str.ofString "__dict__"), .str (Str.ofString "__dict__") 1215, (.ref 698)⟩, ⟨PyData.keyHash P (Str.ofString "__weakref__"), .str (Str.ofString "__weakref__") 1217, (.ref 699)⟩, ⟨PyData.keyHash P (Str.ofString "__doc__"), .str (Str.ofString "__doc__") 1218, .none⟩] 4, #[]⟩
noncomputable def o697 (P : Params) : Obj := ⟨(.type "type"), none, .cls ⟨(Str.ofString "Seen"), [(.type "object")], [(.ref 697), (.type "object")], 696, (Str.ofString "Seen"), true, [], [], false, none, false⟩, #[none, none, (some (.str (Str.ofString "Seen") 1188)), (some (.str (Str.ofString "Seen") 1196)), (some (.builtin "object.__new__")), (some (.bool true))]⟩
noncomputable def o698 (P : Params) : Obj := ⟨(.type "getset_descriptor"), none, .fields #[(.str (Str.ofString "__dict__") 1214), (.ref 697), (.builtin "function.__dict__"), (.builtin "function.__dict__#set")], #[]⟩
noncomputable def o699 (P : Params) : Obj := ⟨(.type "getset_descriptor"), none, .fields #[(.str (Str.ofString "__weakref__") 1216), (.ref 697), (.builtin "ExceptionGroup.__weakref__"), .none], #[]⟩
noncomputable def o700 (P : Params) : Obj := ⟨(.type "super"), none, .fields #[(.ref 697), (.ref 697), (.ref 697)], #[]⟩
noncomputable def o701 (P : Params) : Obj := ⟨(.type "builtin_function_or_method"), none, .fields #[(.builtin "object.__init_subclass__"), (.ref 697)], #[]⟩
noncomputable def o702 (P : Params) : Obj := ⟨(.type "tuple"), none, .seq #[] 0, #[]⟩
noncomputable def o703 (P : Params) : Obj := ⟨.none, none, .fields #[], #[]⟩
noncomputable def o704 (P : Params) : Obj := ⟨(.type "tuple"), none, .seq #[(.str (Str.ofString "octets") 1224), (.str (Str.ofString "text") 1225)] 0, #[]⟩
noncomputable def o705 (P : Params) : Obj := ⟨(.type "tuple"), none, .seq #[] 0, #[]⟩
noncomputable def o706 (P : Params) : Obj := ⟨.none, none, .func ⟨(Str.ofString "is_within"), (Str.ofString "is_within"), (sArgs (stm 122)), .stmts (sBody (stm 122)), (sScope (stm 122)), 0, [], .none, .none, .none, .none, none, .none, .none, 0⟩, #[]⟩
noncomputable def o707 (P : Params) : Obj := ⟨(.type "code"), none, .fields #[(.str (Str.ofString "is_within") 1221), (.str (Str.ofString "is_within") 1222), (.str (Str.ofString "/claim/cut.py") 1223), (.int (602) 0), (.int (2) 0), (.int (0) 0), (.int (0) 0), (.int (3) 0), (.ref 702), (.bool true), (.int (181) 0), (.ref 703), .none, (.ref 704), (.ref 705), (.ref 706), (.int (1226) 0), (.int (602) 0), (.str (Str.ofString "/claim/cut.py") 1227)], #[]⟩
noncomputable def o708 (P : Params) : Obj := ⟨(.type "function"), none, .func ⟨(Str.ofString "is_within"), (Str.ofString "is_within"), (sArgs (stm 122)), .stmts (sBody (stm 122)), (sScope (stm 122)), 3, [], .none, .none, .none, (.str (Str.ofString "postkeep.search") 1184), none, (.ref 707), .none, 0⟩, #[]⟩
noncomputable def o709 (P : Params) : Obj := ⟨(.type "tuple"), none, .seq #[] 0, #[]⟩
noncomputable def o710 (P : Params) : Obj := ⟨.none, none, .fields #[], #[]⟩
noncomputable def o711 (P : Params) : Obj := ⟨(.type "tuple"), none, .seq #[(.str (Str.ofString "field") 1232)] 0, #[]⟩
noncomputable def o712 (P : Params) : Obj := ⟨(.type "tuple"), none, .seq #[] 0, #[]⟩
noncomputable def o713 (P : Params) : Obj := ⟨.none, none, .func ⟨(Str.ofString "field_text"), (Str.ofString "field_text"), (sArgs (stm 123)), .stmts (sBody (stm 123)), (sScope (stm 123)), 0, [], .none, .none, .none, .none, none, .none, .none, 0⟩, #[]⟩
noncomputable def o714 (P : Params) : Obj := ⟨(.type "code"), none, .fields #[(.str (Str.ofString "field_text") 1229), (.str (Str.ofString "field_text") 1230), (.str (Str.ofString "/claim/cut.py") 1231), (.int (604) 0), (.int (1) 0), (.int (0) 0), (.int (0) 0), (.int (3) 0), (.ref 709), (.bool true), (.int (181) 0), (.ref 710), .none, (.ref 711), (.ref 712), (.ref 713), (.int (1233) 0), (.int (604) 0), (.str (Str.ofString "/claim/cut.py") 1234)], #[]⟩
noncomputable def o715 (P : Params) : Obj := ⟨(.type "function"), none, .func ⟨(Str.ofString "field_text"), (Str.ofString "field_text"), (sArgs (stm 123)), .stmts (sBody (stm 123)), (sScope (stm 123)), 3, [], .none, .none, .none, (.str (Str.ofString "postkeep.search") 1184), none, (.ref 714), .none, 0⟩, #[]⟩
noncomputable def o716 (P : Params) : Obj := ⟨(.type "tuple"), none, .seq #[] 0, #[]⟩
noncomputable def o717 (P : Params) : Obj := ⟨.none, none, .fields #[], #[]⟩
noncomputable def o718 (P : Params) : Obj := ⟨(.type "tuple"), none, .seq #[(.str (Str.ofString "field") 1239)] 0, #[]⟩
noncomputable def o719 (P : Params) : Obj := ⟨(.type "tuple"), none, .seq #[] 0, #[]⟩
noncomputable def o720 (P : Params) : Obj := ⟨.none, none, .func ⟨(Str.ofString "field_line"), (Str.ofString "field_line"), (sArgs (stm 124)), .stmts (sBody (stm 124)), (sScope (stm 124)), 0, [], .none, .none, .none, .none, none, .none, .none, 0⟩, #[]⟩
noncomputable def o721 (P : Params) : Obj := ⟨(.type "code"), none, .fields #[(.str (Str.ofString "field_line") 1236), (.str (Str.ofString "field_line") 1237), (.str (Str.ofString "/claim/cut.py") 1238), (.int (606) 0), (.int (1) 0), (.int (0) 0), (.int (0) 0), (.int (3) 0), (.ref 716), (.bool true), (.int (181) 0), (.ref 717), .none, (.ref 718), (.ref 719), (.ref 720), (.int (1240) 0), (.int (606) 0), (.str (Str.ofString "/claim/cut.py") 1241)], #[]⟩
noncomputable def o722 (P : Params) : Obj := ⟨(.type "function"), none, .func ⟨(Str.ofString "field_line"), (Str.ofString "field_line"), (sArgs (stm 124)), .stmts (sBody (stm 124)), (sScope (stm 124)), 3, [], .none, .none, .none, (.str (Str.ofString "postkeep.search") 1184), none, (.ref 721), .none, 0⟩, #[]⟩
noncomputable def o723 (P : Params) : Obj := ⟨(.type "tuple"), none, .seq #[] 0, #[]⟩
noncomputable def o724 (P : Params) : Obj := ⟨.none, none, .fields #[], #[]⟩
noncomputable def o725 (P : Params) : Obj := ⟨(.type "tuple"), none, .seq #[(.str (Str.ofString "fields") 1246), (.str (Str.ofString "word") 1247), (.str (Str.ofString "octets") 1248), (.str (Str.ofString "field") 1249)] 0, #[]⟩
noncomputable def o726 (P : Params) : Obj := ⟨(.type "tuple"), none, .seq #[] 0, #[]⟩
noncomputable def o727 (P : Params) : Obj := ⟨.none, none, .func ⟨(Str.ofString "header_holds"), (Str.ofString "header_holds"), (sArgs (stm 125)), .stmts (sBody (stm 125)), (sScope (stm 125)), 0, [], .none, .none, .none, .none, none, .none, .none, 0⟩, #[]⟩
noncomputable def o728 (P : Params) : Obj := ⟨(.type "code"), none, .fields #[(.str (Str.ofString "header_holds") 1243), (.str (Str.ofString "header_holds") 1244), (.str (Str.ofString "/claim/cut.py") 1245), (.int (608) 0), (.int (3) 0), (.int (0) 0), (.int (0) 0), (.int (3) 0), (.ref 723), (.bool true), (.int (181) 0), (.ref 724), .none, (.ref 725), (.ref 726), (.ref 727), (.int (1250) 0), (.int (608) 0), (.str (Str.ofString "/claim/cut.py") 1251)], #[]⟩
noncomputable def o729 (P : Params) : Obj := ⟨(.type "function"), none, .func ⟨(Str.ofString "header_holds"), (Str.ofString "header_holds"), (sArgs (stm 125)), .stmts (sBody (stm 125)), (sScope (stm 125)), 3, [], .none, .none, .none, (.str (Str.ofString "postkeep.search") 1184), none, (.ref 728), .none, 0⟩, #[]⟩
noncomputable def o730 (P : Params) : Obj := ⟨(.type "tuple"), none, .seq #[] 0, #[]⟩
noncomputable def o731 (P : Params) : Obj := ⟨.none, none, .fields #[], #[]⟩
noncomputable def o732 (P : Params) : Obj := ⟨(.type "tuple"), none, .seq #[(.str (Str.ofString "fields") 1256), (.str (Str.ofString "octets") 1257), (.str (Str.ofString "field") 1258)] 0, #[]⟩
noncomputable def o733 (P : Params) : Obj := ⟨(.type "tuple"), none, .seq #[] 0, #[]⟩
noncomputable def o734 (P : Params) : Obj := ⟨.none, none, .func ⟨(Str.ofString "head_holds"), (Str.ofString "head_holds"), (sArgs (stm 126)), .stmts (sBody (stm 126)), (sScope (stm 126)), 0, [], .none, .none, .none, .none, none, .none, .none, 0⟩, #[]⟩
noncomputable def o735 (P : Params) : Obj := ⟨(.type "code"), none, .fields #[(.str (Str.ofString "head_holds") 1253), (.str (Str.ofString "head_holds") 1254), (.str (Str.ofString "/claim/cut.py") 1255), (.int (613) 0), (.int (2) 0), (.int (0) 0), (.int (0) 0), (.int (3) 0), (.ref 730), (.bool true), (.int (181) 0), (.ref 731), .none, (.ref 732), (.ref 733), (.ref 734), (.int (1259) 0), (.int (613) 0), (.str (Str.ofString "/claim/cut.py") 1260)], #[]⟩
noncomputable def o736 (P : Params) : Obj := ⟨(.type "function"), none, .func ⟨(Str.ofString "head_holds"), (Str.ofString "head_holds"), (sArgs (stm 126)), .stmts (sBody (stm 126)), (sScope (stm 126)), 3, [], .none, .none, .none, (.str (Str.ofString "postkeep.search") 1184), none, (.ref 735), .none, 0⟩, #[]⟩
noncomputable def o737 (P : Params) : Obj := ⟨(.type "tuple"), none, .seq #[] 0, #[]⟩
noncomputable def o738 (P : Params) : Obj := ⟨.none, none, .fields #[], #[]⟩
noncomputable def o739 (P : Params) : Obj := ⟨(.type "tuple"), none, .seq #[(.str (Str.ofString "data") 1265), (.str (Str.ofString "part") 1266), (.str (Str.ofString "octets") 1267), (.str (Str.ofString "depth") 1268)] 0, #[]⟩
noncomputable def o740 (P : Params) : Obj := ⟨(.type "tuple"), none, .seq #[] 0, #[]⟩
noncomputable def o741 (P : Params) : Obj := ⟨.none, none, .func ⟨(Str.ofString "inner_holds"), (Str.ofString "inner_holds"), (sArgs (stm 127)), .stmts (sBody (stm 127)), (sScope (stm 127)), 0, [], .none, .none, .none, .none, none, .none, .none, 0⟩, #[]⟩
noncomputable def o742 (P : Params) : Obj := ⟨(.type "code"), none, .fields #[(.str (Str.ofString "inner_holds") 1262), (.str (Str.ofString "inner_holds") 1263), (.str (Str.ofString "/claim/cut.py") 1264), (.int (618) 0), (.int (4) 0), (.int (0) 0), (.int (0) 0), (.int (3) 0), (.ref 737), (.bool true), (.int (181) 0), (.ref 738), .none, (.ref 739), (.ref 740), (.ref 741), (.int (1269) 0), (.int (618) 0), (.str (Str.ofString "/claim/cut.py") 1270)], #[]⟩
noncomputable def o743 (P : Params) : Obj := ⟨(.type "function"), none, .func ⟨(Str.ofString "inner_holds"), (Str.ofString "inner_holds"), (sArgs (stm 127)), .stmts (sBody (stm 127)), (sScope (stm 127)), 3, [], .none, .none, .none, (.str (Str.ofString "postkeep.search") 1184), none, (.ref 742), .none, 0⟩, #[]⟩
noncomputable def o744 (P : Params) : Obj := ⟨(.type "tuple"), none, .seq #[(.int (0) 1272)] 0, #[]⟩
noncomputable def o745 (P : Params) : Obj := ⟨(.type "tuple"), none, .seq #[] 0, #[]⟩
noncomputable def o746 (P : Params) : Obj := ⟨.none, none, .fields #[], #[]⟩
noncomputable def o747 (P : Params) : Obj := ⟨(.type "tuple"), none, .seq #[(.str (Str.ofString "data") 1276), (.str (Str.ofString "part") 1277), (.str (Str.ofString "octets") 1278), (.str (Str.ofString "depth") 1279), (.str (Str.ofString "kid") 1280)] 0, #[]⟩
noncomputable def o748 (P : Params) : Obj := ⟨(.type "tuple"), none, .seq #[] 0, #[]⟩
noncomputable def o749 (P : Params) : Obj := ⟨.none, none, .func ⟨(Str.ofString "texts_hold"), (Str.ofString "texts_hold"), (sArgs (stm 128)), .stmts (sBody (stm 128)), (sScope (stm 128)), 0, [], .none, .none, .none, .none, none, .none, .none, 0⟩, #[]⟩
noncomputable def o750 (P : Params) : Obj := ⟨(.type "code"), none, .fields #[(.str (Str.ofString "texts_hold") 1273), (.str (Str.ofString "texts_hold") 1274), (.str (Str.ofString "/claim/cut.py") 1275), (.int (620) 0), (.int (4) 0), (.int (0) 0), (.int (0) 0), (.int (3) 0), (.ref 745), (.bool true), (.int (181) 0), (.ref 746), .none, (.ref 747), (.ref 748), (.ref 749), (.int (1281) 0), (.int (620) 0), (.str (Str.ofString "/claim/cut.py") 1282)], #[]⟩
noncomputable def o751 (P : Params) : Obj := ⟨(.type "function"), none, .func ⟨(Str.ofString "texts_hold"), (Str.ofString "texts_hold"), (sArgs (stm 128)), .stmts (sBody (stm 128)), (sScope (stm 128)), 3, [], (.ref 744), .none, .none, (.str (Str.ofString "postkeep.search") 1184), none, (.ref 750), .none, 0⟩, #[]⟩
noncomputable def o752 (P : Params) : Obj := ⟨(.type "tuple"), none, .seq #[] 0, #[]⟩
noncomputable def o753 (P : Params) : Obj := ⟨.none, none, .fields #[], #[]⟩
noncomputable def o754 (P : Params) : Obj := ⟨(.type "tuple"), none, .seq #[(.str (Str.ofString "leaf") 1287), (.str (Str.ofString "data") 1288), (.str (Str.ofString "part") 1289)] 0, #[]⟩
noncomputable def o755 (P : Params) : Obj := ⟨(.type "tuple"), none, .seq #[] 0, #[]⟩
noncomputable def o756 (P : Params) : Obj := ⟨.none, none, .func ⟨(Str.ofString "look_holds"), (Str.ofString "look_holds"), (sArgs (stm 129)), .stmts (sBody (stm 129)), (sScope (stm 129)), 0, [], .none, .none, .none, .none, none, .none, .none, 0⟩, #[]⟩
noncomputable def o757 (P : Params) : Obj := ⟨(.type "code"), none, .fields #[(.str (Str.ofString "look_holds") 1284), (.str (Str.ofString "look_holds") 1285), (.str (Str.ofString "/claim/cut.py") 1286), (.int (631) 0), (.int (3) 0), (.int (0) 0), (.int (0) 0), (.int (3) 0), (.ref 752), (.bool true), (.int (181) 0), (.ref 753), .none, (.ref 754), (.ref 755), (.ref 756), (.int (1290) 0), (.int (631) 0), (.str (Str.ofString "/claim/cut.py") 1291)], #[]⟩
noncomputable def o758 (P : Params) : Obj := ⟨(.type "function"), none, .func ⟨(Str.ofString "look_holds"), (Str.ofString "look_holds"), (sArgs (stm 129)), .stmts (sBody (stm 129)), (sScope (stm 129)), 3, [], .none, .none, .none, (.str (Str.ofString "postkeep.search") 1184), none, (.ref 757), .none, 0⟩, #[]⟩
noncomputable def o759 (P : Params) : Obj := ⟨(.type "tuple"), none, .seq #[] 0, #[]⟩
noncomputable def o760 (P : Params) : Obj := ⟨.none, none, .fields #[], #[]⟩
noncomputable def o761 (P : Params) : Obj := ⟨(.type "tuple"), none, .seq #[(.str (Str.ofString "word") 1296), (.str (Str.ofString "day") 1297), (.str (Str.ofString "wanted") 1298)] 0, #[]⟩
noncomputable def o762 (P : Params) : Obj := ⟨(.type "tuple"), none, .seq #[] 0, #[]⟩
noncomputable def o763 (P : Params) : Obj := ⟨.none, none, .func ⟨(Str.ofString "day_holds"), (Str.ofString "day_holds"), (sArgs (stm 130)), .stmts (sBody (stm 130)), (sScope (stm 130)), 0, [], .none, .none, .none, .none, none, .none, .none, 0⟩, #[]⟩
noncomputable def o764 (P : Params) : Obj := ⟨(.type "code"), none, .fields #[(.str (Str.ofString "day_holds") 1293), (.str (Str.ofString "day_holds") 1294), (.str (Str.ofString "/claim/cut.py") 1295), (.int (637) 0), (.int (3) 0), (.int (0) 0), (.int (0) 0), (.int (3) 0), (.ref 759), (.bool true), (.int (181) 0), (.ref 760), .none, (.ref 761), (.ref 762), (.ref 763), (.int (1299) 0), (.int (637) 0), (.str (Str.ofString "/claim/cut.py") 1300)], #[]⟩
noncomputable def o765 (P : Params) : Obj := ⟨(.type "function"), none, .func ⟨(Str.ofString "day_holds"), (Str.ofString "day_holds"), (sArgs (stm 130)), .stmts (sBody (stm 130)), (sScope (stm 130)), 3, [], .none, .none, .none, (.str (Str.ofString "postkeep.search") 1184), none, (.ref 764), .none, 0⟩, #[]⟩
noncomputable def o766 (P : Params) : Obj := ⟨(.type "tuple"), none, .seq #[] 0, #[]⟩
noncomputable def o767 (P : Params) : Obj := ⟨.none, none, .fields #[], #[]⟩
noncomputable def o768 (P : Params) : Obj := ⟨(.type "tuple"), none, .seq #[(.str (Str.ofString "fields") 1305), (.str (Str.ofString "body") 1306), (.str (Str.ofString "moment") 1307)] 0, #[]⟩
noncomputable def o769 (P : Params) : Obj := ⟨(.type "tuple"), none, .seq #[] 0, #[]⟩
noncomputable def o770 (P : Params) : Obj := ⟨.none, none, .func ⟨(Str.ofString "sent_day"), (Str.ofString "sent_day"), (sArgs (stm 131)), .stmts (sBody (stm 131)), (sScope (stm 131)), 0, [], .none, .none, .none, .none, none, .none, .none, 0⟩, #[]⟩
noncomputable def o771 (P : Params) : Obj := ⟨(.type "code"), none, .fields #[(.str (Str.ofString "sent_day") 1302), (.str (Str.ofString "sent_day") 1303), (.str (Str.ofString "/claim/cut.py") 1304), (.int (641) 0), (.int (1) 0), (.int (0) 0), (.int (0) 0), (.int (3) 0), (.ref 766), (.bool true), (.int (181) 0), (.ref 767), .none, (.ref 768), (.ref 769), (.ref 770), (.int (1308) 0), (.int (641) 0), (.str (Str.ofString "/claim/cut.py") 1309)], #[]⟩
noncomputable def o772 (P : Params) : Obj := ⟨(.type "function"), none, .func ⟨(Str.ofString "sent_day"), (Str.ofString "sent_day"), (sArgs (stm 131)), .stmts (sBody (stm 131)), (sScope (stm 131)), 3, [], .none, .none, .none, (.str (Str.ofString "postkeep.search") 1184), none, (.ref 771), .none, 0⟩, #[]⟩
noncomputable def o773 (P : Params) : Obj := ⟨(.type "tuple"), none, .seq #[] 0, #[]⟩
noncomputable def o774 (P : Params) : Obj := ⟨.none, none, .fields #[], #[]⟩
noncomputable def o775 (P : Params) : Obj := ⟨(.type "tuple"), none, .seq #[(.str (Str.ofString "leaf") 1314), (.str (Str.ofString "fields") 1315), (.str (Str.ofString "day") 1316)] 0, #[]⟩
noncomputable def o776 (P : Params) : Obj := ⟨(.type "tuple"), none, .seq #[] 0, #[]⟩
noncomputable def o777 (P : Params) : Obj := ⟨.none, none, .func ⟨(Str.ofString "sent_holds"), (Str.ofString "sent_holds"), (sArgs (stm 132)), .stmts (sBody (stm 132)), (sScope (stm 132)), 0, [], .none, .none, .none, .none, none, .none, .none, 0⟩, #[]⟩
noncomputable def o778 (P : Params) : Obj := ⟨(.type "code"), none, .fields #[(.str (Str.ofString "sent_holds") 1311), (.str (Str.ofString "sent_holds") 1312), (.str (Str.ofString "/claim/cut.py") 1313), (.int (650) 0), (.int (2) 0), (.int (0) 0), (.int (0) 0), (.int (3) 0), (.ref 773), (.bool true), (.int (181) 0), (.ref 774), .none, (.ref 775), (.ref 776), (.ref 777), (.int (1317) 0), (.int (650) 0), (.str (Str.ofString "/claim/cut.py") 1318)], #[]⟩
noncomputable def o779 (P : Params) : Obj := ⟨(.type "function"), none, .func ⟨(Str.ofString "sent_holds"), (Str.ofString "sent_holds"), (sArgs (stm 132)), .stmts (sBody (stm 132)), (sScope (stm 132)), 3, [], .none, .none, .none, (.str (Str.ofString "postkeep.search") 1184), none, (.ref 778), .none, 0⟩, #[]⟩
noncomputable def o780 (P : Params) : Obj := ⟨(.type "tuple"), none, .seq #[] 0, #[]⟩
noncomputable def o781 (P : Params) : Obj := ⟨.none, none, .fields #[], #[]⟩
noncomputable def o782 (P : Params) : Obj := ⟨(.type "tuple"), none, .seq #[(.str (Str.ofString "leaf") 1323), (.str (Str.ofString "letter") 1324), (.str (Str.ofString "number") 1325), (.str (Str.ofString "context") 1326), (.str (Str.ofString "kind") 1327), (.str (Str.ofString "worth") 1328)] 0, #[]⟩
noncomputable def o783 (P : Params) : Obj := ⟨(.type "tuple"), none, .seq #[] 0, #[]⟩
noncomputable def o784 (P : Params) : Obj := ⟨.none, none, .func ⟨(Str.ofString "number_holds"), (Str.ofString "number_holds"), (sArgs (stm 133)), .stmts (sBody (stm 133)), (sScope (stm 133)), 0, [], .none, .none, .none, .none, none, .none, .none, 0⟩, #[]⟩
noncomputable def o785 (P : Params) : Obj := ⟨(.type "code"), none, .fields #[(.str (Str.ofString "number_holds") 1320), (.str (Str.ofString "number_holds") 1321), (.str (Str.ofString "/claim/cut.py") 1322), (.int (653) 0), (.int (4) 0), (.int (0) 0), (.int (0) 0), (.int (3) 0), (.ref 780), (.bool true), (.int (181) 0), (.ref 781), .none, (.ref 782), (.ref 783), (.ref 784), (.int (1329) 0), (.int (653) 0), (.str (Str.ofString "/claim/cut.py") 1330)], #[]⟩
@[reducible] noncomputable def o786 (P : Params) : Obj := ⟨(.type "function"), none, .func ⟨(Str.ofString "number_holds"), (Str.ofString "number_holds"), A786, .stmts B786, S786, 3, [], .none, .none, .none, (.str (Str.ofString "postkeep.search") 1184), none, (.ref 785), .none, 0⟩, #[]⟩
noncomputable def o787 (P : Params) : Obj := ⟨(.type "tuple"), none, .seq #[] 0, #[]⟩
noncomputable def o788 (P : Params) : Obj := ⟨.none, none, .fields #[], #[]⟩
noncomputable def o789 (P : Params) : Obj := ⟨(.type "tuple"), none, .seq #[(.str (Str.ofString "leaf") 1335), (.str (Str.ofString "letter") 1336), (.str (Str.ofString "number") 1337), (.str (Str.ofString "context") 1338)] 0, #[]⟩
noncomputable def o790 (P : Params) : Obj := ⟨(.type "tuple"), none, .seq #[] 0, #[]⟩
noncomputable def o791 (P : Params) : Obj := ⟨.none, none, .func ⟨(Str.ofString "simple_holds"), (Str.ofString "simple_holds"), (sArgs (stm 134)), .stmts (sBody (stm 134)), (sScope (stm 134)), 0, [], .none, .none, .none, .none, none, .none, .none, 0⟩, #[]⟩
noncomputable def o792 (P : Params) : Obj := ⟨(.type "code"), none, .fields #[(.str (Str.ofString "simple_holds") 1332), (.str (Str.ofString "simple_holds") 1333), (.str (Str.ofString "/claim/cut.py") 1334), (.int (662) 0), (.int (4) 0), (.int (0) 0), (.int (0) 0), (.int (3) 0), (.ref 787), (.bool true), (.int (181) 0), (.ref 788), .none, (.ref 789), (.ref 790), (.ref 791), (.int (1339) 0), (.int (662) 0), (.str (Str.ofString "/claim/cut.py") 1340)], #[]⟩
@[reducible] noncomputable def o793 (P : Params) : Obj := ⟨(.type "function"), none, .func ⟨(Str.ofString "simple_holds"), (Str.ofString "simple_holds"), A793, .stmts B793, S793, 3, [], .none, .none, .none, (.str (Str.ofString "postkeep.search") 1184), none, (.ref 792), .none, 0⟩, #[]⟩
noncomputable def o794 (P : Params) : Obj := ⟨(.type "tuple"), none, .seq #[] 0, #[]⟩
noncomputable def o795 (P : Params) : Obj := ⟨.none, none, .fields #[], #[]⟩
noncomputable def o796 (P : Params) : Obj := ⟨(.type "tuple"), none, .seq #[(.str (Str.ofString "leaf") 1345), (.str (Str.ofString "seen") 1346), (.str (Str.ofString "context") 1347)] 0, #[]⟩
noncomputable def o797 (P : Params) : Obj := ⟨(.type "tuple"), none, .seq #[] 0, #[]⟩
noncomputable def o798 (P : Params) : Obj := ⟨.none, none, .func ⟨(Str.ofString "leaf_holds"), (Str.ofString "leaf_holds"), (sArgs (stm 135)), .stmts (sBody (stm 135)), (sScope (stm 135)), 0, [], .none, .none, .none, .none, none, .none, .none, 0⟩, #[]⟩
noncomputable def o799 (P : Params) : Obj := ⟨(.type "code"), none, .fields #[(.str (Str.ofString "leaf_holds") 1342), (.str (Str.ofString "leaf_holds") 1343), (.str (Str.ofString "/claim/cut.py") 1344), (.int (668) 0), (.int (3) 0), (.int (0) 0), (.int (0) 0), (.int (3) 0), (.ref 794), (.bool true), (.int (181) 0), (.ref 795), .none, (.ref 796), (.ref 797), (.ref 798), (.int (1348) 0), (.int (668) 0), (.str (Str.ofString "/claim/cut.py") 1349)], #[]⟩
@[reducible] noncomputable def o800 (P : Params) : Obj := ⟨(.type "function"), none, .func ⟨(Str.ofString "leaf_holds"), (Str.ofString "leaf_holds"), A800, .stmts B800, S800, 3, [], .none, .none, .none, (.str (Str.ofString "postkeep.search") 1184), none, (.ref 799), .none, 0⟩, #[]⟩
noncomputable def o801 (P : Params) : Obj := ⟨(.type "tuple"), none, .seq #[] 0, #[]⟩
noncomputable def o802 (P : Params) : Obj := ⟨.none, none, .fields #[], #[]⟩
noncomputable def o803 (P : Params) : Obj := ⟨(.type "tuple"), none, .seq #[(.str (Str.ofString "tree") 1354), (.str (Str.ofString "seen") 1355), (.str (Str.ofString "context") 1356)] 0, #[]⟩
noncomputable def o804 (P : Params) : Obj := ⟨(.type "tuple"), none, .seq #[(.str (Str.ofString "seen") 1357), (.str (Str.ofString "context") 1358)] 0, #[]⟩
noncomputable def o805 (P : Params) : Obj := ⟨.none, none, .func ⟨(Str.ofString "matches"), (Str.ofString "matches"), (sArgs (stm 136)), .stmts (sBody (stm 136)), (sScope (stm 136)), 0, [], .none, .none, .none, .none, none, .none, .none, 0⟩, #[]⟩
noncomputable def o806 (P : Params) : Obj := ⟨(.type "code"), none, .fields #[(.str (Str.ofString "matches") 1351), (.str (Str.ofString "matches") 1352), (.str (Str.ofString "/claim/cut.py") 1353), (.int (674) 0), (.int (3) 0), (.int (0) 0), (.int (0) 0), (.int (3) 0), (.ref 801), (.bool true), (.int (181) 0), (.ref 802), .none, (.ref 803), (.ref 804), (.ref 805), (.int (1359) 0), (.int (674) 0), (.str (Str.ofString "/claim/cut.py") 1360)], #[]⟩
@[reducible] noncomputable def o807 (P : Params) : Obj := ⟨(.type "function"), none, .func ⟨(Str.ofString "matches"), (Str.ofString "matches"), A807, .stmts B807, S807, 3, [], .none, .none, .none, (.str (Str.ofString "postkeep.search") 1184), none, (.ref 806), .none, 0⟩, #[]⟩
noncomputable def o808 (P : Params) : Obj := ⟨(.type "tuple"), none, .seq #[] 0, #[]⟩
noncomputable def o809 (P : Params) : Obj := ⟨.none, none, .fields #[], #[]⟩
noncomputable def o810 (P : Params) : Obj := ⟨(.type "tuple"), none, .seq #[(.str (Str.ofString "rows") 1365)] 0, #[]⟩
noncomputable def o811 (P : Params) : Obj := ⟨(.type "tuple"), none, .seq #[] 0, #[]⟩
noncomputable def o812 (P : Params) : Obj := ⟨.none, none, .func ⟨(Str.ofString "context_of"), (Str.ofString "context_of"), (sArgs (stm 137)), .stmts (sBody (stm 137)), (sScope (stm 137)), 0, [], .none, .none, .none, .none, none, .none, .none, 0⟩, #[]⟩
noncomputable def o813 (P : Params) : Obj := ⟨(.type "code"), none, .fields #[(.str (Str.ofString "context_of") 1362), (.str (Str.ofString "context_of") 1363), (.str (Str.ofString "/claim/cut.py") 1364), (.int (676) 0), (.int (1) 0), (.int (0) 0), (.int (0) 0), (.int (3) 0), (.ref 808), (.bool true), (.int (181) 0), (.ref 809), .none, (.ref 810), (.ref 811), (.ref 812), (.int (1366) 0), (.int (676) 0), (.str (Str.ofString "/claim/cut.py") 1367)], #[]⟩
@[reducible] noncomputable def o814 (P : Params) : Obj := ⟨(.type "function"), none, .func ⟨(Str.ofString "context_of"), (Str.ofString "context_of"), A814, .stmts B814, S814, 3, [], .none, .none, .none, (.str (Str.ofString "postkeep.search") 1184), none, (.ref 813), .none, 0⟩, #[]⟩
noncomputable def o815 (P : Params) : Obj := ⟨(.type "tuple"), none, .seq #[] 0, #[]⟩
noncomputable def o816 (P : Params) : Obj := ⟨.none, none, .fields #[], #[]⟩
noncomputable def o817 (P : Params) : Obj := ⟨.none, none, .func ⟨(Str.ofString "search_seen"), (Str.ofString "search_seen"), (sArgs (stm 138)), .stmts (sBody (stm 138)), (sScope (stm 138)), 0, [], .none, .none, .none, .none, none, .none, .none, 0⟩, #[]⟩
noncomputable def o818 (P : Params) : Obj := ⟨(.type "code"), none, .fields #[(.str (Str.ofString "search_seen") 1369), (.str (Str.ofString "search_seen") 1370), (.str (Str.ofString "/claim/cut.py") 1371), (.int (678) 0), (.int (2) 0), (.int (0) 0), (.int (0) 0), (.int (3) 0), (.ref 815), (.bool true), (.int (181) 0), (.ref 816), .none, .none, .none, (.ref 817), (.int (1372) 0), (.int (678) 0), (.str (Str.ofString "/claim/cut.py") 1373)], #[]⟩
@[reducible] noncomputable def o819 (P : Params) : Obj := ⟨(.type "function"), none, .func ⟨(Str.ofString "search_seen"), (Str.ofString "search_seen"), A819, .stmts B819, S819, 3, [], .none, .none, .none, (.str (Str.ofString "postkeep.search") 1184), none, (.ref 818), .none, 0⟩, #[]⟩
noncomputable def o820 (P : Params) : Obj := ⟨(.type "tuple"), none, .seq #[] 0, #[]⟩
noncomputable def o821 (P : Params) : Obj := ⟨.none, none, .fields #[], #[]⟩
noncomputable def o822 (P : Params) : Obj := ⟨(.type "tuple"), none, .seq #[(.str (Str.ofString "numbers") 1378), (.str (Str.ofString "wants") 1379), (.str (Str.ofString "pairs") 1380)] 0, #[]⟩
noncomputable def o823 (P : Params) : Obj := ⟨(.type "tuple"), none, .seq #[] 0, #[]⟩
noncomputable def o824 (P : Params) : Obj := ⟨.none, none, .func ⟨(Str.ofString "esearch"), (Str.ofString "esearch"), (sArgs (stm 139)), .stmts (sBody (stm 139)), (sScope (stm 139)), 0, [], .none, .none, .none, .none, none, .none, .none, 0⟩, #[]⟩
noncomputable def o825 (P : Params) : Obj := ⟨(.type "code"), none, .fields #[(.str (Str.ofString "esearch") 1375), (.str (Str.ofString "esearch") 1376), (.str (Str.ofString "/claim/cut.py") 1377), (.int (681) 0), (.int (2) 0), (.int (0) 0), (.int (0) 0), (.int (3) 0), (.ref 820), (.bool true), (.int (181) 0), (.ref 821), .none, (.ref 822), (.ref 823), (.ref 824), (.int (1381) 0), (.int (681) 0), (.str (Str.ofString "/claim/cut.py") 1382)], #[]⟩
@[reducible] noncomputable def o826 (P : Params) : Obj := ⟨(.type "function"), none, .func ⟨(Str.ofString "esearch"), (Str.ofString "esearch"), A826, .stmts B826, S826, 3, [], .none, .none, .none, (.str (Str.ofString "postkeep.search") 1184), none, (.ref 825), .none, 0⟩, #[]⟩
noncomputable def o827 (P : Params) : Obj := ⟨(.type "tuple"), none, .seq #[] 0, #[]⟩
noncomputable def o828 (P : Params) : Obj := ⟨.none, none, .fields #[], #[]⟩
noncomputable def o829 (P : Params) : Obj := ⟨.none, none, .func ⟨(Str.ofString "met"), (Str.ofString "met"), (sArgs (stm 141)), .stmts (sBody (stm 141)), (sScope (stm 141)), 0, [], .none, .none, .none, .none, none, .none, .none, 0⟩, #[]⟩
noncomputable def o830 (P : Params) : Obj := ⟨(.type "code"), none, .fields #[(.str (Str.ofString "met") 1386), (.str (Str.ofString "met") 1387), (.str (Str.ofString "/claim/cut.py") 1388), (.int (694) 0), (.int (2) 0), (.int (0) 0), (.int (0) 0), (.int (3) 0), (.ref 827), (.bool true), (.int (181) 0), (.ref 828), .none, .none, .none, (.ref 829), (.int (1389) 0), (.int (694) 0), (.str (Str.ofString "/claim/cut.py") 1390)], #[]⟩
@[reducible] noncomputable def o831 (P : Params) : Obj := ⟨(.type "function"), none, .func ⟨(Str.ofString "met"), (Str.ofString "met"), A831, .stmts B831, S831, 3, [], .none, .none, .none, (.str (Str.ofString "postkeep.finding") 1384), none, (.ref 830), .none, 0⟩, #[]⟩
noncomputable def o832 (P : Params) : Obj := ⟨(.type "tuple"), none, .seq #[] 0, #[]⟩
noncomputable def o833 (P : Params) : Obj := ⟨.none, none, .fields #[], #[]⟩
noncomputable def o834 (P : Params) : Obj := ⟨(.type "tuple"), none, .seq #[(.str (Str.ofString "seen") 1395), (.str (Str.ofString "is_uid") 1396)] 0, #[]⟩
noncomputable def o835 (P : Params) : Obj := ⟨(.type "tuple"), none, .seq #[] 0, #[]⟩
noncomputable def o836 (P : Params) : Obj := ⟨.none, none, .func ⟨(Str.ofString "told_number"), (Str.ofString "told_number"), (sArgs (stm 142)), .stmts (sBody (stm 142)), (sScope (stm 142)), 0, [], .none, .none, .none, .none, none, .none, .none, 0⟩, #[]⟩
noncomputable def o837 (P : Params) : Obj := ⟨(.type "code"), none, .fields #[(.str (Str.ofString "told_number") 1392), (.str (Str.ofString "told_number") 1393), (.str (Str.ofString "/claim/cut.py") 1394), (.int (697) 0), (.int (2) 0), (.int (0) 0), (.int (0) 0), (.int (3) 0), (.ref 832), (.bool true), (.int (181) 0), (.ref 833), .none, (.ref 834), (.ref 835), (.ref 836), (.int (1397) 0), (.int (697) 0), (.str (Str.ofString "/claim/cut.py") 1398)], #[]⟩
@[reducible] noncomputable def o838 (P : Params) : Obj := ⟨(.type "function"), none, .func ⟨(Str.ofString "told_number"), (Str.ofString "told_number"), A838, .stmts B838, S838, 3, [], .none, .none, .none, (.str (Str.ofString "postkeep.finding") 1384), none, (.ref 837), .none, 0⟩, #[]⟩
noncomputable def o839 (P : Params) : Obj := ⟨(.type "tuple"), none, .seq #[] 0, #[]⟩
noncomputable def o840 (P : Params) : Obj := ⟨.none, none, .fields #[], #[]⟩
noncomputable def o841 (P : Params) : Obj := ⟨.none, none, .func ⟨(Str.ofString "by_uid"), (Str.ofString "by_uid"), (sArgs (stm 143)), .stmts (sBody (stm 143)), (sScope (stm 143)), 0, [], .none, .none, .none, .none, none, .none, .none, 0⟩, #[]⟩
noncomputable def o842 (P : Params) : Obj := ⟨(.type "code"), none, .fields #[(.str (Str.ofString "by_uid") 1400), (.str (Str.ofString "by_uid") 1401), (.str (Str.ofString "/claim/cut.py") 1402), (.int (699) 0), (.int (1) 0), (.int (0) 0), (.int (0) 0), (.int (3) 0), (.ref 839), (.bool true), (.int (181) 0), (.ref 840), .none, .none, .none, (.ref 841), (.int (1403) 0), (.int (699) 0), (.str (Str.ofString "/claim/cut.py") 1404)], #[]⟩
@[reducible] noncomputable def o843 (P : Params) : Obj := ⟨(.type "function"), none, .func ⟨(Str.ofString "by_uid"), (Str.ofString "by_uid"), A843, .stmts B843, S843, 3, [], .none, .none, .none, (.str (Str.ofString "postkeep.finding") 1384), none, (.ref 842), .none, 0⟩, #[]⟩
noncomputable def o844 (P : Params) : Obj := ⟨(.type "tuple"), none, .seq #[] 0, #[]⟩
noncomputable def o845 (P : Params) : Obj := ⟨.none, none, .fields #[], #[]⟩
noncomputable def o846 (P : Params) : Obj := ⟨.none, none, .func ⟨(Str.ofString "search_answer"), (Str.ofString "search_answer"), (sArgs (stm 144)), .stmts (sBody (stm 144)), (sScope (stm 144)), 0, [], .none, .none, .none, .none, none, .none, .none, 0⟩, #[]⟩
noncomputable def o847 (P : Params) : Obj := ⟨(.type "code"), none, .fields #[(.str (Str.ofString "search_answer") 1406), (.str (Str.ofString "search_answer") 1407), (.str (Str.ofString "/claim/cut.py") 1408), (.int (701) 0), (.int (5) 0), (.int (0) 0), (.int (0) 0), (.int (3) 0), (.ref 844), (.bool true), (.int (181) 0), (.ref 845), .none, .none, .none, (.ref 846), (.int (1409) 0), (.int (701) 0), (.str (Str.ofString "/claim/cut.py") 1410)], #[]⟩
@[reducible] noncomputable def o848 (P : Params) : Obj := ⟨(.type "function"), none, .func ⟨(Str.ofString "search_answer"), (Str.ofString "search_answer"), A848, .stmts B848, S848, 3, [], .none, .none, .none, (.str (Str.ofString "postkeep.finding") 1384), none, (.ref 847), .none, 0⟩, #[]⟩
noncomputable def o849 (P : Params) : Obj := ⟨(.type "tuple"), none, .seq #[(.str (Str.ofString "\\Seen") 1414), (.str (Str.ofString "\\Flagged") 1415), (.str (Str.ofString "k1") 1416)] 0, #[]⟩
noncomputable def o850 (P : Params) : Obj := ⟨(.type "tuple"), none, .seq #[(.str (Str.ofString "COUNT") 1418), (.str (Str.ofString "ALL") 1419), (.str (Str.ofString "MAX") 1420), (.str (Str.ofString "MIN") 1421)] 0, #[]⟩
noncomputable def o851 (P : Params) : Obj := ⟨(.type "tuple"), none, .seq #[] 0, #[]⟩
noncomputable def o852 (P : Params) : Obj := ⟨.none, none, .fields #[], #[]⟩
noncomputable def o853 (P : Params) : Obj := ⟨(.type "tuple"), none, .seq #[(.str (Str.ofString "source") 1426), (.str (Str.ofString "limit") 1427), (.str (Str.ofString "cells") 1428), (.str (Str.ofString "at") 1429)] 0, #[]⟩
noncomputable def o854 (P : Params) : Obj := ⟨(.type "tuple"), none, .seq #[] 0, #[]⟩
noncomputable def o855 (P : Params) : Obj := ⟨.none, none, .func ⟨(Str.ofString "_law_draw"), (Str.ofString "_law_draw"), (sArgs (stm 148)), .stmts (sBody (stm 148)), (sScope (stm 148)), 0, [], .none, .none, .none, .none, none, .none, .none, 0⟩, #[]⟩
noncomputable def o856 (P : Params) : Obj := ⟨(.type "code"), none, .fields #[(.str (Str.ofString "_law_draw") 1423), (.str (Str.ofString "_law_draw") 1424), (.str (Str.ofString "/claim/cut.py") 1425), (.int (712) 0), (.int (2) 0), (.int (0) 0), (.int (0) 0), (.int (3) 0), (.ref 851), (.bool true), (.int (181) 0), (.ref 852), .none, (.ref 853), (.ref 854), (.ref 855), (.int (1430) 0), (.int (712) 0), (.str (Str.ofString "/claim/cut.py") 1431)], #[]⟩
@[reducible] noncomputable def o857 (P : Params) : Obj := ⟨(.type "function"), none, .func ⟨(Str.ofString "_law_draw"), (Str.ofString "_law_draw"), A857, .stmts B857, S857, 3, [], .none, .none, .none, (.str (Str.ofString "law_nz0336_01") 1412), none, (.ref 856), .none, 0⟩, #[]⟩
noncomputable def o858 (P : Params) : Obj := ⟨(.type "tuple"), none, .seq #[] 0, #[]⟩
noncomputable def o859 (P : Params) : Obj := ⟨.none, none, .fields #[], #[]⟩
noncomputable def o860 (P : Params) : Obj := ⟨.none, none, .func ⟨(Str.ofString "_law_tree"), (Str.ofString "_law_tree"), (sArgs (stm 149)), .stmts (sBody (stm 149)), (sScope (stm 149)), 0, [], .none, .none, .none, .none, none, .none, .none, 0⟩, #[]⟩
noncomputable def o861 (P : Params) : Obj := ⟨(.type "code"), none, .fields #[(.str (Str.ofString "_law_tree") 1433), (.str (Str.ofString "_law_tree") 1434), (.str (Str.ofString "/claim/cut.py") 1435), (.int (717) 0), (.int (2) 0), (.int (0) 0), (.int (0) 0), (.int (3) 0), (.ref 858), (.bool true), (.int (181) 0), (.ref 859), .none, .none, .none, (.ref 860), (.int (1436) 0), (.int (717) 0), (.str (Str.ofString "/claim/cut.py") 1437)], #[]⟩
@[reducible] noncomputable def o862 (P : Params) : Obj := ⟨(.type "function"), none, .func ⟨(Str.ofString "_law_tree"), (Str.ofString "_law_tree"), A862, .stmts B862, S862, 3, [], .none, .none, .none, (.str (Str.ofString "law_nz0336_01") 1412), none, (.ref 861), .none, 0⟩, #[]⟩
noncomputable def o863 (P : Params) : Obj := ⟨(.type "tuple"), none, .seq #[] 0, #[]⟩
noncomputable def o864 (P : Params) : Obj := ⟨.none, none, .fields #[], #[]⟩
noncomputable def o865 (P : Params) : Obj := ⟨(.type "tuple"), none, .seq #[(.str (Str.ofString "some") 1442), (.str (Str.ofString "number") 1443), (.str (Str.ofString "greatest") 1444), (.str (Str.ofString "low") 1445), (.str (Str.ofString "high") 1446), (.str (Str.ofString "one") 1447), (.str (Str.ofString "other") 1448)] 0, #[]⟩
noncomputable def o866 (P : Params) : Obj := ⟨(.type "tuple"), none, .seq #[] 0, #[]⟩
noncomputable def o867 (P : Params) : Obj := ⟨.none, none, .func ⟨(Str.ofString "_law_in"), (Str.ofString "_law_in"), (sArgs (stm 150)), .stmts (sBody (stm 150)), (sScope (stm 150)), 0, [], .none, .none, .none, .none, none, .none, .none, 0⟩, #[]⟩
noncomputable def o868 (P : Params) : Obj := ⟨(.type "code"), none, .fields #[(.str (Str.ofString "_law_in") 1439), (.str (Str.ofString "_law_in") 1440), (.str (Str.ofString "/claim/cut.py") 1441), (.int (733) 0), (.int (3) 0), (.int (0) 0), (.int (0) 0), (.int (3) 0), (.ref 863), (.bool true), (.int (181) 0), (.ref 864), .none, (.ref 865), (.ref 866), (.ref 867), (.int (1449) 0), (.int (733) 0), (.str (Str.ofString "/claim/cut.py") 1450)], #[]⟩
@[reducible] noncomputable def o869 (P : Params) : Obj := ⟨(.type "function"), none, .func ⟨(Str.ofString "_law_in"), (Str.ofString "_law_in"), A869, .stmts B869, S869, 3, [], .none, .none, .none, (.str (Str.ofString "law_nz0336_01") 1412), none, (.ref 868), .none, 0⟩, #[]⟩
noncomputable def o870 (P : Params) : Obj := ⟨(.type "tuple"), none, .seq #[] 0, #[]⟩
noncomputable def o871 (P : Params) : Obj := ⟨.none, none, .fields #[], #[]⟩
noncomputable def o872 (P : Params) : Obj := ⟨(.type "tuple"), none, .seq #[(.str (Str.ofString "tree") 1455), (.str (Str.ofString "seen") 1456), (.str (Str.ofString "last") 1457), (.str (Str.ofString "kind") 1458), (.str (Str.ofString "letter") 1459)] 0, #[]⟩
noncomputable def o873 (P : Params) : Obj := ⟨(.type "tuple"), none, .seq #[] 0, #[]⟩
noncomputable def o874 (P : Params) : Obj := ⟨.none, none, .func ⟨(Str.ofString "_law_meets"), (Str.ofString "_law_meets"), (sArgs (stm 151)), .stmts (sBody (stm 151)), (sScope (stm 151)), 0, [], .none, .none, .none, .none, none, .none, .none, 0⟩, #[]⟩
noncomputable def o875 (P : Params) : Obj := ⟨(.type "code"), none, .fields #[(.str (Str.ofString "_law_meets") 1452), (.str (Str.ofString "_law_meets") 1453), (.str (Str.ofString "/claim/cut.py") 1454), (.int (740) 0), (.int (3) 0), (.int (0) 0), (.int (0) 0), (.int (3) 0), (.ref 870), (.bool true), (.int (181) 0), (.ref 871), .none, (.ref 872), (.ref 873), (.ref 874), (.int (1460) 0), (.int (740) 0), (.str (Str.ofString "/claim/cut.py") 1461)], #[]⟩
@[reducible] noncomputable def o876 (P : Params) : Obj := ⟨(.type "function"), none, .func ⟨(Str.ofString "_law_meets"), (Str.ofString "_law_meets"), A876, .stmts B876, S876, 3, [], .none, .none, .none, (.str (Str.ofString "law_nz0336_01") 1412), none, (.ref 875), .none, 0⟩, #[]⟩
noncomputable def o877 (P : Params) : Obj := ⟨(.type "tuple"), none, .seq #[] 0, #[]⟩
noncomputable def o878 (P : Params) : Obj := ⟨.none, none, .fields #[], #[]⟩
noncomputable def o879 (P : Params) : Obj := ⟨.none, none, .func ⟨(Str.ofString "_law_asks"), (Str.ofString "_law_asks"), (sArgs (stm 152)), .stmts (sBody (stm 152)), (sScope (stm 152)), 0, [], .none, .none, .none, .none, none, .none, .none, 0⟩, #[]⟩
noncomputable def o880 (P : Params) : Obj := ⟨(.type "code"), none, .fields #[(.str (Str.ofString "_law_asks") 1463), (.str (Str.ofString "_law_asks") 1464), (.str (Str.ofString "/claim/cut.py") 1465), (.int (760) 0), (.int (1) 0), (.int (0) 0), (.int (0) 0), (.int (3) 0), (.ref 877), (.bool true), (.int (181) 0), (.ref 878), .none, .none, .none, (.ref 879), (.int (1466) 0), (.int (760) 0), (.str (Str.ofString "/claim/cut.py") 1467)], #[]⟩
@[reducible] noncomputable def o881 (P : Params) : Obj := ⟨(.type "function"), none, .func ⟨(Str.ofString "_law_asks"), (Str.ofString "_law_asks"), A881, .stmts B881, S881, 3, [], .none, .none, .none, (.str (Str.ofString "law_nz0336_01") 1412), none, (.ref 880), .none, 0⟩, #[]⟩
noncomputable def o882 (P : Params) : Obj := ⟨(.type "tuple"), none, .seq #[] 0, #[]⟩
noncomputable def o883 (P : Params) : Obj := ⟨.none, none, .fields #[], #[]⟩
noncomputable def o884 (P : Params) : Obj := ⟨(.type "tuple"), none, .seq #[(.str (Str.ofString "numbers") 1472), (.str (Str.ofString "wants") 1473), (.str (Str.ofString "modseq") 1474), (.str (Str.ofString "pairs") 1475), (.str (Str.ofString "runs") 1476), (.str (Str.ofString "number") 1477)] 0, #[]⟩
noncomputable def o885 (P : Params) : Obj := ⟨(.type "tuple"), none, .seq #[] 0, #[]⟩
noncomputable def o886 (P : Params) : Obj := ⟨.none, none, .func ⟨(Str.ofString "_law_pairs"), (Str.ofString "_law_pairs"), (sArgs (stm 153)), .stmts (sBody (stm 153)), (sScope (stm 153)), 0, [], .none, .none, .none, .none, none, .none, .none, 0⟩, #[]⟩
noncomputable def o887 (P : Params) : Obj := ⟨(.type "code"), none, .fields #[(.str (Str.ofString "_law_pairs") 1469), (.str (Str.ofString "_law_pairs") 1470), (.str (Str.ofString "/claim/cut.py") 1471), (.int (762) 0), (.int (3) 0), (.int (0) 0), (.int (0) 0), (.int (3) 0), (.ref 882), (.bool true), (.int (181) 0), (.ref 883), .none, (.ref 884), (.ref 885), (.ref 886), (.int (1478) 0), (.int (762) 0), (.str (Str.ofString "/claim/cut.py") 1479)], #[]⟩
@[reducible] noncomputable def o888 (P : Params) : Obj := ⟨(.type "function"), none, .func ⟨(Str.ofString "_law_pairs"), (Str.ofString "_law_pairs"), A888, .stmts B888, S888, 3, [], .none, .none, .none, (.str (Str.ofString "law_nz0336_01") 1412), none, (.ref 887), .none, 0⟩, #[]⟩
noncomputable def o889 (P : Params) : Obj := ⟨(.type "tuple"), none, .seq #[] 0, #[]⟩
noncomputable def o890 (P : Params) : Obj := ⟨.none, none, .fields #[], #[]⟩
noncomputable def o891 (P : Params) : Obj := ⟨.none, none, .func ⟨(Str.ofString "law"), (Str.ofString "law"), (sArgs (stm 154)), .stmts (sBody (stm 154)), (sScope (stm 154)), 0, [], .none, .none, .none, .none, none, .none, .none, 0⟩, #[]⟩
noncomputable def o892 (P : Params) : Obj := ⟨(.type "code"), none, .fields #[(.str (Str.ofString "law") 1481), (.str (Str.ofString "law") 1482), (.str (Str.ofString "/claim/cut.py") 1483), (.int (779) 0), (.int (1) 0), (.int (0) 0), (.int (0) 0), (.int (3) 0), (.ref 889), (.bool true), (.int (181) 0), (.ref 890), .none, .none, .none, (.ref 891), (.int (1484) 0), (.int (779) 0), (.str (Str.ofString "/claim/cut.py") 1485)], #[]⟩
@[reducible] noncomputable def o893 (P : Params) : Obj := ⟨(.type "function"), none, .func ⟨(Str.ofString "law"), (Str.ofString "law"), A893, .stmts B893, S893, 3, [], .none, .none, .none, (.str (Str.ofString "law_nz0336_01") 1412), none, (.ref 892), .none, 0⟩, #[]⟩
noncomputable def heap155 (P : Params) : Heap := ⟨#[boot_o_0 P, boot_o_1 P, o2x16 P, o3x155 P, boot_o_4 P, boot_o_5 P, boot_o_6 P, boot_o_7 P, boot_o_8 P, boot_o_9 P, boot_o_10 P, o11 P, o12x155 P, o13 P, o14 P, o15 P, o16 P, o17 P, o18 P, o19 P, o20 P, o21 P, o22 P, o23 P, o24 P, o25 P, o26 P, o27 P, o28 P, o29 P, o30 P, o31 P, o32 P, o33 P, o34 P, o35 P, o36 P, o37 P, o38 P, o39 P, o40 P, o41 P, o42 P, o43 P, o44 P, o45 P, o46 P, o47 P, o48 P, o49 P, o50 P, o51 P, o52 P, o53 P, o54 P, o55 P, o56 P, o57 P, o58 P, o59 P, o60 P, o61 P, o62 P, o63 P, o64 P, o65 P, o66 P, o67 P, o68 P, o69 P, o70 P, o71 P, o72 P, o73 P, o74 P, o75 P, o76 P, o77 P, o78 P, o79 P, o80 P, o81 P, o82 P, o83 P, o84 P, o85 P, o86 P, o87 P, o88 P, o89 P, o90 P, o91 P, o92 P, o93 P, o94 P, o95 P, o96 P, o97 P, o98 P, o99 P, o100 P, o101 P, o102 P, o103 P, o104 P, o105 P, o106 P, o107 P, o108 P, o109 P, o110 P, o111 P, o112 P, o113 P, o114 P, o115 P, o116 P, o117 P, o118 P, o119 P, o120 P, o121 P, o122 P, o123 P, o124 P, o125 P, o126 P, o127 P, o128 P, o129 P, o130 P, o131 P, o132 P, o133 P, o134 P, o135 P, o136 P, o137 P, o138 P, o139 P, o140 P, o141 P, o142 P, o143 P, o144 P, o145 P, o146 P, o147 P, o148 P, o149 P, o150 P, o151 P, o152 P, o153 P, o154 P, o155 P, o156 P, o157 P, o158 P, o159 P, o160 P, o161 P, o162 P, o163 P, o164 P, o165 P, o166 P, o167 P, o168 P, o169 P, o170 P, o171 P, o172 P, o173 P, o174 P, o175 P, o176 P, o177 P, o178 P, o179 P, o180 P, o181 P, o182 P, o183 P, o184 P, o185 P, o186 P, o187 P, o188 P, o189 P, o190 P, o191 P, o192 P, o193 P, o194 P, o195 P, o196 P, o197 P, o198 P, o199 P, o200 P, o201 P, o202 P, o203 P, o204 P, o205 P, o206 P, o207 P, o208 P, o209 P, o210 P, o211 P, o212 P, o213 P, o214 P, o215 P, o216 P, o217 P, o218 P, o219 P, o220 P, o221 P, o222 P, o223 P, o224 P, o225 P, o226 P, o227 P, o228 P, o229 P, o230 P, o231 P, o232 P, o233 P, o234 P, o235 P, o236 P, o237 P, o238 P, o239 P, o240 P, o241 P, o242 P, o243 P, o244 P, o245 P, o246 P, o247 P, o248 P, o249 P, o250 P, o251 P, o252 P, o253 P, o254 P, o255 P, o256 P, o257 P, o258 P, o259 P, o260 P, o261 P, o262 P, o263 P, o264 P, o265 P, o266 P, o267 P, o268 P, o269 P, o270 P, o271 P, o272 P, o273 P, o274 P, o275 P, o276 P, o277 P, o278 P, o279 P, o280 P, o281 P, o282 P, o283 P, o284 P, o285 P, o286 P, o287 P, o288 P, o289 P, o290 P, o291 P, o292 P, o293 P, o294 P, o295 P, o296 P, o297 P, o298 P, o299 P, o300 P, o301 P, o302 P, o303 P, o304 P, o305 P, o306 P, o307 P, o308 P, o309 P, o310 P, o311 P, o312 P, o313 P, o314 P, o315 P, o316 P, o317 P, o318 P, o319 P, o320 P, o321 P, o322 P, o323 P, o324 P, o325 P, o326 P, o327 P, o328 P, o329 P, o330 P, o331 P, o332 P, o333 P, o334 P, o335 P, o336 P, o337 P, o338 P, o339 P, o340 P, o341 P, o342 P, o343 P, o344 P, o345 P, o346 P, o347 P, o348 P, o349 P, o350 P, o351 P, o352 P, o353 P, o354 P, o355 P, o356 P, o357 P, o358 P, o359 P, o360 P, o361 P, o362 P, o363 P, o364 P, o365 P, o366 P, o367 P, o368 P, o369 P, o370 P, o371 P, o372 P, o373 P, o374 P, o375 P, o376 P, o377 P, o378 P, o379 P, o380 P, o381 P, o382 P, o383 P, o384 P, o385 P, o386 P, o387 P, o388 P, o389 P, o390 P, o391 P, o392 P, o393 P, o394 P, o395 P, o396 P, o397 P, o398 P, o399 P, o400 P, o401 P, o402 P, o403 P, o404 P, o405 P, o406 P, o407 P, o408 P, o409 P, o410 P, o411 P, o412 P, o413 P, o414 P, o415 P, o416 P, o417 P, o418 P, o419 P, o420 P, o421 P, o422 P, o423 P, o424 P, o425 P, o426 P, o427 P, o428 P, o429 P, o430 P, o431 P, o432 P, o433 P, o434 P, o435 P, o436 P, o437 P, o438 P, o439 P, o440 P, o441 P, o442 P, o443 P, o444 P, o445 P, o446 P, o447 P, o448 P, o449 P, o450 P, o451 P, o452 P, o453 P, o454 P, o455 P, o456 P, o457 P, o458 P, o459 P, o460 P, o461 P, o462 P, o463 P, o464 P, o465 P, o466 P, o467 P, o468 P, o469 P, o470 P, o471 P, o472 P, o473 P, o474 P, o475 P, o476 P, o477 P, o478 P, o479 P, o480 P, o481 P, o482 P, o483 P, o484 P, o485 P, o486 P, o487 P, o488 P, o489 P, o490 P, o491 P, o492 P, o493 P, o494 P, o495 P, o496 P, o497 P, o498 P, o499 P, o500 P, o501 P, o502 P, o503 P, o504 P, o505 P, o506 P, o507 P, o508 P, o509 P, o510 P, o511 P, o512 P, o513 P, o514 P, o515 P, o516 P, o517 P, o518 P, o519 P, o520 P, o521 P, o522 P, o523 P, o524 P, o525 P, o526 P, o527 P, o528 P, o529 P, o530 P, o531 P, o532 P, o533 P, o534 P, o535 P, o536 P, o537 P, o538 P, o539 P, o540 P, o541 P, o542 P, o543 P, o544 P, o545 P, o546 P, o547 P, o548 P, o549 P, o550 P, o551 P, o552 P, o553 P, o554 P, o555 P, o556 P, o557 P, o558 P, o559 P, o560 P, o561 P, o562 P, o563 P, o564 P, o565 P, o566 P, o567 P, o568 P, o569 P, o570 P, o571 P, o572 P, o573 P, o574 P, o575 P, o576 P, o577 P, o578 P, o579 P, o580 P, o581 P, o582 P, o583 P, o584 P, o585 P, o586 P, o587 P, o588 P, o589 P, o590 P, o591 P, o592 P, o593 P, o594 P, o595 P, o596 P, o597 P, o598 P, o599 P, o600 P, o601 P, o602 P, o603 P, o604 P, o605 P, o606 P, o607 P, o608 P, o609 P, o610 P, o611 P, o612 P, o613 P, o614 P, o615 P, o616 P, o617 P, o618 P, o619 P, o620 P, o621 P, o622 P, o623 P, o624 P, o625 P, o626 P, o627 P, o628 P, o629 P, o630 P, o631 P, o632 P, o633 P, o634 P, o635 P, o636 P, o637 P, o638 P, o639 P, o640 P, o641 P, o642 P, o643 P, o644 P, o645 P, o646 P, o647 P, o648 P, o649 P, o650 P, o651 P, o652 P, o653 P, o654 P, o655 P, o656 P, o657 P, o658 P, o659 P, o660 P, o661 P, o662 P, o663 P, o664 P, o665 P, o666 P, o667 P, o668 P, o669 P, o670 P, o671 P, o672 P, o673 P, o674 P, o675 P, o676 P, o677 P, o678 P, o679 P, o680 P, o681 P, o682 P, o683 P, o684 P, o685 P, o686 P, o687 P, o688 P, o689 P, o690 P, o691 P, o692 P, o693 P, o694 P, o695 P, o696 P, o697 P, o698 P, o699 P, o700 P, o701 P, o702 P, o703 P, o704 P, o705 P, o706 P, o707 P, o708 P, o709 P, o710 P, o711 P, o712 P, o713 P, o714 P, o715 P, o716 P, o717 P, o718 P, o719 P, o720 P, o721 P, o722 P, o723 P, o724 P, o725 P, o726 P, o727 P, o728 P, o729 P, o730 P, o731 P, o732 P, o733 P, o734 P, o735 P, o736 P, o737 P, o738 P, o739 P, o740 P, o741 P, o742 P, o743 P, o744 P, o745 P, o746 P, o747 P, o748 P, o749 P, o750 P, o751 P, o752 P, o753 P, o754 P, o755 P, o756 P, o757 P, o758 P, o759 P, o760 P, o761 P, o762 P, o763 P, o764 P, o765 P, o766 P, o767 P, o768 P, o769 P, o770 P, o771 P, o772 P, o773 P, o774 P, o775 P, o776 P, o777 P, o778 P, o779 P, o780 P, o781 P, o782 P, o783 P, o784 P, o785 P, o786 P, o787 P, o788 P, o789 P, o790 P, o791 P, o792 P, o793 P, o794 P, o795 P, o796 P, o797 P, o798 P, o799 P, o800 P, o801 P, o802 P, o803 P, o804 P, o805 P, o806 P, o807 P, o808 P, o809 P, o810 P, o811 P, o812 P, o813 P, o814 P, o815 P, o816 P, o817 P, o818 P, o819 P, o820 P, o821 P, o822 P, o823 P, o824 P, o825 P, o826 P, o827 P, o828 P, o829 P, o830 P, o831 P, o832 P, o833 P, o834 P, o835 P, o836 P, o837 P, o838 P, o839 P, o840 P, o841 P, o842 P, o843 P, o844 P, o845 P, o846 P, o847 P, o848 P, o849 P, o850 P, o851 P, o852 P, o853 P, o854 P, o855 P, o856 P, o857 P, o858 P, o859 P, o860 P, o861 P, o862 P, o863 P, o864 P, o865 P, o866 P, o867 P, o868 P, o869 P, o870 P, o871 P, o872 P, o873 P, o874 P, o875 P, o876 P, o877 P, o878 P, o879 P, o880 P, o881 P, o882 P, o883 P, o884 P, o885 P, o886 P, o887 P, o888 P, o889 P, o890 P, o891 P, o892 P, o893 P], {}⟩
noncomputable abbrev st155 (w : World) (os : OsState) : Shared := ⟨heap155 w.params, #[], {}, 1487, os⟩
noncomputable abbrev pos155 : Pos := ⟨779, 0, 807, 15⟩
noncomputable def Kc : Params → Frag := fun P => (nat_lit 3, o3x155 P) :: (nat_lit 4, boot_o_4 P) :: (nat_lit 20, o20 P) :: (nat_lit 21, o21 P) :: (nat_lit 27, o27 P) :: (nat_lit 28, o28 P) :: (nat_lit 32, o32 P) :: (nat_lit 33, o33 P) :: (nat_lit 39, o39 P) :: (nat_lit 40, o40 P) :: (nat_lit 110, o110 P) :: (nat_lit 111, o111 P) :: (nat_lit 117, o117 P) :: (nat_lit 118, o118 P) :: (nat_lit 124, o124 P) :: (nat_lit 125, o125 P) :: (nat_lit 138, o138 P) :: (nat_lit 139, o139 P) :: (nat_lit 145, o145 P) :: (nat_lit 146, o146 P) :: (nat_lit 155, o155 P) :: (nat_lit 156, o156 P) :: (nat_lit 606, o606 P) :: (nat_lit 607, o607 P) :: (nat_lit 613, o613 P) :: (nat_lit 614, o614 P) :: (nat_lit 620, o620 P) :: (nat_lit 621, o621 P) :: (nat_lit 693, o693 P) :: (nat_lit 694, o694 P) :: (nat_lit 696, o696 P) :: (nat_lit 697, o697 P) :: (nat_lit 785, o785 P) :: (nat_lit 786, o786 P) :: (nat_lit 792, o792 P) :: (nat_lit 793, o793 P) :: (nat_lit 799, o799 P) :: (nat_lit 800, o800 P) :: (nat_lit 806, o806 P) :: (nat_lit 807, o807 P) :: (nat_lit 813, o813 P) :: (nat_lit 814, o814 P) :: (nat_lit 818, o818 P) :: (nat_lit 819, o819 P) :: (nat_lit 825, o825 P) :: (nat_lit 826, o826 P) :: (nat_lit 830, o830 P) :: (nat_lit 831, o831 P) :: (nat_lit 837, o837 P) :: (nat_lit 838, o838 P) :: (nat_lit 842, o842 P) :: (nat_lit 843, o843 P) :: (nat_lit 847, o847 P) :: (nat_lit 848, o848 P) :: (nat_lit 849, o849 P) :: (nat_lit 850, o850 P) :: (nat_lit 856, o856 P) :: (nat_lit 857, o857 P) :: (nat_lit 861, o861 P) :: (nat_lit 862, o862 P) :: (nat_lit 868, o868 P) :: (nat_lit 869, o869 P) :: (nat_lit 875, o875 P) :: (nat_lit 876, o876 P) :: (nat_lit 880, o880 P) :: (nat_lit 881, o881 P) :: (nat_lit 887, o887 P) :: (nat_lit 888, o888 P) :: (nat_lit 892, o892 P) :: (nat_lit 893, o893 P) :: []
noncomputable def Kas : List Addr := nat_lit 3 :: nat_lit 4 :: nat_lit 20 :: nat_lit 21 :: nat_lit 27 :: nat_lit 28 :: nat_lit 32 :: nat_lit 33 :: nat_lit 39 :: nat_lit 40 :: nat_lit 110 :: nat_lit 111 :: nat_lit 117 :: nat_lit 118 :: nat_lit 124 :: nat_lit 125 :: nat_lit 138 :: nat_lit 139 :: nat_lit 145 :: nat_lit 146 :: nat_lit 155 :: nat_lit 156 :: nat_lit 606 :: nat_lit 607 :: nat_lit 613 :: nat_lit 614 :: nat_lit 620 :: nat_lit 621 :: nat_lit 693 :: nat_lit 694 :: nat_lit 696 :: nat_lit 697 :: nat_lit 785 :: nat_lit 786 :: nat_lit 792 :: nat_lit 793 :: nat_lit 799 :: nat_lit 800 :: nat_lit 806 :: nat_lit 807 :: nat_lit 813 :: nat_lit 814 :: nat_lit 818 :: nat_lit 819 :: nat_lit 825 :: nat_lit 826 :: nat_lit 830 :: nat_lit 831 :: nat_lit 837 :: nat_lit 838 :: nat_lit 842 :: nat_lit 843 :: nat_lit 847 :: nat_lit 848 :: nat_lit 849 :: nat_lit 850 :: nat_lit 856 :: nat_lit 857 :: nat_lit 861 :: nat_lit 862 :: nat_lit 868 :: nat_lit 869 :: nat_lit 875 :: nat_lit 876 :: nat_lit 880 :: nat_lit 881 :: nat_lit 887 :: nat_lit 888 :: nat_lit 892 :: nat_lit 893 :: []
noncomputable def looseN : List Str := [Str.ofString "row_of", Str.ofString "leaves_of", Str.ofString "has_kind", Str.ofString "decide", Str.ofString "PostError", Str.ofString "WordFault", Str.ofString "MimeFault", Str.ofString "StoreFault", Str.ofString "SYSTEM", Str.ofString "NO_KEYWORD", Str.ofString "MOST_KEYWORD", Str.ofString "system_flags", Str.ofString "is_keyword", Str.ofString "flag_name", Str.ofString "Letter", Str.ofString "lower_code", Str.ofString "lower_text", Str.ofString "ASCII", Str.ofString "LATIN", Str.ofString "UTF8", Str.ofString "CHARSETS", Str.ofString "UNKNOWN_SIGN", Str.ofString "charset_names", Str.ofString "charset_name", Str.ofString "need_charset", Str.ofString "follower_span", Str.ofString "utf8_sign", Str.ofString "sign_at", Str.ofString "text_in", Str.ofString "strict_text", Str.ofString "guessed_text", Str.ofString "MOST_DEPTH_tokens", Str.ofString "SIGNS_tokens", Str.ofString "ATOM_SIGNS", Str.ofString "NEVER_ESCAPED", Str.ofString "is_atom_code", Str.ofString "line_end", Str.ofString "inside_at", Str.ofString "closed_at", Str.ofString "comment_at", Str.ofString "atom_at", Str.ofString "token_at", Str.ofString "past_white", Str.ofString "tokens_of", Str.ofString "without_comments", Str.ofString "MONTHS", Str.ofString "DAYS", Str.ofString "MOST_YEAR", Str.ofString "DAY_SECONDS", Str.ofString "FIRST_DAY", Str.ofString "Moment", Str.ofString "is_leap", Str.ofString "month_length", Str.ofString "days_before_year", Str.ofString "day_told", Str.ofString "is_day", Str.ofString "is_time", Str.ofString "day_of", Str.ofString "month_number", Str.ofString "is_day_name", Str.ofString "is_figures", Str.ofString "zone_in", Str.ofString "named_zone", Str.ofString "DateReader", Str.ofString "full_year", Str.ofString "read_clock", Str.ofString "read_zone", Str.ofString "read_date", Str.ofString "line_at", Str.ofString "rows_of", Str.ofString "unfolded", Str.ofString "first_body", Str.ofString "SIGNS_base64", Str.ofString "PAD", Str.ofString "worth_table", Str.ofString "group_octets", Str.ofString "decoded", Str.ofString "EQUALS", Str.ofString "BLANK", Str.ofString "RETURN", Str.ofString "UNDERLINE", Str.ofString "hex_worth", Str.ofString "quoted_at", Str.ofString "line_parts", Str.ofString "unquoted", Str.ofString "quoted_decoded", Str.ofString "word_q_decoded", Str.ofString "undone", Str.ofString "body_octets", Str.ofString "body_text", Str.ofString "ends_of", Str.ofString "ranges_of", Str.ofString "has", Str.ofString "WHITE", Str.ofString "OPENING", Str.ofString "CLOSING", Str.ofString "WAYS", Str.ofString "is_word_sign", Str.ofString "part_end", Str.ofString "word_parts", Str.ofString "is_apart", Str.ofString "plain_text", Str.ofString "word_at", Str.ofString "pieces_of", Str.ofString "all_white", Str.ofString "decoded_words", Str.ofString "MOST_DEPTH_search", Str.ofString "Seen", Str.ofString "is_within", Str.ofString "field_text", Str.ofString "field_line", Str.ofString "header_holds", Str.ofString "head_holds", Str.ofString "inner_holds", Str.ofString "texts_hold", Str.ofString "look_holds", Str.ofString "day_holds", Str.ofString "sent_day", Str.ofString "sent_holds", Str.ofString "number_holds", Str.ofString "simple_holds", Str.ofString "leaf_holds", Str.ofString "matches", Str.ofString "context_of", Str.ofString "search_seen", Str.ofString "esearch", Str.ofString "met", Str.ofString "told_number", Str.ofString "by_uid", Str.ofString "search_answer", Str.ofString "_law_FLAGS", Str.ofString "_law_WANTS", Str.ofString "_law_draw", Str.ofString "_law_tree", Str.ofString "_law_in", Str.ofString "_law_meets", Str.ofString "_law_asks", Str.ofString "_law_pairs"]
noncomputable abbrev rw0 : OpenLaw := PySem.Challenge.rw_nz0336_01
noncomputable abbrev rrL : OpenRow := PySem.Challenge.rw_nz0336_01.row
theorem and_ok {a b : Bool} (x : a = true) (y : b = true) : (a && b) = true := by rw [x, y]; rfl
theorem looks_open : looksOpen rrL.prog = true := by
  unfold looksOpen
  refine and_ok (and_ok (and_ok (and_ok (and_ok ?_ ?_) ?_) ?_) ?_) ?_
  · decide +kernel
  · decide +kernel
  · decide +kernel
  · decide +kernel
  · decide +kernel
  · decide +kernel
theorem part_said (lo : looksOpen rrL.prog = true) : rrL.partSaid = true := by
  unfold OpenRow.partSaid
  refine and_ok (and_ok (and_ok (and_ok (and_ok (and_ok (and_ok (and_ok (and_ok (and_ok (and_ok (and_ok (and_ok lo ?_) ?_) ?_) ?_) ?_) ?_) ?_) ?_) ?_) ?_) ?_) ?_) ?_
  all_goals decide +kernel
noncomputable def boundL : List Str := [Str.ofString "__name__", Str.ofString "row_of", Str.ofString "leaves_of", Str.ofString "has_kind", Str.ofString "decide", Str.ofString "PostError", Str.ofString "WordFault", Str.ofString "MimeFault", Str.ofString "StoreFault", Str.ofString "SYSTEM", Str.ofString "NO_KEYWORD", Str.ofString "MOST_KEYWORD", Str.ofString "system_flags", Str.ofString "is_keyword", Str.ofString "flag_name", Str.ofString "Letter", Str.ofString "lower_code", Str.ofString "lower_text", Str.ofString "ASCII", Str.ofString "LATIN", Str.ofString "UTF8", Str.ofString "CHARSETS", Str.ofString "UNKNOWN_SIGN", Str.ofString "charset_names", Str.ofString "charset_name", Str.ofString "need_charset", Str.ofString "follower_span", Str.ofString "utf8_sign", Str.ofString "sign_at", Str.ofString "text_in", Str.ofString "strict_text", Str.ofString "guessed_text", Str.ofString "MOST_DEPTH_tokens", Str.ofString "SIGNS_tokens", Str.ofString "ATOM_SIGNS", Str.ofString "NEVER_ESCAPED", Str.ofString "is_atom_code", Str.ofString "line_end", Str.ofString "inside_at", Str.ofString "closed_at", Str.ofString "comment_at", Str.ofString "atom_at", Str.ofString "token_at", Str.ofString "past_white", Str.ofString "tokens_of", Str.ofString "without_comments", Str.ofString "MONTHS", Str.ofString "DAYS", Str.ofString "MOST_YEAR", Str.ofString "DAY_SECONDS", Str.ofString "FIRST_DAY", Str.ofString "Moment", Str.ofString "is_leap", Str.ofString "month_length", Str.ofString "days_before_year", Str.ofString "day_told", Str.ofString "is_day", Str.ofString "is_time", Str.ofString "day_of", Str.ofString "month_number", Str.ofString "is_day_name", Str.ofString "is_figures", Str.ofString "zone_in", Str.ofString "named_zone", Str.ofString "DateReader", Str.ofString "full_year", Str.ofString "read_clock", Str.ofString "read_zone", Str.ofString "read_date", Str.ofString "line_at", Str.ofString "rows_of", Str.ofString "unfolded", Str.ofString "first_body", Str.ofString "SIGNS_base64", Str.ofString "PAD", Str.ofString "worth_table", Str.ofString "group_octets", Str.ofString "decoded", Str.ofString "EQUALS", Str.ofString "BLANK", Str.ofString "RETURN", Str.ofString "UNDERLINE", Str.ofString "hex_worth", Str.ofString "quoted_at", Str.ofString "line_parts", Str.ofString "unquoted", Str.ofString "quoted_decoded", Str.ofString "word_q_decoded", Str.ofString "undone", Str.ofString "body_octets", Str.ofString "body_text", Str.ofString "ends_of", Str.ofString "ranges_of", Str.ofString "has", Str.ofString "WHITE", Str.ofString "OPENING", Str.ofString "CLOSING", Str.ofString "WAYS", Str.ofString "is_word_sign", Str.ofString "part_end", Str.ofString "word_parts", Str.ofString "is_apart", Str.ofString "plain_text", Str.ofString "word_at", Str.ofString "pieces_of", Str.ofString "all_white", Str.ofString "decoded_words", Str.ofString "MOST_DEPTH_search", Str.ofString "Seen", Str.ofString "is_within", Str.ofString "field_text", Str.ofString "field_line", Str.ofString "header_holds", Str.ofString "head_holds", Str.ofString "inner_holds", Str.ofString "texts_hold", Str.ofString "look_holds", Str.ofString "day_holds", Str.ofString "sent_day", Str.ofString "sent_holds", Str.ofString "number_holds", Str.ofString "simple_holds", Str.ofString "leaf_holds", Str.ofString "matches", Str.ofString "context_of", Str.ofString "search_seen", Str.ofString "esearch", Str.ofString "met", Str.ofString "told_number", Str.ofString "by_uid", Str.ofString "search_answer"]
theorem bound_eq : rw0.bound' = boundL := by kernel_rfl
theorem foot_ok : noRoadLSs { strict := true, foot := some rw0.bound', writes := rw0.writes, may := rw0.may } rw0.footing = true := by
  rw [bound_eq]
  decide +kernel
theorem row_ok : rrL.wellSaid = true := by
  unfold OpenRow.wellSaid
  exact and_ok (and_ok (part_said looks_open) (by decide +kernel)) (by decide +kernel)
theorem law_ok : rw0.wellSaid = true := by
  unfold OpenLaw.wellSaid
  refine and_ok (and_ok (and_ok (and_ok (and_ok (and_ok (and_ok (and_ok (and_ok (and_ok (and_ok (and_ok (and_ok (and_ok (and_ok (and_ok (and_ok (and_ok row_ok ?_) ?_) ?_) ?_) ?_) ?_) ?_) ?_) ?_) ?_) ?_) ?_) ?_) ?_) ?_) ?_) ?_) ?_
  · decide +kernel
  · decide +kernel
  · decide +kernel
  · decide +kernel
  · decide +kernel
  · exact foot_ok
  · decide +kernel
  · decide +kernel
  · decide +kernel
  · decide +kernel
  · decide +kernel
  · decide +kernel
  · decide +kernel
  · decide +kernel
  · decide +kernel
  · decide +kernel
  · decide +kernel
  · decide +kernel
/-! the run of the top, in five pieces -/
noncomputable abbrev bE : List Stmt := behindTheImports pw
noncomputable abbrev env0 : Env := { scope := pw.main.scope, locals := mainNs, globals := mainNs, cells := [], code := .ref 13, frame := some 14 }
noncomputable abbrev cE : Code := .body bE env0
noncomputable abbrev q0 : Pos := ⟨0, 0, 0, 0⟩
noncomputable abbrev ann0 : Option Value := some (.ref 6)
noncomputable abbrev boot (w : World) (os : OsState) : Shared := ⟨boot_heap w.params, Array.mk [], boot_drawn, boot_toks, os⟩
noncomputable abbrev l1 : List Stmt := bE.take 16
noncomputable abbrev r1 : List Stmt := bE.drop 16
noncomputable abbrev l2 : List Stmt := r1.take 36
noncomputable abbrev r2 : List Stmt := r1.drop 36
noncomputable abbrev l3 : List Stmt := r2.take 21
noncomputable abbrev r3 : List Stmt := r2.drop 21
noncomputable abbrev l4 : List Stmt := r3.take 39
noncomputable abbrev r4 : List Stmt := r3.drop 39
theorem pre0 (w : World) (os : OsState) : topGo treeTable pw w 11 ann0 12 (boot w os) (topStub pw) = some (st0 w os, ⟨denote treeTable cE, cE, pos0, [topFrame q0]⟩) := by kernel_rfl
theorem block0 (w : World) (os : OsState) : segRun treeTable pw w 11 ann0 1 1 (st0 w os) (blockOf bE env0 cE pos0 [topFrame q0]) = some (.next, st0 w os, cE, pos0) := by kernel_rfl
theorem piece1 (w : World) (os : OsState) : segRun treeTable pw w 11 ann0 1 1140 (st0 w os) (piecesOf l1 env0 cE pos0 [topFrame q0]) = some (.next, st16 w os, cE, pos16) := by kernel_rfl
theorem piece2 (w : World) (os : OsState) : segRun treeTable pw w 11 ann0 1 1111 (st16 w os) (piecesOf l2 env0 cE pos16 [topFrame q0]) = some (.next, st52 w os, cE, pos52) := by kernel_rfl
theorem piece3 (w : World) (os : OsState) : segRun treeTable pw w 11 ann0 1 1126 (st52 w os) (piecesOf l3 env0 cE pos52 [topFrame q0]) = some (.next, st73 w os, cE, pos73) := by kernel_rfl
theorem piece4 (w : World) (os : OsState) : segRun treeTable pw w 11 ann0 1 867 (st73 w os) (piecesOf l4 env0 cE pos73 [topFrame q0]) = some (.next, st112 w os, cE, pos112) := by kernel_rfl
theorem piece5 (w : World) (os : OsState) : segRun treeTable pw w 11 ann0 1 1378 (st112 w os) (piecesOf r4 env0 cE pos112 [topFrame q0]) = some (.next, st155 w os, cE, pos155) := by kernel_rfl
theorem fin0 (w : World) (os : OsState) : topRun treeTable pw w 11 ann0 2 (st155 w os) ⟨doneF .next, cE, pos155, [topFrame q0]⟩ = some (st155 w os) := by kernel_rfl
theorem run0 (w : World) (os : OsState) : topRun treeTable pw w 11 ann0 (12 + (1 + (1140 + (1111 + (1126 + (867 + (1378 + 2))))))) (boot w os) (topStub pw) = some (st155 w os) := by
  refine go_top (pre0 w os) (piece_block (block0 w os) ?_)
  have e : restOf bE env0 cE pos0 [topFrame q0] = restOf (l1 ++ (l2 ++ (l3 ++ (l4 ++ (r4 ++ []))))) env0 cE pos0 [topFrame q0] := by
    have : bE = l1 ++ (l2 ++ (l3 ++ (l4 ++ (r4 ++ [])))) := by
      rw [List.append_nil, List.take_append_drop, List.take_append_drop, List.take_append_drop, List.take_append_drop]
    exact congrArg (fun l => restOf l env0 cE pos0 [topFrame q0]) this
  rw [e]
  exact piece_app (piece1 w os) (piece_app (piece2 w os) (piece_app (piece3 w os) (piece_app (piece4 w os) (piece_app (piece5 w os) (piece_nil (fin0 w os))))))
theorem open0 : ∀ w : World, (fencedOpening treeTable pw w 5700).map (fun s => (s.heap, s.gens, s.drawn, s.toks)) = some (boot_heap w.params, Array.mk [], boot_drawn, boot_toks) :=
  boot_open (by kernel_rfl) (by decide) (fun s => by kernel_rfl)
theorem size0 (w : World) : ((boot_heap w.params).isNs mainGlobals && (Array.mk [] : Array GenState).size == 0, (boot_heap w.params).objs.size, (boot_heap w.params).nsMap mainGlobals "__annotations__") = (true, 11, ann0) := by kernel_rfl

noncomputable abbrev rr : OpenRow := PySem.Challenge.rw_nz0336_01.row
noncomputable def qv : Program := view pw [154]
noncomputable abbrev stF (w : World) (os : OsState) : Shared := st155 w os
noncomputable abbrev Xt0 : Shared → Bool := fun s => xlAt qv [] s && recOk (RowW.records rr.toRowW) s
theorem kas_eq : ∀ P : Params, Kas = (Kc P).map (·.1) := fun P => by kernel_rfl
noncomputable abbrev HK : Hook := kmHook Kc Kas kas_eq [802]
theorem lk1 (w : World) : (fun os => (staticsOk (importedModules pw.main.body) (boot_heap w.params) (heap155 w.params) && namesBound pw (heap155 w.params) && gensDone (stF w os) && laidKept (boot_heap w.params) (heap155 w.params))) = fun _ => true := by kernel_rfl
theorem lk3 (w : World) : (fun os => HK.obs (stF w os)) = fun _ => HK.val w := by kernel_rfl
theorem a1 (w : World) : (fun os => (seen ((recsOf qv).map (·.name)) (ownsOf qv) [] { (stF w os) with gens := #[] })) = fun _ => expectedOf qv := by kernel_rfl
theorem a2 (w : World) : (heap155 w.params).bltView = bltViewBooted := by kernel_rfl
theorem a3 (w : World) : (fun os => ((stF w os).heap.keysOk (looseW qv looseN) ((recsOf qv).map (·.name)) ((litsOf qv).map (·.1)) ((clssOf qv (looseW qv looseN)).map (·.name)) && (stF w os).heap.accountedOkI (importedModules pw.main.body) && (stF w os).heap.isNs mainGlobals && (stF w os).heap.isNs builtinsNs && tablesOk qv (stF w os).heap && Xt0 (stF w os) && (if true then (stF w os).gens.size == 0 else !leftWithCleanup (stF w os).gens))) = fun _ => true := by kernel_rfl
theorem a4 (w : World) : (fun os => tabsOk qv (stF w os)) = fun _ => true := by kernel_rfl
theorem a5 (w : World) : (fun os => pinSeenD qv (drecsOf qv) (stF w os)) = fun _ => pinGoodD (drecsOf qv) := by kernel_rfl
theorem a6 (w : World) : (fun os => plainSeenE qv (looseW qv looseN) (stF w os)) = fun _ => plainGoodE qv (looseW qv looseN) := by kernel_rfl
theorem a7 (w : World) : (fun os => plainSeenD qv looseN (stF w os)) = fun _ => plainGoodD qv looseN := by kernel_rfl
theorem a8 (w : World) : (fun os => wideSeen qv (stF w os)) = fun _ => wideGood qv := by kernel_rfl
theorem a9 (w : World) : (fun os => clsSeenW qv looseN (stF w os)) = fun _ => clsGoodW qv looseN := by kernel_rfl
theorem left0 : LeftO pw qv looseN Xt0 (Hook.obs HK) (Hook.val HK) 5700 := by
  refine LeftO.of_pieces (H₁ := heap155) (gs₁ := #[]) (d₁ := {}) (k₁ := 1487) open0 size0 run0 (by decide) fun w => ?_
  funext os
  refine looks_pair (congrFun (lk1 w) os) (looks_pair ?_ (congrFun (lk3 w) os))
  exact looks_pair (congrFun (a1 w) os) (looks_pair (a2 w) (looks_pair (congrFun (a3 w) os) (looks_pair (congrFun (a4 w) os) (looks_pair (congrFun (a5 w) os) (looks_pair (congrFun (a6 w) os) (looks_pair (congrFun (a7 w) os) (looks_pair (congrFun (a8 w) os) (congrFun (a9 w) os))))))))
noncomputable abbrev dL : DefRec := { name := Str.ofString "law", params := A893, body := B893, scope := S893, pos := ⟨779, 0, 807, 15⟩ }
theorem hd (hw : PySem.Challenge.rw_nz0336_01.row.toRowW.promised) (call : WalkO qv looseN (XL qv []) (Hook.says (kmHook Kc Kas kas_eq [802])) PySem.Challenge.rw_nz0336_01.row.toRowW dL [] fun f vs => PySem.call f vs) : PySem.Challenge.rw_nz0336_01.Holds :=
  holds_law law_ok fun said => holds_open (Xt := Xt0) left0 (Hook.of HK) (Hook.keeps HK) (fun s e => xl_of s (Bool.and_eq_true_iff.mp e).1) XL.keeps (by kernel_rfl) (by kernel_rfl) (by kernel_rfl) (fun s e => recFacts_of (Bool.and_eq_true_iff.mp e).2) (by first | rfl | fail "no")
    said (by decide +kernel) ⟨rfl, rfl, rfl, rfl, rfl, by decide +kernel⟩ hw call
set_option maxRecDepth 100000
set_option maxHeartbeats 4000000
inductive An2 (p0 p1 : Prop) : Prop
  | mk (h0 : p0) (h1 : p1) : An2 p0 p1
inductive An3 (p0 p1 p2 : Prop) : Prop
  | mk (h0 : p0) (h1 : p1) (h2 : p2) : An3 p0 p1 p2
inductive An4 (p0 p1 p2 p3 : Prop) : Prop
  | mk (h0 : p0) (h1 : p1) (h2 : p2) (h3 : p3) : An4 p0 p1 p2 p3
inductive An5 (p0 p1 p2 p3 p4 : Prop) : Prop
  | mk (h0 : p0) (h1 : p1) (h2 : p2) (h3 : p3) (h4 : p4) : An5 p0 p1 p2 p3 p4
inductive An6 (p0 p1 p2 p3 p4 p5 : Prop) : Prop
  | mk (h0 : p0) (h1 : p1) (h2 : p2) (h3 : p3) (h4 : p4) (h5 : p5) : An6 p0 p1 p2 p3 p4 p5
inductive An7 (p0 p1 p2 p3 p4 p5 p6 : Prop) : Prop
  | mk (h0 : p0) (h1 : p1) (h2 : p2) (h3 : p3) (h4 : p4) (h5 : p5) (h6 : p6) : An7 p0 p1 p2 p3 p4 p5 p6
inductive An10 (p0 p1 p2 p3 p4 p5 p6 p7 p8 p9 : Prop) : Prop
  | mk (h0 : p0) (h1 : p1) (h2 : p2) (h3 : p3) (h4 : p4) (h5 : p5) (h6 : p6) (h7 : p7) (h8 : p8) (h9 : p9) : An10 p0 p1 p2 p3 p4 p5 p6 p7 p8 p9
inductive An15 (p0 p1 p2 p3 p4 p5 p6 p7 p8 p9 p10 p11 p12 p13 p14 : Prop) : Prop
  | mk (h0 : p0) (h1 : p1) (h2 : p2) (h3 : p3) (h4 : p4) (h5 : p5) (h6 : p6) (h7 : p7) (h8 : p8) (h9 : p9) (h10 : p10) (h11 : p11) (h12 : p12) (h13 : p13) (h14 : p14) : An15 p0 p1 p2 p3 p4 p5 p6 p7 p8 p9 p10 p11 p12 p13 p14
inductive Ex1 {α0 : Type} (p : α0 → Prop) : Prop
  | mk (a0 : α0) (h : p a0) : Ex1 p
inductive Ex2 {α0 α1 : Type} (p : α0 → α1 → Prop) : Prop
  | mk (a0 : α0) (a1 : α1) (h : p a0 a1) : Ex2 p
inductive Ex3 {α0 α1 α2 : Type} (p : α0 → α1 → α2 → Prop) : Prop
  | mk (a0 : α0) (a1 : α1) (a2 : α2) (h : p a0 a1 a2) : Ex3 p
inductive Ex4 {α0 α1 α2 α3 : Type} (p : α0 → α1 → α2 → α3 → Prop) : Prop
  | mk (a0 : α0) (a1 : α1) (a2 : α2) (a3 : α3) (h : p a0 a1 a2 a3) : Ex4 p
inductive Ex5 {α0 α1 α2 α3 α4 : Type} (p : α0 → α1 → α2 → α3 → α4 → Prop) : Prop
  | mk (a0 : α0) (a1 : α1) (a2 : α2) (a3 : α3) (a4 : α4) (h : p a0 a1 a2 a3 a4) : Ex5 p
inductive Ex6 {α0 α1 α2 α3 α4 α5 : Type} (p : α0 → α1 → α2 → α3 → α4 → α5 → Prop) : Prop
  | mk (a0 : α0) (a1 : α1) (a2 : α2) (a3 : α3) (a4 : α4) (a5 : α5) (h : p a0 a1 a2 a3 a4 a5) : Ex6 p
inductive Ex7 {α0 α1 α2 α3 α4 α5 α6 : Type} (p : α0 → α1 → α2 → α3 → α4 → α5 → α6 → Prop) : Prop
  | mk (a0 : α0) (a1 : α1) (a2 : α2) (a3 : α3) (a4 : α4) (a5 : α5) (a6 : α6) (h : p a0 a1 a2 a3 a4 a5 a6) : Ex7 p
inductive Ex8 {α0 α1 α2 α3 α4 α5 α6 α7 : Type} (p : α0 → α1 → α2 → α3 → α4 → α5 → α6 → α7 → Prop) : Prop
  | mk (a0 : α0) (a1 : α1) (a2 : α2) (a3 : α3) (a4 : α4) (a5 : α5) (a6 : α6) (a7 : α7) (h : p a0 a1 a2 a3 a4 a5 a6 a7) : Ex8 p
inductive Ex10 {α0 α1 α2 α3 α4 α5 α6 α7 α8 α9 : Type} (p : α0 → α1 → α2 → α3 → α4 → α5 → α6 → α7 → α8 → α9 → Prop) : Prop
  | mk (a0 : α0) (a1 : α1) (a2 : α2) (a3 : α3) (a4 : α4) (a5 : α5) (a6 : α6) (a7 : α7) (a8 : α8) (a9 : α9) (h : p a0 a1 a2 a3 a4 a5 a6 a7 a8 a9) : Ex10 p
inductive Ex11 {α0 α1 α2 α3 α4 α5 α6 α7 α8 α9 α10 : Type} (p : α0 → α1 → α2 → α3 → α4 → α5 → α6 → α7 → α8 → α9 → α10 → Prop) : Prop
  | mk (a0 : α0) (a1 : α1) (a2 : α2) (a3 : α3) (a4 : α4) (a5 : α5) (a6 : α6) (a7 : α7) (a8 : α8) (a9 : α9) (a10 : α10) (h : p a0 a1 a2 a3 a4 a5 a6 a7 a8 a9 a10) : Ex11 p
inductive Ex15 {α0 α1 α2 α3 α4 α5 α6 α7 α8 α9 α10 α11 α12 α13 α14 : Type} (p : α0 → α1 → α2 → α3 → α4 → α5 → α6 → α7 → α8 → α9 → α10 → α11 → α12 → α13 → α14 → Prop) : Prop
  | mk (a0 : α0) (a1 : α1) (a2 : α2) (a3 : α3) (a4 : α4) (a5 : α5) (a6 : α6) (a7 : α7) (a8 : α8) (a9 : α9) (a10 : α10) (a11 : α11) (a12 : α12) (a13 : α13) (a14 : α14) (h : p a0 a1 a2 a3 a4 a5 a6 a7 a8 a9 a10 a11 a12 a13 a14) : Ex15 p
noncomputable abbrev Led := List (Addr × Obj)
noncomputable abbrev tup (vs : List Value) (n : Nat) : Obj := { cls := .type "tuple", data := .seq vs.toArray n }
theorem news_sub {h₀ h : Heap} {L : Addr} {a b : Led} (N : News h₀ L h a) (s : ∀ p ∈ b, p ∈ a) : News h₀ L h b := fun p hp => N p (s p hp)

/-- f, called with values that stand as Pre says over the ledger, comes back, the ledger longer, as Post says -/
noncomputable def Gives (w : World) (f : Addr) (need : Nat) (Pre : Led → List Value → Prop) (Post : Led → Value → Prop) : Prop :=
  ∀ (prog : Program) (loose : List Str) (mean : ExcName → Option Value) (mg mb : Str → Option Value) (dp un : Nat) (gd : Option (List Code)) (cn : Str) (cs : Scope) (a : Addr) (ccd : Value) (cl : List (Str × Addr)) (outer : List Env) (A₀ : Around) (base h₀ : Heap) (L : Addr) (m : Str → Option Value) (news : Led) (s : Shared) (vs : List Value)
    (Q E : Value → Shared → Prop),
    Below A₀ base outer h₀ → Fr h₀ L s.heap m → (Kc w.params).In h₀ → News h₀ L s.heap news → Top topProg loose mean mg mb h₀ → cs.kind = .function →
    dp + need < recursionLimit → un + 8 * need < cLine → Pre news vs →
    (∀ r tl h' tk', Fr h₀ L h' m → News h₀ L h' (news ++ tl) → (∀ q ∈ news, ∀ p ∈ tl, q.1 ≠ p.1) → Post (news ++ tl) r → Q r { s with heap := h', toks := tk' }) →
    wpAny (model prog w) (ktrTop dp un gd cn cs L a ccd cl outer) (call (.ref f) vs) Q E s

/-- a def that draws: its source stands at the ledger's head -/
noncomputable def Draws (w : World) (f : Addr) (need : Nat) (most : Int) (c : Addr) (Pre : Led → List Value → Prop) (Post : Led → Value → Prop) : Prop :=
  ∀ (prog : Program) (loose : List Str) (mean : ExcName → Option Value) (mg mb : Str → Option Value) (dp un : Nat) (gd : Option (List Code)) (cn : Str) (cs : Scope) (a : Addr) (ccd : Value) (cl : List (Str × Addr)) (outer : List Env) (A₀ : Around) (base h₀ : Heap) (L : Addr) (m : Str → Option Value) (news : Led) (s : Shared) (S : Addr) (at_ : Int) (ta : Tok) (k : Nat) (vs : List Value)
    (Q E : Value → Shared → Prop),
    Below A₀ base outer h₀ → Fr h₀ L s.heap m → (Kc w.params).In h₀ → News h₀ L s.heap ((S, listOf #[.ref c, .int at_ ta] k) :: news) → (∀ p ∈ news, p.1 ≠ S) → Top topProg loose mean mg mb h₀ → cs.kind = .function →
    dp + need < recursionLimit → un + 8 * need < cLine → 0 ≤ at_ → at_ + most < 10000 → Pre news vs →
    (∀ r tl h' tk' at' ta' k', Fr h₀ L h' m → News h₀ L h' ((S, listOf #[.ref c, .int at' ta'] k') :: (news ++ tl)) → (∀ q ∈ (S, listOf #[.ref c, .int at_ ta] k) :: news, ∀ p ∈ tl, q.1 ≠ p.1) → at_ ≤ at' → at' ≤ at_ + most → Post (news ++ tl) r → Q r { s with heap := h', toks := tk' }) →
    wpAny (model prog w) (ktrTop dp un gd cn cs L a ccd cl outer) (call (.ref f) (.ref S :: vs)) Q E s

section
variable {prog : Program} {w : World} {A : Around} {E : Value → Shared → Prop} {s : Shared} {h₀ : Heap} {L : Addr} {news : Led}
theorem my_lenL {c : Addr} {vs : List Value} {n : Nat} {Q : Value → Shared → Prop} (N : News h₀ L s.heap news) (hm : (c, listOf vs.toArray n) ∈ news) (hz : vs.length ≤ 16384)
    (h : Q (.int (vs.length : Int) (s.toks + 1)) { s with toks := s.toks + 1 + 1 }) : wpAny (model prog w) A (call (.builtin "len") [.ref c]) Q E s := by
  have hl : s.heap.IsList c vs.toArray := ⟨_, (N _ hm).1, rfl, _, rfl⟩
  have e : vs.toArray.size = vs.length := by simp
  exact kun_lenL hl (by rw [e]) (by omega) h
theorem Gives.use {f : Addr} {need : Nat} {Pre : Led → List Value → Prop} {Post : Led → Value → Prop} {dp un : Nat} {gd : Option (List Code)} {cn : Str} {cs : Scope} {a : Addr} {ccd : Value} {cl : List (Str × Addr)} {outer : List Env} {A₀ : Around} {base : Heap} {m : Str → Option Value} {vs : List Value} {loose : List Str} {mean : ExcName → Option Value} {mg mb : Str → Option Value} {Q : Value → Shared → Prop}
    (C : Gives w f need Pre Post) (B : Below A₀ base outer h₀) (F : Fr h₀ L s.heap m) (X : (Kc w.params).In h₀) (N : News h₀ L s.heap news) (T : Top topProg loose mean mg mb h₀) (hk : cs.kind = .function)
    (hd : dp + need < recursionLimit) (hu : un + 8 * need < cLine) (hp : Pre news vs)
    (ret : ∀ r tl h' tk', Fr h₀ L h' m → News h₀ L h' (news ++ tl) → (∀ q ∈ news, ∀ p ∈ tl, q.1 ≠ p.1) → Post (news ++ tl) r → Q r { s with heap := h', toks := tk' }) :
    wpAny (model prog w) (ktrTop dp un gd cn cs L a ccd cl outer) (call (.ref f) vs) Q E s := C _ _ _ _ _ _ _ _ _ _ _ _ _ _ _ _ _ _ _ _ _ _ _ _ B F X N T hk hd hu hp ret
theorem Draws.use {f : Addr} {need : Nat} {most : Int} {c S : Addr} {at_ : Int} {ta : Tok} {k : Nat} {all : Led} {g : Obj → Led} {Pre : Led → List Value → Prop} {Post : Led → Value → Prop} {dp un : Nat} {gd : Option (List Code)} {cn : Str} {cs : Scope} {a : Addr} {ccd : Value} {cl : List (Str × Addr)} {outer : List Env} {A₀ : Around} {base : Heap} {m : Str → Option Value} {vs : List Value} {loose : List Str} {mean : ExcName → Option Value} {mg mb : Str → Option Value} {Q : Value → Shared → Prop}
    (C : Draws w f need most c Pre Post) (B : Below A₀ base outer h₀) (F : Fr h₀ L s.heap m) (X : (Kc w.params).In h₀) (N : News h₀ L s.heap all) (U : UpdF S (listOf #[.ref c, .int at_ ta] k) all g) (T : Top topProg loose mean mg mb h₀) (hk : cs.kind = .function)
    (hd : dp + need < recursionLimit) (hu : un + 8 * need < cLine) (h0 : 0 ≤ at_) (h1 : at_ + most < 10000) (hp : ∀ nx, (∀ p ∈ all, p.1 ≠ S → p ∈ nx) → Pre nx vs)
    (ret : ∀ r tl h' tk' at' ta' k', Fr h₀ L h' m → News h₀ L h' (g (listOf #[.ref c, .int at' ta'] k') ++ tl) → (∀ q ∈ all, ∀ p ∈ tl, q.1 ≠ p.1) → at_ ≤ at' → at' ≤ at_ + most → (Ex1 fun nx => An2 (Post (nx ++ tl) r) (∀ p ∈ nx, p ∈ all ∧ p.1 ≠ S)) → Q r { s with heap := h', toks := tk' }) :
    wpAny (model prog w) (ktrTop dp un gd cn cs L a ccd cl outer) (call (.ref f) (.ref S :: vs)) Q E s := by
  obtain ⟨pre, post, rfl, hg, h2, h3⟩ := U.split
  refine C _ _ _ _ _ _ _ _ _ _ _ _ _ _ _ _ _ _ _ (pre ++ post) _ S at_ ta k _ _ _ B F X (news_sub N fun p hp => ?_) (fun p hp => ?_) T hk hd hu h0 h1 (hp _ fun p hp hne => ?_) fun r tl h' tk' at' ta' k' F' N' ho ha hb hP => ?_
  · rcases List.mem_cons.mp hp with rfl | hp
    · exact List.mem_append.mpr (.inr (.head _))
    · exact (List.mem_append.mp hp).elim (fun q => List.mem_append.mpr (.inl q)) fun q => List.mem_append.mpr (.inr (.tail _ q))
  · exact (List.mem_append.mp hp).elim (h2 p) (h3 p)
  · rcases List.mem_append.mp hp with q | q
    · exact List.mem_append.mpr (.inl q)
    · rcases List.mem_cons.mp q with rfl | q
      · exact absurd rfl hne
      · exact List.mem_append.mpr (.inr q)
  · refine ret r tl h' tk' at' ta' k' F' (news_sub N' fun p hp => ?_) (fun q hq p hp => ho q ?_ p hp) ha hb ⟨_, hP, fun p hp => ?_⟩
    · rw [hg] at hp
      simp only [List.mem_append, List.mem_cons] at hp ⊢
      rcases hp with (h | h | h) | h <;> simp [h]
    · simp only [List.mem_append, List.mem_cons] at hq ⊢
      rcases hq with h | h | h <;> simp [h]
    · rcases List.mem_append.mp hp with q | q
      · exact ⟨List.mem_append.mpr (.inl q), h2 p q⟩
      · exact ⟨List.mem_append.mpr (.inr (.tail _ q)), h3 p q⟩
end

/-- an empty tail -/
theorem tl0 {h₀ h : Heap} {L : Addr} {news : Led} (N : News h₀ L h news) : News h₀ L h (news ++ []) := by rw [List.append_nil]; exact N
theorem ord0 {news : Led} : ∀ q ∈ news, ∀ p ∈ ([] : Led), q.1 ≠ p.1 := fun _ _ _ h => nomatch h
theorem ordNe {news tl : Led} (h : ∀ q ∈ news, ∀ p ∈ tl, q.1 < p.1) : ∀ q ∈ news, ∀ p ∈ tl, q.1 ≠ p.1 := fun q hq p hp => Nat.ne_of_lt (h q hq p hp)
theorem lt_of_all {d : Addr} {l : Led} (h : AllLt d l) {p : Addr × Obj} (hp : p ∈ l) : p.1 < d := ktn_ltOf h p hp
/-- the walk stops here -/
noncomputable def Halt (P : Prop) : Prop := P
theorem Halt.mk {P : Prop} (h : Halt P) : P := h
theorem Halt.go {P : Prop} (h : P) : Halt P := h
/-! a ledger within a ledger -/
theorem mem_l {x : Addr × Obj} {a b : Led} (h : x ∈ a) : x ∈ a ++ b := List.mem_append.mpr (.inl h)
theorem mem_r {x : Addr × Obj} {a b : Led} (h : x ∈ b) : x ∈ a ++ b := List.mem_append.mpr (.inr h)
theorem subRefl {a : Led} : ∀ p ∈ a, p ∈ a := fun _ h => h
theorem subNil {a : Led} : ∀ p ∈ ([] : Led), p ∈ a := fun _ h => nomatch h
theorem subTail {x : Addr × Obj} {a b : Led} (h : ∀ p ∈ a, p ∈ b) : ∀ p ∈ a, p ∈ x :: b := fun p hp => .tail _ (h p hp)
theorem subCons {x : Addr × Obj} {a b : Led} (h : x ∈ b) (t : ∀ p ∈ a, p ∈ b) : ∀ p ∈ x :: a, p ∈ b := fun p hp => by
  rcases List.mem_cons.mp hp with rfl | hp
  · exact h
  · exact t p hp
theorem subBoth {x : Addr × Obj} {a b : Led} (h : ∀ p ∈ a, p ∈ b) : ∀ p ∈ x :: a, p ∈ x :: b := subCons (.head _) (subTail h)
theorem subApp {a b c : Led} (h : ∀ p ∈ a, p ∈ c) (t : ∀ p ∈ b, p ∈ c) : ∀ p ∈ a ++ b, p ∈ c := fun p hp => (List.mem_append.mp hp).elim (h p) (t p)
theorem subL {a b c : Led} (h : ∀ p ∈ a, p ∈ b) : ∀ p ∈ a, p ∈ b ++ c := fun p hp => mem_l (h p hp)
theorem subR {a b c : Led} (h : ∀ p ∈ a, p ∈ c) : ∀ p ∈ a, p ∈ b ++ c := fun p hp => mem_r (h p hp)
theorem subAppB {n a b : Led} (h : ∀ p ∈ a, p ∈ b) : ∀ p ∈ n ++ a, p ∈ n ++ b := subApp (subL subRefl) (subR h)
/-! a long part of the goal under a name of its own: the proof's terms stay small -/
theorem opQ {α : Type} {M : Model} {A : Around} {T : Sem α} {Q : α → Shared → Prop} {E : Value → Shared → Prop} {s : Shared} (h : ∀ q : α → Shared → Prop, (∀ a s', Q a s' → q a s') → wpAny M A T q E s) : wpAny M A T Q E s := h Q fun _ _ x => x
theorem opBack {α : Type} {Q q : α → Shared → Prop} {a : α} {s : Shared} (h : ∀ a s', Q a s' → q a s') (x : Q a s) : q a s := h a s x
theorem room3 {x a b k c : Nat} (h : x + k < c) (e : a + b ≤ k) : x + a + b < c := Nat.lt_of_le_of_lt (by rw [Nat.add_assoc]; exact Nat.add_le_add_left e x) h
/-! a contract called: the premises that the walk's facts close stand last -/
section
variable {prog : Program} {w : World} {E : Value → Shared → Prop} {s : Shared} {h₀ : Heap} {L : Addr} {news : Led}
theorem Gives.go {Post : Led → Value → Prop} {f : Addr} {need : Nat} {Pre : Led → List Value → Prop} {dp un : Nat} {gd : Option (List Code)} {cn : Str} {cs : Scope} {a : Addr} {ccd : Value} {cl : List (Str × Addr)} {outer : List Env} {A₀ : Around} {base : Heap} {m : Str → Option Value} {vs : List Value} {loose : List Str} {mean : ExcName → Option Value} {mg mb : Str → Option Value} {Q : Value → Shared → Prop}
    (C : Gives w f need Pre Post) (hp : Pre news vs) (ret : ∀ r tl h' tk', Fr h₀ L h' m → News h₀ L h' (news ++ tl) → (∀ q ∈ news, ∀ p ∈ tl, q.1 ≠ p.1) → Post (news ++ tl) r → Q r { s with heap := h', toks := tk' })
    (B : Below A₀ base outer h₀ := by k_asm) (F : Fr h₀ L s.heap m := by k_asm) (X : (Kc w.params).In h₀ := by k_asm) (N : News h₀ L s.heap news := by k_asm) (T : Top topProg loose mean mg mb h₀ := by k_asm) (hk : cs.kind = .function := by first | rfl | assumption)
    (hd : dp + need < recursionLimit := by walk_at "my_room") (hu : un + 8 * need < cLine := by walk_at "my_room") : wpAny (model prog w) (ktrTop dp un gd cn cs L a ccd cl outer) (call (.ref f) vs) Q E s := Gives.use C B F X N T hk hd hu hp ret
theorem Gives.goE {v : Value} {f : Addr} {need : Nat} {Pre : Led → List Value → Prop} {dp un : Nat} {gd : Option (List Code)} {cn : Str} {cs : Scope} {a : Addr} {ccd : Value} {cl : List (Str × Addr)} {outer : List Env} {A₀ : Around} {base : Heap} {m : Str → Option Value} {vs : List Value} {loose : List Str} {mean : ExcName → Option Value} {mg mb : Str → Option Value} {Q : Value → Shared → Prop}
    (C : Gives w f need Pre (fun _ r => r = v)) (hp : Pre news vs) (ret : ∀ tl h' tk', Fr h₀ L h' m → News h₀ L h' (news ++ tl) → (∀ q ∈ news, ∀ p ∈ tl, q.1 ≠ p.1) → Q v { s with heap := h', toks := tk' })
    (B : Below A₀ base outer h₀ := by k_asm) (F : Fr h₀ L s.heap m := by k_asm) (X : (Kc w.params).In h₀ := by k_asm) (N : News h₀ L s.heap news := by k_asm) (T : Top topProg loose mean mg mb h₀ := by k_asm) (hk : cs.kind = .function := by first | rfl | assumption)
    (hd : dp + need < recursionLimit := by walk_at "my_room") (hu : un + 8 * need < cLine := by walk_at "my_room") : wpAny (model prog w) (ktrTop dp un gd cn cs L a ccd cl outer) (call (.ref f) vs) Q E s := Gives.use C B F X N T hk hd hu hp fun r tl h' tk' F' N' hl e => by subst e; exact ret tl h' tk' F' N' hl
theorem Gives.goT {v : Tok → Value} {f : Addr} {need : Nat} {Pre : Led → List Value → Prop} {dp un : Nat} {gd : Option (List Code)} {cn : Str} {cs : Scope} {a : Addr} {ccd : Value} {cl : List (Str × Addr)} {outer : List Env} {A₀ : Around} {base : Heap} {m : Str → Option Value} {vs : List Value} {loose : List Str} {mean : ExcName → Option Value} {mg mb : Str → Option Value} {Q : Value → Shared → Prop}
    (C : Gives w f need Pre (fun _ r => ∃ t, r = v t)) (hp : Pre news vs) (ret : ∀ t tl h' tk', Fr h₀ L h' m → News h₀ L h' (news ++ tl) → (∀ q ∈ news, ∀ p ∈ tl, q.1 ≠ p.1) → Q (v t) { s with heap := h', toks := tk' })
    (B : Below A₀ base outer h₀ := by k_asm) (F : Fr h₀ L s.heap m := by k_asm) (X : (Kc w.params).In h₀ := by k_asm) (N : News h₀ L s.heap news := by k_asm) (T : Top topProg loose mean mg mb h₀ := by k_asm) (hk : cs.kind = .function := by first | rfl | assumption)
    (hd : dp + need < recursionLimit := by walk_at "my_room") (hu : un + 8 * need < cLine := by walk_at "my_room") : wpAny (model prog w) (ktrTop dp un gd cn cs L a ccd cl outer) (call (.ref f) vs) Q E s := Gives.use C B F X N T hk hd hu hp fun r tl h' tk' F' N' hl e => by obtain ⟨t, e⟩ := e; subst e; exact ret t tl h' tk' F' N' hl
theorem Gives.goL {P : Led → List Value → Prop} {f : Addr} {need : Nat} {Pre : Led → List Value → Prop} {dp un : Nat} {gd : Option (List Code)} {cn : Str} {cs : Scope} {a : Addr} {ccd : Value} {cl : List (Str × Addr)} {outer : List Env} {A₀ : Around} {base : Heap} {m : Str → Option Value} {vs : List Value} {loose : List Str} {mean : ExcName → Option Value} {mg mb : Str → Option Value} {Q : Value → Shared → Prop}
    (C : Gives w f need Pre (fun nw r => Ex3 fun q ws k => An3 (r = .ref q) ((q, listOf ws.toArray k) ∈ nw) (P nw ws))) (hp : Pre news vs) (ret : ∀ q ws k tl h' tk', Fr h₀ L h' m → News h₀ L h' (news ++ tl) → (∀ q ∈ news, ∀ p ∈ tl, q.1 ≠ p.1) → (q, listOf ws.toArray k) ∈ news ++ tl → P (news ++ tl) ws → Q (.ref q) { s with heap := h', toks := tk' })
    (B : Below A₀ base outer h₀ := by k_asm) (F : Fr h₀ L s.heap m := by k_asm) (X : (Kc w.params).In h₀ := by k_asm) (N : News h₀ L s.heap news := by k_asm) (T : Top topProg loose mean mg mb h₀ := by k_asm) (hk : cs.kind = .function := by first | rfl | assumption)
    (hd : dp + need < recursionLimit := by walk_at "my_room") (hu : un + 8 * need < cLine := by walk_at "my_room") : wpAny (model prog w) (ktrTop dp un gd cn cs L a ccd cl outer) (call (.ref f) vs) Q E s := Gives.use C B F X N T hk hd hu hp fun r tl h' tk' F' N' hl e => by obtain ⟨q, ws, k, e, h1, h2⟩ := e; subst e; exact ret q ws k tl h' tk' F' N' hl h1 h2
theorem Gives.goP {x y : Int} {f : Addr} {need : Nat} {Pre : Led → List Value → Prop} {dp un : Nat} {gd : Option (List Code)} {cn : Str} {cs : Scope} {a : Addr} {ccd : Value} {cl : List (Str × Addr)} {outer : List Env} {A₀ : Around} {base : Heap} {m : Str → Option Value} {vs : List Value} {loose : List Str} {mean : ExcName → Option Value} {mg mb : Str → Option Value} {Q : Value → Shared → Prop}
    (C : Gives w f need Pre (fun nw r => Ex4 fun q t u n => An2 (r = .ref q) ((q, tup [.int x t, .int y u] n) ∈ nw))) (hp : Pre news vs) (ret : ∀ q t u n tl h' tk', Fr h₀ L h' m → News h₀ L h' (news ++ tl) → (∀ q ∈ news, ∀ p ∈ tl, q.1 ≠ p.1) → (q, tup [.int x t, .int y u] n) ∈ news ++ tl → Q (.ref q) { s with heap := h', toks := tk' })
    (B : Below A₀ base outer h₀ := by k_asm) (F : Fr h₀ L s.heap m := by k_asm) (X : (Kc w.params).In h₀ := by k_asm) (N : News h₀ L s.heap news := by k_asm) (T : Top topProg loose mean mg mb h₀ := by k_asm) (hk : cs.kind = .function := by first | rfl | assumption)
    (hd : dp + need < recursionLimit := by walk_at "my_room") (hu : un + 8 * need < cLine := by walk_at "my_room") : wpAny (model prog w) (ktrTop dp un gd cn cs L a ccd cl outer) (call (.ref f) vs) Q E s := Gives.use C B F X N T hk hd hu hp fun r tl h' tk' F' N' hl e => by obtain ⟨q, t, u, n, e, h1⟩ := e; subst e; exact ret q t u n tl h' tk' F' N' hl h1
end
/-! a def entered: the premises in the order in which the walk closes them -/
section
variable {prog : Program} {w : World} {A A₀ : Around} {s : Shared} {K : Frag} {L : Addr} {h₀ base : Heap} {m mg mb : Str → Option Value} {news : Led} {p : Program} {loose : List Str} {mean : ExcName → Option Value}
theorem enter {env : Env} {outer : List Env} {R : Result → Shared → Prop} {name qual : Str} {params : Arguments} {body : List Stmt} {scope : Scope} {dV kV doc pm cdv ct oc : Value} {an od : Option Addr} {osl : Array (Option Value)} {f : Addr} {args : Args} {binds : List (Str × Value)}
    (hA : A.frames = some (env :: outer)) (hf : env.frame = some L) (hke : env.scope.kind = .function) (B : Below A₀ base outer h₀) (F : Fr h₀ L s.heap m) (X₀ : K.In h₀) (N : News h₀ L s.heap news) (T : Top p loose mean mg mb h₀)
    (ho : K.lookup f = some ⟨oc, od, .func (fnOf name qual params body scope dV kV doc pm an cdv ct), osl⟩) (hcd : codeIn K cdv qual = true) (hroom : A.depth < recursionLimit)
    (hbind : BindsTo s (fnOf name qual params body scope dV kV doc pm an cdv ct) args binds) (hcell : ∀ x ∈ scope.names, x.2 ≠ .cell) (hloc : ∀ y ∈ binds, scope.names.lookup y.1 = some .local)
    (hs : (scope.isCoroutine, scope.isGenerator, scope.kind) = (false, false, .function))
    (h : ∀ g L' h₁, Fr h₀ L g m → Fr g L' h₁ (fun y => binds.reverse.lookup y) → News g L' h₁ news → Below A base (env :: outer) g → K.In g → Top p loose mean mg mb g →
      wpAny (model prog w) (A.deeper (envOf qual scope L' f cdv)) (execs body (envOf qual scope L' f cdv))
        (fun fl s' => LeaveK h₀ L m g R (match fl with | .ret v => v | _ => .none) s')
        (fun e s' => wpAny (model prog w) (A.deeper (envOf qual scope L' f cdv)) (leaving (envOf qual scope L' f cdv) e) (fun _ s'' => R (.error e) s'') (fun e' s'' => R (.error e') s'') s')
        { s with heap := h₁, toks := s.toks + binds.length }) : codeAny (model prog w) A (.call (.ref f) args) R s :=
  code_def B F X₀ N T hA hf hke ho hcd hroom hbind hloc h (congrArg Prod.fst hs) (congrArg (fun x => x.2.1) hs) (congrArg (fun x => x.2.2) hs) hcell
theorem enterC {env : Env} {outer : List Env} {R : Result → Shared → Prop} {name qual : Str} {params : Arguments} {body : List Stmt} {scope : Scope} {dV kV doc pm cdv ct oc : Value} {an od : Option Addr} {osl : Array (Option Value)} {f : Addr} {args : Args} {binds : List (Str × Value)}
    (hA : A.frames = some (env :: outer)) (hf : env.frame = some L) (hke : env.scope.kind = .function) (B : Below A₀ base outer h₀) (F : Fr h₀ L s.heap m) (X₀ : K.In h₀) (N : News h₀ L s.heap news) (T : Top p loose mean mg mb h₀)
    (ho : K.lookup f = some ⟨oc, od, .func (fnOf name qual params body scope dV kV doc pm an cdv ct), osl⟩) (hcd : codeIn K cdv qual = true) (hroom : A.depth < recursionLimit)
    (hbind : BindsTo s (fnOf name qual params body scope dV kV doc pm an cdv ct) args binds) (hkind : (binds.all fun y => scope.names.lookup y.1 == some .local || scope.names.lookup y.1 == some .cell) = true)
    (hnd : ((cellsFrom 0 scope.names []).map (·.1)).Nodup) (hs : (scope.isCoroutine, scope.isGenerator, scope.kind) = (false, false, .function))
    (h : ∀ g L' h₁ tk cells, Fr h₀ L g m → Fr g L' h₁ (bindL (envOfC qual scope L' f cdv).kindOf binds fun _ => none) → News g L' h₁ (cells ++ news) →
      CellsAre (bindC (envOfC qual scope L' f cdv).kindOf binds fun _ => none) (cellsFrom (L' + 1) scope.names []) cells → Below A base (env :: outer) g → K.In g → Top p loose mean mg mb g → (∀ p ∈ news, p.1 < L') →
      wpAny (model prog w) (A.deeper (envOfC qual scope L' f cdv)) (execs body (envOfC qual scope L' f cdv))
        (fun fl s' => LeaveK h₀ L m g R (match fl with | .ret v => v | _ => .none) s')
        (fun e s' => wpAny (model prog w) (A.deeper (envOfC qual scope L' f cdv)) (leaving (envOfC qual scope L' f cdv) e) (fun _ s'' => R (.error e) s'') (fun e' s'' => R (.error e') s'') s')
        { s with heap := h₁, toks := tk }) : codeAny (model prog w) A (.call (.ref f) args) R s :=
  code_defC B F X₀ N T hA hf hke ho hcd hroom hbind hkind hnd h (congrArg Prod.fst hs) (congrArg (fun x => x.2.1) hs) (congrArg (fun x => x.2.2) hs)
end
/-- a def left: what its caller goes on with -/
theorem leaveQ {h₀ g : Heap} {L L' : Addr} {m m' : Str → Option Value} {news' : Led} {Q E : Value → Shared → Prop} {v : Value} {s' : Shared} (F' : Fr g L' s'.heap m') (N' : News g L' s'.heap news') (k : Fr h₀ L s'.heap m → News h₀ L s'.heap news' → Q v s') :
    LeaveK h₀ L m g (fun r s' => match r with | .ok (.ret v) => Q v s' | .ok _ => False | .error e => E e s') v s' := leaveK_ F' N' k
theorem room2 {x a k c : Nat} (h : x + k < c) (e : a ≤ k) : x + a < c := Nat.lt_of_le_of_lt (Nat.add_le_add_left e x) h
theorem room1 {x k c : Nat} (h : x + k < c) : x < c := Nat.lt_of_le_of_lt (Nat.le_add_right x k) h
/-! loops over what the ledger bears -/
section
variable {prog : Program} {w : World} {A : Around} {E : Value → Shared → Prop} {s : Shared} {env : Env} {h₀ : Heap} {target : PySem.Expr} {body : List Stmt} {Q : Flow → Shared → Prop}
noncomputable def TurnPost (h₀ : Heap) (L : Addr) (I : Addr) (oI : Obj) (Jn : (Str → Option Value) → Led → Prop) (s₁ : Shared) (Q : Flow → Shared → Prop) (f : Flow) (s' : Shared) : Prop :=
  match f with
  | .ret v => Q (.ret v) s'
  | .brk => Q .next s'
  | _ => Ex4 fun h' tk m' nx => An5 (s' = { s₁ with heap := h', toks := tk }) (Fr h₀ L h' m') (News h₀ L h' ((I, oI) :: nx)) ((∀ p ∈ nx, p.1 ≠ I)) (Jn m' nx)
section
variable {L I : Addr} {oI : Obj} {Jn : (Str → Option Value) → Led → Prop} {s₁ s' : Shared}
theorem TurnPost.ret {v : Value} (h : Q (.ret v) s') : TurnPost h₀ L I oI Jn s₁ Q (.ret v) s' := h
theorem TurnPost.brk (h : Q .next s') : TurnPost h₀ L I oI Jn s₁ Q .brk s' := h
theorem TurnPost.next {h' : Heap} {tk : Nat} {m' : Str → Option Value} {all : Led} (F : Fr h₀ L h' m') (N : News h₀ L h' all) (nx : Led) (hs : ∀ p ∈ (I, oI) :: nx, p ∈ all) (hI : ∀ p ∈ nx, p.1 ≠ I) (hJ : Jn m' nx) :
    TurnPost h₀ L I oI Jn s₁ Q .next { s₁ with heap := h', toks := tk } := ⟨h', tk, m', nx, rfl, F, news_sub N hs, hI, hJ⟩
end

theorem turns_of {I : Addr} {rest : List Addr} {ob : Addr → Obj} {n : Nat} {P : Nat → Value → Prop} {St : Nat → Heap → Prop} {m : Str → Option Value} {news : Led} {s₂ : Shared} (W : Walks prog w A I (I :: rest) [I] n P St)
    (hgo : ∀ i v (s' : Shared) (Q' : Unit → Shared → Prop) (E' : Value → Shared → Prop), St i s'.heap → Q' () s' → wpAny (model prog w) A (letOwnedTupleGo target (.ref I) v) Q' E' s')
    (hob : ∀ i h, St i h → ∃ o, h.get? I = some o) (hL : env.locals ∉ I :: rest) (hI : h₀.get? I = none) (hnI : ∀ p ∈ news, p.1 ≠ I) (hst : St 0 s₂.heap)
    (F : Fr h₀ env.locals s₂.heap m) (N : News h₀ env.locals s₂.heap news) (J : Nat → (Str → Option Value) → Led → Prop) (h0 : J 0 m news) (hJ : ∀ i m nx, J i m nx → ∀ b ∈ rest, (b, ob b) ∈ nx)
    (turn : ∀ i v m₁ nx h tk oI, i < n → P i v → J i m₁ nx → (∀ p ∈ nx, p.1 ≠ I) → Fr h₀ env.locals h m₁ → News h₀ env.locals h ((I, oI) :: nx) →
      wpAny (model prog w) A (assign target env v) (fun _ s₃ => wpAny (model prog w) A (execs body env) (TurnPost h₀ env.locals I oI (J (i + 1)) { s₂ with heap := h, toks := tk } Q) E s₃) E { s₂ with heap := h, toks := tk })
    (done : ∀ m' nx h tk, J n m' nx → Fr h₀ env.locals h m' → News h₀ env.locals h nx → Q .next { s₂ with heap := h, toks := tk }) :
    TurnsAt prog w A h₀ env target body Q E (.ref I) s₂ := by
  refine ⟨I, I :: rest, [I], n, _, _, St, m, news, J, rfl, KTurns.ofWalks W hgo, hL, ?_, ?_, hst, F, N, h0, ?_, ?_⟩
  · intro b hb
    rw [List.mem_singleton.mp hb]; exact hI
  · intro p hp hb
    exact hnI p hp (List.mem_singleton.mp hb)
  · intro i v m₁ nx h tk own hi hP hJi hnx hof hown hmem hst' F₁ N₁
    obtain ⟨oI, hoI⟩ := hob _ _ hst'
    have hIo : (I, oI) ∈ own := hmem I (.head _) hI oI hoI
    have hnx' : ∀ p ∈ nx, p.1 ≠ I := fun p hp e => hnx p hp (by rw [e]; exact .head _)
    refine wpAny_mono (turn i v m₁ nx h tk oI hi hP hJi hnx' F₁ (news_sub N₁ fun p hp => ?_)) (fun _ s₃ h₃ => wpAny_mono h₃ (fun f s₄ h₄ => ?_) fun _ _ e => e) fun _ _ e => e
    · rcases List.mem_cons.mp hp with rfl | hp
      · exact List.mem_append.mpr (.inl hIo)
      · exact List.mem_append.mpr (.inr hp)
    · have go : (Ex4 fun h' tk' m' nx' => An5 (s₄ = { s₂ with heap := h', toks := tk' }) (Fr h₀ env.locals h' m') (News h₀ env.locals h' ((I, oI) :: nx')) ((∀ p ∈ nx', p.1 ≠ I)) (J (i + 1) m' nx')) →
          LoopStepU h₀ env.locals [I] own (J (i + 1)) { s₂ with heap := h, toks := tk } .next s₄ := by
        rintro ⟨h', tk', m', nx', rfl, F', N', hne, hJ'⟩
        refine ⟨rfl, h', tk', m', nx', rfl, F', fun p hp => ?_, fun p hp hb => hne p hp (List.mem_singleton.mp hb), hJ'⟩
        rcases List.mem_append.mp hp with hp | hp
        · rcases List.mem_cons.mp (hof p hp) with e | hb
          · have q := hown p hp
            rw [e, hoI] at q
            have : p = (I, oI) := Prod.ext e (Option.some.inj q).symm
            rw [this]
            exact N' _ (.head _)
          · have z := N' _ (List.mem_cons_of_mem _ (hJ _ _ _ hJ' p.1 hb))
            have z0 := N₁ _ (List.mem_append.mpr (.inr (hJ _ _ _ hJi p.1 hb)))
            have q := hown p hp
            rw [z0.1] at q
            have : p = (p.1, ob p.1) := Prod.ext rfl (Option.some.inj q).symm
            rw [this]
            exact z
        · exact N' _ (List.mem_cons_of_mem _ hp)
      cases f with
      | ret v => exact h₄
      | brk => exact h₄
      | next => exact go h₄
      | cont => exact go h₄
  · intro h' tk m' nx F' N' _ hJn
    exact done m' nx h' tk hJn F' N'

/-- a for over a list or a tuple that the ledger bears -/
theorem iter_seq {ax : Addr} {o : Obj} {its : List Value} {k : Nat} {m : Str → Option Value} {news : Led} (hh : A.handled = none) (hm : (ax, o) ∈ news) (ho : o = listOf its.toArray k ∨ o = tup its k)
    (F : Fr h₀ env.locals s.heap m) (N : News h₀ env.locals s.heap news) (J : Nat → (Str → Option Value) → Led → Prop) (h0 : J 0 m news) (hJ : ∀ i m nx, J i m nx → (ax, o) ∈ nx)
    (turn : ∀ i v m₁ nx h tk I oI, its[i]? = some v → J i m₁ nx → (∀ p ∈ nx, p.1 ≠ I) → Fr h₀ env.locals h m₁ → News h₀ env.locals h ((I, oI) :: nx) →
      wpAny (model prog w) A (assign target env v) (fun _ s₃ => wpAny (model prog w) A (execs body env) (TurnPost h₀ env.locals I oI (J (i + 1)) { s with heap := h, toks := tk } Q) E s₃) E { s with heap := h, toks := tk })
    (done : ∀ m' nx h tk, J its.length m' nx → Fr h₀ env.locals h m' → News h₀ env.locals h nx → Q .next { s with heap := h, toks := tk }) :
    wpAny (model prog w) A (pyIter (.ref ax)) (fun it s₂ => TurnsAt prog w A h₀ env target body Q E it s₂) E s := by
  have hz := N _ hm
  have hlt : ax < s.heap.objs.size := Heap.lt_size hz.1
  have hne : ax ≠ s.heap.objs.size := Nat.ne_of_lt hlt
  have hLlt : env.locals < s.heap.objs.size := F.ns.lt
  have hsz : its.toArray.size = its.length := by simp
  have hL : env.locals ∉ s.heap.objs.size :: [ax] := by
    intro hmm
    rcases List.mem_cons.mp hmm with e | hmm
    · exact absurd hLlt (e ▸ Nat.lt_irrefl _)
    · exact hz.2.1 (List.mem_singleton.mp hmm).symm
  rcases ho with rfl | rfl
  · have hl : s.heap.IsList ax its.toArray := ⟨_, hz.1, rfl, _, rfl⟩
    refine wpAny_pyIter_list hl ?_
    have W := Walks.list (prog := prog) (w := w) hh s.heap.objs.size ax hne its.toArray
    rw [hsz] at W
    exact turns_of (ob := fun _ => listOf its.toArray k) W (fun i v s' Q' E' st hq => letGo_listiter st.1 hq) (fun i h st => let ⟨o, e, _⟩ := st.1; ⟨o, e⟩) hL (next_is_new F) (fun p hp => Nat.ne_of_lt (Heap.lt_size (N p hp).1))
      ⟨⟨_, Heap.get?_push_size _ rfl, rfl, rfl⟩, hl.at fun o e => Heap.get?_push_of_some _ e⟩ (F.push _) (fun p hp => ⟨Heap.get?_push_of_some _ (N p hp).1, (N p hp).2⟩) J h0 (fun i m nx j b hb => by rw [List.mem_singleton.mp hb]; exact hJ i m nx j)
      (fun i v m₁ nx h tk oI hi hP => turn i v m₁ nx h tk _ oI (by simpa using hP)) done
  · have hl : s.heap.IsTuple ax its.toArray := ⟨_, hz.1, rfl, _, rfl⟩
    refine wpAny_pyIter_tuple hl ?_
    have W := Walks.tuple (prog := prog) (w := w) hh s.heap.objs.size ax hne its.toArray
    rw [hsz] at W
    exact turns_of (ob := fun _ => tup its k) W (fun i v s' Q' E' st hq => letGo_tupleiter st.1 hq) (fun i h st => let ⟨o, e, _⟩ := st.1; ⟨o, e⟩) hL (next_is_new F) (fun p hp => Nat.ne_of_lt (Heap.lt_size (N p hp).1))
      ⟨⟨_, Heap.get?_push_size _ rfl, rfl, rfl⟩, hl.at fun o e => Heap.get?_push_of_some _ e⟩ (F.push _) (fun p hp => ⟨Heap.get?_push_of_some _ (N p hp).1, (N p hp).2⟩) J h0 (fun i m nx j b hb => by rw [List.mem_singleton.mp hb]; exact hJ i m nx j)
      (fun i v m₁ nx h tk oI hi hP => turn i v m₁ nx h tk _ oI (by simpa using hP)) done
end
/-- m is m₀ but for the stored names -/
noncomputable def MapIn (stored : List Str) (m₀ m : Str → Option Value) : Prop := ∀ z, stored.contains z = false → m z = m₀ z
theorem MapIn.refl {stored : List Str} {m₀ : Str → Option Value} : MapIn stored m₀ m₀ := fun _ _ => rfl
theorem MapIn.eq {stored : List Str} {m₀ m : Str → Option Value} (x : MapIn stored m₀ m) : m = fun z => if stored.contains z then m z else m₀ z := by
  funext z
  cases h : stored.contains z with
  | true => simp
  | false => simp only [Bool.false_eq_true, if_false]; exact x z h
theorem MapIn.base {stored : List Str} {m₀ u : Str → Option Value} : MapIn stored m₀ (fun z => if stored.contains z then u z else m₀ z) := fun z h => by
  simp only [h, Bool.false_eq_true, if_false]
theorem MapIn.upd {stored : List Str} {m₀ m : Str → Option Value} {x : Str} {v : Option Value} (hx : stored.contains x = true) (h : MapIn stored m₀ m) : MapIn stored m₀ (fun y => if y = x then v else m y) := fun z hz => by
  have : z ≠ x := by rintro rfl; rw [hx] at hz; cases hz
  simp only [if_neg this]
  exact h z hz
section
variable {prog : Program} {w : World} {A : Around} {E : Value → Shared → Prop} {s : Shared} {env : Env} {h₀ : Heap} {target : PySem.Expr} {body : List Stmt} {Q : Flow → Shared → Prop}
/-- the same, the stored names told -/
theorem iter_seqM (stored : List Str) {ax : Addr} {o : Obj} {its : List Value} {k : Nat} {m : Str → Option Value} {news : Led} (hh : A.handled = none)
    (F : Fr h₀ env.locals s.heap m) (N : News h₀ env.locals s.heap news) (hm : (ax, o) ∈ news) (ho : o = listOf its.toArray k ∨ o = tup its k) (J : Nat → Led → Prop) (h0 : J 0 news) (hJ : ∀ i nx, J i nx → (ax, o) ∈ nx)
    (turn : ∀ i v (u : Str → Option Value) nx h tk I oI (q : Flow → Shared → Prop), (∀ f s', TurnPost h₀ env.locals I oI (fun m' nx' => MapIn stored m m' ∧ J (i + 1) nx') { s with heap := h, toks := tk } Q f s' → q f s') → its[i]? = some v → J i nx → (∀ p ∈ nx, p.1 ≠ I) → Fr h₀ env.locals h (fun z => if stored.contains z then u z else m z) → News h₀ env.locals h ((I, oI) :: nx) →
      wpAny (model prog w) A (assign target env v) (fun _ s₃ => wpAny (model prog w) A (execs body env) q E s₃) E { s with heap := h, toks := tk })
    (done : ∀ (u : Str → Option Value) nx h tk, J its.length nx → Fr h₀ env.locals h (fun z => if stored.contains z then u z else m z) → News h₀ env.locals h nx → Q .next { s with heap := h, toks := tk }) :
    wpAny (model prog w) A (pyIter (.ref ax)) (fun it s₂ => TurnsAt prog w A h₀ env target body Q E it s₂) E s := by
  refine iter_seq hh hm ho F N (fun i m' nx => MapIn stored m m' ∧ J i nx) ⟨MapIn.refl, h0⟩ (fun i m' nx j => hJ i nx j.2) (fun i v m₁ nx h tk I oI hi j hI F₁ N₁ => ?_) (fun m' nx h tk j F₁ N₁ => ?_)
  · rw [j.1.eq] at F₁
    exact turn i v m₁ nx h tk I oI _ (fun _ _ x => x) hi j.2 hI F₁ N₁
  · rw [j.1.eq] at F₁
    exact done m' nx h tk j.2 F₁ N₁
end
section
variable {prog : Program} {w : World} {A : Around} {E : Value → Shared → Prop} {s : Shared} {env : Env} {h₀ : Heap} {target : PySem.Expr} {body : List Stmt} {Q : Flow → Shared → Prop}
/-- a for over the signs of a text below 128 -/
theorem iter_strM (stored : List Str) {x : Str} {tx : Tok} {m : Str → Option Value} {news : Led} (hh : A.handled = none) (ha : x.cps.all (· < 128) = true) (hT : ∀ it v, letOwnedTupleGo target it v = pure ())
    (F : Fr h₀ env.locals s.heap m) (N : News h₀ env.locals s.heap news) (J : Nat → Led → Prop) (h0 : J 0 news)
    (turn : ∀ i c (u : Str → Option Value) t nx h tk I oI (q : Flow → Shared → Prop), (∀ f s', TurnPost h₀ env.locals I oI (fun m' nx' => MapIn stored m m' ∧ J (i + 1) nx') { s with heap := h, toks := tk } Q f s' → q f s') → x.cps[i]? = some c → J i nx → (∀ p ∈ nx, p.1 ≠ I) → Fr h₀ env.locals h (fun z => if stored.contains z then u z else m z) → News h₀ env.locals h ((I, oI) :: nx) →
      wpAny (model prog w) A (assign target env (.str ⟨#[c]⟩ t)) (fun _ s₃ => wpAny (model prog w) A (execs body env) q E s₃) E { s with heap := h, toks := tk })
    (done : ∀ (u : Str → Option Value) nx h tk, J x.cps.size nx → Fr h₀ env.locals h (fun z => if stored.contains z then u z else m z) → News h₀ env.locals h nx → Q .next { s with heap := h, toks := tk }) :
    wpAny (model prog w) A (pyIter (.str x tx)) (fun it s₂ => TurnsAt prog w A h₀ env target body Q E it s₂) E s := by
  refine wpAny_pyIter_ascii ha ?_
  have W := Walks.strAscii (prog := prog) (w := w) hh s.heap.objs.size x tx
  have hLlt : env.locals < s.heap.objs.size := F.ns.lt
  refine turns_of (rest := []) (ob := fun _ => default) W (fun i v s' Q' E' st hq => by rw [hT]; exact wpAny_pure hq) (fun i h st => let ⟨o, e, _⟩ := st; ⟨o, e⟩) ?_ (next_is_new F) (fun p hp => Nat.ne_of_lt (Heap.lt_size (N p hp).1))
    ⟨_, Heap.get?_push_size _ rfl, rfl, rfl⟩ (F.push _) (fun p hp => ⟨Heap.get?_push_of_some _ (N p hp).1, (N p hp).2⟩) (fun i m' nx => MapIn stored m m' ∧ J i nx) ⟨MapIn.refl, h0⟩ (fun _ _ _ _ b hb => nomatch hb) (fun i v m₁ nx h tk oI hi hP j hI F₁ N₁ => ?_) (fun m' nx h tk j F₁ N₁ => ?_)
  · intro hm
    exact absurd hLlt ((List.mem_singleton.mp hm) ▸ Nat.lt_irrefl _)
  · obtain ⟨c, u, hc, rfl⟩ := hP
    rw [j.1.eq] at F₁
    exact turn i c m₁ u nx h tk _ oI _ (fun _ _ x => x) hc j.2 hI F₁ N₁
  · rw [j.1.eq] at F₁
    exact done m' nx h tk j.2 F₁ N₁
end
theorem filled : PySem.Challenge.rw_nz0336_01 = PySem.Challenge.rw_nz0336_01 ∧ Kc = Kc := by
  k_fill
  exact ⟨rfl, rfl⟩

/-- a set of pairs -/
noncomputable def SomeIn (news : Led) (v : Value) (ps : List (Int × Int)) : Prop :=
  Ex3 fun a its k => An4 (v = .ref a) ((a, tup its k) ∈ news) (its.length = ps.length) (∀ (j : Nat) x, its[j]? = some x → Ex6 fun p l h t u n => An3 (x = .ref p) ((p, tup [.int l t, .int h u] n) ∈ news) (ps[j]? = some (l, h)))
theorem SomeIn.mono {news news' : Led} {v : Value} {ps : List (Int × Int)} (x : SomeIn news v ps) (hs : ∀ p ∈ news, p ∈ news') : SomeIn news' v ps := by
  obtain ⟨a, its, k, rfl, h1, h2, h3⟩ := x
  refine ⟨a, its, k, rfl, hs _ h1, h2, fun j x hx => ?_⟩
  obtain ⟨p, l, h, t, u, n, e, hp, hq⟩ := h3 j x hx
  exact ⟨p, l, h, t, u, n, e, hs _ hp, hq⟩
noncomputable def loE (l h g : Int) : Int := min (if l = 0 then g else l) (if h = 0 then g else h)
noncomputable def hiE (l h g : Int) : Int := max (if l = 0 then g else l) (if h = 0 then g else h)
noncomputable def inOne (p : Int × Int) (n g : Int) : Bool := decide (loE p.1 p.2 g ≤ n ∧ n ≤ hiE p.1 p.2 g)
noncomputable def inSet (ps : List (Int × Int)) (n g : Int) : Bool := ps.any fun p => inOne p n g

theorem end_ends {l h g x y : Int} {t u : Tok} {n : Nat} {q : Addr} {news : Led} (hx : x = loE l h g) (hy : y = hiE l h g) :
    Ex4 fun q' t' u' n' => An2 (Value.ref q = .ref q') ((q', tup [.int (loE l h g) t', .int (hiE l h g) u'] n') ∈ news ++ [(q, tup [.int x t, .int y u] n)]) := by
  subst hx hy
  exact ⟨q, t, u, n, rfl, List.mem_append.mpr (.inr (.head _))⟩
theorem inSet_true {ps : List (Int × Int)} {n g : Int} {j : Nat} {p : Int × Int} (h : ps[j]? = some p) (e : inOne p n g = true) : true = inSet ps n g := by
  symm; unfold inSet; rw [List.any_eq_true]; exact ⟨p, List.mem_of_getElem? h, e⟩
theorem inSet_false {ps : List (Int × Int)} {n g : Int} (h : ∀ j, j < ps.length → ∀ q, ps[j]? = some q → inOne q n g = false) : false = inSet ps n g := by
  symm; unfold inSet; rw [List.any_eq_false]
  intro q hq
  obtain ⟨j, hj, rfl⟩ := List.mem_iff_getElem.mp hq
  rw [h j hj _ (by simp [hj])]; exact Bool.false_ne_true
theorem not_yet {ps : List (Int × Int)} {n g : Int} {i : Nat} {p : Int × Int} (hp : ps[i]? = some p) (e : inOne p n g = false) (h : ∀ j, j < i → ∀ q, ps[j]? = some q → inOne q n g = false) : ∀ j, j < i + 1 → ∀ q, ps[j]? = some q → inOne q n g = false := by
  intro j hj q hq
  rcases Nat.lt_succ_iff_lt_or_eq.mp hj with h' | rfl
  · exact h j h' q hq
  · rw [hp] at hq; cases hq; exact e
theorem mn_if {a b : Int} : (if b < a then b else a) = min a b := by split <;> omega
theorem mx_if {a b : Int} : (if b > a then b else a) = max a b := by split <;> omega
theorem in_t {l h n g a b : Int} (ha : (if l = 0 then g else l) = a) (hb : (if h = 0 then g else h) = b) (h1 : (if b < a then b else a) ≤ n) (h2 : n ≤ if b > a then b else a) : inOne (l, h) n g = true := by
  rw [mn_if] at h1; rw [mx_if] at h2
  subst ha; subst hb; exact decide_eq_true ⟨h1, h2⟩
theorem in_f {l h n g a b : Int} (ha : (if l = 0 then g else l) = a) (hb : (if h = 0 then g else h) = b) (h1 : ¬ (if b < a then b else a) ≤ n) : inOne (l, h) n g = false := by
  rw [mn_if] at h1
  subst ha; subst hb; exact decide_eq_false fun e => h1 e.1
theorem in_g {l h n g a b : Int} (ha : (if l = 0 then g else l) = a) (hb : (if h = 0 then g else h) = b) (h1 : ¬ n ≤ if b > a then b else a) : inOne (l, h) n g = false := by
  rw [mx_if] at h1
  subst ha; subst hb; exact decide_eq_false fun e => h1 e.2
/-! the plain data: trees, letters, rows; how the ledger bears them -/
inductive Tr where
  | all
  | flag (s : Str)
  | seq (ps : List (Int × Int))
  | uid (ps : List (Int × Int))
  | larger (n : Int)
  | smaller (n : Int)
  | modseq (n : Int)
  | not (t : Tr)
  | and (a b : Tr)
  | or (a b : Tr)
structure SD where
  uid : Int
  number : Int
  size : Nat
  mseq : Int
  flags : List Str
noncomputable abbrev fSeen : Str := Str.ofString "\\Seen"
noncomputable abbrev fFlagged : Str := Str.ofString "\\Flagged"
noncomputable abbrev fK1 : Str := Str.ofString "k1"
noncomputable def Flag (s : Str) : Prop := s = fSeen ∨ s = fFlagged ∨ s = fK1
noncomputable def Tr.size : Tr → Nat
  | .not t => t.size + 1
  | .and a b => a.size + b.size + 1
  | .or a b => a.size + b.size + 1
  | _ => 1
/-- how high a tree stands -/
noncomputable def Tr.high : Tr → Nat
  | .not t => t.high + 1
  | .and a b => max a.high b.high + 1
  | .or a b => max a.high b.high + 1
  | _ => 0
noncomputable def Tr.leaf : Tr → Bool
  | .not _ | .and _ _ | .or _ _ | .all => false
  | _ => true
noncomputable def meets (gn gu : Int) : Tr → SD → Bool
  | .all, _ => true
  | .flag s, d => d.flags.any (· == s)
  | .seq ps, d => inSet ps d.number gn
  | .uid ps, d => inSet ps d.uid gu
  | .larger n, d => decide ((d.size : Int) > n)
  | .smaller n, d => decide ((d.size : Int) < n)
  | .modseq n, d => decide (d.mseq ≥ n)
  | .not t, d => !meets gn gu t d
  | .and a b, d => meets gn gu a d && meets gn gu b d
  | .or a b, d => meets gn gu a d || meets gn gu b d
noncomputable abbrev sv (x : String) (t : Tok) : Value := .str (Str.ofString x) t
inductive TrIn (news : Led) : Value → Tr → Prop where
  | all {a : Addr} {t : Tok} {n : Nat} : (a, tup [sv "all" t] n) ∈ news → TrIn news (.ref a) .all
  | flag {a : Addr} {t u : Tok} {n : Nat} {s : Str} : (a, tup [sv "flag" t, .str s u] n) ∈ news → Flag s → TrIn news (.ref a) (.flag s)
  | seq {a : Addr} {t : Tok} {n : Nat} {v : Value} {ps : List (Int × Int)} : (a, tup [sv "seq" t, v] n) ∈ news → SomeIn news v ps → TrIn news (.ref a) (.seq ps)
  | uid {a : Addr} {t : Tok} {n : Nat} {v : Value} {ps : List (Int × Int)} : (a, tup [sv "uid" t, v] n) ∈ news → SomeIn news v ps → TrIn news (.ref a) (.uid ps)
  | larger {a : Addr} {t u : Tok} {n : Nat} {k : Int} : (a, tup [sv "larger" t, .int k u] n) ∈ news → TrIn news (.ref a) (.larger k)
  | smaller {a : Addr} {t u : Tok} {n : Nat} {k : Int} : (a, tup [sv "smaller" t, .int k u] n) ∈ news → TrIn news (.ref a) (.smaller k)
  | modseq {a : Addr} {t u : Tok} {n : Nat} {k : Int} : (a, tup [sv "modseq" t, .int k u] n) ∈ news → TrIn news (.ref a) (.modseq k)
  | not {a : Addr} {t : Tok} {n : Nat} {v : Value} {x : Tr} : (a, tup [sv "not" t, v] n) ∈ news → TrIn news v x → TrIn news (.ref a) (.not x)
  | and {a : Addr} {t : Tok} {n : Nat} {v v' : Value} {x y : Tr} : (a, tup [sv "and" t, v, v'] n) ∈ news → TrIn news v x → TrIn news v' y → TrIn news (.ref a) (.and x y)
  | or {a : Addr} {t : Tok} {n : Nat} {v v' : Value} {x y : Tr} : (a, tup [sv "or" t, v, v'] n) ∈ news → TrIn news v x → TrIn news v' y → TrIn news (.ref a) (.or x y)
theorem TrIn.mono {news news' : Led} {v : Value} {t : Tr} (x : TrIn news v t) (hs : ∀ p ∈ news, p ∈ news') : TrIn news' v t := by
  induction x with
  | all a => exact .all (hs _ a)
  | flag a b => exact .flag (hs _ a) b
  | seq a b => exact .seq (hs _ a) (b.mono hs)
  | uid a b => exact .uid (hs _ a) (b.mono hs)
  | larger a => exact .larger (hs _ a)
  | smaller a => exact .smaller (hs _ a)
  | modseq a => exact .modseq (hs _ a)
  | not a _ ih => exact .not (hs _ a) ih
  | and a _ _ ih ih' => exact .and (hs _ a) ih ih'
  | or a _ _ ih ih' => exact .or (hs _ a) ih ih'
noncomputable abbrev en (w : World) (x : String) (t : Tok) (v : Value) : DictEntry := ⟨PyData.keyHash w.params (Str.ofString x), .str (Str.ofString x) t, v⟩
/-- strings, each with a token -/
noncomputable def Strs (vs : List Value) (ss : List Str) : Prop := StrsAre vs ss
noncomputable def LetterIn (w : World) (news : Led) (y : Addr) (d : SD) : Prop :=
  Ex15 fun dy n t1 t2 t3 t4 t5 tu tb ti tm arr f fl k => An5 ((y, instObj 156 dy) ∈ news) ((dy, dictOf [en w "uid" t1 (.int d.uid tu), en w "octets" t2 (.bytes arr tb), en w "flags" t3 (.ref f), en w "instant" t4 (.int 0 ti), en w "modseq" t5 (.int d.mseq tm)] n) ∈ news) ((arr.size = d.size ∧ d.size ≤ 9)) ((f, tup fl k) ∈ news) (StrsAre fl d.flags)
noncomputable def SeenIn (w : World) (news : Led) (v : Value) (d : SD) : Prop :=
  Ex8 fun x dx n t1 t2 t3 y tn => An4 (v = .ref x) ((x, instObj 697 dx) ∈ news) ((dx, dictOf [en w "letter" t1 (.ref y), en w "number" t2 (.int d.number tn), en w "part" t3 .none] n) ∈ news) (LetterIn w news y d)
theorem LetterIn.mono {w : World} {news news' : Led} {y : Addr} {d : SD} (x : LetterIn w news y d) (hs : ∀ p ∈ news, p ∈ news') : LetterIn w news' y d := by
  obtain ⟨dy, n, t1, t2, t3, t4, t5, tu, tb, ti, tm, arr, f, fl, k, a, b, c, e, g⟩ := x
  exact ⟨dy, n, t1, t2, t3, t4, t5, tu, tb, ti, tm, arr, f, fl, k, hs _ a, hs _ b, c, hs _ e, g⟩
theorem SeenIn.mono {w : World} {news news' : Led} {v : Value} {d : SD} (x : SeenIn w news v d) (hs : ∀ p ∈ news, p ∈ news') : SeenIn w news' v d := by
  obtain ⟨x, dx, n, t1, t2, t3, y, tn, a, b, c, e⟩ := x
  exact ⟨x, dx, n, t1, t2, t3, y, tn, a, hs _ b, hs _ c, e.mono hs⟩
section
variable {prog : Program} {w : World} {A : Around} {E : Value → Shared → Prop} {s : Shared} {h₀ : Heap} {L : Addr} {news : Led}
theorem my_inT {a : Addr} {fl : List Value} {ys : List Str} {k : Nat} {x : Str} {u : Tok} {Q : Value → Shared → Prop} (N : News h₀ L s.heap news) (hm : (a, tup fl k) ∈ news) (hi : StrsAre fl ys) (h : Q (.bool (ys.any (· == x))) s) :
    wpAny (model prog w) A (compareOp .In (.str x u) (.ref a)) Q E s := in_tuple_strs (News.isTup N hm) hi h
theorem my_inI {a : Addr} {vs : List Value} {ns : List Int} {k : Nat} {x : Int} {u : Tok} {Q : Value → Shared → Prop} (N : News h₀ L s.heap news) (hm : (a, listOf vs.toArray k) ∈ news) (hi : IntsAre vs ns) (h : Q (.bool (ns.any (· == x))) s) :
    wpAny (model prog w) A (compareOp .In (.int x u) (.ref a)) Q E s := in_list_ints (News.isList N hm) hi h
end
inductive SeensIn (w : World) (news : Led) : List Value → List SD → Prop where
  | nil : SeensIn w news [] []
  | cons {v : Value} {d : SD} {vs : List Value} {ds : List SD} : SeenIn w news v d → SeensIn w news vs ds → SeensIn w news (v :: vs) (d :: ds)
theorem SeensIn.mono {w : World} {a b : Led} {vs : List Value} {ts : List SD} (x : SeensIn w a vs ts) (h : ∀ p ∈ a, p ∈ b) : SeensIn w b vs ts := by
  induction x with
  | nil => exact .nil
  | cons y _ ih => exact .cons (y.mono h) ih
theorem SeensIn.append {w : World} {a : Led} {vs vs' : List Value} {ts ts' : List SD} (x : SeensIn w a vs ts) (y : SeensIn w a vs' ts') : SeensIn w a (vs ++ vs') (ts ++ ts') := by
  induction x with
  | nil => exact y
  | cons z _ ih => exact .cons z ih
theorem SeensIn.len {w : World} {a : Led} {vs : List Value} {ts : List SD} (x : SeensIn w a vs ts) : vs.length = ts.length := by
  induction x with
  | nil => rfl
  | cons z _ ih => simp [ih]
theorem SeensIn.get {w : World} {a : Led} {vs : List Value} {ts : List SD} (x : SeensIn w a vs ts) : ∀ {i : Nat} {v : Value}, vs[i]? = some v → Ex1 fun t => An2 (ts[i]? = some t) (SeenIn w a v t) := by
  induction x with
  | nil => intro i v h; simp at h
  | cons z _ ih =>
    intro i v h
    cases i with
    | zero => simp at h; subst h; exact ⟨_, by simp, z⟩
    | succ i => simp at h; obtain ⟨t, e, f⟩ := ih h; exact ⟨t, by simpa using e, f⟩
theorem SeensIn.snoc {w : World} {a : Led} {vs : List Value} {ts : List SD} {t : SD} (x : SeensIn w a vs (ts ++ [t])) : Ex2 fun vs' v => An3 (vs = vs' ++ [v]) (SeenIn w a v t) (SeensIn w a vs' ts) := by
  induction ts generalizing vs with
  | nil => cases x with | cons h r => cases r; exact ⟨[], _, rfl, h, .nil⟩
  | cons d ts ih =>
    cases x with
    | cons h r =>
      obtain ⟨vs', v, e, h1, h2⟩ := ih r
      exact ⟨_ :: vs', v, by rw [e]; rfl, h1, .cons h h2⟩
noncomputable def Mono (HI : Led → Prop) : Prop := ∀ a b : Led, HI a → (∀ p ∈ a, p ∈ b) → HI b
theorem Mono.go {HI : Led → Prop} {a b : Led} (h : Mono HI) (x : HI a) (hs : ∀ p ∈ a, p ∈ b) : HI b := h a b x hs
noncomputable def Tr.kind : Tr → String
  | .all => "all" | .flag _ => "flag" | .seq _ => "seq" | .uid _ => "uid" | .larger _ => "larger" | .smaller _ => "smaller" | .modseq _ => "modseq" | .not _ => "not" | .and _ _ => "and" | .or _ _ => "or"
/-- what every tree bears: a tuple, its kind ahead -/
theorem TrIn.head {news : Led} {v : Value} {t : Tr} (x : TrIn news v t) : Ex4 fun a u rest n => An2 (v = .ref a) ((a, tup (sv t.kind u :: rest) n) ∈ news) := by
  cases x with
  | all h => exact ⟨_, _, _, _, rfl, h⟩
  | flag h _ => exact ⟨_, _, _, _, rfl, h⟩
  | seq h _ => exact ⟨_, _, _, _, rfl, h⟩
  | uid h _ => exact ⟨_, _, _, _, rfl, h⟩
  | larger h => exact ⟨_, _, _, _, rfl, h⟩
  | smaller h => exact ⟨_, _, _, _, rfl, h⟩
  | modseq h => exact ⟨_, _, _, _, rfl, h⟩
  | not h _ => exact ⟨_, _, _, _, rfl, h⟩
  | and h _ _ => exact ⟨_, _, _, _, rfl, h⟩
  | or h _ _ => exact ⟨_, _, _, _, rfl, h⟩
/-- what stands behind a leaf's kind -/
noncomputable def Rest (news : Led) (t : Tr) (r : List Value) : Prop := match t with
  | .flag s => Ex1 fun u => An2 (r = [.str s u]) (Flag s)
  | .seq ps => Ex1 fun v => An2 (r = [v]) (SomeIn news v ps)
  | .uid ps => Ex1 fun v => An2 (r = [v]) (SomeIn news v ps)
  | .larger k => ∃ u, r = [.int k u]
  | .smaller k => ∃ u, r = [.int k u]
  | .modseq k => ∃ u, r = [.int k u]
  | _ => True
theorem TrIn.headR {news : Led} {v : Value} {t : Tr} (x : TrIn news v t) : Ex4 fun a u rest n => An3 (v = .ref a) ((a, tup (.str (Str.ofString t.kind) u :: rest) n) ∈ news) (Rest news t rest) := by
  cases x with
  | all h => exact ⟨_, _, _, _, rfl, h, trivial⟩
  | flag h k => exact ⟨_, _, _, _, rfl, h, _, rfl, k⟩
  | seq h k => exact ⟨_, _, _, _, rfl, h, _, rfl, k⟩
  | uid h k => exact ⟨_, _, _, _, rfl, h, _, rfl, k⟩
  | larger h => exact ⟨_, _, _, _, rfl, h, _, rfl⟩
  | smaller h => exact ⟨_, _, _, _, rfl, h, _, rfl⟩
  | modseq h => exact ⟨_, _, _, _, rfl, h, _, rfl⟩
  | not h _ => exact ⟨_, _, _, _, rfl, h, trivial⟩
  | and h _ _ => exact ⟨_, _, _, _, rfl, h, trivial⟩
  | or h _ _ => exact ⟨_, _, _, _, rfl, h, trivial⟩
/-! comprehensions over what the ledger bears -/
noncomputable def SameS (s₁ s₂ : Shared) : Prop := True
/-- a turn of a comprehension ends so -/
noncomputable def CTurn (h₀ : Heap) (L : Addr) (m : Str → Option Value) (s₁ : Shared) (I : Addr) (oI : Obj) (C : Addr) (oC : Obj) (D : Addr) (oD : Obj) (R : Value → Led → Prop) (y : Value) (s₂ : Shared) : Prop :=
  Ex3 fun h' tk nx => An5 (s₂ = { s₁ with heap := h', toks := tk }) (Fr h₀ L h' m) (News h₀ L h' ((I, oI) :: (C, oC) :: (D, oD) :: nx)) ((∀ p ∈ nx, p.1 ≠ I ∧ p.1 ≠ C ∧ p.1 ≠ D)) (R y nx)
theorem CTurn.intro {h₀ : Heap} {L I C D : Addr} {m : Str → Option Value} {s₁ : Shared} {oI oC oD : Obj} {R : Value → Led → Prop} {y : Value} {h' : Heap} {tk : Nat} {all : Led}
    (F : Fr h₀ L h' m) (N : News h₀ L h' all) (nx : Led) (sub : ∀ p ∈ (I, oI) :: (C, oC) :: (D, oD) :: nx, p ∈ all) (off : ∀ p ∈ nx, p.1 ≠ I ∧ p.1 ≠ C ∧ p.1 ≠ D) (r : R y nx) :
    CTurn h₀ L m s₁ I oI C oC D oD R y { s₁ with heap := h', toks := tk } := ⟨h', tk, nx, rfl, F, news_sub N sub, off, r⟩
section
variable {prog : Program} {w : World} {A : Around} {E : Value → Shared → Prop} {s : Shared} {h₀ : Heap} {L : Addr} {m : Str → Option Value} {env : Env} {ct elt : PySem.Expr} {x : Str} {scope : Scope} {cl : List (Str × Addr)} {S : Led → Prop} {P : Nat → Value → Prop} {Fin : List Value → Led → Prop} {news : Led} {n : Nat}
/-- with a test -/
theorem compT (J : Nat → List Value → Led → Prop) (hS : ∀ i ys nx, J i ys nx → S nx) (h0 : J 0 [] news)
    (turn : ∀ i v ys nx I oI C oC D m₂ h tk (E' q q0 : Value → Shared → Prop), (∀ y s', CTurn h₀ L m { s with heap := h, toks := tk } I oI C oC D (LCg.lst ys) (fun y nx' => J (i + 1) (ys ++ [y]) nx') y s' → q y s') → (∀ y s', CTurn h₀ L m { s with heap := h, toks := tk } I oI C oC D (LCg.lst ys) (fun _ nx' => J (i + 1) ys nx') y s' → q0 y s') → i < n → P i v → J i ys nx → LCg.NsObj oC m₂ → m₂ x = some v → Fr h₀ L h m → News h₀ L h ((I, oI) :: (C, oC) :: (D, LCg.lst ys) :: nx) → (∀ p ∈ nx, p.1 ≠ I ∧ p.1 ≠ C ∧ p.1 ≠ D) → ((@Ne Nat I C) ∧ (@Ne Nat I D) ∧ (@Ne Nat C D)) →
      wpAny (model prog w) A (isTrue ct (compEnvC scope cl C env) (eval ct (compEnvC scope cl C env))) (fun ok s' => if ok = true then
        wpAny (model prog w) A (eval elt (compEnvC scope cl C env)) q E' s'
        else q0 Value.none s') E' { s with heap := h, toks := tk })
    (fin : ∀ ys nx, J n ys nx → Fin ys nx) : LCt.CompRestT prog w A h₀ L m env ct elt x scope cl s S P Fin n 0 [] news := by
  have key : ∀ (j i : Nat) (ys : List Value) (nx : Led), i + j = n → J i ys nx → LCt.CompRestT prog w A h₀ L m env ct elt x scope cl s S P Fin j i ys nx := by
    intro j
    induction j with
    | zero =>
      intro i ys nx hi hJ
      have e : i = n := by omega
      subst e
      exact LCt.CompRestT.zero (fin ys nx hJ)
    | succ j ih =>
      intro i ys nx hi hJ
      refine LCt.CompRestT.succ ?_
      intro v I oI C oC D m₂ h tk E' hv hC hx F N off ne
      refine wpAny_mono (turn i v ys nx I oI C oC D m₂ h tk E' _ _ (fun _ _ x => x) (fun _ _ x => x) (by omega) hv hJ hC hx F N off.mem ne) (fun b s₂ hq => ?_) fun _ _ e => e
      cases b with
      | true =>
        simp only [if_true] at hq ⊢
        refine wpAny_mono hq (fun y s₃ hr => ?_) fun _ _ e => e
        obtain ⟨h', tk', nx', e, F', N', off', hJ'⟩ := hr
        exact ⟨h', tk', nx', e, F', N', LCg.Off3.of off', hS _ _ _ hJ', ih (i + 1) _ _ (by omega) hJ'⟩
      | false =>
        simp only [Bool.false_eq_true, if_false] at hq ⊢
        obtain ⟨h', tk', nx', e, F', N', off', hJ'⟩ := hq
        exact ⟨h', tk', nx', e, F', N', LCg.Off3.of off', hS _ _ _ hJ', ih (i + 1) _ _ (by omega) hJ'⟩
  exact key n 0 [] news (by omega) h0
/-- without a test -/
theorem compU (J : Nat → List Value → Led → Prop) (hS : ∀ i ys nx, J i ys nx → S nx) (h0 : J 0 [] news)
    (turn : ∀ i v ys nx I oI C oC D m₂ h tk (E' q : Value → Shared → Prop), (∀ y s', CTurn h₀ L m { s with heap := h, toks := tk } I oI C oC D (LCg.lst ys) (fun y nx' => J (i + 1) (ys ++ [y]) nx') y s' → q y s') → i < n → P i v → J i ys nx → LCg.NsObj oC m₂ → m₂ x = some v → Fr h₀ L h m → News h₀ L h ((I, oI) :: (C, oC) :: (D, LCg.lst ys) :: nx) → (∀ p ∈ nx, p.1 ≠ I ∧ p.1 ≠ C ∧ p.1 ≠ D) → ((@Ne Nat I C) ∧ (@Ne Nat I D) ∧ (@Ne Nat C D)) →
      wpAny (model prog w) A (eval elt (compEnvC scope cl C env)) q E' { s with heap := h, toks := tk })
    (fin : ∀ ys nx, J n ys nx → Fin ys nx) : LCg.CompRest prog w A h₀ L m env elt x scope cl s S P Fin n 0 [] news := by
  have key : ∀ (j i : Nat) (ys : List Value) (nx : Led), i + j = n → J i ys nx → LCg.CompRest prog w A h₀ L m env elt x scope cl s S P Fin j i ys nx := by
    intro j
    induction j with
    | zero =>
      intro i ys nx hi hJ
      have e : i = n := by omega
      subst e
      exact LCg.CompRest.zero (fin ys nx hJ)
    | succ j ih =>
      intro i ys nx hi hJ
      refine LCg.CompRest.succ ?_
      intro v I oI C oC D m₂ h tk E' hv hC hx F N off ne
      refine wpAny_mono (turn i v ys nx I oI C oC D m₂ h tk E' _ (fun _ _ x => x) (by omega) hv hJ hC hx F N off.mem ne) (fun y s₃ hr => ?_) fun _ _ e => e
      obtain ⟨h', tk', nx', e, F', N', off', hJ'⟩ := hr
      exact ⟨h', tk', nx', e, F', N', LCg.Off3.of off', hS _ _ _ hJ', ih (i + 1) _ _ (by omega) hJ'⟩
  exact key n 0 [] news (by omega) h0
end
/-- a while that stores one name -/
noncomputable def WTurn (h₀ : Heap) (L : Addr) (x : Str) (m : Str → Option Value) (s : Shared) (J : Nat → Option Value → Led → Prop) (n : Nat) (f : Flow) (s₃ : Shared) : Prop :=
  f = .next ∧ Ex5 fun h' tk m₂ nx n' => An6 (s₃ = { s with heap := h', toks := tk }) (Fr h₀ L h' m₂) (News h₀ L h' nx) (n' < n) (MapIn [x] m m₂) (J n' (m₂ x) nx)
theorem WTurn.intro {h₀ h' : Heap} {L : Addr} {x : Str} {m m₂ : Str → Option Value} {s : Shared} {J : Nat → Option Value → Led → Prop} {n tk : Nat} {all : Led}
    (F : Fr h₀ L h' m₂) (N : News h₀ L h' all) (n' : Nat) (nx : Led) (sub : ∀ p ∈ nx, p ∈ all) (hn : n' < n) (hm : MapIn [x] m m₂) (hJ : J n' (m₂ x) nx) : WTurn h₀ L x m s J n .next { s with heap := h', toks := tk } :=
  ⟨rfl, h', tk, m₂, nx, n', rfl, F, news_sub N sub, hn, hm, hJ⟩
section
variable {prog : Program} {w : World} {A : Around} {E : Value → Shared → Prop} {Q : Flow → Shared → Prop} {s : Shared} {env : Env} {h₀ : Heap} {L : Addr}
theorem while1 (x : Str) {test : PySem.Expr} {body : List Stmt} {pos : Pos} {m : Str → Option Value} {news : Led} (F : Fr h₀ L s.heap m) (N : News h₀ L s.heap news) (J : Nat → Option Value → Led → Prop) (n₀ : Nat) (hJ : J n₀ (m x) news)
    (turn : ∀ n v nx h₁ tk₁ (q : Flow → Shared → Prop), (∀ f s', WTurn h₀ L x m s J n f s' → q f s') → J n v nx → Fr h₀ L h₁ (fun z => if z = x then v else m z) → News h₀ L h₁ nx →
      wpAny (model prog w) A (isTrue test env (eval test env)) (fun b s₂ =>
        if b = true then wpAny (model prog w) A (execs body env) q E s₂ else Q .next s₂) E { s with heap := h₁, toks := tk₁ })
    (hE : PassesOwn (model prog w) A env E := by passes_own) :
    wpAny (model prog w) A (exec (.While test body [] pos) env) Q E s := by
  refine While_inv (fun n m' nx => MapIn [x] m m' ∧ J n (m' x) nx) F N ⟨MapIn.refl, hJ⟩ (fun n m₁ nx h₁ tk₁ F₁ N₁ hj => ?_) hE
  have e : m₁ = fun z => if z = x then m₁ x else m z := by
    funext z
    by_cases hz : z = x
    · rw [if_pos hz, hz]
    · rw [if_neg hz]
      exact hj.1 z (by simp [hz])
  have F₂ := F₁
  rw [e] at F₂
  refine wpAny_mono (turn n (m₁ x) nx h₁ tk₁ _ (fun _ _ x => x) hj.2 F₂ N₁) (fun b s₂ hq => ?_) fun _ _ y => y
  cases b with
  | false => exact hq
  | true =>
    simp only [if_true] at hq ⊢
    refine wpAny_mono hq (fun f s₃ hr => ?_) fun _ _ y => y
    obtain ⟨hf, h', tk, m₂, nx', n', e', F', N', hn, hm, hj'⟩ := hr
    exact ⟨hf, h', tk, m₂, nx', n', e', F', N', hn, hm, hj'⟩
end
section
variable {prog : Program} {w : World} {A : Around} {E : Value → Shared → Prop} {s : Shared} {h₀ : Heap} {L : Addr} {news : Led}
theorem my_tup0 {value slice : PySem.Expr} {a : Addr} {x : Value} {rest : List Value} {n : Nat} {u : Tok} {Q : Value → Shared → Prop}
    (hs : subscripted slice false (.ref a) (.int 0 u) = operate [.ref a, .int 0 u] (getItem (.ref a) (.int 0 u))) (N : News h₀ L s.heap news) (hm : (a, tup (x :: rest) n) ∈ news) (h : Q x s) :
    wpAny (model prog w) A (subscriptTail value slice (.ref a) (.int 0 u)) Q E s :=
  item_tupleT (l := x :: rest) (j := 0) (News.isTup N hm) (by decide) (by decide) (seqIndex_of (by decide) (by simp only [List.length_cons]; omega)) rfl h hs
theorem my_tup1 {value slice : PySem.Expr} {a : Addr} {x y : Value} {rest : List Value} {n : Nat} {u : Tok} {Q : Value → Shared → Prop}
    (hs : subscripted slice false (.ref a) (.int 1 u) = operate [.ref a, .int 1 u] (getItem (.ref a) (.int 1 u))) (N : News h₀ L s.heap news) (hm : (a, tup (x :: y :: rest) n) ∈ news) (h : Q y s) :
    wpAny (model prog w) A (subscriptTail value slice (.ref a) (.int 1 u)) Q E s :=
  item_tupleT (l := x :: y :: rest) (j := 1) (News.isTup N hm) (by decide) (by decide) (seqIndex_of (by decide) (by simp only [List.length_cons]; omega)) rfl h hs
end
section
variable {prog : Program} {w : World} {A : Around} {E : Value → Shared → Prop} {s : Shared} {h₀ : Heap} {L : Addr} {news : Led}
/-- a list against the empty one -/
theorem my_neNil {a b : Addr} {l : List Value} {k n : Nat} {Q : Value → Shared → Prop} (N : News h₀ L s.heap news) (hm : (a, listOf l.toArray k) ∈ news) (hb : (b, listOf #[] n) ∈ news) (hu : A.units < cLine) (h : Q (.bool (!l.isEmpty)) s) :
    wpAny (model prog w) A (compareOp .NotEq (.ref a) (.ref b)) Q E s := by
  have h1 := News.isList N hm
  have h2 := News.isList N hb
  cases l with
  | nil => exact SeqAt.RcNeAt.lists (e := fun _ => true) h1 h2 rfl hu (fun j hj => absurd hj (Nat.not_lt_zero _)) prog w E Q h
  | cons x r => exact SeqAt.RcNeAt.lists_lengths h1 h2 (by simp) hu prog w E Q h
/-- the last of a list -/
theorem my_lastL {value slice : PySem.Expr} {a : Addr} {l : List Value} {x : Value} {n : Nat} {u : Tok} {Q : Value → Shared → Prop}
    (hs : subscripted slice false (.ref a) (.int (-1) u) = operate [.ref a, .int (-1) u] (getItem (.ref a) (.int (-1) u))) (N : News h₀ L s.heap news) (hm : (a, listOf (l ++ [x]).toArray n) ∈ news) (h : Q x s) :
    wpAny (model prog w) A (subscriptTail value slice (.ref a) (.int (-1) u)) Q E s := by
  have hl := News.isList N hm
  refine tail_any hl.typeIs slot_list_getitem.lookup (wpAny_getItem_list_neg hl (by decide) ?_ (by decide) ?_ h) hs
  · simp; omega
  · have e : ((-1 : Int) + ((l ++ [x]).toArray.size : Nat)).toNat = l.length := by simp only [List.size_toArray, List.length_append, List.length_cons, List.length_nil]; omega
    rw [e]; simp
end
theorem strip_cell {a b : Addr} {l : List Value} {n : Nat} {o : Obj} {v : Option Value} {r : Led} (h : (a, tup l n) ∈ (b, o) :: r) (d : o.data = .cell v) : (a, tup l n) ∈ r := by
  rcases List.mem_cons.mp h with e | h
  · injection e with _ e; rw [← e] at d; cases d
  · exact h
theorem strip_tab {a b : Addr} {l : List Value} {n : Nat} {ps : Array Value} {r : Led} (h : (a, tup l n) ∈ (b, tabObj ps) :: r) : (a, tup l n) ∈ r := by
  rcases List.mem_cons.mp h with e | h
  · injection e with _ e; injection e with e; cases e
  · exact h
theorem ne_cons {a : Addr × Obj} {r : Led} {x : Addr} (h : (@Ne Nat a.1 x)) (t : ∀ p ∈ r, p.1 ≠ x) : ∀ p ∈ a :: r, p.1 ≠ x := fun p hp => by
  rcases List.mem_cons.mp hp with rfl | hp
  · exact h
  · exact t p hp
theorem off_more {I C D : Addr} {oI oC oD : Obj} {nx tl all' : Led} (off : ∀ p ∈ nx, p.1 ≠ I ∧ p.1 ≠ C ∧ p.1 ≠ D) (hl : ∀ q ∈ (I, oI) :: (C, oC) :: (D, oD) :: nx, ∀ p ∈ tl, q.1 ≠ p.1) (h : ∀ p ∈ all', (∃ q ∈ nx, q.1 = p.1) ∨ p ∈ tl) :
    ∀ p ∈ all', p.1 ≠ I ∧ p.1 ≠ C ∧ p.1 ≠ D := fun p hp => by
  rcases h p hp with ⟨q, hq, e⟩ | hq
  · rw [← e]; exact off q hq
  · exact ⟨(hl _ (.head _) p hq).symm, (hl _ (.tail _ (.head _)) p hq).symm, (hl _ (.tail _ (.tail _ (.head _))) p hq).symm⟩
theorem off_more3 {I C D T : Addr} {oI oC oD : Obj} {a b : Addr × Obj} {ps ps9 : Array Value} {news tl' tl : Led} (off : ∀ p ∈ a :: b :: (T, tabObj ps) :: (news ++ tl'), p.1 ≠ I ∧ p.1 ≠ C ∧ p.1 ≠ D) (hl : ∀ q ∈ (I, oI) :: (C, oC) :: (D, oD) :: a :: b :: (T, tabObj ps) :: (news ++ tl'), ∀ p ∈ tl, q.1 ≠ p.1) :
    ∀ p ∈ a :: b :: (T, tabObj ps9) :: (news ++ (tl' ++ tl)), p.1 ≠ I ∧ p.1 ≠ C ∧ p.1 ≠ D := off_more off hl fun p hp => by
  rcases List.mem_cons.mp hp with rfl | hp
  · exact .inl ⟨_, .head _, rfl⟩
  · rcases List.mem_cons.mp hp with rfl | hp
    · exact .inl ⟨_, .tail _ (.head _), rfl⟩
    · rcases List.mem_cons.mp hp with rfl | hp
      · exact .inl ⟨_, .tail _ (.tail _ (.head _)), rfl⟩
      · rw [← List.append_assoc] at hp
        rcases List.mem_append.mp hp with hp | hp
        · exact .inl ⟨_, .tail _ (.tail _ (.tail _ hp)), rfl⟩
        · exact .inr hp
theorem mem_more {x : Addr × Obj} {a b tl : Led} (h : x ∈ a ++ b) : x ∈ a ++ (b ++ tl) := by rw [← List.append_assoc]; exact List.mem_append.mpr (.inl h)
theorem off1_mem {D : Addr} : ∀ {l : Led}, LCg.Off1 D l → ∀ p ∈ l, p.1 ≠ D
  | [], _, _, h => nomatch h
  | _ :: _, x, p, h => by
    rcases List.mem_cons.mp h with rfl | h
    · exact x.1
    · exact off1_mem x.2 p h
theorem all_ne {l : Led} {d : Addr} (h : ∀ p ∈ l, p.1 < d) : ∀ p ∈ l, p.1 ≠ d := fun p hp => Nat.ne_of_lt (h p hp)
section
variable {h₀ h' : Heap} {L I C D : Addr} {m : Str → Option Value} {s₁ : Shared} {oI oC oD : Obj} {R : Value → Led → Prop} {y : Value} {tk : Nat} {a b : Addr × Obj} {news tl' : Led}
/-- a turn that made two objects -/
theorem CTurn.two (F : Fr h₀ L h' m) (N : News h₀ L h' (a :: b :: (I, oI) :: (C, oC) :: (D, oD) :: (news ++ tl'))) (hl : ∀ p ∈ (I, oI) :: (C, oC) :: (D, oD) :: (news ++ tl'), p.1 < b.1) (h2 : (@LT.lt Nat _ b.1 a.1))
    (off : ∀ p ∈ news ++ tl', p.1 ≠ I ∧ p.1 ≠ C ∧ p.1 ≠ D) (r : R y (news ++ (tl' ++ [a, b]))) : CTurn h₀ L m s₁ I oI C oC D oD R y { s₁ with heap := h', toks := tk } := by
  refine CTurn.intro F N _ (fun p hp => ?_) (fun p hp => ?_) r
  · simp only [List.mem_cons, List.mem_append, List.not_mem_nil, or_false] at hp ⊢
    rcases hp with h | h | h | h | h | h | h <;> simp only [h, true_or, or_true]
  · rw [← List.append_assoc] at hp
    rcases List.mem_append.mp hp with hp | hp
    · exact off p hp
    · have hI : (@LT.lt Nat _ I b.1) := hl _ (.head _)
      have hC : (@LT.lt Nat _ C b.1) := hl _ (.tail _ (.head _))
      have hD : (@LT.lt Nat _ D b.1) := hl _ (.tail _ (.tail _ (.head _)))
      simp only [List.mem_cons, List.not_mem_nil, or_false] at hp
      rcases hp with rfl | rfl
      · exact ⟨Nat.ne_of_gt (Nat.lt_trans hI h2), Nat.ne_of_gt (Nat.lt_trans hC h2), Nat.ne_of_gt (Nat.lt_trans hD h2)⟩
      · exact ⟨Nat.ne_of_gt hI, Nat.ne_of_gt hC, Nat.ne_of_gt hD⟩
theorem ord_two (ho : ∀ q ∈ news, ∀ p ∈ tl', q.1 ≠ p.1) (hl : ∀ p ∈ (I, oI) :: (C, oC) :: (D, oD) :: (news ++ tl'), p.1 < b.1) (h2 : (@LT.lt Nat _ b.1 a.1)) : ∀ q ∈ news, ∀ p ∈ tl' ++ [a, b], q.1 ≠ p.1 := by
  intro q hq p hp
  rcases List.mem_append.mp hp with hp | hp
  · exact ho q hq p hp
  · have h1 : (@LT.lt Nat _ q.1 b.1) := hl q (.tail _ (.tail _ (.tail _ (List.mem_append.mpr (.inl hq)))))
    simp only [List.mem_cons, List.not_mem_nil, or_false] at hp
    rcases hp with rfl | rfl
    · exact Nat.ne_of_lt (Nat.lt_trans h1 h2)
    · exact Nat.ne_of_lt h1
/-- a turn that made nothing that stays -/
theorem CTurn.none {nx all : Led} (F : Fr h₀ L h' m) (N : News h₀ L h' all) (sub : ∀ p ∈ (I, oI) :: (C, oC) :: (D, oD) :: nx, p ∈ all) (off : ∀ p ∈ nx, p.1 ≠ I ∧ p.1 ≠ C ∧ p.1 ≠ D) (r : R y nx) : CTurn h₀ L m s₁ I oI C oC D oD R y { s₁ with heap := h', toks := tk } :=
  CTurn.intro F N nx sub off r
end
theorem take_snoc {α : Type} {l : List α} {i : Nat} {x : α} (h : l[i]? = some x) : l.take (i + 1) = l.take i ++ [x] := by rw [List.take_succ, h]; rfl
theorem take_all {α : Type} {l : List α} {n : Nat} (h : n = l.length) : l.take n = l := by rw [h]; exact List.take_length
/-- the made list of a comprehension, the frame left -/
theorem ord_last {D : Addr} {o : Obj} {news tl' : Led} (ho : ∀ q ∈ news, ∀ p ∈ tl', q.1 ≠ p.1) (hD : ∀ p ∈ news ++ tl', p.1 ≠ D) : ∀ q ∈ news, ∀ p ∈ tl' ++ [(D, o)], q.1 ≠ p.1 := by
  intro q hq p hp
  rcases List.mem_append.mp hp with hp | hp
  · exact ho q hq p hp
  · rw [List.mem_singleton.mp hp]; exact hD q (List.mem_append.mpr (.inl hq))
theorem news_last {h₀ h : Heap} {L D : Addr} {o : Obj} {news tl' : Led} (N : News h₀ L h ((D, o) :: (news ++ tl'))) : News h₀ L h (news ++ (tl' ++ [(D, o)])) := news_sub N fun p hp => by
  rw [← List.append_assoc] at hp
  rcases List.mem_append.mp hp with hp | hp
  · exact .tail _ hp
  · rw [List.mem_singleton.mp hp]; exact .head _
theorem last_mem {D : Addr} {o : Obj} {news tl' : Led} : (D, o) ∈ news ++ (tl' ++ [(D, o)]) := List.mem_append.mpr (.inr (List.mem_append.mpr (.inr (.head _))))
theorem sub_last {x : Addr × Obj} {news tl' : Led} : ∀ p ∈ news ++ tl', p ∈ news ++ (tl' ++ [x]) := fun _ hp => mem_more hp
theorem sub_two {a b : Addr × Obj} {news tl' : Led} : ∀ p ∈ news ++ tl', p ∈ news ++ (tl' ++ [a, b]) := fun _ hp => mem_more hp
theorem last2a {a b : Addr × Obj} {news tl' : Led} : a ∈ news ++ (tl' ++ [a, b]) := List.mem_append.mpr (.inr (List.mem_append.mpr (.inr (.head _))))
theorem last2b {a b : Addr × Obj} {news tl' : Led} : b ∈ news ++ (tl' ++ [a, b]) := List.mem_append.mpr (.inr (List.mem_append.mpr (.inr (.tail _ (.head _)))))
theorem cell_off {x x' : Addr × Obj} {news tl : Led} {L : Addr} {oa : Obj} (h1 : ∀ p ∈ x :: news, p.1 < L) (h2 : ∀ q ∈ (L + 1, oa) :: x :: news, ∀ p ∈ tl, q.1 ≠ p.1) (e : x'.1 = x.1) : ∀ p ∈ x' :: (news ++ tl), p.1 ≠ L + 1 := by
  intro p hp
  rcases List.mem_cons.mp hp with rfl | hp
  · rw [e]; exact Nat.ne_of_lt (Nat.lt_succ_of_lt (h1 _ (.head _)))
  · rcases List.mem_append.mp hp with hp | hp
    · exact Nat.ne_of_lt (Nat.lt_succ_of_lt (h1 _ (.tail _ hp)))
    · exact (h2 _ (.head _) p hp).symm
theorem list_in {q c T : Addr} {l : List Value} {n : Nat} {o : Obj} {v : Option Value} {ps : Array Value} {nx news tl : Led} (h : (q, listOf l.toArray n) ∈ nx ++ tl) (hnx : ∀ p ∈ nx, p ∈ (c, o) :: (T, tabObj ps) :: news ∧ p.1 ≠ T) (d : o.data = .cell v) :
    (q, listOf l.toArray n) ∈ news ++ tl := by
  rcases List.mem_append.mp h with h | h
  · obtain ⟨h, hT⟩ := hnx _ h
    rcases List.mem_cons.mp h with e | h
    · injection e with _ e; rw [← e] at d; cases d
    · rcases List.mem_cons.mp h with e | h
      · injection e with e _; exact absurd e hT
      · exact List.mem_append.mpr (.inl h)
  · exact List.mem_append.mpr (.inr h)
section
variable {prog : Program} {w : World} {A : Around} {E : Value → Shared → Prop} {s : Shared} {h₀ : Heap} {L : Addr} {m : Str → Option Value} {news news' : Led}
theorem my_tupleOf {l : Addr} {vs : List Value} {k : Nat} {Q : Value → Shared → Prop} (F : Fr h₀ L s.heap m) (N : News h₀ L s.heap news) (hm : (l, listOf vs.toArray k) ∈ news) (hz : vs.length ≤ 16384)
    (h : ∀ D h', Fr h₀ L h' m → News h₀ L h' ((D, tup vs 0) :: news) → (∀ p ∈ news, p.1 < D) → Q (.ref D) { s with heap := h' }) : wpAny (model prog w) A (call (.type "tuple") [.ref l]) Q E s :=
  kde_tupleOf F N (News.isList N hm) (by simpa using hz) rfl h
theorem my_tupleOfB {l : Addr} {vs : List Value} {k : Nat} {Q : Value → Shared → Prop} (F : Fr h₀ L s.heap m) (N : News h₀ L s.heap news) (hm : (l, listOf vs.toArray k) ∈ news) (hz : vs.length ≤ 16384)
    (h : ∀ D h', Fr h₀ L h' m → News h₀ L h' ((D, tup vs 0) :: news) → (∀ p ∈ news, p.1 < D) → AllLt D news → Q (.ref D) { s with heap := h' }) : wpAny (model prog w) A (call (.type "tuple") [.ref l]) Q E s :=
  my_tupleOf F N hm hz fun D h' F' N' l => h D h' F' N' l (allLt_of l)
theorem list_setLast {l : Addr} {items : Array Value} {n : Nat} {t : Tok} {v : Value} {Q : Unit → Shared → Prop} (ho : s.heap.get? l = some (listOf items n)) (hn : 0 < items.size)
    (hQ : Q () { s with heap := s.heap.update l (Obj.mapSeq (·.setIfInBounds (items.size - 1) v)) }) : wpAny (model prog w) A (setItem (.ref l) (.int (-1) t) v) Q E s := by
  have hl : s.heap.IsList l items := PySem.IsL.isList (n := n) ho
  unfold setItem
  try with_reducible refine wpAny_holding ?_
  first | refine wpAny_bind (wpAny_pure ?_) | skip
  refine wpAny_bind (wpAny_sequenceKey hl.typeIs (by decide) ?_)
  refine wpAny_bind (wpAny_callSpecial?_slot (name := Str.ofString "__setitem__") hl.typeIs slot_list_setitem
    (wpAny_call_entry slot_list_setitem hl.typeIs entry_list_setitem ?_ (args_list_setitem _ _ _)))
  show wpAny _ _ (Builtin.List.listSubscript? (.int (-1) t) >>= _) _ _ s
  refine wpAny_bind (wpAny_listSubscript_int (fitsIndex_neg (by decide) (by decide)) ?_)
  have hidx : seqIndex? (-1) items.size = some (items.size - 1) := by
    have := seqIndex_neg (k := -1) (n := items.size) (by decide) (by omega)
    rw [this]; congr 1; omega
  have hj : items.size - 1 < items.size := by omega
  have hx' : items[items.size - 1]? = some items[items.size - 1] := Array.getElem?_eq_getElem hj
  show wpAny _ _ ((Builtin.List.listItems (.ref l) >>= fun xs => pure ((seqIndex? (-1) xs.size).bind fun i => xs[i]?.map (i, ·))) >>= _) _ _ s
  refine wpAny_bind (wpAny_bind ?_)
  show wpAny _ _ (seqItems? (.ref l) >>= _) _ _ s
  refine wpAny_bind (wpAny_seqItems ho rfl (wpAny_pure (wpAny_pure ?_)))
  rw [hidx]
  simp only [Option.bind_some, hx', Option.map_some]
  show wpAny _ _ (setSeqItemAt l (items.size - 1) v >>= _) _ _ s
  refine wpAny_bind (wpAny_setSeqItemAt ho rfl ?_)
  first
    | exact wpAny_bind (wpAny_pure (wpAny_pure ⟨.none, rfl, wpAny_pure hQ⟩))
    | exact wpAny_pure ⟨.none, rfl, wpAny_pure hQ⟩
theorem my_setLast {D : Addr} {vs : List Value} {x v : Value} {n : Nat} {t : Tok} {Q : Unit → Shared → Prop} (F : Fr h₀ L s.heap m) (N : News h₀ L s.heap news) (U : Upd D (listOf (vs ++ [x]).toArray n) (listOf (vs ++ [v]).toArray n) news news')
    (h : ∀ h', Fr h₀ L h' m → News h₀ L h' news' → Q () { s with heap := h' }) : wpAny (model prog w) A (setItem (.ref D) (.int (-1) t) v) Q E s := by
  obtain ⟨pre, post, rfl, rfl, a, b⟩ := U.split
  have z := N (D, listOf (vs ++ [x]).toArray n) (List.mem_append.mpr (.inr (.head _)))
  refine list_setLast z.1 (by simp) (h _ (F.change (Heap.SameBut.update ..) z.2.1 z.2.2) (ki_turn _ N a b ?_ ?_))
  · apply Array.toList_inj.mp
    simp
  · simp
end
theorem off_one {O : Addr} {a : Addr × Obj} {news tl' : Led} (h : ∀ p ∈ news ++ tl', p.1 ≠ O) (l : (@LT.lt Nat _ O a.1)) : ∀ p ∈ news ++ (tl' ++ [a]), p.1 ≠ O := fun p hp => by
  rw [← List.append_assoc] at hp
  rcases List.mem_append.mp hp with hp | hp
  · exact h p hp
  · rw [List.mem_singleton.mp hp]; exact Nat.ne_of_gt l
theorem ord_one {a : Addr × Obj} {news tl' : Led} (ho : ∀ q ∈ news, ∀ p ∈ tl', q.1 ≠ p.1) (l : AllLt a.1 (news ++ tl')) : ∀ q ∈ news, ∀ p ∈ tl' ++ [a], q.1 ≠ p.1 := fun q hq p hp => by
  rcases List.mem_append.mp hp with hp | hp
  · exact ho q hq p hp
  · rw [List.mem_singleton.mp hp]; exact Nat.ne_of_lt (lt_of_all l (List.mem_append.mpr (.inl hq)))
theorem last1 {a : Addr × Obj} {news tl' : Led} : a ∈ news ++ (tl' ++ [a]) := List.mem_append.mpr (.inr (List.mem_append.mpr (.inr (.head _))))
section
variable {h₀ h' : Heap} {L I O : Addr} {oI o o' : Obj} {Jn : (Str → Option Value) → Led → Prop} {s₁ : Shared} {Q : Flow → Shared → Prop} {m' : Str → Option Value} {tk : Nat} {a : Addr × Obj} {news tl' : Led}
theorem TurnPost.one (F : Fr h₀ L h' m') (N : News h₀ L h' (a :: (I, oI) :: (O, o) :: (news ++ tl'))) (l : (@LT.lt Nat _ I a.1) ∧ (@LT.lt Nat _ O a.1) ∧ AllLt a.1 (news ++ tl')) (hnI : ∀ p ∈ (O, o') :: (news ++ tl'), p.1 ≠ I) (hJ : Jn m' ((O, o) :: (news ++ (tl' ++ [a])))) :
    TurnPost h₀ L I oI Jn s₁ Q .next { s₁ with heap := h', toks := tk } := by
  refine TurnPost.next F N _ (fun p hp => ?_) (fun p hp => ?_) hJ
  · simp only [List.mem_cons, List.mem_append, List.not_mem_nil, or_false] at hp ⊢
    rcases hp with h | h | h | h | h <;> simp only [h, true_or, or_true]
  · rcases List.mem_cons.mp hp with rfl | hp
    · exact hnI (O, o') (.head _)
    · rw [← List.append_assoc] at hp
      rcases List.mem_append.mp hp with hp | hp
      · exact hnI _ (.tail _ hp)
      · rw [List.mem_singleton.mp hp]; exact Nat.ne_of_gt l.1
end
section
variable {prog : Program} {w : World} {A : Around} {E : Value → Shared → Prop} {s : Shared} {h₀ : Heap} {L a b : Addr} {m : Str → Option Value} {news : Led} {va vb : List Value} {ka kb : Nat} {Q : Value → Shared → Prop}
theorem my_addL (F : Fr h₀ L s.heap m) (N : News h₀ L s.heap news) (ha : (a, listOf va.toArray ka) ∈ news) (hb : (b, listOf vb.toArray kb) ∈ news) (hz : va.length + vb.length ≤ 16384)
    (h : ∀ D h', Fr h₀ L h' m → News h₀ L h' ((D, listOf (va ++ vb).toArray 0) :: news) → (∀ p ∈ news, p.1 < D) → Q (.ref D) { s with heap := h' }) : wpAny (model prog w) A (binaryOp .Add (.ref a) (.ref b)) Q E s :=
  kmk_add_lit F N (News.isList N ha) (News.isList N hb) rfl h (by rw [sizeLine_eq]; simp only []; omega)
end
theorem met_sub {nx news tl : Led} {c T : Addr} {o : Obj} {ps ps' : Array Value} (h : ∀ p ∈ nx, p ∈ (c, o) :: (T, tabObj ps) :: news ∧ p.1 ≠ T) : ∀ p ∈ nx ++ tl, p ∈ (c, o) :: (T, tabObj ps') :: (news ++ tl) := fun p hp => by
  rcases List.mem_append.mp hp with hp | hp
  · obtain ⟨h, hT⟩ := h p hp
    rcases List.mem_cons.mp h with rfl | h
    · exact .head _
    · rcases List.mem_cons.mp h with rfl | h
      · exact absurd rfl hT
      · exact .tail _ (.tail _ (List.mem_append.mpr (.inl h)))
  · exact .tail _ (.tail _ (List.mem_append.mpr (.inr hp)))
/-- T's addresses are none of n's -/
noncomputable def Fresh (n T : Led) : Prop := ∀ q ∈ n, ∀ p ∈ T, (@Ne Nat q.1 p.1)
theorem Fresh.app {n a b : Led} (h : Fresh n a) (g : Fresh n b) : Fresh n (a ++ b) := fun q hq p hp => (List.mem_append.mp hp).elim (h q hq p) (g q hq p)
theorem Fresh.tl {n all tl : Led} (h : ∀ q ∈ all, ∀ p ∈ tl, q.1 ≠ p.1) (hs : ∀ q ∈ n, q ∈ all) : Fresh n tl := fun q hq p hp => h q (hs q hq) p hp
theorem Fresh.lt {n all : Led} {d : Addr} {o : Obj} (h : ∀ p ∈ all, p.1 < d) (hs : ∀ q ∈ n, q ∈ all) : Fresh n [(d, o)] := fun q hq p hp => by
  rw [List.mem_singleton.mp hp]; exact Nat.ne_of_lt (h q (hs q hq))
theorem Fresh.alt {n all : Led} {d : Addr} {o : Obj} (h : AllLt d all) (hs : ∀ q ∈ n, q ∈ all) : Fresh n [(d, o)] := fun q hq p hp => by
  rw [List.mem_singleton.mp hp]; exact Nat.ne_of_lt (lt_of_all h (hs q hq))
theorem Fresh.two {n : Led} {a b : Addr × Obj} (h : Fresh n [a]) (g : Fresh n [b]) : Fresh n [a, b] := h.app g
theorem Fresh.one {n all : Led} {a : Addr × Obj} (h : ∀ p ∈ all, p.1 < a.1) (hs : ∀ q ∈ n, q ∈ all) : Fresh n [a] := Fresh.lt (o := a.2) h hs
theorem Fresh.gt {n : Led} {a b : Addr × Obj} (h : Fresh n [b]) (hl : ∀ q ∈ n, (@LT.lt Nat _ q.1 b.1)) (l : (@LT.lt Nat _ b.1 a.1)) : Fresh n [a] := fun q hq p hp => by
  rw [List.mem_singleton.mp hp]; exact Nat.ne_of_lt (Nat.lt_trans (hl q hq) l)
/-- what a def whose table stands in the ledger hands back -/
theorem fin2 {h₀ h : Heap} {L T : Addr} {ps : Array Value} {a b : Addr × Obj} {rest news tl : Led} (N : News h₀ L h (a :: b :: rest)) (h8 : (T, tabObj ps) ∈ rest) (hs : ∀ p ∈ news ++ tl, p ∈ rest) (h1 : ∀ p ∈ rest, p.1 < b.1) (h2 : (@LT.lt Nat _ b.1 a.1))
    (ho : ∀ q ∈ news, ∀ p ∈ tl, q.1 ≠ p.1) (hn : ∀ p ∈ tl, p.1 ≠ T) : News h₀ L h ((T, tabObj ps) :: (news ++ (tl ++ [a, b]))) ∧ (∀ q ∈ news, ∀ p ∈ tl ++ [a, b], q.1 ≠ p.1) ∧ (∀ p ∈ tl ++ [a, b], p.1 ≠ T) := by
  refine ⟨news_sub N fun p hp => ?_, fun q hq p hp => ?_, fun p hp => ?_⟩
  · rcases List.mem_cons.mp hp with rfl | hp
    · exact .tail _ (.tail _ h8)
    · rw [← List.append_assoc] at hp
      rcases List.mem_append.mp hp with hp | hp
      · exact .tail _ (.tail _ (hs p hp))
      · simp only [List.mem_cons, List.not_mem_nil, or_false] at hp
        rcases hp with rfl | rfl
        · exact .head _
        · exact .tail _ (.head _)
  · rcases List.mem_append.mp hp with hp | hp
    · exact ho q hq p hp
    · have h3 := h1 q (hs q (List.mem_append.mpr (.inl hq)))
      simp only [List.mem_cons, List.not_mem_nil, or_false] at hp
      rcases hp with rfl | rfl
      · exact Nat.ne_of_lt (Nat.lt_trans h3 h2)
      · exact Nat.ne_of_lt h3
  · rcases List.mem_append.mp hp with hp | hp
    · exact hn p hp
    · have h3 := h1 _ h8
      simp only [List.mem_cons, List.not_mem_nil, or_false] at hp
      rcases hp with rfl | rfl
      · exact Nat.ne_of_gt (Nat.lt_trans h3 h2)
      · exact Nat.ne_of_gt h3
theorem sub_mid {a c e : Addr × Obj} {x y z : Led} : ∀ p ∈ c :: e :: (x ++ y), p ∈ a :: c :: e :: (x ++ (y ++ z)) := fun p hp => by
  rcases List.mem_cons.mp hp with rfl | hp
  · exact .tail _ (.head _)
  · rcases List.mem_cons.mp hp with rfl | hp
    · exact .tail _ (.tail _ (.head _))
    · exact .tail _ (.tail _ (.tail _ (mem_more hp)))
noncomputable def CtxIn (news : Led) (c : Addr) (gn gu : Int) : Prop := Ex3 fun n t u => An3 ((c, tup [.int gn t, .int gu u] n) ∈ news) (0 < gn) (0 < gu)
theorem CtxIn.mono {news news' : Led} {c : Addr} {gn gu : Int} (x : CtxIn news c gn gu) (hs : ∀ p ∈ news, p ∈ news') : CtxIn news' c gn gu :=
  let ⟨n, t, u, a, b, e⟩ := x; ⟨n, t, u, hs _ a, b, e⟩
/-! a for over a range whose turns keep names; comprehensions over a tuple of the top -/
section
variable {prog : Program} {w : World} {A : Around} {E : Value → Shared → Prop} {s : Shared} {env : Env} {h₀ : Heap} {target : PySem.Expr} {body : List Stmt} {Q : Flow → Shared → Prop}
theorem iter_rangeJ {r : Addr} {a b : Int} {t u v : Tok} {n : Nat} {m : Str → Option Value} {news : Led} (hh : A.handled = none) (hT : ∀ it v, letOwnedTupleGo target it v = pure ()) (hr : IsRange s.heap r a b 1 t u v) (hsm : Builtin.Range.small a b 1 = true) (hn : Builtin.Range.rangeSize a b 1 = ((n : Nat) : Int))
    (F : Fr h₀ env.locals s.heap m) (N : News h₀ env.locals s.heap news) (J : Nat → (Str → Option Value) → Led → Prop) (h0 : J 0 m news)
    (turn : ∀ i v m₁ nx h tk I oI (q : Flow → Shared → Prop), (∀ f s', TurnPost h₀ env.locals I oI (J (i + 1)) { s with heap := h, toks := tk } Q f s' → q f s') → i < n → (∃ t, v = .int (a + (i : Int)) t) → J i m₁ nx → (∀ p ∈ nx, p.1 ≠ I) → Fr h₀ env.locals h m₁ → News h₀ env.locals h ((I, oI) :: nx) →
      wpAny (model prog w) A (assign target env v) (fun _ s₃ => wpAny (model prog w) A (execs body env) q E s₃) E { s with heap := h, toks := tk })
    (done : ∀ m' nx h tk, J n m' nx → Fr h₀ env.locals h m' → News h₀ env.locals h nx → Q .next { s with heap := h, toks := tk }) :
    wpAny (model prog w) A (pyIter (.ref r)) (fun it s₂ => TurnsAt prog w A h₀ env target body Q E it s₂) E s := by
  refine wpAny_pyIter_range hr hsm ?_
  have hLlt : env.locals < s.heap.objs.size := F.ns.lt
  refine turns_of (rest := []) (ob := fun _ => default) (LCg.range_walks hh a n) (fun i v s' Q' E' st hq => by rw [hT]; exact wpAny_pure hq) (fun i h st => ⟨_, st⟩) ?_ (next_is_new F) (fun p hp => Nat.ne_of_lt (Heap.lt_size (N p hp).1))
    (by show IsRangeIter _ _ _ _ _; rw [hn]; simpa using Heap.get?_push_size _ rfl) (F.push _) (fun p hp => ⟨Heap.get?_push_of_some _ (N p hp).1, (N p hp).2⟩) J h0 (fun _ _ _ _ b hb => nomatch hb) (fun i v m₁ nx h tk oI hi hP j hI F₁ N₁ => turn i v m₁ nx h tk _ oI _ (fun _ _ x => x) hi hP j hI F₁ N₁) done
  intro hm
  exact absurd hLlt ((List.mem_singleton.mp hm) ▸ Nat.lt_irrefl _)
theorem map_two {m : Str → Option Value} {a b : Str} {x y : Value} (ha : m a = some x) (hb : m b = some y) : m = fun z => if z = a then some x else if z = b then some y else m z := by
  funext z
  by_cases h : z = a
  · rw [if_pos h, h, ha]
  · rw [if_neg h]
    by_cases h' : z = b
    · rw [if_pos h', h', hb]
    · rw [if_neg h']
end
section
variable {prog : Program} {w : World} {A : Around} {E : Value → Shared → Prop} {s : Shared} {h₀ : Heap} {L : Addr} {m : Str → Option Value} {env : Env}
theorem tup_stB {ax I : Addr} {its : List Value} (hb : h₀.IsTuple ax its.toArray) : ∀ i (h h' : Heap) (o : Obj) (nw : Led), (h.IsTupleIter I ax i ∧ h.IsTuple ax its.toArray) → h.get? I = some o → h'.get? I = some o → (∀ b o, h₀.get? b = some o → h'.get? b = some o) → News h₀ L h' nw → True → (h'.IsTupleIter I ax i ∧ h'.IsTuple ax its.toArray) :=
  fun i h h' o nw st e e' k _ _ => ⟨by obtain ⟨o', q, r⟩ := st.1; rw [e] at q; cases q; exact ⟨o, e', r⟩, hb.at fun o e => k _ o e⟩
noncomputable def SrcB (prog : Program) (w : World) (A : Around) (h₀ : Heap) (L : Addr) (m : Str → Option Value) (env : Env) (ct elt : PySem.Expr) (x : Str) (scope : Scope) (cl : List (Str × Addr)) (Fin : Shared → List Value → Led → Prop) (xv : Value) (s₁ : Shared) : Prop :=
  Ex3 fun (ax : Addr) (its : List Value) (news : Led) => An7 (xv = .ref ax) (A.handled = none) (Fr h₀ L s₁.heap m) (News h₀ L s₁.heap news) (h₀.IsTuple ax its.toArray) (its.length ≤ sizeLine) (∀ g, LCt.CompRestT prog w A h₀ L m env ct elt x scope cl { s₁ with heap := g } (fun _ => True) (fun i v => its[i]? = some v) (Fin { s₁ with heap := g }) its.length 0 [] news)
theorem my_ListComp_B {ct elt iter : PySem.Expr} {x : Str} {px : Pos} {scope : Scope} {cl : List (Str × Addr)} {pos : Pos} {Q : Value → Shared → Prop} (F₀ : Fr h₀ L s.heap m)
    (hclos : closureFor scope env = pure cl) (hcell : ∀ y ∈ scope.names, y.2 ≠ .cell) (hkind : scope.kind = .function)
    (hnames : ∀ y ∈ scope.names, y.2 = .local → scope.names.lookup y.1 = some .local) (hx : scope.names.lookup x = some .local)
    (h : wpAny (model prog w) A (eval iter env) (SrcB prog w A h₀ L m env ct elt x scope cl (fun s₂ => LCg.FinE h₀ L m s₂ Q)) E s)
    (hs : ∀ x, foldedSetIterable iter env x = pure x := by intro _; rfl) :
    wpAny (model prog w) A (eval (.ListComp elt [⟨.Name x px, iter, [ct], 0⟩] scope pos) env) Q E s := by
  rw [eval_ListComp]
  refine wpAny_comprehension_free (use := none) rfl hs hclos hkind hnames (wpAny_mono h (fun xv s₁ h₁ => ?_) fun _ _ e => e)
  obtain ⟨ax, its, news, rfl, hh, F, N, hb, hsz, R⟩ := h₁
  have hl : s₁.heap.IsTuple ax its.toArray := hb.at fun o e => F.keep _ o e
  have hlt : ax < s₁.heap.objs.size := by obtain ⟨_, e, _⟩ := hl; exact Heap.lt_size e
  have ez : its.toArray.size = its.length := List.size_toArray
  refine wpAny_pyIter_tuple hl ?_
  have W := Walks.tuple (prog := prog) (w := w) hh s₁.heap.objs.size ax (Nat.ne_of_lt hlt) its.toArray
  rw [ez] at W
  refine LCt.block_T (P := fun i v => its[i]? = some v) (S := fun _ => True) (news := news) (Fin := LCg.FinE h₀ L m _ Q) { sub := W.sub, frame := W.frame, done := W.done, self := W.self, item := fun i s Q E hi st hQ => W.item i s Q E hi st fun v h' tk hP => hQ v h' tk (by simpa using hP) } hsz (fun i h st => by obtain ⟨o, e, _⟩ := st.1; exact ⟨o, e⟩) (tup_stB hb) hcell hkind hx ⟨⟨_, Heap.get?_push_size _ rfl, rfl, rfl⟩, hl.at fun o e => Heap.get?_push_of_some _ e⟩ (fun b hb => ?_)
    (F.push _) (fun p hp => ⟨Heap.get?_push_of_some _ (N p hp).1, (N p hp).2⟩) (Nat.ne_of_lt F.ns.lt) (next_is_new F) (fun p hp => Nat.ne_of_lt (Heap.lt_size (N p hp).1)) trivial (R _) ?_
  · show b < (s₁.heap.push _).objs.size
    rw [Heap.size_push]
    rcases List.mem_cons.mp hb with rfl | hb
    · exact Nat.lt_succ_self _
    · rw [List.mem_singleton.mp hb]; exact Nat.lt_succ_of_lt hlt
  · intro D C h tk m' ys news' F' N' o1 hn hC₀ hD₀ hCL hDL hCD offC fin
    refine ⟨m', hn, fun h'' hs'' => fin D h'' tk (F'.change hs'' hCL hC₀) (fun p hp => ?_) o1⟩
    refine ⟨hs''.extBut _ _ ?_ (N' p hp).1, (N' p hp).2⟩
    rcases List.mem_cons.mp hp with rfl | hp
    · exact Ne.symm hCD
    · exact offC p hp
theorem my_Assign_B {ct elt iter : PySem.Expr} {x y : Str} {px py : Pos} {scope : Scope} {cl : List (Str × Addr)} {pos spos : Pos} {Q : Flow → Shared → Prop} (F₀ : Fr h₀ L s.heap m) (hLe : env.locals = L)
    (hsw : swapsWith (.ListComp elt [⟨.Name x px, iter, [ct], 0⟩] scope pos) (some (.Name y py)) spos.line env = pure true)
    (hclos : closureFor scope env = pure cl) (hcell : ∀ z ∈ scope.names, z.2 ≠ .cell) (hkind : scope.kind = .function)
    (hnames : ∀ z ∈ scope.names, z.2 = .local → scope.names.lookup z.1 = some .local) (hx : scope.names.lookup x = some .local)
    (hy : env.kindOf y = some .local) (hp : (env.scope.kind == .class || (env.scope.kind == .module && env.locals != env.globals)) = false)
    (h : wpAny (model prog w) A (eval iter env) (SrcB prog w A h₀ L m env ct elt x scope cl (fun s₂ => LCg.FinA h₀ L m s₂ y Q)) E s)
    (hs : ∀ x, foldedSetIterable iter env x = pure x := by intro _; rfl) :
    wpAny (model prog w) A (exec (.Assign [.Name y py] (.ListComp elt [⟨.Name x px, iter, [ct], 0⟩] scope pos) spos) env) Q E s := by
  subst hLe
  rw [exec_Assign_Name_used _ _ _ _ hsw]
  refine wpAny_bind (wpAny_standAt (wpAny_bind ?_))
  show wpAny _ A (do let _ ← comprehension (.ListComp elt [⟨.Name x px, iter, [ct], 0⟩] scope pos) scope env _ (newList []) false (eval iter env) (some (assign (.Name y py) env))) _ _ s
  refine wpAny_bind (wpAny_mono (wpAny_comprehension_free (use := some (assign (.Name y py) env)) (Q := fun _ s' => Q .next s') rfl hs hclos hkind hnames
    (wpAny_mono h (fun xv s₁ h₁ => ?_) fun _ _ e => e)) (fun _ s' hq => wpAny_pure (wpAny_pure hq)) fun _ _ e => e)
  obtain ⟨ax, its, news, rfl, hh, F, N, hb, hsz, R⟩ := h₁
  have hl : s₁.heap.IsTuple ax its.toArray := hb.at fun o e => F.keep _ o e
  have hlt : ax < s₁.heap.objs.size := by obtain ⟨_, e, _⟩ := hl; exact Heap.lt_size e
  have ez : its.toArray.size = its.length := List.size_toArray
  refine wpAny_pyIter_tuple hl ?_
  have W := Walks.tuple (prog := prog) (w := w) hh s₁.heap.objs.size ax (Nat.ne_of_lt hlt) its.toArray
  rw [ez] at W
  refine LCt.block_T (P := fun i v => its[i]? = some v) (S := fun _ => True) (news := news) (Fin := LCg.FinA h₀ env.locals m _ y Q) { sub := W.sub, frame := W.frame, done := W.done, self := W.self, item := fun i s Q E hi st hQ => W.item i s Q E hi st fun v h' tk hP => hQ v h' tk (by simpa using hP) } hsz (fun i h st => by obtain ⟨o, e, _⟩ := st.1; exact ⟨o, e⟩) (tup_stB hb) hcell hkind hx ⟨⟨_, Heap.get?_push_size _ rfl, rfl, rfl⟩, hl.at fun o e => Heap.get?_push_of_some _ e⟩ (fun b hb => ?_)
    (F.push _) (fun p hp => ⟨Heap.get?_push_of_some _ (N p hp).1, (N p hp).2⟩) (Nat.ne_of_lt F.ns.lt) (next_is_new F) (fun p hp => Nat.ne_of_lt (Heap.lt_size (N p hp).1)) trivial (R _) ?_
  · show b < (s₁.heap.push _).objs.size
    rw [Heap.size_push]
    rcases List.mem_cons.mp hb with rfl | hb
    · exact Nat.lt_succ_self _
    · rw [List.mem_singleton.mp hb]; exact Nat.lt_succ_of_lt hlt
  · intro D C h' tk m' ys news' F' N' o1 hn hC₀ hD₀ hCL hDL hCD offC fin
    show wpAny _ A (assign (.Name y py) env (.ref D)) _ _ _
    refine wpAny_assign_Name (wpAny_storeName_local hy F'.ns (fun h₂ hn₂ hs₂ => ?_) hp)
    have hL₀ : h₀.get? env.locals = none := Heap.get?_none_of_le F'.above
    have F₂ : Fr h₀ env.locals h₂ (fun z => if z = y then some (.ref D) else m z) := ⟨hn₂, fun b o e => hs₂.extBut b o (fun q => by rw [q, hL₀] at e; cases e) (F'.keep b o e), F'.above⟩
    refine ⟨m', hn.sameBut hs₂ hCL, fun h'' hs'' => fin D h'' _ (F₂.change hs'' hCL hC₀) (fun p hp => ?_) o1⟩
    have z : h₂.get? p.1 = some p.2 := hs₂.extBut _ _ (N' p hp).2.1 (N' p hp).1
    refine ⟨hs''.extBut _ _ ?_ z, (N' p hp).2⟩
    rcases List.mem_cons.mp hp with rfl | hp
    · exact Ne.symm hCD
    · exact offC p hp
end
local macro_rules | `(tactic| kpc_turns) => `(tactic| (k_steps; (all_goals (try ((with_reducible refine opBack (by assumption) ?_); (try dsimp only); kpc_turns)))))
local macro_rules | `(tactic| k_all) => `(tactic| assumption)
local macro_rules | `(tactic| lsm_bools) => `(tactic| first | exact List.mem_cons_self | (with_reducible apply List.mem_cons_of_mem; lsm_bools) | assumption | (with_reducible apply mem_l; lsm_bools) | (with_reducible apply mem_r; lsm_bools))
local macro_rules | `(tactic| kbo_bools) => `(tactic| first | with_reducible exact subRefl | with_reducible exact subNil | (with_reducible apply subAppB; kbo_bools) | (with_reducible apply subCons; (focus lsm_bools); kbo_bools) | (with_reducible apply subApp; (focus kbo_bools); kbo_bools) | (with_reducible apply subTail; kbo_bools) | (with_reducible apply subL; kbo_bools) | (with_reducible apply subR; kbo_bools))
local macro_rules | `(tactic| kxs_still) => `(tactic| first | ((repeat (first | with_reducible apply subBoth | with_reducible apply subTail)); kbo_bools) | kbo_bools | walk_at "my_perm0")
local macro_rules | `(tactic| k_mem) => `(tactic| lsm_bools)
local macro_rules | `(tactic| walk_at "my_perm0") => `(tactic| (intro p9 h9; (try simp only [List.mem_cons, List.mem_append] at h9 ⊢); first | exact h9 | (simp only [h9, true_or, or_true]; done) | (rcases h9 with h9 | h9 <;> simp only [h9, true_or, or_true] <;> done) | (rcases h9 with h9 | h9 | h9 <;> simp only [h9, true_or, or_true] <;> done)))
local macro_rules | `(tactic| walk_at "my_room0") => `(tactic| first | exact room3 (by assumption) (by decide) | exact room2 (by assumption) (by decide) | exact room1 (by assumption) | exact room3 (by assumption) (by omega) | exact room2 (by assumption) (by omega))
local macro_rules | `(tactic| ktr_room) => `(tactic| walk_at "my_room0")
local macro_rules | `(tactic| ktr_units) => `(tactic| walk_at "my_room0")
local macro_rules | `(tactic| walk_at "my_room") => `(tactic| first | walk_at "my_room0" | ((try simp only [depth_under_make, depth_under_kw, depth_in1, depth_deeper, depth_caller, units_in1, units_deeper, Around.mark_units, units_caller, ktrTop] at *); (try dsimp only [ktrTop] at *); omega))
local macro_rules | `(tactic| bits_by_make) => `(tactic| first | (with_reducible assumption) | exact And.left (by with_reducible assumption) | exact And.left (And.right (by with_reducible assumption)) | exact And.left (And.right (And.right (by with_reducible assumption))) | exact And.left (And.right (And.right (And.right (by with_reducible assumption)))) | exact And.left (And.right (And.right (And.right (And.right (by with_reducible assumption))))) | exact And.left (And.right (And.right (And.right (And.right (And.right (by with_reducible assumption)))))) | exact And.left (And.right (And.right (And.right (And.right (And.right (And.right (by with_reducible assumption))))))) | exact And.left (And.right (And.right (And.right (And.right (And.right (And.right (And.right (by with_reducible assumption)))))))))
local macro_rules | `(tactic| k_ne) => `(tactic| first | (with_reducible assumption) | (with_reducible exact Ne.symm (by assumption)) | (refine neN ?_; (try dsimp only); first | (with_reducible assumption) | (with_reducible exact Ne.symm (by assumption)) | exact Nat.ne_of_gt (by bits_by_make) | exact Nat.ne_of_lt (by bits_by_make) | exact Nat.ne_of_gt (Nat.lt_succ_of_lt (by bits_by_make)) | exact Nat.succ_ne_self _ | omega))
local macro_rules | `(tactic| walk_at "my_halt") => `(tactic| (k_here; k_dflt (refine Halt.mk ?_)))
local macro_rules | `(tactic| walk_at "my_len") => `(tactic| first | omega | (simp only [List.length_append, List.length_cons, List.length_nil]; omega))
local macro_rules | `(tactic| tbr_iter $l) => `(tactic| (k_here; k_dflt ((with_reducible apply $l); k_asm; lsm_bools; lsm_bools; walk_at "my_room")))
local macro_rules | `(tactic| ktn_call $f $c) => `(tactic| (k_here; (with_reducible show wpAny _ _ (call (Value.ref $f) _) _ _ _); k_dflt (refine' Gives.goT $c ?k9 ?_; (case k9 => walk_at "my_pre"); (all_goals (try first | (with_reducible assumption) | rfl)); intro t9 tl9 h9 tk9 F9 N9 hl9; walk_at "my_t0")))
local macro_rules | `(tactic| ktn_call "sub" $l) => `(tactic| (k_here; k_dflt ((with_reducible apply $l); (with_unfolding_all rfl); k_asm; lsm_bools)))
local macro_rules | `(tactic| ktn_call "in" $l) => `(tactic| (k_here; k_dflt ((with_reducible apply $l); k_asm; lsm_bools; assumption)))
local macro_rules | `(tactic| walk_at "call builtin:len") => `(tactic| (k_here; k_dflt ((with_reducible apply my_lenL); k_asm; lsm_bools; walk_at "my_len")))
local macro_rules | `(tactic| walk_at "my_map") => `(tactic| (repeat' (first | exact MapIn.base | exact MapIn.refl | assumption | (refine MapIn.upd (by rfl) ?_))))
local macro_rules | `(tactic| walk_at "TurnPost") => `(tactic| (refine TurnPost.ret ?_))
local macro_rules | `(tactic| walk_at "my_enter") => `(tactic| (apply enter; exact rfl; exact rfl; (first | assumption | exact rfl); (iterate 5 k_asm); k_is; k_is; walk_at "my_room"; (first | exact BindsTo.of_eq rfl | exact binds_K (by k_in) rfl (by k_is) rfl rfl rfl); decide; exact locs rfl; exact rfl; k_whole; intro g' L' h' FG' F' N' B' X' T'; (try dsimp only); (try k_fold)))
local macro_rules | `(tactic| walk_at "my_enterC") => `(tactic| (apply enterC; exact rfl; exact rfl; (first | assumption | exact rfl); (iterate 5 k_asm); k_is; k_is; walk_at "my_room"; (first | exact BindsTo.of_eq rfl | exact binds_K (by k_in) rfl (by k_is) rfl rfl rfl); exact rfl; decide +kernel; exact rfl; k_whole; intro g' L' h' tk' cells' FG' F' N' Y' B' X' T' l1; k_cells Y'; (try simp only [List.cons_append, List.nil_append] at N'); (try dsimp only); (try k_fold)))
local macro_rules | `(tactic| walk_at "my_for") => `(tactic| (k_here; (rename Fr _ _ _ _ => lF'); k_dflt (refine For_turns lF' ?_)))
local macro_rules | `(tactic| walk_at "exec For Name Call cons nil") => `(tactic| walk_at "my_for")
local macro_rules | `(tactic| walk_at "exec For Tuple Name cons nil") => `(tactic| walk_at "my_for")
local macro_rules | `(tactic| walk_at "call builtin:len") => `(tactic| (k_here; k_dflt ((with_reducible apply PyProof.Rows.len_bytes); omega)))
local macro_rules | `(tactic| walk_at "compareOp In str ref") => `(tactic| ktn_call "in" my_inT)
local macro_rules | `(tactic| walk_at "compareOp In int ref") => `(tactic| ktn_call "in" my_inI)
local macro_rules | `(tactic| walk_at "exec While Compare") => `(tactic| walk_at "my_halt")
local macro_rules | `(tactic| walk_at "subscriptTail") => `(tactic| ktn_call "sub" my_tup0)
local macro_rules | `(tactic| walk_at "compareOp NotEq ref ref") => `(tactic| tbr_iter my_neNil)
local macro_rules | `(tactic| walk_at "subscriptTail") => `(tactic| ktn_call "sub" my_lastL)
local macro_rules | `(tactic| walk_at "CompSrcT") => `(tactic| (k_here; (refine Halt.mk ?_)))
local macro_rules | `(tactic| walk_at "CompSrc") => `(tactic| (k_here; (refine Halt.mk ?_)))
local macro_rules | `(tactic| walk_at "my_t0") => `(tactic| ((rename News _ _ _ _ => N9); (try dsimp only [List.cons_append, List.nil_append] at N9); (try simp only [List.append_assoc] at N9); (try dsimp only); (try k_fold)))
local macro_rules | `(tactic| walk_at "my_pre") => `(tactic| first | exact ⟨_, rfl⟩ | (constructor; constructor; (any_goals exact rfl); (all_goals first | assumption | lsm_bools | walk_at "my_in")))
local macro_rules | `(tactic| ktr_call $f $c) => `(tactic| (k_here; (with_reducible show wpAny _ _ (call (Value.ref $f) _) _ _ _); k_dflt (refine' Gives.goE $c ?k9 ?_; (case k9 => walk_at "my_pre"); (all_goals (try first | (with_reducible assumption) | rfl)); intro tl9 h9 tk9 F9 N9 hl9; walk_at "my_t0")))
local macro_rules | `(tactic| ktd_call $f $c) => `(tactic| (k_here; (with_reducible show wpAny _ _ (call (Value.ref $f) _) _ _ _); k_dflt (refine' Gives.goL $c ?k9 ?_; (case k9 => walk_at "my_pre"); (all_goals (try first | (with_reducible assumption) | rfl)); intro q9 vs9 k9 tl9 h9 tk9 F9 N9 hl9 hm9 ht9; (try simp only [List.cons_append, List.nil_append, List.append_assoc] at hm9 ht9); walk_at "my_t0")))
local macro_rules | `(tactic| ktn_call "st" $p) => `(tactic| (k_here; (with_reducible show wpAny _ _ (execs ($p :: _) _) _ _ _); k_dflt (refine Halt.mk ?_)))
local macro_rules | `(tactic| ktn_call "at" $f) => `(tactic| (k_here; (with_reducible show wpAny _ _ (call (Value.ref $f) _) _ _ _); k_dflt (refine Halt.mk ?_)))
local macro_rules | `(tactic| walk_at "LeaveK") => `(tactic| (k_dflt (apply leaveQ; k_asm; k_asm; k_whole); intro kF kN))
local macro_rules | `(tactic| walk_at "callWith ref") => `(tactic| (k_here; k_dflt (refine' callWith_K ?k1 ?k2 ?_; (case k1 => k_in); (case k2 => k_is); k_whole)))
local macro_rules | `(tactic| walk_at "my_in") => `(tactic| first | assumption | (refine SomeIn.mono (by assumption) ?_; kxs_still) | (refine TrIn.mono (by assumption) ?_; kxs_still) | (refine LetterIn.mono (by assumption) ?_; kxs_still) | (refine CtxIn.mono (by assumption) ?_; kxs_still) | (refine SeenIn.mono (by assumption) ?_; kxs_still) | (refine SeensIn.mono (by assumption) ?_; kxs_still) | (refine Mono.go (by assumption) (by assumption) ?_; kxs_still))
local macro_rules | `(tactic| walk_at "my_perm0") => `(tactic| (intro p9 h9; simp only [List.mem_cons, List.mem_append, List.cons_append, List.append_assoc, List.nil_append, List.not_mem_nil, or_false, List.append_eq] at h9 ⊢; (repeat' (refine Or.elim h9 (fun h9 => ?_) (fun h9 => ?_))) <;> simp only [h9, true_or, or_true]))
local macro_rules | `(tactic| walk_at "my_cls") => `(tactic| (apply call_cls; (iterate 3 k_asm); (iterate 3 k_is); k_whole; intro x' d' h' F' N' l1 l2; (have l3 := all_ne l1); (replace l2 := ltN l2); walk_at "my_enter"))
local macro_rules | `(tactic| walk_at "call type:tuple") => `(tactic| (k_here; k_dflt ((with_reducible apply my_tupleOf); k_asm; k_asm; lsm_bools; walk_at "my_len"); intro D' h' F' N' l1))
local macro_rules | `(tactic| walk_at "setItem ref int") => `(tactic| (k_here; k_dflt ((with_reducible apply my_setLast); k_asm; k_asm; k_upd); intro h' F' N'))
local macro_rules | `(tactic| walk_at "binaryOp Add ref ref") => `(tactic| (k_here; k_dflt ((with_reducible apply my_addL); k_asm; k_asm; lsm_bools; lsm_bools; walk_at "my_len"); intro D' h' F' N' l1))
section S_c1
theorem draw_draws (w : World) (c : Addr) (vs : List Value) (ns : List Int) (n0 : Nat) (lim : Int) (hl : 0 < lim) (hlim : lim ≤ 100) (hns : IntsAre vs ns) (h0 : 0 < vs.length) (h63 : vs.length ≤ 63) : Draws w 857 2 1 c (fun news as => (c, listOf vs.toArray n0) ∈ news ∧ ∃ t, as = [.int lim t])
    (fun _ r => Ex2 fun x t => An3 (r = .int x t) (0 ≤ x) (x < lim)) := by
  unfold Draws
  intro prog loose mean mg mb dp un gd cn cs a ccd cl outer A₀ base h₀ L m news s S at_ ta k as Q E B F X N hS T hk hd hu hat hmost hR hret
  obtain ⟨hc, t, rfl⟩ := hR
  refine wpAny_call ?_
  k_dflt ktr_enter
  kpc_turns
  refine hret _ [] _ _ _ _ _ (by k_asm) (by rw [List.append_nil]; k_asm) (fun _ _ _ h => nomatch h) (by omega) (by omega) ⟨_, _, rfl, ?_, ?_⟩
  · exact Int.fmod_nonneg_of_pos _ hl
  · exact Int.fmod_lt_of_pos _ hl

end S_c1
section S_c2
theorem ends_of_gives (w : World) (l h g : Int) : Gives w 607 2 (fun news vs => Ex5 fun p t u v n => An3 ((p, tup [.int l t, .int h u] n) ∈ news) (vs = [.ref p, .int g v]) (0 < g))
    (fun news r => Ex4 fun q t u n => An2 (r = .ref q) ((q, tup [.int (loE l h g) t, .int (hiE l h g) u] n) ∈ news)) := by
  unfold Gives
  intro prog loose mean mg mb dp un gd cn cs a ccd cl outer A₀ base h₀ L m news s vs Q E B F X N T hk hd hu hR hret
  obtain ⟨p, t, u, v, n, hp, rfl, hg⟩ := hR
  refine wpAny_call ?_
  k_dflt ktr_enter
  kpc_turns
  all_goals first
    | (exfalso; omega)
    | (refine hret _ [(_, _)] _ _ (by k_asm) (ktn_tl1 (by k_asm)) (ordNe (ktn_ord1 (allLt_of (by assumption)))) (end_ends ?_ ?_) <;> simp only [loE, hiE] <;> (repeat' split) <;> omega)
local macro_rules | `(tactic| walk_at "call ref") => `(tactic| (k_here; (with_reducible show wpAny _ _ (call (Value.ref 607) _) _ _ _); k_dflt (refine' Gives.goP (ends_of_gives _ _ _ _) ?k9 ?_; (case k9 => walk_at "my_pre"); (all_goals (try first | (with_reducible assumption) | rfl)); intro q9 t9 u9 n9 tl9 h9 tk9 F9 N9 hl9 hm9; (try simp only [List.cons_append, List.nil_append, List.append_assoc] at hm9); walk_at "my_t0")))
theorem has_gives (w : World) (ps : List (Int × Int)) (n g : Int) : Gives w 621 4 (fun news vs => Ex3 fun v t u => An3 (SomeIn news v ps) (vs = [v, .int n t, .int g u]) (0 < g)) (fun _ r => r = .bool (inSet ps n g)) := by
  unfold Gives
  intro prog loose mean mg mb dp un gd cn cs a ccd cl outer A₀ base h₀ L m news s vs Q E B F X N T hk hd hu hR hret
  obtain ⟨v, t, u, ⟨a', its, k, rfl, hm, hlen, hel⟩, rfl, hg⟩ := hR
  refine wpAny_call ?_
  k_dflt ktr_enter
  kpc_turns
  (try walk_at "my_for")
  kpc_turns
  rename Fr _ _ _ _ => F'
  refine iter_seqM [Str.ofString "pair", Str.ofString "ends"] rfl F' (by assumption) hm (Or.inr rfl) (fun i nx => (∀ p ∈ news, p ∈ nx) ∧ ∀ j, j < i → ∀ q, ps[j]? = some q → inOne q n g = false)
    ⟨fun _ h => h, fun _ h => absurd h (Nat.not_lt_zero _)⟩ (fun _ _ j => j.1 _ hm) ?_ ?_
  · intro i v u nx h tk I oI q9 hq9 hi hJ hnI F₁ N₁
    obtain ⟨hsub, hno⟩ := hJ
    obtain ⟨p, l, h', t', u', n', rfl, hp, hq⟩ := hel i v hi
    replace hp := hsub _ hp
    clear F' N F
    kpc_turns
    · refine hret _ [] _ _ (by k_asm) (tl0 (news_sub (by k_asm) fun p hp => ?_)) ord0 (congrArg Value.bool (inSet_true hq ?_))
      · have := hsub p hp; simp only [List.mem_cons, List.mem_append, this, true_or, or_true]
      · simp only [inOne, decide_eq_true_eq]; omega
    all_goals (
      refine TurnPost.next (by k_asm) (by k_asm) nx (by kxs_still) hnI ⟨by walk_at "my_map", hsub, not_yet hq ?_ hno⟩
      simp only [inOne, decide_eq_false_iff_not]; omega)
  · intro u nx h tk hJ F₁ N₁
    obtain ⟨hsub, hno⟩ := hJ
    clear F' N F
    kpc_turns
    refine hret _ [] _ _ (by k_asm) (tl0 (news_sub (by k_asm) hsub)) ord0 (congrArg Value.bool (inSet_false fun j hj => hno j (by omega)))

end S_c2
section S_c3
theorem law_in_gives (w : World) (ps : List (Int × Int)) (n g : Int) : Gives w 869 4 (fun news vs => Ex3 fun v t u => An3 (SomeIn news v ps) (vs = [v, .int n t, .int g u]) (0 < g)) (fun _ r => r = .bool (inSet ps n g)) := by
  unfold Gives
  intro prog loose mean mg mb dp un gd cn cs a ccd cl outer A₀ base h₀ L m news s vs Q E B F X N T hk hd hu hR hret
  obtain ⟨v, t, u, ⟨a', its, k, rfl, hm, hlen, hel⟩, rfl, hg⟩ := hR
  refine wpAny_call ?_
  k_dflt ktr_enter
  kpc_turns
  (try walk_at "my_for")
  kpc_turns
  rename Fr _ _ _ _ => F'
  refine iter_seqM [Str.ofString "low", Str.ofString "high", Str.ofString "one", Str.ofString "other"] rfl F' (by assumption) hm (Or.inr rfl) (fun i nx => (∀ p ∈ news, p ∈ nx) ∧ ∀ j, j < i → ∀ q, ps[j]? = some q → inOne q n g = false)
    ⟨fun _ h => h, fun _ h => absurd h (Nat.not_lt_zero _)⟩ (fun _ _ j => j.1 _ hm) ?_ ?_
  · intro i v u nx h tk I oI q9 hq9 hi hJ hnI F₁ N₁
    obtain ⟨hsub, hno⟩ := hJ
    obtain ⟨p, l, h', t', u', n', rfl, hp, hq⟩ := hel i v hi
    replace hp := hsub _ hp
    clear F' N F
    kpc_turns
    all_goals first
    | (refine hret _ [] _ _ (by k_asm) (tl0 (news_sub (by k_asm) fun p hp => ?_)) ord0 (congrArg Value.bool (inSet_true hq ?_))
       · have := hsub p hp; simp only [List.mem_cons, List.mem_append, this, true_or, or_true]
       · exact in_t (by first | exact if_pos rfl | exact if_pos (by assumption) | exact if_neg (by assumption)) (by first | exact if_pos rfl | exact if_pos (by assumption) | exact if_neg (by assumption)) (by assumption) (by assumption))
    | (refine TurnPost.next (by k_asm) (by k_asm) nx (by kxs_still) hnI ⟨by walk_at "my_map", hsub, not_yet hq ?_ hno⟩
       first | exact in_f (by first | exact if_pos rfl | exact if_pos (by assumption) | exact if_neg (by assumption)) (by first | exact if_pos rfl | exact if_pos (by assumption) | exact if_neg (by assumption)) (by assumption) | exact in_g (by first | exact if_pos rfl | exact if_pos (by assumption) | exact if_neg (by assumption)) (by first | exact if_pos rfl | exact if_pos (by assumption) | exact if_neg (by assumption)) (by assumption))
  · intro u nx h tk hJ F₁ N₁
    obtain ⟨hsub, hno⟩ := hJ
    clear F' N F
    kpc_turns
    refine hret _ [] _ _ (by k_asm) (tl0 (news_sub (by k_asm) hsub)) ord0 (congrArg Value.bool (inSet_false fun j hj => hno j (by omega)))

end S_c3
section S_c4
local macro_rules | `(tactic| walk_at "call ref") => `(tactic| (k_here; (with_reducible show wpAny _ _ (call (Value.ref _) _ _) _ _ _); k_dflt (refine wpAny_call ?_; walk_at "my_enter")))
theorem strs_get {vs : List Value} {ss : List Str} (h : StrsAre vs ss) : ∀ {i : Nat} {v : Value}, vs[i]? = some v → Ex2 fun x t => An2 (v = .str x t) (ss[i]? = some x) := by
  induction h with
  | nil => intro i v hv; simp at hv
  | cons x t _ ih =>
    intro i v hv
    cases i with
    | zero => simp at hv; exact ⟨x, t, hv.symm, by simp⟩
    | succ i => simp at hv; obtain ⟨y, u, e, f⟩ := ih hv; exact ⟨y, u, e, by simpa using f⟩
noncomputable abbrev sysL : List Str := [⟨#[92, 83, 101, 101, 110]⟩, ⟨#[92, 65, 110, 115, 119, 101, 114, 101, 100]⟩, ⟨#[92, 70, 108, 97, 103, 103, 101, 100]⟩, ⟨#[92, 68, 101, 108, 101, 116, 101, 100]⟩, ⟨#[92, 68, 114, 97, 102, 116]⟩]
theorem flag_pick {s nm : Str} (hs : Flag s) (hn : nm ∈ sysL) (h : (Txt.lower s == Txt.lower nm) = true) : nm = s := by
  simp only [sysL, List.mem_cons, List.not_mem_nil, or_false] at hn
  rcases hs with rfl | rfl | rfl <;> rcases hn with rfl | rfl | rfl | rfl | rfl <;> first | decide +kernel | (revert h; decide +kernel)
theorem flag_last {s : Str} (hs : Flag s) (h : ∀ x ∈ sysL, (Txt.lower s == Txt.lower x) = false) : s = fK1 := by
  rcases hs with rfl | rfl | rfl
  · have := h ⟨#[92, 83, 101, 101, 110]⟩ (by simp [sysL]); revert this; decide +kernel
  · have := h ⟨#[92, 70, 108, 97, 103, 103, 101, 100]⟩ (by simp [sysL]); revert this; decide +kernel
  · rfl
theorem flag_short {s : Str} (hs : Flag s) : s.length ≤ 20 := by rcases hs with rfl | rfl | rfl <;> decide +kernel
theorem sys_short {s : Str} (hs : s ∈ sysL) : s.length ≤ 20 := by
  simp only [sysL, List.mem_cons, List.not_mem_nil, or_false] at hs
  rcases hs with rfl | rfl | rfl | rfl | rfl <;> decide +kernel
local macro_rules | `(tactic| walk_at "exec For Name Name cons nil") => `(tactic| walk_at "my_for")
theorem is_keyword_gives (w : World) : Gives w 118 3 (fun _ vs => ∃ t, vs = [.str fK1 t]) (fun _ r => r = .bool true) := by
  unfold Gives
  intro prog loose mean mg mb dp un gd cn cs a ccd cl outer A₀ base h₀ L m news s' vs Q E B F X N T hk hd hu hR hret
  obtain ⟨t, rfl⟩ := hR
  refine wpAny_call ?_
  k_dflt ktr_enter
  kpc_turns
  rename Fr _ _ _ _ => F'
  refine iter_strM [Str.ofString "sign"] rfl (by decide +kernel) (fun _ _ => rfl) F' (by assumption) (fun i nx => ∀ p ∈ news, p ∈ nx) (fun _ h => h) ?_ ?_
  · intro i c u t nx h tk I oI q9 hq9 hi hsub hnI F₁ N₁
    have hc : c = 107 ∨ c = 49 := by
      have h2 := Array.mem_of_getElem? hi
      have e : fK1.cps = #[107, 49] := by decide +kernel
      rw [e] at h2
      simpa using h2
    clear F' N F hi
    rcases hc with rfl | rfl
    all_goals kpc_turns
    all_goals first
      | (exfalso; rename List.isEmpty _ = false => hq; revert hq; decide +kernel)
      | exact TurnPost.next (by k_asm) (by k_asm) nx (by kxs_still) hnI ⟨by walk_at "my_map", hsub⟩
  · intro u nx h tk hsub F₁ N₁
    clear F' N F
    kpc_turns
    refine hret _ [] _ _ (by k_asm) (tl0 (news_sub (by k_asm) hsub)) ord0 rfl
local macro_rules | `(tactic| walk_at "call ref") => `(tactic| ktr_call 118 (is_keyword_gives _))
theorem flag_name_gives (w : World) (s : Str) (hs : Flag s) : Gives w 125 4 (fun _ vs => ∃ t, vs = [.str s t]) (fun _ r => ∃ t, r = .str s t) := by
  unfold Gives
  intro prog loose mean mg mb dp un gd cn cs a ccd cl outer A₀ base h₀ L m news s' vs Q E B F X N T hk hd hu hR hret
  obtain ⟨t, rfl⟩ := hR
  have hsl := flag_short hs
  refine wpAny_call ?_
  k_dflt ktr_enter
  kpc_turns
  rename News _ _ _ _ => N'
  rename Fr _ _ _ _ => F'
  rename StrsAre _ _ => hst
  refine iter_seqM [Str.ofString "name"] rfl F' N' List.mem_cons_self (Or.inl rfl) (fun i nx => (∀ p ∈ _ :: news, p ∈ nx) ∧ ∀ j, j < i → ∀ x, sysL[j]? = some x → (Txt.lower s == Txt.lower x) = false) ⟨fun _ h => h, fun _ h => absurd h (Nat.not_lt_zero _)⟩ (fun _ _ j => j.1 _ List.mem_cons_self) ?_ ?_
  · intro i v u nx h tk I oI q9 hq9 hi hJ hnI F₁ N₁
    obtain ⟨hsub, hno⟩ := hJ
    obtain ⟨nm, tn, rfl, hnm⟩ := strs_get hst hi
    have hmem : nm ∈ sysL := List.mem_of_getElem? hnm
    have hnl := sys_short hmem
    clear F' N F N' hst
    kpc_turns
    · rename _ = true => hq
      refine hret _ [] _ _ (by k_asm) (tl0 (news_sub (by k_asm) fun p hp => ?_)) ord0 ⟨tn, by rw [flag_pick hs hmem hq]⟩
      have := hsub p (List.mem_cons_of_mem _ hp); simp only [List.mem_cons, this, true_or, or_true]
    · rename _ = false => hq
      refine TurnPost.next (by k_asm) (by k_asm) nx (by kxs_still) hnI ⟨by walk_at "my_map", hsub, fun j hj x hx => ?_⟩
      rcases Nat.lt_succ_iff_lt_or_eq.mp hj with h' | rfl
      · exact hno j h' x hx
      · rw [hnm] at hx; cases hx; exact hq
  · intro u nx h tk hJ F₁ N₁
    obtain ⟨hsub, hno⟩ := hJ
    have e : s = fK1 := flag_last hs fun x hx => by
      obtain ⟨j, hj, rfl⟩ := List.mem_iff_getElem.mp hx
      exact hno j hj _ (by simp [hj])
    subst e
    clear F' N F N' hst
    kpc_turns
    refine hret _ [] _ _ (by k_asm) (tl0 (news_sub (by k_asm) fun p hp => List.mem_append.mpr (.inl (hsub p (List.mem_cons_of_mem _ hp))))) ord0 ⟨_, rfl⟩
end S_c4
section S_c5
noncomputable def Tr.isNum : Tr → Bool
  | .seq _ | .uid _ | .larger _ | .smaller _ | .modseq _ => true
  | _ => false
local macro_rules | `(tactic| walk_at "call ref") => `(tactic| ktr_call 621 (has_gives _ _ _ _))
theorem number_holds_gives (w : World) (gn gu : Int) (t : Tr) (ht : t.isNum = true) (d : SD) : Gives w 786 8 (fun news vs => Ex4 fun l y tn c => An4 (vs = [l, .ref y, .int d.number tn, .ref c]) (TrIn news l t) (LetterIn w news y d) (CtxIn news c gn gu))
    (fun _ r => r = .bool (meets gn gu t d)) := by
  unfold Gives
  intro prog loose mean mg mb dp un gd cn cs a ccd cl outer A₀ base h₀ L m news s vs Q E B F X N T hk hd hu hR hret
  obtain ⟨l, y, tn, c, rfl, htr, hl, n0, t0, u0, hc, hgn, hgu⟩ := hR
  obtain ⟨dy, n, t1, t2, t3, t4, t5, tu, tb, ti, tm, arr, f, fl, k, hl1, hl2, ⟨hl3, hl3a⟩, hl4, hl5⟩ := hl
  refine wpAny_call ?_
  cases htr with
  | seq hm hs =>
    k_dflt ktr_enter
    kpc_turns
    (rename News h₀ L _ _ => kN9; refine hret _ [] _ _ (by k_asm) (tl0 (news_sub kN9 (by kxs_still))) ord0 ?_)
    rfl
  | uid hm hs =>
    k_dflt ktr_enter
    kpc_turns
    (rename News h₀ L _ _ => kN9; refine hret _ [] _ _ (by k_asm) (tl0 (news_sub kN9 (by kxs_still))) ord0 ?_)
    rfl
  | larger hm =>
    k_dflt ktr_enter
    kpc_turns
    (rename News h₀ L _ _ => kN9; refine hret _ [] _ _ (by k_asm) (tl0 (news_sub kN9 (by kxs_still))) ord0 ?_)
    simp only [meets, hl3, gt_iff_lt]
  | smaller hm =>
    k_dflt ktr_enter
    kpc_turns
    (rename News h₀ L _ _ => kN9; refine hret _ [] _ _ (by k_asm) (tl0 (news_sub kN9 (by kxs_still))) ord0 ?_)
    simp only [meets, hl3]
  | modseq hm =>
    k_dflt ktr_enter
    kpc_turns
    (rename News h₀ L _ _ => kN9; refine hret _ [] _ _ (by k_asm) (tl0 (news_sub kN9 (by kxs_still))) ord0 ?_)
    simp only [meets, ge_iff_le]
  | _ => exact absurd ht (by simp [Tr.isNum])
end S_c5
section S_c6
theorem letter_has_gives (w : World) (d : SD) (s : Str) : Gives w 146 2 (fun news vs => Ex2 fun y t => An2 (vs = [.ref y, .str s t]) (LetterIn w news y d)) (fun _ r => r = .bool (d.flags.any (· == s))) := by
  unfold Gives
  intro prog loose mean mg mb dp un gd cn cs a ccd cl outer A₀ base h₀ L m news s' vs Q E B F X N T hk hd hu hR hret
  obtain ⟨y, t, rfl, hl⟩ := hR
  obtain ⟨dy, n, t1, t2, t3, t4, t5, tu, tb, ti, tm, arr, f, fl, k, hl1, hl2, ⟨hl3, hl3a⟩, hl4, hl5⟩ := hl
  refine wpAny_call ?_
  k_dflt ktr_enter
  kpc_turns
  (rename News h₀ L _ _ => kN9; refine hret _ [] _ _ (by k_asm) (tl0 (news_sub kN9 (by kxs_still))) ord0 ?_)
  rfl
local macro_rules | `(tactic| walk_at "call ref") => `(tactic| ktn_call 125 (flag_name_gives _ _ (by assumption)))
local macro_rules | `(tactic| walk_at "call ref") => `(tactic| ktr_call 146 (letter_has_gives _ _ _))
local macro_rules | `(tactic| walk_at "call ref") => `(tactic| ktr_call 786 (number_holds_gives _ _ _ _ ?_ _))
theorem simple_holds_gives (w : World) (gn gu : Int) (t : Tr) (ht : t.leaf = true) (d : SD) : Gives w 793 10 (fun news vs => Ex4 fun l y tn c => An4 (vs = [l, .ref y, .int d.number tn, .ref c]) (TrIn news l t) (LetterIn w news y d) (CtxIn news c gn gu))
    (fun _ r => r = .bool (meets gn gu t d)) := by
  unfold Gives
  intro prog loose mean mg mb dp un gd cn cs a ccd cl outer A₀ base h₀ L m news s vs Q E B F X N T hk hd hu hR hret
  obtain ⟨l, y, tn, c, rfl, htr, hl, hc⟩ := hR
  refine wpAny_call ?_
  rcases hn : t.isNum
  · cases htr with
    | flag hm hs =>
      have hl' := hl
      obtain ⟨dy, n, t1, t2, t3, t4, t5, tu, tb, ti, tm, arr, f, fl, k, hl1, hl2, ⟨hl3, hl3a⟩, hl4, hl5⟩ := hl
      k_dflt ktr_enter
      kpc_turns
      (rename News h₀ L _ _ => kN9; refine hret _ [] _ _ (by k_asm) (tl0 (news_sub kN9 (by kxs_still))) ord0 ?_)
      rfl
    | _ => first | (cases ht; done) | (cases hn; done)
  · have htr' := htr
    obtain ⟨a9, u9, rest9, n9, rfl, hm⟩ := htr.head
    have hm : (a9, tup (.str (Str.ofString t.kind) u9 :: rest9) n9) ∈ news := hm
    have h1 : (Str.ofString t.kind == Str.ofString "flag") = false ∧ [Str.ofString "before", Str.ofString "on", Str.ofString "since"].any (· == Str.ofString t.kind) = false := by
      cases t <;> first | (cases hn; done) | (simp only [Tr.kind]; decide)
    obtain ⟨h1, h2⟩ := h1
    k_dflt ktr_enter
    kpc_turns
    (rename News h₀ L _ _ => kN9; refine hret _ [] _ _ (by k_asm) (tl0 (news_sub kN9 (by kxs_still))) ord0 ?_)
    rfl
end S_c6
section S_c7
inductive TrsIn (news : Led) : List Value → List Tr → Prop where
  | nil : TrsIn news [] []
  | cons {v : Value} {t : Tr} {vs : List Value} {ts : List Tr} : TrIn news v t → TrsIn news vs ts → TrsIn news (v :: vs) (t :: ts)
theorem TrsIn.mono {a b : Led} {vs : List Value} {ts : List Tr} (x : TrsIn a vs ts) (h : ∀ p ∈ a, p ∈ b) : TrsIn b vs ts := by
  induction x with
  | nil => exact .nil
  | cons y _ ih => exact .cons (y.mono h) ih
theorem TrsIn.append {a : Led} {vs vs' : List Value} {ts ts' : List Tr} (x : TrsIn a vs ts) (y : TrsIn a vs' ts') : TrsIn a (vs ++ vs') (ts ++ ts') := by
  induction x with
  | nil => exact y
  | cons z _ ih => exact .cons z ih
theorem TrsIn.reverse {a : Led} {vs : List Value} {ts : List Tr} (x : TrsIn a vs ts) : TrsIn a vs.reverse ts.reverse := by
  induction x with
  | nil => exact .nil
  | cons z _ ih => rw [List.reverse_cons, List.reverse_cons]; exact ih.append (.cons z .nil)
theorem TrsIn.len {a : Led} {vs : List Value} {ts : List Tr} (x : TrsIn a vs ts) : vs.length = ts.length := by
  induction x with
  | nil => rfl
  | cons z _ ih => simp [ih]
theorem TrsIn.get {a : Led} {vs : List Value} {ts : List Tr} (x : TrsIn a vs ts) : ∀ {i : Nat} {v : Value}, vs[i]? = some v → Ex1 fun t => An2 (ts[i]? = some t) (TrIn a v t) := by
  induction x with
  | nil => intro i v h; simp at h
  | cons z _ ih =>
    intro i v h
    cases i with
    | zero => simp at h; subst h; exact ⟨_, by simp, z⟩
    | succ i => simp at h; obtain ⟨t, e, f⟩ := ih h; exact ⟨t, by simpa using e, f⟩
noncomputable def row : Tr → List Tr
  | .and a b => row a ++ [b]
  | t => [t]
theorem row_end {news : Led} {l : List Value} {k : Nat} {ts : List Tr} {v : Value} {t' : Tr} {all : List Tr} {q : Addr} {o : Obj} (hts : TrsIn news l ts) (hv : TrIn news v t') (hall : all = [t'] ++ ts.reverse)
    (ho : o = { cls := .type "list", data := .seq (slicePick (l.toArray.push v) none none (some (-1))) 0 }) :
    Ex3 fun q' vs n => An3 (Value.ref q = .ref q') ((q', listOf vs.toArray n) ∈ news ++ [(q, o)]) (TrsIn (news ++ [(q, o)]) vs all) := by
  subst ho hall
  have e : slicePick (l.toArray.push v) none none (some (-1)) = (l ++ [v]).reverse.toArray := by
    rw [krv_pick, Array.toList_push]
  rw [e]
  refine ⟨q, (l ++ [v]).reverse, 0, rfl, List.mem_append.mpr (.inr (.head _)), ?_⟩
  have h := TrsIn.reverse (hts.append (.cons hv .nil))
  rw [List.reverse_append (as := ts)] at h
  exact h.mono fun p hp => List.mem_append.mpr (.inl hp)
theorem row_of_gives (w : World) (t : Tr) (hz : t.size ≤ 40) : Gives w 21 2 (fun news vs => Ex1 fun l => An2 (vs = [l]) (TrIn news l t)) (fun news r => Ex3 fun q vs k => An3 (r = .ref q) ((q, listOf vs.toArray k) ∈ news) (TrsIn news vs (row t))) := by
  unfold Gives
  intro prog loose mean mg mb dp un gd cn cs a ccd cl outer A₀ base h₀ L m news s vs Q E B F X N T hk hd hu hR hret
  obtain ⟨l, rfl, htr⟩ := hR
  refine wpAny_call ?_
  k_dflt ktr_enter
  kpc_turns
  rename News _ _ _ _ => N'
  rename Fr _ _ _ _ => F'
  refine Halt.go ?_
  refine while1 (Str.ofString "tree") F' N' (fun n v nx => Ex4 fun v' t' vs k => An6 (v = some v') (nx = (_, listOf vs.toArray k) :: news) (TrIn news v' t') (t'.size ≤ n) (vs.length + n ≤ 40) (Ex1 fun ts => An2 (TrsIn news vs ts) (row t = row t' ++ ts.reverse))) 40 ⟨l, t, [], 0, rfl, rfl, htr, hz, Nat.le_refl _, [], .nil, by simp⟩ ?_
  intro n v nx h₁ tk₁ q9 hq9 hJ F₁ N₁
  obtain ⟨v', t', vs, k, rfl, rfl, htr', hsz, hlen, ts, hts, hrow⟩ := hJ
  clear F' N' N F
  by_cases hk : Ex2 fun x y => t' = .and x y
  · obtain ⟨x, y, rfl⟩ := hk
    cases htr' with
    | and hm hx hy =>
      kpc_turns
      refine WTurn.intro (by k_asm) (by k_asm) (n - 1) _ (fun _ h => h) (by simp only [Tr.size] at hsz; omega) (by walk_at "my_map") ⟨_, x, _, _, if_pos rfl, rfl, hx, ?_, ?_, ts ++ [y], hts.append (.cons hy .nil), ?_⟩
      · simp only [Tr.size] at hsz; omega
      · simp only [Tr.size] at hsz; simp only [List.length_append, List.length_cons, List.length_nil]; omega
      · rw [hrow, row, List.reverse_append]; simp
  · obtain ⟨a', u, rest, n9, rfl, hm⟩ := htr'.head
    have hrow' : row t' = [t'] := by
      cases t' with
      | and x y => exact absurd ⟨x, y, rfl⟩ hk
      | _ => rfl
    have hkd : (Str.ofString t'.kind == Str.ofString "and") = false := by
      cases t' with
      | and x y => exact absurd ⟨x, y, rfl⟩ hk
      | _ => simp only [Tr.kind]; decide +kernel
    kpc_turns
    rename News h₀ L _ _ => kN9
    dsimp only at kN9
    rename News _ _ _ ((_, listOf (vs.toArray.push _) _) :: news) => N₃
    refine hret _ [(_, _)] _ _ (by k_asm) (news_sub kN9 ?_) (fun q hq p hp => ?_) (row_end (l := vs) (k := k) hts htr' (by rw [hrow, hrow']) rfl)
    · intro p hp
      rcases List.mem_append.mp hp with h | h
      · exact List.mem_cons_of_mem _ (List.mem_cons_of_mem _ h)
      · exact List.mem_cons.mpr (.inl (List.mem_singleton.mp h))
    · have h3 := Heap.lt_size (N₃ q (List.mem_cons_of_mem _ hq)).1
      rw [List.mem_singleton.mp hp]
      exact Nat.ne_of_lt (Nat.lt_succ_of_lt h3)
end S_c7
section S_c8
local macro_rules | `(tactic| walk_at "call ref") => `(tactic| ktr_call 793 (simple_holds_gives _ _ _ _ ?_ _))
local macro_rules | `(tactic| walk_at "subscriptTail") => `(tactic| (k_here; (with_reducible rename Fr _ _ _ _ => F'); (with_reducible rename News _ _ _ _ => N'); (refine slice_strN_ns (hsz := by assumption) (s := ⟨_, _, _, _, _⟩) F' N' ?_); intro _ _ _ _ _))
theorem leaf_holds_gives (w : World) (gn gu : Int) (t : Tr) (ht : t.leaf = true) (d : SD) : Gives w 800 12 (fun news vs => Ex3 fun l x c => An4 (vs = [l, x, .ref c]) (TrIn news l t) (SeenIn w news x d) (CtxIn news c gn gu))
    (fun _ r => r = .bool (meets gn gu t d)) := by
  unfold Gives
  intro prog loose mean mg mb dp un gd cn cs a ccd cl outer A₀ base h₀ L m news s vs Q E B F X N T hk hd hu hR hret
  obtain ⟨l, x, c, rfl, htr, hl, hc⟩ := hR
  have hl' := hl
  obtain ⟨x, dx, n, t1, t2, t3, y, tn, rfl, hx, hdx, hy⟩ := hl
  have htr' := htr
  obtain ⟨a9, u9, rest9, n9, rfl, hm⟩ := htr.head
  have hm : (a9, tup (.str (Str.ofString t.kind) u9 :: rest9) n9) ∈ news := hm
  have h1 : [Str.ofString "header", Str.ofString "text", Str.ofString "body"].any (· == Str.ofString t.kind) = false ∧ (Txt.slice (Str.ofString t.kind) none (some 4) == Str.ofString "sent") = false ∧ (Str.ofString t.kind).length ≤ sizeLine := by
    rw [sizeLine_eq]; cases t <;> first | (cases ht; done) | (simp only [Tr.kind]; decide)
  obtain ⟨h1, h2, h3⟩ := h1
  refine wpAny_call ?_
  k_dflt ktr_enter
  kpc_turns
  (rename News h₀ L _ _ => kN9; refine hret _ [] _ _ (by k_asm) (tl0 (news_sub kN9 (by kxs_still))) ord0 ?_)
  rfl
end S_c8
section S_c9
local macro_rules | `(tactic| walk_at "callWith ref") => `(tactic| (k_here; k_dflt (refine' callWith_F (FnAt.of (by k_asm) (by lsm_bools)) ?_; k_whole)))
local macro_rules | `(tactic| walk_at "And") => `(tactic| ((with_reducible show FnAt _ _ ∧ _); refine ⟨FnAt.of (by k_asm) (by lsm_bools), ?_⟩; try dsimp only [List.nil_append, List.cons_append]))
noncomputable def ev (g : Tr → Bool) : Tr → Bool
  | .all => true
  | .not t => !ev g t
  | .and a b => ev g a && ev g b
  | .or a b => ev g a || ev g b
  | t => g t
theorem ev_meets (gn gu : Int) (d : SD) : ∀ t, ev (fun t => meets gn gu t d) t = meets gn gu t d
  | .all | .flag _ | .seq _ | .uid _ | .larger _ | .smaller _ | .modseq _ => rfl
  | .not t => by simp only [ev, meets, ev_meets gn gu d t]
  | .and a b => by simp only [ev, meets, ev_meets gn gu d a, ev_meets gn gu d b]
  | .or a b => by simp only [ev, meets, ev_meets gn gu d a, ev_meets gn gu d b]
theorem row_ev (g : Tr → Bool) : ∀ t, (row t).all (ev g) = ev g t
  | .all | .flag _ | .seq _ | .uid _ | .larger _ | .smaller _ | .modseq _ | .not _ | .or _ _ => by simp [row]
  | .and a b => by simp only [row, List.all_append, row_ev g a, ev, List.all_cons, List.all_nil, Bool.and_true]
theorem row_high : ∀ t, ∀ p ∈ row t, p.high ≤ t.high ∧ p.size ≤ t.size
  | .all | .flag _ | .seq _ | .uid _ | .larger _ | .smaller _ | .modseq _ | .not _ | .or _ _ => by intro p hp; rw [List.mem_singleton.mp hp]; exact ⟨Nat.le_refl _, Nat.le_refl _⟩
  | .and a b => by
    intro p hp
    rcases List.mem_append.mp hp with h | h
    · have := row_high a p h; simp only [Tr.high, Tr.size]; omega
    · rw [List.mem_singleton.mp h]; simp only [Tr.high, Tr.size]; omega
theorem row_high' {a b : Tr} : ∀ p ∈ row (.and a b), p.high < (Tr.and a b).high ∧ p.size ≤ (Tr.and a b).size := by
  intro p hp
  rcases List.mem_append.mp hp with h | h
  · have := row_high a p h; simp only [Tr.high, Tr.size]; omega
  · rw [List.mem_singleton.mp h]; simp only [Tr.high, Tr.size]; omega
/-- what the leaf's own reader does -/
noncomputable def LeafAll (w : World) (f : Addr) (HI : Led → Prop) (g : Tr → Bool) : Prop := ∀ t, t.leaf = true → Gives w f 14 (fun news vs => Ex1 fun l => An3 (vs = [l]) (TrIn news l t) (HI news)) (fun _ r => r = .bool (g t))
theorem LeafAll.at {w : World} {f : Addr} {HI : Led → Prop} {g : Tr → Bool} (h : LeafAll w f HI g) (t : Tr) (ht : t.leaf = true) : Gives w f 14 (fun news vs => Ex1 fun l => An3 (vs = [l]) (TrIn news l t) (HI news)) (fun _ r => r = .bool (g t)) := h t ht
noncomputable def DecAll (w : World) (f : Addr) (HI : Led → Prop) (g : Tr → Bool) (n : Nat) : Prop := ∀ t : Tr, t.high < n → t.size ≤ 40 → Gives w 40 (17 + 3 * n) (fun news vs => Ex1 fun l => An3 (vs = [l, .ref f]) (TrIn news l t) (HI news)) (fun _ r => r = .bool (ev g t))
theorem DecAll.at {w : World} {f : Addr} {HI : Led → Prop} {g : Tr → Bool} {n : Nat} (h : DecAll w f HI g n) (t : Tr) (ht : t.high < n) (hz : t.size ≤ 40) : Gives w 40 (17 + 3 * n) (fun news vs => Ex1 fun l => An3 (vs = [l, .ref f]) (TrIn news l t) (HI news)) (fun _ r => r = .bool (ev g t)) := h t ht hz
local macro_rules | `(tactic| walk_at "call ref") => `(tactic| ktr_call _ (LeafAll.at (by assumption) _ ?_))
local macro_rules | `(tactic| walk_at "call ref") => `(tactic| ktr_call 40 (DecAll.at (by assumption) _ ?_ ?_))
local macro_rules | `(tactic| walk_at "call ref") => `(tactic| ktd_call 21 (row_of_gives _ _ ?_))
local macro_rules | `(tactic| walk_at "exec For Name Call cons nil") => `(tactic| (k_here; (rename Fr _ _ _ _ => lF'); k_dflt (refine For_turns lF' ?_)))
theorem decide_all (w : World) (f : Addr) (HI : Led → Prop) (hmono : Mono HI) (hfun : ∀ nx, HI nx → Ex4 fun oc od fd sl => (f, (⟨oc, od, .func fd, sl⟩ : Obj)) ∈ nx) (g : Tr → Bool) (H : LeafAll w f HI g) : ∀ n, DecAll w f HI g n := by
  intro n
  induction n with
  | zero => intro t ht; exact absurd ht (Nat.not_lt_zero _)
  | succ n ih =>
  intro t ht hz
  unfold Gives
  intro prog loose mean mg mb dp un gd cn cs a ccd cl outer A₀ base h₀ L m news s vs Q E B F X N T hk hd hu hR hret
  obtain ⟨l, rfl, htr, hI⟩ := hR
  obtain ⟨oc, od, fd, sl, hfo⟩ := hfun _ hI
  refine wpAny_call ?_
  rcases hlf : t.leaf
  case true =>
    have htr' := htr
    obtain ⟨a9, u9, rest9, n9, rfl, hm⟩ := htr.head
    have hm : (a9, tup (.str (Str.ofString t.kind) u9 :: rest9) n9) ∈ news := hm
    have h1 : (Str.ofString t.kind == Str.ofString "all") = false ∧ (Str.ofString t.kind == Str.ofString "not") = false ∧ (Str.ofString t.kind == Str.ofString "or") = false ∧ (Str.ofString t.kind != Str.ofString "and") = true := by
      cases t <;> first | (cases hlf; done) | (simp only [Tr.kind]; decide)
    obtain ⟨h1, h2, h3, h4⟩ := h1
    k_dflt ktr_enter
    kpc_turns
    (rename News h₀ L _ _ => kN9; refine hret _ [] _ _ (by k_asm) (tl0 (news_sub kN9 (by kxs_still))) ord0 ?_)
    cases t <;> first | rfl | cases hlf
  case false =>
  have htr' := htr
  cases htr with
  | all hm =>
    k_dflt ktr_enter
    kpc_turns
    (rename News h₀ L _ _ => kN9; refine hret _ [] _ _ (by k_asm) (tl0 (news_sub kN9 (by kxs_still))) ord0 ?_)
    rfl
  | flag _ _ | seq _ _ | uid _ _ | larger _ | smaller _ | modseq _ => cases hlf
  | not hm hx =>
    rename Tr => x
    have h1 : x.high < n := by simp only [Tr.high] at ht; omega
    have h2 : x.size ≤ 40 := by simp only [Tr.size] at hz; omega
    k_dflt ktr_enter
    kpc_turns
    (rename News h₀ L _ _ => kN9; refine hret _ [] _ _ (by k_asm) (tl0 (news_sub kN9 (by kxs_still))) ord0 ?_)
    rfl
  | or hm hx hy =>
    rename_i x y
    have h1 : x.high < n := by simp only [Tr.high] at ht; omega
    have h2 : x.size ≤ 40 := by simp only [Tr.size] at hz; omega
    have h3 : y.high < n := by simp only [Tr.high] at ht; omega
    have h4 : y.size ≤ 40 := by simp only [Tr.size] at hz; omega
    k_dflt ktr_enter
    kpc_turns
    all_goals ((rename News h₀ L _ _ => kN9; refine hret _ [] _ _ (by k_asm) (tl0 (news_sub kN9 (by kxs_still))) ord0 ?_))
    all_goals (rename (ev g x = _) => e1; simp only [ev, e1, Bool.true_or, Bool.false_or])
  | and hm hx hy =>
    rename_i x y
    have hz' := hz
    k_dflt ktr_enter
    kpc_turns
    rename News _ _ _ _ => N'
    rename Fr _ _ _ _ => F'
    rename TrsIn _ _ _ => ht9
    refine iter_seqM [Str.ofString "part"] rfl F' N' (by lsm_bools) (Or.inl rfl) (fun i nx => (∀ p ∈ _, p ∈ nx) ∧ ∀ j, j < i → ∀ q, (row (.and x y))[j]? = some q → ev g q = true) ⟨fun _ h => h, fun _ h => absurd h (Nat.not_lt_zero _)⟩ (fun _ _ j => j.1 _ (by lsm_bools)) ?_ ?_
    · intro i v u nx h tk I oI q9 hq9 hi hJ hnI F₁ N₁
      obtain ⟨hsub, hno⟩ := hJ
      obtain ⟨q, hq, hqt⟩ := ht9.get hi
      replace hqt := hqt.mono hsub
      have hI' : HI nx := hmono.go hI fun p hp => hsub p (by lsm_bools)
      obtain ⟨oc, od, fd, sl, hfo⟩ := hfun _ hI'
      obtain ⟨h1, h2⟩ := row_high' q (List.mem_of_getElem? hq)
      replace h1 : q.high < n := by omega
      replace h2 : q.size ≤ 40 := by omega
      clear F' N' N F ht9
      kpc_turns
      · rename ev g q = true => hev
        refine TurnPost.next (by k_asm) (by k_asm) nx (by kxs_still) hnI ⟨by walk_at "my_map", hsub, fun j hj q' hq' => ?_⟩
        rcases Nat.lt_succ_iff_lt_or_eq.mp hj with h' | h'
        · exact hno j h' q' hq'
        · rw [h', hq] at hq'; cases hq'; exact hev
      · rename ev g q = false => hev
        rename News h₀ L _ _ => kN9
        refine hret _ [] _ _ (by k_asm) (tl0 (news_sub kN9 fun p hp => ?_)) ord0 ?_
        · have hp' := hsub p (List.mem_append.mpr (.inl hp))
          simp only [List.mem_cons, List.mem_append, hp', true_or, or_true]
        · rw [← row_ev g (.and x y)]
          refine congrArg Value.bool ?_
          symm
          rw [List.all_eq_false]
          exact ⟨q, List.mem_of_getElem? hq, by rw [hev]; exact Bool.false_ne_true⟩
    · intro u nx h tk hJ F₁ N₁
      obtain ⟨hsub, hno⟩ := hJ
      clear F' N' N F
      kpc_turns
      rename News h₀ L _ _ => kN9
      refine hret _ [] _ _ (by k_asm) (tl0 (news_sub kN9 fun p hp => hsub p (List.mem_append.mpr (.inl hp)))) ord0 ?_
      rw [← row_ev g (.and x y)]
      refine congrArg Value.bool ?_
      symm
      rw [List.all_eq_true]
      intro q hq
      obtain ⟨j, hj, e⟩ := List.mem_iff_getElem.mp hq
      subst e
      exact hno j (by rw [ht9.len]; exact hj) _ (by simp [hj])
end S_c9
section S_c10
noncomputable def lamE : List Stmt → Option (Arguments × PySem.Expr × Scope × Pos)
  | [.Return (some (.Call _ (_ :: .Lambda p b sc ps :: _) _ _)) _] => some (p, b, sc, ps)
  | _ => none
@[reducible] noncomputable def lamA : Arguments := by refine Subtype.val (p := fun x => ((lamE B807).map (·.1)).getD ⟨[], [], none, [], [], none, []⟩ = x) ⟨?_, ?h⟩; case h => conv => lhs; whnf
@[reducible] noncomputable def lamB : PySem.Expr := by refine Subtype.val (p := fun x => ((lamE B807).map (·.2.1)).getD (.Name ⟨#[]⟩ ⟨0, 0, 0, 0⟩) = x) ⟨?_, ?h⟩; case h => conv => lhs; whnf
@[reducible] noncomputable def lamS : Scope := by refine Subtype.val (p := fun x => ((lamE B807).map (·.2.2.1)).getD { kind := .function, names := [], isGenerator := false, isCoroutine := false } = x) ⟨?_, ?h⟩; case h => conv => lhs; whnf
noncomputable abbrev lamQ : Str := (envOfC (Str.ofString "matches") S807 0 807 (.ref 806)).qual ++ Str.ofString "<lambda>"
noncomputable abbrev lamC (cS cC : Addr) : List (Str × Addr) := [(Str.ofString "seen", cS), (Str.ofString "context", cC)]
@[reducible] noncomputable def lamPos : Pos := by refine Subtype.val (p := fun x => ((lamE B807).map (·.2.2.2)).getD ⟨0, 0, 0, 0⟩ = x) ⟨?_, ?h⟩; case h => conv => lhs; whnf
/-- the table of matches, its lambda laid or not -/
noncomputable def LamOk (ps : Array Value) (news : Led) : Prop :=
  ps = #[] ∨ Ex4 fun (c' : Addr) (oc : Obj) (vs : Array Value) (t : Tok) => An4 (ps = #[rawInt lamPos.line, rawInt lamPos.col, .ref c']) ((c', oc) ∈ news) (oc.data = .fields vs) (vs[1]? = some (.str lamQ t))
theorem LamOk.mono {ps : Array Value} {a b : Led} (x : LamOk ps a) (h : ∀ p ∈ a, p ∈ b) : LamOk ps b := by
  rcases x with rfl | ⟨c', oc, vs, t, e, h1, h2, h3⟩
  · exact .inl rfl
  · exact .inr ⟨c', oc, vs, t, e, h _ h1, h2, h3⟩
/-- as Gives, the table of matches at the ledger's head -/
noncomputable def GivesT (w : World) (f : Addr) (need : Nat) (Pre : Led → List Value → Prop) (Post : Led → Value → Prop) : Prop :=
  ∀ (prog : Program) (loose : List Str) (mean : ExcName → Option Value) (mg mb : Str → Option Value) (dp un : Nat) (gd : Option (List Code)) (cn : Str) (cs : Scope) (a : Addr) (ccd : Value) (cl : List (Str × Addr)) (outer : List Env) (A₀ : Around) (base h₀ : Heap) (L : Addr) (m : Str → Option Value) (news : Led) (s : Shared) (ps : Array Value) (vs : List Value)
    (Q E : Value → Shared → Prop),
    Below A₀ base outer h₀ → CodeHd base 806 802 → Fr h₀ L s.heap m → (Kc w.params).In h₀ → News h₀ L s.heap ((802, tabObj ps) :: news) → (∀ p ∈ news, p.1 ≠ 802) → LamOk ps news → Top topProg loose mean mg mb h₀ → cs.kind = .function →
    dp + need < recursionLimit → un + 8 * need < cLine → Pre news vs →
    (∀ r tl h' tk' ps', Fr h₀ L h' m → News h₀ L h' ((802, tabObj ps') :: (news ++ tl)) → (∀ q ∈ news, ∀ p ∈ tl, q.1 ≠ p.1) → (∀ p ∈ tl, p.1 ≠ 802) → (∀ nx, LamOk ps nx → LamOk ps' (nx ++ tl)) → Post (news ++ tl) r → Q r { s with heap := h', toks := tk' }) →
    wpAny (model prog w) (ktrTop dp un gd cn cs L a ccd cl outer) (call (.ref f) vs) Q E s
theorem GivesT.use {prog : Program} {w : World} {E : Value → Shared → Prop} {s : Shared} {h₀ : Heap} {L : Addr} {all : Led} {f : Addr} {need : Nat} {Pre : Led → List Value → Prop} {Post : Led → Value → Prop} {dp un : Nat} {gd : Option (List Code)} {cn : Str} {cs : Scope} {a : Addr} {ccd : Value} {cl : List (Str × Addr)} {outer : List Env} {A₀ : Around} {base : Heap} {m : Str → Option Value} {vs : List Value} {loose : List Str} {mean : ExcName → Option Value} {mg mb : Str → Option Value} {Q : Value → Shared → Prop}
    (C : GivesT w f need Pre Post) (B : Below A₀ base outer h₀) (CH : CodeHd base 806 802) (F : Fr h₀ L s.heap m) (X : (Kc w.params).In h₀) (N : News h₀ L s.heap all) (news : Led) (ps : Array Value) (hsub : ∀ p ∈ (802, tabObj ps) :: news, p ∈ all) (hne : ∀ p ∈ news, p.1 ≠ 802) (hl : LamOk ps news) (T : Top topProg loose mean mg mb h₀) (hk : cs.kind = .function)
    (hd : dp + need < recursionLimit) (hu : un + 8 * need < cLine) (hp : Pre news vs)
    (ret : ∀ r tl h' tk' ps', Fr h₀ L h' m → News h₀ L h' ((802, tabObj ps') :: (news ++ tl)) → (∀ q ∈ news, ∀ p ∈ tl, q.1 ≠ p.1) → (∀ p ∈ tl, p.1 ≠ 802) → (∀ nx, LamOk ps nx → LamOk ps' (nx ++ tl)) → Post (news ++ tl) r → Q r { s with heap := h', toks := tk' }) :
    wpAny (model prog w) (ktrTop dp un gd cn cs L a ccd cl outer) (call (.ref f) vs) Q E s := C _ _ _ _ _ _ _ _ _ _ _ _ _ _ _ _ _ _ _ _ _ _ _ _ _ B CH F X (news_sub N hsub) hne hl T hk hd hu hp ret
theorem GivesT.useU {prog : Program} {w : World} {E : Value → Shared → Prop} {s : Shared} {h₀ : Heap} {L : Addr} {all : Led} {f : Addr} {need : Nat} {Pre : Led → List Value → Prop} {Post : Led → Value → Prop} {dp un : Nat} {gd : Option (List Code)} {cn : Str} {cs : Scope} {a : Addr} {ccd : Value} {cl : List (Str × Addr)} {outer : List Env} {A₀ : Around} {base : Heap} {m : Str → Option Value} {vs : List Value} {loose : List Str} {mean : ExcName → Option Value} {mg mb : Str → Option Value} {Q : Value → Shared → Prop} {ps : Array Value} {g : Obj → Led}
    (C : GivesT w f need Pre Post) (B : Below A₀ base outer h₀) (CH : CodeHd base 806 802) (F : Fr h₀ L s.heap m) (X : (Kc w.params).In h₀) (N : News h₀ L s.heap all) (U : UpdF 802 (tabObj ps) all g) (ln : Led) (hl : LamOk ps ln) (hln : ∀ p ∈ ln, p ∈ all ∧ p.1 ≠ 802) (T : Top topProg loose mean mg mb h₀) (hk : cs.kind = .function)
    (hd : dp + need < recursionLimit) (hu : un + 8 * need < cLine) (hp : ∀ nx, (∀ p ∈ all, p.1 ≠ 802 → p ∈ nx) → Pre nx vs)
    (ret : ∀ r tl h' tk' ps', Fr h₀ L h' m → News h₀ L h' (g (tabObj ps') ++ tl) → (∀ q ∈ all, ∀ p ∈ tl, q.1 ≠ p.1) → (∀ nx, LamOk ps nx → LamOk ps' (nx ++ tl)) → (Ex1 fun nx => An2 (Post (nx ++ tl) r) (∀ p ∈ nx, p ∈ all ∧ p.1 ≠ 802)) → Q r { s with heap := h', toks := tk' }) :
    wpAny (model prog w) (ktrTop dp un gd cn cs L a ccd cl outer) (call (.ref f) vs) Q E s := by
  obtain ⟨pre, post, rfl, hg, h2, h3⟩ := U.split
  have key : ∀ p ∈ pre ++ (802, tabObj ps) :: post, p.1 ≠ 802 → p ∈ pre ++ post := fun p hp hne => by
    rcases List.mem_append.mp hp with q | q
    · exact List.mem_append.mpr (.inl q)
    · rcases List.mem_cons.mp q with rfl | q
      · exact absurd rfl hne
      · exact List.mem_append.mpr (.inr q)
  refine GivesT.use C B CH F X N (pre ++ post) ps (fun p hp => ?_) (fun p hp => ?_) (hl.mono fun p hp => key p (hln p hp).1 (hln p hp).2) T hk hd hu (hp _ key) fun r tl h' tk' ps' F' N' ho h8 hs hP => ?_
  · rcases List.mem_cons.mp hp with rfl | hp
    · exact List.mem_append.mpr (.inr (.head _))
    · exact (List.mem_append.mp hp).elim (fun q => List.mem_append.mpr (.inl q)) fun q => List.mem_append.mpr (.inr (.tail _ q))
  · exact (List.mem_append.mp hp).elim (h2 p) (h3 p)
  · refine ret r tl h' tk' ps' F' (news_sub N' fun p hp => ?_) (fun q hq p hp => ?_) hs ⟨_, hP, fun p hp => ?_⟩
    · rw [hg] at hp
      simp only [List.mem_append, List.mem_cons] at hp ⊢
      rcases hp with (h | h | h) | h <;> simp [h]
    · by_cases e : q.1 = 802
      · rw [e]; exact (h8 p hp).symm
      · exact ho q (key q hq e) p hp
    · rcases List.mem_append.mp hp with q | q
      · exact ⟨List.mem_append.mpr (.inl q), h2 p q⟩
      · exact ⟨List.mem_append.mpr (.inr (.tail _ q)), h3 p q⟩
noncomputable def LamHI (w : World) (f : Addr) (x : Value) (c : Addr) (d : SD) (gn gu : Int) (nx : Led) : Prop :=
  Ex10 fun pm ctv c' oc vs t' cS cC oS oC => An10 ((f, kla_obj (Str.ofString "<lambda>") lamQ lamA lamB lamS (lamC cS cC) pm c' ctv) ∈ nx) ((c', oc) ∈ nx) (oc.data = .fields vs) (vs[1]? = some (.str lamQ t')) ((cS, oS) ∈ nx) (oS.data = .cell (some x)) ((cC, oC) ∈ nx) (oC.data = .cell (some (.ref c))) (SeenIn w nx x d) (CtxIn nx c gn gu)
theorem LamHI.mono {w : World} {f : Addr} {x : Value} {c : Addr} {d : SD} {gn gu : Int} : Mono (LamHI w f x c d gn gu) := by
  rintro a b ⟨pm, ctv, c', oc, vs, t', cS, cC, oS, oC, h1, h2, h3, h4, h5, h6, h7, h8, h9, h10⟩ hs
  exact ⟨pm, ctv, c', oc, vs, t', cS, cC, oS, oC, hs _ h1, hs _ h2, h3, h4, hs _ h5, h6, hs _ h7, h8, h9.mono hs, h10.mono hs⟩
theorem LamHI.fn {w : World} {f : Addr} {x : Value} {c : Addr} {d : SD} {gn gu : Int} : ∀ nx, LamHI w f x c d gn gu nx → Ex4 fun oc od fd sl => (f, (⟨oc, od, .func fd, sl⟩ : Obj)) ∈ nx := by
  rintro a ⟨pm, ctv, c', oc, vs, t', cS, cC, oS, oC, h1, _⟩
  exact ⟨_, _, _, _, h1⟩
section
variable {prog : Program} {w : World} {A A₀ : Around} {s : Shared} {K : Frag} {L : Addr} {h₀ base : Heap} {m mg mb : Str → Option Value} {news : List (Addr × Obj)} {p : Program} {loose : List Str} {mean : ExcName → Option Value}
theorem enterL {env : Env} {outer : List Env} {R : Result → Shared → Prop} {name qual : Str} {params : Arguments} {body : PySem.Expr} {scope : Scope} {cl : List (Str × Addr)} {pm ctv : Value} {c' : Addr} {f : Addr} {args : Args} {binds : List (Str × Value)}
    (hA : A.frames = some (env :: outer)) (hf : env.frame = some L) (hke : env.scope.kind = .function) (B : Below A₀ base outer h₀) (F : Fr h₀ L s.heap m) (X₀ : K.In h₀) (N : News h₀ L s.heap news) (T : Top p loose mean mg mb h₀)
    (ho : (f, kla_obj name qual params body scope cl pm c' ctv) ∈ news) (hcd : s.heap.CodeRec (.ref c') qual) (hroom : A.depth < recursionLimit)
    (hbind : bindArgs (kla_fn name qual params body scope cl pm (.ref c') ctv) args = pure binds) (hcell : ∀ x ∈ scope.names, x.2 ≠ .cell) (hloc : ∀ y ∈ binds, scope.names.lookup y.1 = some .local)
    (hs : (scope.isCoroutine, scope.isGenerator, scope.kind) = (false, false, .function))
    (h : ∀ g L' h₁, Fr h₀ L g m → Fr g L' h₁ (fun y => binds.reverse.lookup y) → News g L' h₁ news → Below A base (env :: outer) g → K.In g → Top p loose mean mg mb g →
      wpAny (model prog w) (A.deeper (envX qual scope L' f (.ref c') cl)) (eval body (envX qual scope L' f (.ref c') cl))
        (fun v s' => LeaveK h₀ L m g R v s')
        (fun e s' => wpAny (model prog w) (A.deeper (envX qual scope L' f (.ref c') cl)) (leaving (envX qual scope L' f (.ref c') cl) e) (fun _ s'' => R (.error e) s'') (fun e' s'' => R (.error e') s'') s')
        { s with heap := h₁, toks := s.toks + binds.length }) : codeAny (model prog w) A (.call (.ref f) args) R s :=
  kla_code B F X₀ N T hA hf hke ho hcd hroom hbind hloc h (congrArg Prod.fst hs) (congrArg (fun x => x.2.1) hs) (congrArg (fun x => x.2.2) hs) hcell
end
local macro_rules | `(tactic| walk_at "eval Name") => `(tactic| (k_here; k_dflt (refine' nameX_F ?N ?c ?m ?d ?_ ?a ?b; (case a => rfl); (case b => rfl); (case N => k_asm); (case c => rfl); (case m => lsm_bools); (case d => k_asm); k_whole)))
local macro_rules | `(tactic| walk_at "my_lam") => `(tactic| (apply enterL; exact rfl; exact rfl; (first | assumption | exact rfl); (iterate 5 k_asm); lsm_bools; exact codeRec_news (by k_asm) (by lsm_bools) (by assumption) (by assumption); walk_at "my_room"; exact rfl; decide; exact locs rfl; exact rfl; k_whole; intro g' L' h' FG' F' N' B' X' T'; (try dsimp only); (try k_fold)))
local macro_rules | `(tactic| walk_at "call ref") => `(tactic| ktr_call 800 (leaf_holds_gives _ _ _ _ ?_ _))
theorem lam_leaf (w : World) (f : Addr) (x : Value) (c : Addr) (d : SD) (gn gu : Int) : LeafAll w f (LamHI w f x c d gn gu) (fun t => meets gn gu t d) := by
  intro t ht
  unfold Gives
  intro prog loose mean mg mb dp un gd cn cs a ccd cl outer A₀ base h₀ L m news s vs Q E B F X N T hk hd hu hR hret
  obtain ⟨l, rfl, htr, pm, ctv, c', oc, vs, t', cS, cC, oS, oC, h1, h2, h3, h4, h5, h6, h7, h8, h9, h10⟩ := hR
  refine wpAny_call ?_
  walk_at "my_lam"
  kpc_turns
  (rename News h₀ L _ _ => kN9; refine hret _ [] _ _ (by k_asm) (tl0 (news_sub kN9 (by kxs_still))) ord0 ?_)
  rfl
theorem matches_gives (w : World) (gn gu : Int) (t : Tr) (ht : t.high ≤ 3) (hz : t.size ≤ 40) (d : SD) : GivesT w 807 34 (fun news vs => Ex3 fun l x c => An4 (vs = [l, x, .ref c]) (TrIn news l t) (SeenIn w news x d) (CtxIn news c gn gu))
    (fun _ r => r = .bool (meets gn gu t d)) := by
  unfold GivesT
  intro prog loose mean mg mb dp un gd cn cs a ccd cl outer A₀ base h₀ L m news s ps vs Q E B CH F X N hne hlam T hk hd hu hR hret
  obtain ⟨l, x, c, rfl, htr, hl, hc⟩ := hR
  rcases hlam with rfl | ⟨c', oc, vs, t', rfl, hc', hd1, hd2⟩
  · refine wpAny_call ?_
    walk_at "my_enterC"
    kpc_turns
    rename ∀ p ∈ _ :: news, p.1 < _ => hl1
    have h802 := hl1 _ List.mem_cons_self
    dsimp only at h802
    refine' kla_eval ?d0 ?_
    (case d0 => exact rfl)
    refine' kla_nest ?F ?N ?T ?C ?cd ?U ?t ?n ?cl ?_
    (case F => k_asm)
    (case N => k_asm)
    (case T => k_asm)
    (case cd => exact rfl)
    (case C => kn_code)
    (case U => exact UpdF.tail (Nat.ne_of_gt (Nat.lt_succ_of_lt (Nat.lt_succ_of_lt h802))) (UpdF.tail (Nat.ne_of_gt (Nat.lt_succ_of_lt h802)) (UpdF.head hne)))
    (case t => kn_triples)
    (case n => kn_among)
    (case cl => exact rfl)
    intro f c' oc vs t' ctv h' tk F' N' d1' d2' l1 l2
    dsimp only at N'
    kpc_turns
    refine' Gives.use (decide_all w f (LamHI w f x c d gn gu) LamHI.mono LamHI.fn (fun t => meets gn gu t d) (lam_leaf w f x c d gn gu) 4 t (by omega) hz) ?k1 ?k2 ?k3 ?k4 ?k5 ?k6 ?k7 ?k8 ?k9 ?_
    (case k1 => k_asm)
    (case k2 => k_asm)
    (case k3 => k_asm)
    (case k4 => k_asm)
    (case k5 => k_asm)
    (case k6 => rfl)
    (case k9 => exact ⟨l, rfl, htr.mono (by kxs_still), _, _, c', oc, vs, t', _, _, _, _, .head _, .tail _ (.head _), d1', d2', .tail _ (.tail _ (.tail _ (.head _))), by assumption, .tail _ (.tail _ (.head _)), by assumption, hl.mono (by kxs_still), hc.mono (by kxs_still)⟩)
    (case k7 => walk_at "my_room")
    (case k8 => walk_at "my_room")
    intro r9 tl9 h9 tk9 F9 N9 hl9 e9
    try dsimp only at e9
    rw [ev_meets] at e9
    subst e9
    try simp only [List.cons_append, List.nil_append, List.append_assoc] at N9
    kpc_turns
    rename News h₀ L _ _ => kN9
    refine hret _ [(c', oc)] _ _ _ (by k_asm) (news_sub kN9 ?_) (fun q hq p hp => ?_) (fun p hp => ?_) (fun _ _ => .inr ⟨c', oc, vs, t', rfl, List.mem_append.mpr (.inr (.head _)), d1', d2'⟩) rfl
    · intro p hp
      rcases List.mem_cons.mp hp with rfl | hp
      · exact .tail _ (.tail _ (.tail _ (.tail _ (.head _))))
      · rcases List.mem_append.mp hp with hp | hp
        · exact .tail _ (.tail _ (.tail _ (.tail _ (.tail _ (List.mem_append.mpr (.inl hp))))))
        · rw [List.mem_singleton.mp hp]; exact .tail _ (.head _)
    · rw [List.mem_singleton.mp hp]; exact Nat.ne_of_lt (l1 q (.tail _ (.tail _ (.tail _ hq))))
    · rw [List.mem_singleton.mp hp]; exact Nat.ne_of_gt (l1 (802, _) (.tail _ (.tail _ (.head _))))
  · refine wpAny_call ?_
    walk_at "my_enterC"
    kpc_turns
    refine' Gives.use (decide_all w _ (LamHI w _ x c d gn gu) LamHI.mono LamHI.fn (fun t => meets gn gu t d) (lam_leaf w _ x c d gn gu) 4 t (by omega) hz) ?k1 ?k2 ?k3 ?k4 ?k5 ?k6 ?k7 ?k8 ?k9 ?_
    (case k1 => k_asm)
    (case k2 => k_asm)
    (case k3 => k_asm)
    (case k4 => k_asm)
    (case k5 => k_asm)
    (case k6 => rfl)
    (case k9 => refine ⟨l, ?a0, ?a1, ?a2⟩; (case a0 => exact rfl); (case a1 => exact htr.mono (by kxs_still)); exact ⟨_, _, c', oc, vs, t', _, _, _, _, .head _, by lsm_bools, hd1, hd2, .tail _ (.tail _ (.head _)), by assumption, .tail _ (.head _), by assumption, hl.mono (by kxs_still), hc.mono (by kxs_still)⟩)
    (case k7 => walk_at "my_room")
    (case k8 => walk_at "my_room")
    intro r9 tl9 h9 tk9 F9 N9 hl9 e9
    try dsimp only at e9
    rw [ev_meets] at e9
    subst e9
    try simp only [List.cons_append, List.nil_append, List.append_assoc] at N9
    kpc_turns
    rename News h₀ L _ _ => kN9
    refine hret _ [] _ _ _ (by k_asm) (news_sub kN9 ?_) ord0 (fun p hp => nomatch hp) (fun nx h => by rw [List.append_nil]; exact h) rfl
    rw [List.append_nil]
    kxs_still
end S_c10
section S_c11
noncomputable def LMAll (w : World) (d e : SD) (n : Nat) : Prop := ∀ t : Tr, t.high < n → Gives w 876 (6 + 3 * n) (fun news vs => Ex3 fun l x y => An4 (vs = [l, x, y]) (TrIn news l t) (SeenIn w news x d) (SeenIn w news y e)) (fun _ r => r = .bool (meets e.number e.uid t d))
theorem LMAll.at {w : World} {d e : SD} {n : Nat} (h : LMAll w d e n) (t : Tr) (ht : t.high < n) : Gives w 876 (6 + 3 * n) (fun news vs => Ex3 fun l x y => An4 (vs = [l, x, y]) (TrIn news l t) (SeenIn w news x d) (SeenIn w news y e)) (fun _ r => r = .bool (meets e.number e.uid t d)) := h t ht
local macro_rules | `(tactic| walk_at "call ref") => `(tactic| ktr_call 869 (law_in_gives _ _ _ _))
local macro_rules | `(tactic| walk_at "call ref") => `(tactic| ktr_call 876 (LMAll.at (by assumption) _ ?_))
theorem rest_flag {news : Led} {t : Tr} {r : List Value} (h : Rest news t r) (k : (Str.ofString t.kind == Str.ofString "flag") = true) : Ex2 fun s u => An3 (r = [.str s u]) (Flag s) (∀ gn gu d, meets gn gu t d = d.flags.any (· == s)) := by
  cases t <;> first | (obtain ⟨u, e, f⟩ := h; exact ⟨_, u, e, f, fun _ _ _ => rfl⟩) | exact absurd k (by simp only [Tr.kind]; decide)
theorem rest_seq {news : Led} {t : Tr} {r : List Value} (h : Rest news t r) (k : (Str.ofString t.kind == Str.ofString "seq") = true) : Ex2 fun v ps => An3 (r = [v]) (SomeIn news v ps) (∀ gn gu d, meets gn gu t d = inSet ps d.number gn) := by
  cases t <;> first | (obtain ⟨u, e, f⟩ := h; exact ⟨u, _, e, f, fun _ _ _ => rfl⟩) | exact absurd k (by simp only [Tr.kind]; decide)
theorem rest_uid {news : Led} {t : Tr} {r : List Value} (h : Rest news t r) (k : (Str.ofString t.kind == Str.ofString "uid") = true) : Ex2 fun v ps => An3 (r = [v]) (SomeIn news v ps) (∀ gn gu d, meets gn gu t d = inSet ps d.uid gu) := by
  cases t <;> first | (obtain ⟨u, e, f⟩ := h; exact ⟨u, _, e, f, fun _ _ _ => rfl⟩) | exact absurd k (by simp only [Tr.kind]; decide)
theorem rest_modseq {news : Led} {t : Tr} {r : List Value} (h : Rest news t r) (k : (Str.ofString t.kind == Str.ofString "modseq") = true) : Ex2 fun n u => An2 (r = [.int n u]) (∀ gn gu d, meets gn gu t d = decide (n ≤ d.mseq)) := by
  cases t <;> first | (obtain ⟨u, e⟩ := h; exact ⟨_, u, e, fun _ _ _ => rfl⟩) | exact absurd k (by simp only [Tr.kind]; decide)
theorem rest_larger {news : Led} {t : Tr} {r : List Value} (h : Rest news t r) (k : (Str.ofString t.kind == Str.ofString "larger") = true) : Ex2 fun n u => An2 (r = [.int n u]) (∀ gn gu d, meets gn gu t d = decide (n < (d.size : Int))) := by
  cases t <;> first | (obtain ⟨u, e⟩ := h; exact ⟨_, u, e, fun _ _ _ => rfl⟩) | exact absurd k (by simp only [Tr.kind]; decide)
theorem rest_smaller {news : Led} {t : Tr} {r : List Value} (h : Rest news t r) (hl : t.leaf = true) (k1 : (Str.ofString t.kind == Str.ofString "flag") = false) (k2 : (Str.ofString t.kind == Str.ofString "seq") = false) (k3 : (Str.ofString t.kind == Str.ofString "uid") = false) (k4 : (Str.ofString t.kind == Str.ofString "modseq") = false) (k5 : (Str.ofString t.kind == Str.ofString "larger") = false) : Ex2 fun n u => An2 (r = [.int n u]) (∀ gn gu d, meets gn gu t d = decide ((d.size : Int) < n)) := by
  cases t <;> first | (cases hl; done) | (obtain ⟨u, e⟩ := h; exact ⟨_, u, e, fun _ _ _ => rfl⟩) | (exfalso; simp only [Tr.kind] at k1 k2 k3 k4 k5; revert k1 k2 k3 k4 k5; decide)
local macro_rules | `(tactic| walk_at "subscriptTail") => `(tactic| ktn_call "sub" my_tup1)
local macro_rules | `(tactic| walk_at "subscriptTail") => `(tactic| (k_here; (with_reducible show wpAny _ _ (subscriptTail _ _ (Value.ref _) (Value.int 1 _)) _ _ _); (rename Rest _ _ _ => hM9); k_dflt (refine Halt.mk ?_)))
theorem law_meets_all (w : World) (d e : SD) (he : 0 < e.number) (he' : 0 < e.uid) : ∀ n, LMAll w d e n := by
  intro n
  induction n with
  | zero => intro t ht; exact absurd ht (Nat.not_lt_zero _)
  | succ n ih =>
  intro t ht
  unfold Gives
  intro prog loose mean mg mb dp un gd cn cs a ccd cl outer A₀ base h₀ L m news s vs Q E B F X N T hk hd hu hR hret
  obtain ⟨l, x, y, rfl, htr, hx, hy⟩ := hR
  refine wpAny_call ?_
  rcases hlf : t.leaf
  case true =>
    have hx' := hx
    have hy' := hy
    obtain ⟨x0, dx, n0, t1, t2, t3, yl, tn, rfl, hx1, hx2, hx3⟩ := hx
    obtain ⟨y0, dy, n2, t1', t2', t3', yl', tn', rfl, hy1, hy2, hy3⟩ := hy
    have hx3' := hx3
    have hy3' := hy3
    obtain ⟨ddy, n3, t1, t2, t3, t4, t5, tu, tb, ti, tm, arr, f, fl, k, hl1, hl2, ⟨hl3, hl3a⟩, hl4, hl5⟩ := hx3
    obtain ⟨edy, en', et1, et2, et3, et4, et5, etu, etb, eti, etm, earr, ef, efl, ek', el1, el2, ⟨el3, el3a⟩, el4, el5⟩ := hy3
    obtain ⟨a9, u9, rest9, n9, rfl, hm, hr⟩ := htr.headR
    have h1 : (Str.ofString t.kind == Str.ofString "all") = false ∧ (Str.ofString t.kind == Str.ofString "not") = false ∧ (Str.ofString t.kind == Str.ofString "and") = false ∧ (Str.ofString t.kind == Str.ofString "or") = false := by
      cases t <;> first | (cases hlf; done) | (simp only [Tr.kind]; decide)
    obtain ⟨h1, h2, h3, h4⟩ := h1
    k_dflt ktr_enter
    kpc_turns
    · rename Rest _ _ _ => hr
      obtain ⟨s1, u1, e1, f1, hmt⟩ := rest_flag hr (by assumption)
      replace hm : (a9, tup (.str (Str.ofString t.kind) u9 :: [.str s1 u1]) n9) ∈ news := e1 ▸ hm
      clear hr
      refine Halt.go ?_
      clear el5
      kpc_turns
      (rename News h₀ L _ _ => kN9; refine hret _ [] _ _ (by k_asm) (tl0 (news_sub kN9 (by kxs_still))) ord0 ?_)
      exact congrArg Value.bool (hmt _ _ _).symm
    · rename Rest _ _ _ => hr
      obtain ⟨v1, p1, e1, f1, hmt⟩ := rest_seq hr (by assumption)
      replace hm : (a9, tup (.str (Str.ofString t.kind) u9 :: [v1]) n9) ∈ news := e1 ▸ hm
      clear hr
      refine Halt.go ?_
      kpc_turns
      (rename News h₀ L _ _ => kN9; refine hret _ [] _ _ (by k_asm) (tl0 (news_sub kN9 (by kxs_still))) ord0 ?_)
      exact congrArg Value.bool (hmt _ _ _).symm
    · rename Rest _ _ _ => hr
      obtain ⟨v1, p1, e1, f1, hmt⟩ := rest_uid hr (by assumption)
      replace hm : (a9, tup (.str (Str.ofString t.kind) u9 :: [v1]) n9) ∈ news := e1 ▸ hm
      clear hr
      refine Halt.go ?_
      kpc_turns
      (rename News h₀ L _ _ => kN9; refine hret _ [] _ _ (by k_asm) (tl0 (news_sub kN9 (by kxs_still))) ord0 ?_)
      exact congrArg Value.bool (hmt _ _ _).symm
    · rename Rest _ _ _ => hr
      obtain ⟨s1, u1, e1, hmt⟩ := rest_modseq hr (by assumption)
      replace hm : (a9, tup (.str (Str.ofString t.kind) u9 :: [.int s1 u1]) n9) ∈ news := e1 ▸ hm
      clear hr
      refine Halt.go ?_
      kpc_turns
      (rename News h₀ L _ _ => kN9; refine hret _ [] _ _ (by k_asm) (tl0 (news_sub kN9 (by kxs_still))) ord0 ?_)
      exact congrArg Value.bool (hmt _ _ _).symm
    · rename Rest _ _ _ => hr
      obtain ⟨s1, u1, e1, hmt⟩ := rest_larger hr (by assumption)
      replace hm : (a9, tup (.str (Str.ofString t.kind) u9 :: [.int s1 u1]) n9) ∈ news := e1 ▸ hm
      clear hr
      refine Halt.go ?_
      kpc_turns
      (rename News h₀ L _ _ => kN9; refine hret _ [] _ _ (by k_asm) (tl0 (news_sub kN9 (by kxs_still))) ord0 ?_)
      rw [hmt, hl3]
    · rename Rest _ _ _ => hr
      obtain ⟨s1, u1, e1, hmt⟩ := rest_smaller hr hlf (by assumption) (by assumption) (by assumption) (by assumption) (by assumption)
      replace hm : (a9, tup (.str (Str.ofString t.kind) u9 :: [.int s1 u1]) n9) ∈ news := e1 ▸ hm
      clear hr
      refine Halt.go ?_
      kpc_turns
      (rename News h₀ L _ _ => kN9; refine hret _ [] _ _ (by k_asm) (tl0 (news_sub kN9 (by kxs_still))) ord0 ?_)
      rw [hmt, hl3]
  case false =>
  have htr' := htr
  cases htr with
  | all hm =>
    k_dflt ktr_enter
    kpc_turns
    (rename News h₀ L _ _ => kN9; refine hret _ [] _ _ (by k_asm) (tl0 (news_sub kN9 (by kxs_still))) ord0 ?_)
    rfl
  | flag _ _ | seq _ _ | uid _ _ | larger _ | smaller _ | modseq _ => cases hlf
  | not hm hx =>
    rename Tr => x
    have h1 : x.high < n := by simp only [Tr.high] at ht; omega
    k_dflt ktr_enter
    kpc_turns
    (rename News h₀ L _ _ => kN9; refine hret _ [] _ _ (by k_asm) (tl0 (news_sub kN9 (by kxs_still))) ord0 ?_)
    rfl
  | and hm hx hy =>
    rename_i x y
    have h1 : x.high < n := by simp only [Tr.high] at ht; omega
    have h3 : y.high < n := by simp only [Tr.high] at ht; omega
    k_dflt ktr_enter
    kpc_turns
    all_goals ((rename News h₀ L _ _ => kN9; refine hret _ [] _ _ (by k_asm) (tl0 (news_sub kN9 (by kxs_still))) ord0 ?_))
    all_goals (rename (meets e.number e.uid x d = _) => e1; simp only [meets, e1, Bool.true_and, Bool.false_and])
  | or hm hx hy =>
    rename_i x y
    have h1 : x.high < n := by simp only [Tr.high] at ht; omega
    have h3 : y.high < n := by simp only [Tr.high] at ht; omega
    k_dflt ktr_enter
    kpc_turns
    all_goals ((rename News h₀ L _ _ => kN9; refine hret _ [] _ _ (by k_asm) (tl0 (news_sub kN9 (by kxs_still))) ord0 ?_))
    all_goals (rename (meets e.number e.uid x d = _) => e1; simp only [meets, e1, Bool.true_or, Bool.false_or])
end S_c11
section S_c12
theorem ord1 {D : Addr} {o : Obj} {news : Led} (h : AllLt D news) : ∀ q ∈ news, ∀ p ∈ [(D, o)], q.1 ≠ p.1 := fun q hq p hp => by
  rw [List.mem_singleton.mp hp]; exact Nat.ne_of_lt (lt_of_all h hq)
theorem sub1 {D : Addr} {o : Obj} {news led : Led} (h : ∀ p ∈ news, p ∈ led) : ∀ p ∈ news ++ [(D, o)], p ∈ (D, o) :: led := fun p hp =>
  (List.mem_append.mp hp).elim (fun x => .tail _ (h p x)) fun x => by rw [List.mem_singleton.mp x]; exact .head _
theorem mem_last {D : Addr} {o : Obj} {news : Led} : (D, o) ∈ news ++ [(D, o)] := List.mem_append.mpr (.inr (.head _))
noncomputable def gnOf (ds : List SD) : Int := (ds.getLast?.map SD.number).getD 0
noncomputable def guOf (ds : List SD) : Int := (ds.getLast?.map SD.uid).getD 0
theorem context_of_gives (w : World) (ds : List SD) (hn : ds.length ≤ 100) : Gives w 814 4 (fun news vs => Ex3 fun R its k => An3 (vs = [.ref R]) ((R, listOf its.toArray k) ∈ news) (SeensIn w news its ds))
    (fun news r => Ex4 fun c t u n => An2 (r = .ref c) ((c, tup [.int (gnOf ds) t, .int (guOf ds) u] n) ∈ news)) := by
  unfold Gives
  intro prog loose mean mg mb dp un gd cn cs a ccd cl outer A₀ base h₀ L m news s vs Q E B F X N T hk hd hu hR hret
  obtain ⟨R, its, k, rfl, hm, hs⟩ := hR
  refine wpAny_call ?_
  rcases List.eq_nil_or_concat ds with rfl | ⟨ds', d, rfl⟩
  · cases hs
    k_dflt ktr_enter
    kpc_turns
    (rename News h₀ L _ ((_, _) :: _) => kN9; refine hret _ [(_, _)] _ _ (by k_asm) (news_sub kN9 (sub1 (by kxs_still))) (ord1 (by first | assumption | exact allLt_of (by assumption) | exact And.right (by assumption) | exact And.right (And.right (by assumption)) | exact And.right (And.right (And.right (by assumption))))) ?_)
    exact ⟨_, _, _, _, rfl, mem_last⟩
  · rw [List.concat_eq_append] at hs
    obtain ⟨vs', v, rfl, h1, h2⟩ := hs.snoc
    have h1' := h1
    obtain ⟨x0, dx, n0, t1, t2, t3, yl, tn, rfl, hx1, hx2, hx3⟩ := h1
    obtain ⟨ddy, n3, t1, t2, t3, t4, t5, tu, tb, ti, tm, arr, f, fl, k, hl1, hl2, ⟨hl3, hl3a⟩, hl4, hl5⟩ := hx3
    k_dflt ktr_enter
    kpc_turns
    · rename List.isEmpty _ = true => hbad
      simp at hbad
    · (rename News h₀ L _ ((_, _) :: _) => kN9; refine hret _ [(_, _)] _ _ (by k_asm) (news_sub kN9 (sub1 (by kxs_still))) (ord1 (by first | assumption | exact allLt_of (by assumption) | exact And.right (by assumption) | exact And.right (And.right (by assumption)) | exact And.right (And.right (And.right (by assumption))))) ?_)
      have e1 : gnOf (ds'.concat d) = d.number := by simp [gnOf]
      have e2 : guOf (ds'.concat d) = d.uid := by simp [guOf]
      rw [e1, e2]
      exact ⟨_, _, _, _, rfl, mem_last⟩
theorem told_number_gives (w : World) (b : Bool) (d : SD) : Gives w 838 2 (fun news vs => Ex1 fun x => An2 (vs = [x, .bool b]) (SeenIn w news x d)) (fun _ r => ∃ t, r = .int (if b then d.uid else d.number) t) := by
  unfold Gives
  intro prog loose mean mg mb dp un gd cn cs a ccd cl outer A₀ base h₀ L m news s vs Q E B F X N T hk hd hu hR hret
  obtain ⟨x, rfl, hx⟩ := hR
  obtain ⟨x0, dx, n0, t1, t2, t3, yl, tn, rfl, hx1, hx2, hx3⟩ := hx
  obtain ⟨ddy, n3, t1, t2, t3, t4, t5, tu, tb, ti, tm, arr, f, fl, k, hl1, hl2, ⟨hl3, hl3a⟩, hl4, hl5⟩ := hx3
  refine wpAny_call ?_
  cases b
  · k_dflt ktr_enter
    kpc_turns
    (rename News h₀ L _ _ => kN9; refine hret _ [] _ _ (by k_asm) (tl0 (news_sub kN9 (by kxs_still))) ord0 ?_)
    exact ⟨_, rfl⟩
  · k_dflt ktr_enter
    kpc_turns
    (rename News h₀ L _ _ => kN9; refine hret _ [] _ _ (by k_asm) (tl0 (news_sub kN9 (by kxs_still))) ord0 ?_)
    exact ⟨_, rfl⟩
end S_c12
section S_c13
local macro_rules | `(tactic| walk_at "call ref") => `(tactic| (k_here; (with_reducible show wpAny _ _ (call (Value.ref 814) _) _ _ _); k_dflt (refine' Gives.goP (context_of_gives _ _ ?_) ?k9 ?_; (case k9 => walk_at "my_pre"); (all_goals (try first | (with_reducible assumption) | rfl)); intro q9 t9 u9 n9 tl9 h9 tk9 F9 N9 hl9 hm9; (try simp only [List.cons_append, List.nil_append, List.append_assoc] at hm9); walk_at "my_t0")))
theorem cells_off {x : Addr × Obj} {news tl : Led} {L : Addr} {oa ob : Obj} (h1 : ∀ p ∈ x :: news, p.1 < L) (h2 : ∀ q ∈ (L + 1 + 1, oa) :: (L + 1, ob) :: x :: news, ∀ p ∈ tl, q.1 ≠ p.1) :
    (∀ p ∈ x :: (news ++ tl), p.1 ≠ L + 1) ∧ (∀ p ∈ x :: (news ++ tl), p.1 ≠ L + 1 + 1) := by
  have key : ∀ p ∈ x :: (news ++ tl), p.1 < L ∨ (p.1 ≠ L + 1 + 1 ∧ p.1 ≠ L + 1) := by
    intro p hp
    rcases List.mem_cons.mp hp with rfl | hp
    · exact .inl (h1 _ (.head _))
    · rcases List.mem_append.mp hp with hp | hp
      · exact .inl (h1 _ (.tail _ hp))
      · exact .inr ⟨fun e => h2 _ (.head _) p hp e.symm, fun e => h2 _ (.tail _ (.head _)) p hp e.symm⟩
  constructor
  · intro p hp e
    rcases key p hp with h | h
    · rw [e] at h; exact absurd h (Nat.not_lt.mpr (Nat.le_succ _))
    · exact h.2 e
  · intro p hp e
    rcases key p hp with h | h
    · rw [e] at h; exact absurd h (Nat.not_lt.mpr (Nat.le_succ_of_le (Nat.le_succ _)))
    · exact h.1 e
theorem search_seen_gives (w : World) (t : Tr) (ht : t.high ≤ 3) (hz : t.size ≤ 40) (ds : List SD) (hds : ds.length ≤ 100) (hpos : ds ≠ [] → 0 < gnOf ds ∧ 0 < guOf ds) :
    GivesT w 819 40 (fun news vs => Ex4 fun l R its k => An4 (vs = [l, .ref R]) (TrIn news l t) ((R, listOf its.toArray k) ∈ news) (SeensIn w news its ds))
      (fun news r => Ex3 fun q vs k => An3 (r = .ref q) ((q, listOf vs.toArray k) ∈ news) (IntsAre vs ((ds.filter (meets (gnOf ds) (guOf ds) t)).map SD.number))) := by
  unfold GivesT
  intro prog loose mean mg mb dp un gd cn cs a ccd cl outer A₀ base h₀ L m news s ps vs Q E B CH F X N hne hlam T hk hd hu hR hret
  obtain ⟨l, R, its, k, rfl, htr, hm, hs⟩ := hR
  refine wpAny_call ?_
  walk_at "my_enterC"
  kpc_turns
  rename (∀ p ∈ _ :: news, p.1 < _) => hl1
  rename (∀ q ∈ (_ : Led), ∀ p ∈ (_ : Led), q.1 ≠ p.1) => hl9
  obtain ⟨hA, hB⟩ := cells_off hl1 hl9
  kpc_turns
  refine Halt.go ?_
  refine LCt.CompSrcT.ledger (by rfl) (by k_asm) (by k_asm) (by lsm_bools) (by simp only [List.size_toArray, hs.len]; rw [sizeLine_eq]; omega) ?_
  intro g9
  rename List (Addr × Obj) => tl9
  rename (_, tup [Value.int (gnOf ds) _, Value.int (guOf ds) _] _) ∈ _ => hm9
  replace hm9 := strip_tab (strip_cell (strip_cell hm9 (by assumption)) (by assumption))
  refine compT (fun i ys nx => Ex2 fun ps' tl' => An6 (nx = (_, _) :: (_, _) :: (802, tabObj ps') :: (news ++ tl')) ((∀ nx, LamOk ps nx → LamOk ps' (nx ++ tl'))) ((∀ p ∈ news ++ tl', p.1 ≠ 802)) ((∀ q ∈ news, ∀ p ∈ tl', q.1 ≠ p.1)) ((Ex3 fun n t u => (_, tup [.int (gnOf ds) t, .int (guOf ds) u] n) ∈ news ++ tl')) (IntsAre ys (((ds.take i).filter (meets (gnOf ds) (guOf ds) t)).map SD.number))) ?_ ⟨ps, tl9, rfl, fun nx h => h.mono (by kxs_still), ?_, ?_, ⟨_, _, _, hm9⟩, .nil⟩ ?_ ?_
  · rintro i ys nx ⟨ps', tl', rfl, -⟩
    exact .inr ⟨_, .tail _ (.tail _ (.tail _ (List.mem_append.mpr (.inl hm)))), rfl, _, rfl⟩
  · intro p hp
    rcases List.mem_append.mp hp with h | h
    · exact hne p h
    · exact fun e => hl9 _ (.tail _ (.tail _ (.head _))) p h e.symm
  · exact fun q hq p hp => hl9 q (.tail _ (.tail _ (.tail _ hq))) p hp
  · rintro i v ys nx I oI C oC D m₂ h tk E' q9 q8 hq9 hq8 hi hv ⟨ps', tl', rfl, hlam', h802, hord, ⟨n', t', u', hc'⟩, hys⟩ hC hx F₁ N₁ off hne3
    obtain ⟨d, hd, hsd⟩ := hs.get (by simpa using hv)
    replace hsd := hsd.mono (news' := news ++ tl') fun p hp => List.mem_append.mpr (.inl hp)
    obtain ⟨gp, up⟩ := hpos (by rintro rfl; simp at hd)
    have hctx : CtxIn (news ++ tl') _ (gnOf ds) (guOf ds) := ⟨_, _, _, hc', gp, up⟩
    dsimp only at hx F₁ N₁
    kpc_turns
    have h1 := off _ (.tail _ (.tail _ (.head _)))
    refine' GivesT.useU (matches_gives w (gnOf ds) (guOf ds) t ht hz d) ?k1 CH ?k2 ?k3 ?k4 ?kU (news ++ tl') ?kl ?kn ?k5 ?k6 ?k7 ?k8 ?k9 ?_
    (case k1 => k_asm)
    (case k2 => k_asm)
    (case k3 => k_asm)
    (case k4 => exact N₁)
    (case kU => exact UpdF.tail (Ne.symm h1.1) (UpdF.tail (Ne.symm h1.2.1) (UpdF.tail (Ne.symm h1.2.2) (UpdF.tail (Ne.symm (hB _ (.head _))) (UpdF.tail (Ne.symm (hA _ (.head _))) (UpdF.head h802))))))
    (case kl => exact hlam' _ hlam)
    (case kn => exact fun p hp => ⟨.tail _ (.tail _ (.tail _ (.tail _ (.tail _ (.tail _ hp))))), h802 p hp⟩)
    (case k5 => k_asm)
    (case k6 => rfl)
    (case k7 => walk_at "my_room")
    (case k8 => walk_at "my_room")
    (case k9 => exact fun nx hnx => have hx : ∀ p ∈ news ++ tl', p ∈ nx := fun p hp => hnx p (.tail _ (.tail _ (.tail _ (.tail _ (.tail _ (.tail _ hp)))))) (h802 p hp); ⟨l, v, _, rfl, htr.mono fun p hp => hx p (List.mem_append.mpr (.inl hp)), hsd.mono hx, hctx.mono hx⟩)
    intro r9 tl9 h9 tk9 ps9 F9 N9 hl9 hs9 e9
    obtain ⟨_, e9, -⟩ := e9
    subst e9
    have hn9 : ∀ p ∈ tl9, p.1 ≠ 802 := fun p hp e => hl9 (802, _) (.tail _ (.tail _ (.tail _ (.tail _ (.tail _ (.head _)))))) p hp e.symm
    dsimp only
    have nxt : (∀ nx, LamOk ps nx → LamOk ps9 (nx ++ (tl' ++ tl9))) ∧ (∀ p ∈ news ++ (tl' ++ tl9), p.1 ≠ 802) ∧ (∀ q ∈ news, ∀ p ∈ tl' ++ tl9, q.1 ≠ p.1) := by
      refine ⟨fun nx h => by rw [← List.append_assoc]; exact hs9 _ (hlam' nx h), ?_, fun q hq p hp => ?_⟩
      · rw [← List.append_assoc]
        exact fun p hp => (List.mem_append.mp hp).elim (h802 p) (hn9 p)
      · exact (List.mem_append.mp hp).elim (hord q hq p) (hl9 q (.tail _ (.tail _ (.tail _ (.tail _ (.tail _ (.tail _ (List.mem_append.mpr (.inl hq)))))))) p)
    have etake : ds.take (i + 1) = ds.take i ++ [d] := by rw [List.take_succ, hd]; rfl
    have noff := off_more3 (ps9 := ps9) off hl9
    obtain ⟨n1, n2, n3⟩ := nxt
    have hc9 := mem_more (tl := tl9) hc'
    obtain ⟨x0, dx, n0, t1, t2, t3, yl, tn, rfl, hx1, hx2, hx3⟩ := hsd
    cases hmt : meets (gnOf ds) (guOf ds) t d
    · kpc_turns
      refine CTurn.intro (by k_asm) (by k_asm) ((_, _) :: (_, _) :: (802, tabObj ps9) :: (news ++ (tl' ++ tl9))) (by kxs_still) noff ⟨ps9, tl' ++ tl9, rfl, n1, n2, n3, ⟨n', t', u', hc9⟩, ?_⟩
      rw [etake, List.filter_append, List.filter_cons_of_neg (by rw [hmt]; exact Bool.false_ne_true), List.filter_nil, List.append_nil]
      exact hys
    · kpc_turns
      refine CTurn.intro (by k_asm) (by k_asm) ((_, _) :: (_, _) :: (802, tabObj ps9) :: (news ++ (tl' ++ tl9))) (by kxs_still) noff ⟨ps9, tl' ++ tl9, rfl, n1, n2, n3, ⟨n', t', u', hc9⟩, ?_⟩
      rw [etake, List.filter_append, List.filter_cons_of_pos hmt, List.filter_nil, List.map_append]
      exact hys.append (.cons _ _ .nil)
  · rintro ys nx ⟨ps', tl', rfl, hlam', h802, hord, ⟨n', t', u', hc'⟩, hys⟩
    intro D h tk F₁ N₁ off
    kpc_turns
    have hfull : ds.take its.toArray.size = ds := by rw [List.size_toArray, hs.len]; exact List.take_length
    rw [hfull] at hys
    have offD := off1_mem off
    rename News h₀ L _ _ => kN9
    refine hret _ (tl' ++ [(D, LCg.lst ys)]) _ _ ps' (by k_asm) (news_sub kN9 (by kxs_still)) (fun q hq p hp => ?_) (fun p hp => ?_) (fun nx hnx => ?_) ⟨D, ys, ys.length, rfl, ?_, hys⟩
    · rcases List.mem_append.mp hp with hp | hp
      · exact hord q hq p hp
      · rw [List.mem_singleton.mp hp]; exact offD q (.tail _ (.tail _ (.tail _ (List.mem_append.mpr (.inl hq)))))
    · rcases List.mem_append.mp hp with hp | hp
      · exact h802 p (List.mem_append.mpr (.inr hp))
      · rw [List.mem_singleton.mp hp]; exact (offD (802, _) (.tail _ (.tail _ (.head _)))).symm
    · rw [← List.append_assoc]; exact (hlam' nx hnx).mono fun p hp => List.mem_append.mpr (.inl hp)
    · exact List.mem_append.mpr (.inr (List.mem_append.mpr (.inr (.head _))))
end S_c13
section S_c15
noncomputable def uidD (d : SD) : SD := { d with number := d.uid }
theorem by_uid_gives (w : World) (ds : List SD) (hds : ds.length ≤ 100) : Gives w 843 6 (fun news vs => Ex3 fun R its k => An3 (vs = [.ref R]) ((R, listOf its.toArray k) ∈ news) (SeensIn w news its ds))
    (fun news r => Ex3 fun q vs k => An3 (r = .ref q) ((q, listOf vs.toArray k) ∈ news) (SeensIn w news vs (ds.map uidD))) := by
  unfold Gives
  intro prog loose mean mg mb dp un gd cn cs a ccd cl outer A₀ base h₀ L m news s vs Q E B F X N T hk hd hu hR hret
  obtain ⟨R, its, k, rfl, hm, hs⟩ := hR
  refine wpAny_call ?_
  k_dflt ktr_enter
  kpc_turns
  refine Halt.go ?_
  refine LCg.CompSrc.ledger (by rfl) (by k_asm) (by k_asm) (by lsm_bools) (by simp only [List.size_toArray, hs.len]; rw [sizeLine_eq]; omega) ?_
  intro g9
  refine compU (fun i ys nx => Ex1 fun tl' => An3 (nx = news ++ tl') ((∀ q ∈ news, ∀ p ∈ tl', q.1 ≠ p.1)) (SeensIn w (news ++ tl') ys ((ds.take i).map uidD))) ?_ ⟨[], (List.append_nil _).symm, ord0, .nil⟩ ?_ ?_
  · rintro i ys nx ⟨tl', rfl, -⟩
    exact .inr ⟨_, List.mem_append.mpr (.inl hm), rfl, _, rfl⟩
  · rintro i v ys nx I oI C oC D m₂ h tk E' q9 hq9 hi hv ⟨tl', rfl, hord, hys⟩ hC hx F₁ N₁ off hne3
    obtain ⟨d, hd, hsd⟩ := hs.get (by simpa using hv)
    replace hsd := hsd.mono (news' := news ++ tl') fun p hp => List.mem_append.mpr (.inl hp)
    obtain ⟨x0, dx, n0, t1, t2, t3, yl, tn, rfl, hx1, hx2, hx3⟩ := hsd
    have hx4 := hx3
    obtain ⟨ddy, n3, t4, t5, t6, t7, t8, tu, tb, ti, tm, arr, f, fl, k, hl1, hl2, ⟨hl3, hl3a⟩, hl4, hl5⟩ := hx3
    kpc_turns
    walk_at "my_cls"
    kpc_turns
    rename News _ _ _ _ => kN9
    refine CTurn.two (by k_asm) kN9 (by assumption) (by assumption) off ⟨tl' ++ [(_, _), (_, _)], rfl, ord_two hord (by assumption) (by assumption), ?_⟩
    rw [take_snoc hd, List.map_append]
    refine (hys.mono sub_two).append (.cons ⟨_, _, _, _, _, _, _, _, rfl, last2a, last2b, hx4.mono sub_two⟩ .nil)
  · rintro ys nx ⟨tl', rfl, hord, hys⟩
    intro D h tk F₁ N₁ off
    kpc_turns
    rename News h₀ L _ _ => kN9
    rw [take_all (by rw [List.size_toArray, hs.len])] at hys
    exact hret _ (tl' ++ [(D, LCg.lst ys)]) _ _ (by k_asm) (news_last kN9) (ord_last hord (off1_mem off)) ⟨D, ys, _, rfl, last_mem, hys.mono sub_last⟩
end S_c15
section S_c16
noncomputable def NumInj (ds : List SD) : Prop := ∀ a ∈ ds, ∀ b ∈ ds, a.number = b.number → a = b
theorem num_in {ds : List SD} (h : NumInj ds) {P : SD → Bool} {d : SD} (hd : d ∈ ds) : (((ds.filter P).map SD.number).any fun x => x == d.number) = P d := by
  cases hp : P d with
  | true => rw [List.any_eq_true]; exact ⟨d.number, List.mem_map_of_mem (List.mem_filter.mpr ⟨hd, hp⟩), by simp⟩
  | false =>
    rw [List.any_eq_false]
    intro x hx
    obtain ⟨e, he, rfl⟩ := List.mem_map.mp hx
    obtain ⟨he, hpe⟩ := List.mem_filter.mp he
    intro q
    rw [h e he d hd (by simpa using q), hp] at hpe
    cases hpe
theorem met_gives (w : World) (t : Tr) (ht : t.high ≤ 3) (hz : t.size ≤ 40) (ds : List SD) (hds : ds.length ≤ 100) (hpos : ds ≠ [] → 0 < gnOf ds ∧ 0 < guOf ds) (hinj : NumInj ds) :
    GivesT w 831 44 (fun news vs => Ex4 fun l R its k => An4 (vs = [l, .ref R]) (TrIn news l t) ((R, listOf its.toArray k) ∈ news) (SeensIn w news its ds))
      (fun news r => Ex3 fun q vs k => An3 (r = .ref q) ((q, listOf vs.toArray k) ∈ news) (SeensIn w news vs (ds.filter (meets (gnOf ds) (guOf ds) t)))) := by
  unfold GivesT
  intro prog loose mean mg mb dp un gd cn cs a ccd cl outer A₀ base h₀ L m news s ps vs Q E B CH F X N hne hlam T hk hd hu hR hret
  obtain ⟨l, R, its, k, rfl, htr, hm, hs⟩ := hR
  refine wpAny_call ?_
  walk_at "my_enterC"
  kpc_turns
  rename (∀ p ∈ _ :: news, p.1 < _) => hl1
  have hA := all_ne hl1
  refine' GivesT.useU (search_seen_gives w t ht hz ds hds hpos) ?k1 CH ?k2 ?k3 ?k4 ?kU news ?kl ?kn ?k5 ?k6 ?k7 ?k8 ?k9 ?_
  (case k1 => k_asm)
  (case k2 => k_asm)
  (case k3 => k_asm)
  (case k4 => k_asm)
  (case kU => exact UpdF.tail (Nat.ne_of_gt (Nat.lt_succ_of_lt (hl1 _ (.head _)))) (UpdF.head hne))
  (case kl => exact hlam)
  (case kn => exact fun p hp => ⟨.tail _ (.tail _ hp), hne p hp⟩)
  (case k5 => k_asm)
  (case k6 => rfl)
  (case k7 => walk_at "my_room")
  (case k8 => walk_at "my_room")
  (case k9 => exact fun nx hnx => have hx : ∀ p ∈ news, p ∈ nx := fun p hp => hnx p (.tail _ (.tail _ hp)) (hne p hp); ⟨l, R, its, k, rfl, htr.mono hx, hx _ hm, hs.mono hx⟩)
  intro r9 tl9 h9 tk9 ps9 F9 N9 hl9 hs9 e9
  obtain ⟨nx9, ⟨q9, ws, k9, e9, hq9, hws⟩, hnx9⟩ := e9
  subst e9
  try simp only [List.cons_append] at N9
  have hB := cell_off (x' := (802, tabObj ps9)) hl1 hl9 rfl
  replace hq9 := list_in hq9 hnx9 (by assumption)
  have hm9 : (R, listOf its.toArray k) ∈ news ++ tl9 := List.mem_append.mpr (.inl hm)
  replace hs := hs.mono (b := news ++ tl9) fun p hp => List.mem_append.mpr (.inl hp)
  kpc_turns
  refine Halt.go ?_
  refine LCt.CompSrcT.ledger (by rfl) (by k_asm) (by k_asm) (.tail _ (.tail _ hm9)) (by simp only [List.size_toArray, hs.len]; rw [sizeLine_eq]; omega) ?_
  intro g9
  refine compT (fun i ys nx => nx = (_, _) :: (802, tabObj ps9) :: (news ++ tl9) ∧ SeensIn w (news ++ tl9) ys ((ds.take i).filter (meets (gnOf ds) (guOf ds) t))) ?_ ⟨rfl, .nil⟩ ?_ ?_
  · rintro i ys nx ⟨rfl, -⟩
    exact .inr ⟨_, .tail _ (.tail _ hm9), rfl, _, rfl⟩
  · rintro i v ys nx I oI C oC D m₂ h tk E' q9 q8 hq9 hq8 hi hv ⟨rfl, hys⟩ hC hx F₁ N₁ off hne3
    obtain ⟨d, hd, hsd⟩ := hs.get (by simpa using hv)
    have hsd' := hsd
    obtain ⟨x0, dx, n0, t1, t2, t3, yl, tn, rfl, hx1, hx2, hx3⟩ := hsd
    try dsimp only at N₁
    kpc_turns
    all_goals (
      refine CTurn.none (by k_asm) (by k_asm) (by kxs_still) off ⟨rfl, ?_⟩
      rw [take_snoc hd, List.filter_append]
      rename (List.any _ _ = _) => hany
      rw [num_in hinj (List.mem_of_getElem? hd)] at hany)
    · rw [List.filter_cons_of_pos hany]
      exact hys.append (.cons hsd' .nil)
    · rw [List.filter_cons_of_neg (by rw [hany]; exact Bool.false_ne_true), List.filter_nil, List.append_nil]
      exact hys
  · rintro ys nx ⟨rfl, hys⟩
    intro D h tk F₁ N₁ off
    kpc_turns
    rw [take_all (by rw [List.size_toArray, hs.len])] at hys
    have offD := off1_mem off
    rename News h₀ L _ _ => kN9
    refine hret _ (tl9 ++ [(D, LCg.lst ys)]) _ _ ps9 (by k_asm) (news_sub kN9 (by kxs_still)) (ord_last (fun q hq p hp => hl9 q (.tail _ (.tail _ hq)) p hp) fun p hp => offD p (.tail _ (.tail _ hp))) (fun p hp => ?_) (fun nx hnx => ?_) ⟨D, ys, _, rfl, last_mem, hys.mono sub_last⟩
    · rcases List.mem_append.mp hp with hp | hp
      · exact (hl9 (802, _) (.tail _ (.head _)) p hp).symm
      · rw [List.mem_singleton.mp hp]; exact (offD (802, _) (.tail _ (.head _))).symm
    · rw [← List.append_assoc]; exact (hs9 nx hnx).mono fun p hp => List.mem_append.mpr (.inl hp)
end S_c16
section S_c14
noncomputable def leaves : Tr → List Tr
  | .not t => leaves t
  | .and a b => leaves a ++ leaves b
  | .or a b => leaves a ++ leaves b
  | t => [t]
noncomputable def Tr.tip : Tr → Bool
  | .not _ | .and _ _ | .or _ _ => false
  | _ => true
theorem leaves_tip {t : Tr} (h : t.tip = true) : leaves t = [t] := by cases t <;> first | rfl | cases h
theorem size_tip {t : Tr} (h : t.tip = true) : t.size = 1 := by cases t <;> first | rfl | cases h
theorem kind_tip {t : Tr} (h : t.tip = true) : (Str.ofString t.kind == Str.ofString "not") = false ∧ [Str.ofString "and", Str.ofString "or"].any (· == Str.ofString t.kind) = false := by
  cases t <;> first | exact Bool.noConfusion h | (constructor <;> (simp only [Tr.kind]; decide +kernel))
noncomputable def sizes (l : List Tr) : Nat := (l.map Tr.size).sum
theorem size_pos : ∀ t : Tr, 0 < t.size
  | .all | .flag _ | .seq _ | .uid _ | .larger _ | .smaller _ | .modseq _ => Nat.one_pos
  | .not _ | .and _ _ | .or _ _ => Nat.succ_pos _
theorem TrsIn.snoc {a : Led} {vs : List Value} {ts : List Tr} {t : Tr} (x : TrsIn a vs (ts ++ [t])) : Ex2 fun vs' v => An3 (vs = vs' ++ [v]) (TrIn a v t) (TrsIn a vs' ts) := by
  induction ts generalizing vs with
  | nil => cases x with | cons h r => cases r; exact ⟨[], _, rfl, h, .nil⟩
  | cons d ts ih =>
    cases x with
    | cons h r =>
      obtain ⟨vs', v, e, h1, h2⟩ := ih r
      exact ⟨_ :: vs', v, by rw [e]; rfl, h1, .cons h h2⟩
theorem my_pop {prog : Program} {w : World} {A : Around} {E : Value → Shared → Prop} {s : Shared} {h₀ : Heap} {L : Addr} {m : Str → Option Value} {news news' : Led} {D : Addr} {its : Array Value} {p : List Value} {y : Value} {n : Nat} {Q : Value → Shared → Prop} (F : Fr h₀ L s.heap m) (N : News h₀ L s.heap news)
    (U : Upd D (listOf its n) (listOf p.toArray (n + 1)) news news') (e : kl_last its.toList = some (p, y)) (hz : its.toList.length ≤ sizeLine) (h : ∀ h', Fr h₀ L h' m → News h₀ L h' news' → Q y { s with heap := h' }) : wpAny (model prog w) A (call (.builtin "list.pop") [.ref D]) Q E s := kl_pop F N e U hz h
local macro_rules | `(tactic| walk_at "call builtin:list.pop") => `(tactic| (k_here; k_dflt ((with_reducible apply my_pop); k_asm; k_asm; k_upd; exact kpa_last _ _; assumption); intro h' F' N'))
theorem my_ext2 {prog : Program} {w : World} {A : Around} {E : Value → Shared → Prop} {s : Shared} {h₀ : Heap} {L : Addr} {m : Str → Option Value} {news news' : Led} {D b : Addr} {l : List Value} {x y : Value} {k n : Nat} {Q : Value → Shared → Prop} (F : Fr h₀ L s.heap m) (N : News h₀ L s.heap news) (hb : (b, listOf #[x, y] n) ∈ news)
    (U : Upd D (listOf l.toArray k) (listOf (l ++ [x, y]).toArray (k + 1)) news news') (hl : l.length ≤ 40) (h : ∀ h', Fr h₀ L h' m → News h₀ L h' news' → Q .none { s with heap := h' }) :
    wpAny (model prog w) A (call (.builtin "list.extend") [.ref D, .ref b]) Q E s := by
  refine kl_extend F N hb rfl (by simp) U ?_ ?_ ?_ h
  · have e : Builtin.List.listTooLong (l.toArray.size + #[x, y].size) = false := by
      simp only [Builtin.List.listTooLong, List.size_toArray, List.length_cons, List.length_nil, decide_eq_false_iff_not]
      rw [sizeLine_eq]; omega
    rw [e, Bool.and_false]; exact Bool.false_ne_true
  · rw [sizeLine_eq]; simp; omega
  · rw [sizeLine_eq]; simp; omega
local macro_rules | `(tactic| walk_at "call builtin:list.extend") => `(tactic| (k_here; k_dflt ((with_reducible apply my_ext2); k_asm; k_asm; lsm_bools; k_upd; omega); intro h' F' N'))
theorem my_neSnoc {prog : Program} {w : World} {A : Around} {E : Value → Shared → Prop} {s : Shared} {h₀ : Heap} {L : Addr} {news : Led} {a b : Addr} {l : List Value} {x : Value} {k n : Nat} {Q : Value → Shared → Prop} (N : News h₀ L s.heap news) (hm : (a, listOf (l ++ [x]).toArray k) ∈ news) (hb : (b, listOf #[] n) ∈ news) (hu : A.units < cLine) (h : Q (.bool true) s) :
    wpAny (model prog w) A (compareOp .NotEq (.ref a) (.ref b)) Q E s := by
  refine my_neNil N hm hb hu ?_
  have e : (l ++ [x]).isEmpty = false := by simp
  rw [e]; exact h
local macro_rules | `(tactic| walk_at "compareOp NotEq ref ref") => `(tactic| tbr_iter my_neSnoc)
theorem lv_all {S z n g : Nat} (hn : S + (z + 1) ≤ n) (hl : g + (S + (z + 1)) ≤ 40) : n - 1 < n ∧ S + z ≤ n - 1 ∧ g + (S + z) ≤ 40 :=
  ⟨Nat.sub_lt (Nat.lt_of_lt_of_le (Nat.succ_pos (S + z)) hn) Nat.one_pos, Nat.le_sub_of_add_le hn, Nat.le_trans (Nat.add_le_add_left (Nat.add_le_add_left (Nat.le_succ z) S) g) hl⟩
theorem lv_not {us : List Tr} {x : Tr} {n g : Nat} (hn : sizes us + (x.size + 1) ≤ n) (hl : g + (sizes us + (x.size + 1)) ≤ 40) : n - 1 < n ∧ sizes (us ++ [x]) ≤ n - 1 ∧ g + sizes (us ++ [x]) ≤ 40 := by
  have e : sizes (us ++ [x]) = sizes us + x.size := by simp [sizes]
  rw [e]; exact lv_all hn hl
theorem lv_two {us : List Tr} {x y : Tr} {n g : Nat} (hn : sizes us + (x.size + y.size + 1) ≤ n) (hl : g + (sizes us + (x.size + y.size + 1)) ≤ 40) : n - 1 < n ∧ sizes (us ++ [y, x]) ≤ n - 1 ∧ g + sizes (us ++ [y, x]) ≤ 40 := by
  have e : sizes (us ++ [y, x]) = sizes us + (x.size + y.size) := by simp [sizes, Nat.add_comm]
  rw [e]; exact lv_all hn hl
theorem lv_tip {us gs : List Tr} {u : Tr} {n : Nat} (hn : sizes us + 1 ≤ n) (hl : gs.length + (sizes us + 1) ≤ 40) : n - 1 < n ∧ sizes us ≤ n - 1 ∧ (gs ++ [u]).length + sizes us ≤ 40 := by
  rw [List.length_append, List.length_singleton, Nat.add_assoc, Nat.add_comm 1]
  exact ⟨(lv_all (z := 0) hn hl).1, (lv_all (z := 0) hn hl).2.1, hl⟩
theorem leaves_of_gives (w : World) (t : Tr) (hz : t.size ≤ 40) : Gives w 28 2 (fun news vs => Ex1 fun l => An2 (vs = [l]) (TrIn news l t)) (fun news r => Ex3 fun q vs k => An3 (r = .ref q) ((q, listOf vs.toArray k) ∈ news) (TrsIn news vs (leaves t))) := by
  unfold Gives
  intro prog loose mean mg mb dp un gd cn cs a ccd cl outer A₀ base h₀ L m news s vs Q E B F X N T hk hd hu hR hret
  obtain ⟨l, rfl, htr⟩ := hR
  refine wpAny_call ?_
  k_dflt ktr_enter
  kpc_turns
  refine Halt.go ?_
  rename News _ _ _ _ => N'
  rename Fr _ _ _ _ => F'
  refine while1 (Str.ofString "here") F' (news_sub N' fun _ h => .tail _ h) (fun n v nx => Ex6 fun fs gs ws us k1 k2 => An6 (nx = (_, listOf ws.toArray k2) :: (_, listOf fs.toArray k1) :: news) (TrsIn news fs gs) (TrsIn news ws us) (leaves t = gs ++ us.reverse.flatMap leaves) (sizes us ≤ n) (gs.length + sizes us ≤ 40)) 40
    ⟨[], [], [l], [t], 0, 0, rfl, .nil, .cons htr .nil, by simp, by simpa [sizes] using hz, by simpa [sizes] using hz⟩ ?_
  rintro n v nx h₁ tk₁ q9 hq9 ⟨fs, gs, ws, us, k1, k2, rfl, hgs, hus, hl, hn, hlen⟩ F₁ N₁
  clear F' N' N F
  rcases List.eq_nil_or_concat us with rfl | ⟨us', u, rfl⟩
  · cases hus
    kpc_turns
    rename News h₀ L _ _ => kN9
    simp only [List.reverse_nil, List.flatMap_nil, List.append_nil] at hl
    rw [← hl] at hgs
    refine hret _ [(_, listOf fs.toArray k1)] _ _ (by k_asm) (news_sub kN9 (by kxs_still)) (fun q hq p hp => ?_) ⟨_, fs, k1, rfl, List.mem_append.mpr (.inr (.head _)), hgs.mono fun p hp => List.mem_append.mpr (.inl hp)⟩
    rw [List.mem_singleton.mp hp]
    rename (∀ p ∈ news, p.1 < _) => hlt
    exact Nat.ne_of_lt (hlt q hq)
  · rw [List.concat_eq_append] at hus hl hn hlen
    obtain ⟨ws', x, rfl, hx, hus'⟩ := hus.snoc
    have hps := size_pos u
    have hl2 := hus'.len
    have hl3 := hgs.len
    have hss : ∀ l : List Tr, l.length ≤ sizes l := fun l => by
      induction l with
      | nil => exact Nat.le_refl _
      | cons a r ih => have := size_pos a; simp only [sizes, List.map_cons, List.sum_cons, List.length_cons] at ih ⊢; omega
    have hs1 := hss us'
    have hs2 : sizes (us' ++ [u]) = sizes us' + u.size := by simp [sizes]
    have hsz : (ws' ++ [x]).toArray.toList.length ≤ sizeLine := by
      simp only [List.length_append, List.length_cons, List.length_nil]; rw [sizeLine_eq]; omega
    rw [hs2] at hn hlen
    have hw40 : ws'.length ≤ 39 := by rw [hl2]; exact Nat.le_trans hs1 (Nat.le_of_lt_succ (Nat.lt_of_lt_of_le (Nat.lt_add_of_pos_right hps) (Nat.le_trans (Nat.le_add_left _ _) hlen)))
    have hf40 : fs.length ≤ 39 := by rw [hl3]; exact Nat.le_of_lt_succ (Nat.lt_of_lt_of_le (Nat.lt_add_of_pos_right (Nat.lt_of_lt_of_le hps (Nat.le_add_left _ _))) hlen)
    clear hss hus hl2 hl3 hs1
    have hx' := hx
    rcases htip : u.tip
    · cases hx with
      | not hm hx =>
        obtain ⟨z1, z2, z3⟩ := lv_not hn hlen
        kpc_turns
        refine WTurn.intro (by k_asm) (by k_asm) (n - 1) _ (fun p hp => .tail _ hp) z1 (by walk_at "my_map") ⟨fs, gs, ws' ++ [_], us' ++ [_], k1, k2 + 1 + 1, by rw [← List.push_toArray], hgs, hus'.append (.cons hx .nil), ?_, z2, z3⟩
        · rw [hl, List.reverse_append, List.reverse_append]; rfl
      | and hm hx hy =>
        obtain ⟨z1, z2, z3⟩ := lv_two hn hlen
        kpc_turns
        refine WTurn.intro (by k_asm) (by k_asm) (n - 1) _ (fun p hp => .tail _ (.tail _ (.tail _ hp))) z1 (by walk_at "my_map") ⟨fs, gs, ws' ++ [_, _], us' ++ [_, _], k1, k2 + 1 + 1, rfl, hgs, hus'.append (.cons hy (.cons hx .nil)), ?_, z2, z3⟩
        · rw [hl, List.reverse_append, List.reverse_append]; simp [leaves]
      | or hm hx hy =>
        obtain ⟨z1, z2, z3⟩ := lv_two hn hlen
        kpc_turns
        refine WTurn.intro (by k_asm) (by k_asm) (n - 1) _ (fun p hp => .tail _ (.tail _ (.tail _ hp))) z1 (by walk_at "my_map") ⟨fs, gs, ws' ++ [_, _], us' ++ [_, _], k1, k2 + 1 + 1, rfl, hgs, hus'.append (.cons hy (.cons hx .nil)), ?_, z2, z3⟩
        · rw [hl, List.reverse_append, List.reverse_append]; simp [leaves]
      | _ => cases htip
    · obtain ⟨a9, u9, rest9, n9, rfl, hm⟩ := hx.head
      have hz1 : u.size = 1 := size_tip htip
      rw [hz1] at hn hlen
      have hkn : (Str.ofString u.kind == Str.ofString "not") = false := (kind_tip htip).1
      have hka : [Str.ofString "and", Str.ofString "or"].any (· == Str.ofString u.kind) = false := (kind_tip htip).2
      obtain ⟨z1, z2, z3⟩ := lv_tip (u := u) hn hlen
      kpc_turns
      refine WTurn.intro (by k_asm) (by k_asm) (n - 1) _ (fun p hp => .tail _ (.tail _ hp)) z1 (by walk_at "my_map") ⟨fs ++ [_], gs ++ [u], ws', us', k1 + 1, k2 + 1, by rw [← List.push_toArray], hgs.append (.cons hx' .nil), hus', ?_, z2, z3⟩
      rw [hl, List.reverse_append, List.reverse_singleton, List.flatMap_append, List.flatMap_cons, List.flatMap_nil, List.append_nil, List.append_assoc]
      rw [leaves_tip htip]
end S_c14
section S_c22
local macro_rules | `(tactic| walk_at "call ref") => `(tactic| ktd_call 28 (leaves_of_gives _ _ ?_))
noncomputable def Tr.isMod : Tr → Bool
  | .modseq _ => true
  | _ => false
noncomputable def asks (t : Tr) : Bool := (leaves t).any Tr.isMod
theorem size_leaves : ∀ t : Tr, (leaves t).length ≤ t.size
  | .all | .flag _ | .seq _ | .uid _ | .larger _ | .smaller _ | .modseq _ => Nat.le_refl _
  | .not t => Nat.le_succ_of_le (size_leaves t)
  | .and a b => by have := size_leaves a; have := size_leaves b; simp only [leaves, List.length_append, Tr.size]; omega
  | .or a b => by have := size_leaves a; have := size_leaves b; simp only [leaves, List.length_append, Tr.size]; omega
theorem kind_mod (ts : List Tr) : ((ts.map fun t => Str.ofString t.kind).any fun x => x == Str.ofString "modseq") = ts.any Tr.isMod := by
  rw [List.any_map]
  congr 1
  funext t
  cases t <;> simp only [Function.comp, Tr.kind, Tr.isMod] <;> decide +kernel
theorem strs_append {a b : List Value} {x y : List Str} (h : StrsAre a x) (g : StrsAre b y) : StrsAre (a ++ b) (x ++ y) := by
  induction h with
  | nil => exact g
  | cons x t _ ih => exact .cons x t ih
theorem has_kind_gives (w : World) (t : Tr) (hz : t.size ≤ 40) : Gives w 33 6 (fun news vs => Ex2 fun l u => An2 (vs = [l, .str (Str.ofString "modseq") u]) (TrIn news l t)) (fun _ r => r = .bool (asks t)) := by
  unfold Gives
  intro prog loose mean mg mb dp un gd cn cs a ccd cl outer A₀ base h₀ L m news s vs Q E B F X N T hk hd hu hR hret
  obtain ⟨l, u, rfl, htr⟩ := hR
  refine wpAny_call ?_
  k_dflt ktr_enter
  kpc_turns
  refine Halt.go ?_
  rename TrsIn _ _ _ => hts
  have hsz := size_leaves t
  have hlen := hts.len
  rename (_, listOf _ _) ∈ _ => hm9
  refine LCg.CompSrc.ledger (by rfl) (by k_asm) (by k_asm) hm9 (by simp only [List.size_toArray, hlen]; rw [sizeLine_eq]; omega) ?_
  intro g9
  refine compU (fun i ys nx => nx = news ++ _ ∧ StrsAre ys (((leaves t).take i).map fun t => Str.ofString t.kind)) ?_ ⟨rfl, .nil⟩ ?_ ?_
  · rintro i ys nx ⟨rfl, -⟩
    exact .inr ⟨_, hm9, rfl, _, rfl⟩
  · rintro i v ys nx I oI C oC D m₂ h tk E' q9 hq9 hi hv ⟨rfl, hys⟩ hC hx F₁ N₁ off hne3
    obtain ⟨t', ht', htr'⟩ := hts.get (by simpa using hv)
    obtain ⟨a0, u0, rest, n0, rfl, hm0⟩ := htr'.head
    kpc_turns
    refine CTurn.none (by k_asm) (by k_asm) (by kxs_still) off ⟨rfl, ?_⟩
    rw [take_snoc ht', List.map_append]
    exact strs_append hys (.cons _ _ .nil)
  · rintro ys nx ⟨rfl, hys⟩
    intro D h tk F₁ N₁ off
    rw [take_all (by rw [List.size_toArray, hlen])] at hys
    kpc_turns
    rw [kind_mod]
    rename News h₀ L _ _ => kN9
    exact hret _ [] _ _ (by k_asm) (tl0 (news_sub kN9 fun p hp => .tail _ (List.mem_append.mpr (.inl hp)))) ord0 rfl
end S_c22
section S_c17
theorem ints_get {vs : List Value} {ss : List Int} (h : IntsAre vs ss) : ∀ {i : Nat} {v : Value}, vs[i]? = some v → Ex2 fun x t => An2 (v = .int x t) (ss[i]? = some x) := by
  induction h with
  | nil => intro i v hv; simp at hv
  | cons x t _ ih =>
    intro i v hv
    cases i with
    | zero => simp at hv; exact ⟨x, t, hv.symm, by simp⟩
    | succ i => simp at hv; obtain ⟨y, u, e, f⟩ := ih hv; exact ⟨y, u, e, by simpa using f⟩
noncomputable def pairD (p : Int × Int) : Dat := .tuple [.int p.1, .int p.2]
noncomputable def stepR (ps : List (Int × Int)) (n : Int) : List (Int × Int) := match ps.getLast? with
  | some p => if n ≤ p.2 + 1 then ps.dropLast ++ [(p.1, n)] else ps ++ [(n, n)]
  | none => ps ++ [(n, n)]
noncomputable def rangesF (ns : List Int) : List (Int × Int) := ns.foldl stepR []
theorem stepR_len (ps : List (Int × Int)) (n : Int) : (stepR ps n).length ≤ ps.length + 1 := by
  unfold stepR
  split
  · split <;> simp <;> omega
  · simp
theorem datall_snoc {a : Led} {vs : List Value} {ts : List Dat} {t : Dat} (x : DatAll a vs (ts ++ [t])) : Ex2 fun vs' v => An3 (vs = vs' ++ [v]) (DatIn a v t) (DatAll a vs' ts) := by
  induction ts generalizing vs with
  | nil => cases x with | cons h r => cases r; exact ⟨[], _, rfl, h, .nil⟩
  | cons d ts ih =>
    cases x with
    | cons h r =>
      obtain ⟨vs', v, e, h1, h2⟩ := ih r
      exact ⟨_ :: vs', v, by rw [e]; rfl, h1, .cons h h2⟩
theorem pair_in {a : Led} {v : Value} {p : Int × Int} (x : DatIn a v (pairD p)) : Ex4 fun q t u n => An2 (v = .ref q) ((q, tup [.int p.1 t, .int p.2 u] n) ∈ a) := by
  unfold pairD at x
  cases x with
  | tuple h r =>
    cases r with
    | cons h1 r =>
      cases h1
      cases r with
      | cons h2 r => cases h2; cases r; exact ⟨_, _, _, _, rfl, h⟩
theorem stepR_nil (n : Int) : stepR [] n = [(n, n)] := rfl
theorem stepR_in {ps : List (Int × Int)} {p : Int × Int} {n : Int} (h : n ≤ p.2 + 1) : stepR (ps ++ [p]) n = ps ++ [(p.1, n)] := by simp [stepR, h]
theorem stepR_out {ps : List (Int × Int)} {p : Int × Int} {n : Int} (h : ¬n ≤ p.2 + 1) : stepR (ps ++ [p]) n = ps ++ [p] ++ [(n, n)] := by simp [stepR, h]
theorem fold_snoc {ns : List Int} {i : Nat} {x : Int} (h : ns[i]? = some x) : (ns.take (i + 1)).foldl stepR [] = stepR ((ns.take i).foldl stepR []) x := by
  rw [take_snoc h, List.foldl_append]; rfl
local macro_rules | `(tactic| walk_at "exec For Name Name cons nil") => `(tactic| walk_at "my_for")
theorem ranges_of_gives (w : World) (ns : List Int) (hn : ns.length ≤ 100) : Gives w 614 2 (fun news vs => Ex3 fun R its k => An3 (vs = [.ref R]) ((R, listOf its.toArray k) ∈ news) (IntsAre its ns))
    (fun news r => DatIn news r (.tuple ((rangesF ns).map pairD))) := by
  unfold Gives
  intro prog loose mean mg mb dp un gd cn cs a ccd cl outer A₀ base h₀ L m news s vs Q E B F X N T hk hd hu hR hret
  obtain ⟨R, its, k, rfl, hm, hi⟩ := hR
  refine wpAny_call ?_
  k_dflt ktr_enter
  kpc_turns
  rename News _ _ _ _ => N'
  rename Fr _ _ _ _ => F'
  rename (∀ p ∈ news, p.1 < _) => hO
  rename IntsAre _ _ => iL
  have hL := iL.length
  refine iter_seqM [Str.ofString "number"] rfl F' N' (.tail _ hm) (Or.inl rfl) (fun i nx => Ex3 fun os k tl' => An5 (nx = (_, listOf os.toArray k) :: (news ++ tl')) ((∀ p ∈ news ++ tl', p.1 ≠ _)) ((∀ q ∈ news, ∀ p ∈ tl', q.1 ≠ p.1)) (DatAll (news ++ tl') os (((ns.take i).foldl stepR []).map pairD)) (os.length ≤ i))
    ⟨[], 0, [], by rw [List.append_nil], by rw [List.append_nil]; exact all_ne hO, ord0, .nil, Nat.le_refl _⟩ (fun i nx => ?_) ?_ ?_
  · rintro ⟨os, k, tl', rfl, -⟩
    exact .tail _ (List.mem_append.mpr (.inl hm))
  · rintro i v u nx h tk I oI q9 hq9 hi ⟨os, k, tl', rfl, hoff, hord, hd, hol⟩ hnI F₁ N₁
    obtain ⟨x, tx, rfl, hx⟩ := ints_get iL hi
    have hi2 : i < its.length := (List.getElem?_eq_some_iff.mp hi).1
    have hIO := hnI _ (.head _)
    clear F' N' N F
    have hIO : (@Ne Nat I _) := Ne.symm (hnI _ (.head _))
    dsimp only at hIO
    have hfs := fold_snoc hx
    rcases List.eq_nil_or_concat ((ns.take i).foldl stepR []) with e | ⟨ps, p, e⟩
    · rw [e] at hd hfs
      cases hd
      kpc_turns
      rename (_ ∧ _) => l1
      refine TurnPost.one (by k_asm) (by k_asm) (o' := W.listOf #[] k) l1 hnI ⟨by walk_at "my_map", [_], k + 1, tl' ++ [_], rfl, off_one hoff l1.2.1, ord_one hord l1.2.2, ?_, by simp⟩
      rw [hfs, stepR_nil]
      exact .cons (.tuple last1 (.cons (.int _ _) (.cons (.int _ _) .nil))) .nil
    · rw [List.concat_eq_append] at e
      rw [e] at hd hfs
      rw [List.map_append] at hd
      obtain ⟨os', v, rfl, hv, hd'⟩ := datall_snoc hd
      obtain ⟨q, t1, t2, n1, rfl, hq⟩ := pair_in hv
      simp only [List.length_append, List.length_cons, List.length_nil] at hol
      kpc_turns
      · rename (_ ∧ _) => l1
        rename (x ≤ _) => hle
        refine TurnPost.one (by k_asm) (by k_asm) (o' := W.listOf (os' ++ [Value.ref q]).toArray k) l1 hnI ⟨by walk_at "my_map", os' ++ [_], k, tl' ++ [_], rfl, off_one hoff l1.2.1, ord_one hord l1.2.2, ?_, by simp only [List.length_append, List.length_cons, List.length_nil]; omega⟩
        rw [hfs, stepR_in hle, List.map_append]
        exact (DatAll.mono (fun _ h => mem_more h) hd').append (.cons (.tuple last1 (.cons (.int _ _) (.cons (.int _ _) .nil))) .nil)
      · rename (_ ∧ _) => l1
        rename (¬ x ≤ _) => hle
        rename News _ _ _ (_ :: (I, oI) :: _) => N9
        simp only [List.push_toArray] at N9
        refine TurnPost.one (by k_asm) N9 (o' := W.listOf (os' ++ [Value.ref q]).toArray k) l1 hnI ⟨by walk_at "my_map", os' ++ [Value.ref q] ++ [_], k + 1, tl' ++ [_], rfl, off_one hoff l1.2.1, ord_one hord l1.2.2, ?_, by simp only [List.length_append, List.length_cons, List.length_nil]; omega⟩
        rw [hfs, stepR_out hle, List.map_append, List.map_append]
        exact (DatAll.mono (fun _ h => mem_more h) hd).append (.cons (.tuple last1 (.cons (.int _ _) (.cons (.int _ _) .nil))) .nil)
      · exfalso; rename (¬ (0 < _)) => hbad; apply hbad; simp only [List.length_append, List.length_cons, List.length_nil]; omega
  · rintro u nx h tk ⟨os, k, tl', rfl, hoff, hord, hd, hol⟩ F₁ N₁
    rw [take_all hL] at hd
    clear F' N' N F
    kpc_turns
    rename News h₀ L _ _ => kN9
    rename (∀ p ∈ (_, listOf os.toArray k) :: (news ++ tl'), p.1 < _) => l1
    refine hret _ (tl' ++ [(_, tup os 0)]) _ _ (by k_asm) (news_sub kN9 (by kxs_still)) (fun q hq p hp => ?_) (.tuple last1 (DatAll.mono (fun _ h => mem_more h) hd))
    rcases List.mem_append.mp hp with hp | hp
    · exact hord q hq p hp
    · rw [List.mem_singleton.mp hp]; exact Nat.ne_of_lt (l1 q (.tail _ (List.mem_append.mpr (.inl hq))))
end S_c17
section S_c20
theorem dat_ref {news : Led} {v : Value} {ds : List Dat} (h : DatIn news v (.tuple ds)) : ∃ a, v = .ref a := by cases h; exact ⟨_, rfl⟩
theorem all_app {a b : Led} {d : Addr} (h : ∀ p ∈ a, p.1 ≠ d) (g : ∀ p ∈ b, p.1 ≠ d) : ∀ p ∈ a ++ b, p.1 ≠ d := fun p hp => (List.mem_append.mp hp).elim (h p) (g p)
theorem off_tl {all tl : Led} {d : Addr} {o : Obj} (h : ∀ q ∈ all, ∀ p ∈ tl, q.1 ≠ p.1) (hm : (d, o) ∈ all) : ∀ p ∈ tl, p.1 ≠ d := fun p hp => (h _ hm p hp).symm
theorem off_ext {P : Addr} {o : Obj} {a b tl all : Led} (h : ∀ p ∈ a ++ b, p.1 ≠ P) (hl : ∀ q ∈ all, ∀ p ∈ tl, q.1 ≠ p.1) (hm : (P, o) ∈ all) : ∀ p ∈ a ++ (b ++ tl), p.1 ≠ P := by
  rw [← List.append_assoc]
  exact all_app h (off_tl hl hm)
local macro_rules | `(tactic| k_all) => `(tactic| first | assumption | (refine all_app (by k_all) (off_tl (by assumption) (by lsm_bools))))
local macro_rules | `(tactic| walk_at "call ref") => `(tactic| (k_here; (with_reducible show wpAny _ _ (call (Value.ref 614) _) _ _ _); k_dflt (refine' Gives.go (ranges_of_gives _ _ ?kz) ?k9 ?_; (case k9 => walk_at "my_pre"); (case kz => assumption); (intro r9 tl9 h9 tk9 F9 N9 hl9 e9); (have e8 := dat_ref e9; obtain ⟨q9, e8⟩ := e8; subst e8; (try simp only [List.cons_append, List.nil_append, List.append_assoc] at e9); (have h8 := off_ext (by assumption) hl9 (by lsm_bools))); walk_at "my_t0")))
theorem inc_le {ns : List Int} (h : ns.Pairwise (· < ·)) : ns.Pairwise (· ≤ ·) := h.imp fun a => Int.le_of_lt a
theorem inc_lo {ns : List Int} (h : ns.Pairwise (· < ·)) {M : Int} (hm : M ∈ ns) (hl : ∀ a, a ∈ ns → M ≤ a) : M = ns.headD 0 := by
  cases ns with
  | nil => cases hm
  | cons x r =>
    have h1 := hl x (.head _)
    rcases List.mem_cons.mp hm with rfl | hm
    · rfl
    · have := (List.pairwise_cons.mp h).1 M hm
      simp only [List.headD_cons]; omega
theorem inc_hi {ns : List Int} (h : ns.Pairwise (· < ·)) {M : Int} (hm : M ∈ ns) (hl : ∀ a, a ∈ ns → a ≤ M) : M = ns.getLastD 0 := by
  rcases List.eq_nil_or_concat ns with rfl | ⟨r, x, rfl⟩
  · cases hm
  · rw [List.concat_eq_append] at *
    have h1 := hl x (by simp)
    have h2 := (List.pairwise_append.mp h).2.2
    rcases List.mem_append.mp hm with hm | hm
    · have := h2 M hm x (.head _); simp; omega
    · rw [List.mem_singleton.mp hm]; simp
section
variable {prog : Program} {w : World} {A : Around} {E : Value → Shared → Prop} {s : Shared} {h₀ : Heap} {L : Addr} {m : Str → Option Value} {news : Led} {l : Addr} {vs : List Value} {ns : List Int} {k : Nat} {Q : Value → Shared → Prop}
theorem my_sorted (F : Fr h₀ L s.heap m) (N : News h₀ L s.heap news) (hm : (l, listOf vs.toArray k) ∈ news) (hi : IntsAre vs ns) (h64 : ns.length < 64) (hinc : ns.Pairwise (· < ·))
    (h : ∀ D vs' c h', Fr h₀ L h' m → News h₀ L h' ((D, listOf vs'.toArray c) :: news) → (∀ q ∈ news, q.1 < D) → IntsAre vs' ns → Q (.ref D) { s with heap := h' }) : wpAny (model prog w) A (call (.builtin "sorted") [.ref l]) Q E s :=
  kso_sorted F N (News.isList N hm) hi h64 fun D vs' ns' c h' F' N' l1 i' e' p' o' b' => by
    have e : ns' = ns := List.Perm.eq_of_pairwise (le := fun a b : Int => a ≤ b) (fun a b _ _ h1 h2 => Int.le_antisymm h1 h2) o' (inc_le hinc) p'
    exact h D vs' c h' F' N' l1 (e ▸ i')
theorem my_min (F : Fr h₀ L s.heap m) (N : News h₀ L s.heap news) (hm : (l, listOf vs.toArray k) ∈ news) (hi : IntsAre vs ns) (hne : 0 < ns.length) (hh : A.handled = none) (hinc : ns.Pairwise (· < ·))
    (h : ∀ h' (t : Tok) tk, Fr h₀ L h' m → News h₀ L h' news → Q (.int (ns.headD 0) t) { s with heap := h', toks := tk }) : wpAny (model prog w) A (call (.builtin "min") [.ref l]) Q E s :=
  kso_min F N (News.isList N hm) hi hne hh fun h' M t tk F' N' a b => by rw [inc_lo hinc a b]; exact h h' t tk F' N'
theorem my_max (F : Fr h₀ L s.heap m) (N : News h₀ L s.heap news) (hm : (l, listOf vs.toArray k) ∈ news) (hi : IntsAre vs ns) (hne : 0 < ns.length) (hh : A.handled = none) (hinc : ns.Pairwise (· < ·))
    (h : ∀ h' (t : Tok) tk, Fr h₀ L h' m → News h₀ L h' news → Q (.int (ns.getLastD 0) t) { s with heap := h', toks := tk }) : wpAny (model prog w) A (call (.builtin "max") [.ref l]) Q E s :=
  kso_max F N (News.isList N hm) hi hne hh fun h' M t tk F' N' a b => by rw [inc_hi hinc a b]; exact h h' t tk F' N'
end
local macro_rules | `(tactic| walk_at "call builtin:sorted") => `(tactic| (k_here; ((with_reducible apply my_sorted); with_unfolding_all (k_asm; k_asm; lsm_bools; assumption; omega; assumption)); intro D' v' c' h' F' N' l1 i'; (try k_lt l1)))
local macro_rules | `(tactic| walk_at "call builtin:min") => `(tactic| (k_here; ((with_reducible apply my_min); with_unfolding_all (k_asm; k_asm; lsm_bools; assumption; omega; exact rfl; assumption)); intro h' t' k' F' N'))
local macro_rules | `(tactic| walk_at "call builtin:max") => `(tactic| (k_here; ((with_reducible apply my_max); with_unfolding_all (k_asm; k_asm; lsm_bools; assumption; omega; exact rfl; assumption)); intro h' t' k' F' N'))
noncomputable abbrev wMIN : Str := Str.ofString "MIN"
noncomputable abbrev wMAX : Str := Str.ofString "MAX"
noncomputable abbrev wALL : Str := Str.ofString "ALL"
noncomputable abbrev wCOUNT : Str := Str.ofString "COUNT"
noncomputable abbrev hasW (ws : List Str) (x : Str) : Bool := ws.any (· == x)
noncomputable def cond (c : Bool) (d : Dat) : List Dat := if c = true then [d] else []
theorem cond_t {c : Bool} {d : Dat} (h : c = true) : cond c d = [d] := if_pos h
theorem cond_f {c : Bool} {d : Dat} (h : c = false) : cond c d = [] := if_neg (by rw [h]; exact Bool.false_ne_true)
theorem cond_len (c : Bool) (d : Dat) : (cond c d).length ≤ 1 := by cases c <;> simp [cond]
noncomputable abbrev dMin (ns : List Int) : Dat := .tuple [.str wMIN, .int (ns.headD 0)]
noncomputable abbrev dMax (ns : List Int) : Dat := .tuple [.str wMAX, .int (ns.getLastD 0)]
noncomputable abbrev dAll (ns : List Int) : Dat := .tuple [.str wALL, .tuple ((rangesF ns).map pairD)]
noncomputable abbrev dCount (ns : List Int) : Dat := .tuple [.str wCOUNT, .int ns.length]
noncomputable def esN (ns : List Int) (ws : List Str) : List Dat := if ns = [] then [] else cond (hasW ws wMIN) (dMin ns) ++ cond (hasW ws wMAX) (dMax ns) ++ cond (hasW ws wALL || ws.isEmpty) (dAll ns)
noncomputable def esD (ns : List Int) (ws : List Str) : List Dat := esN ns ws ++ cond (hasW ws wCOUNT) (dCount ns)
theorem esN_len (ns : List Int) (ws : List Str) : (esN ns ws).length ≤ 3 := by
  unfold esN
  split
  · simp
  · have := cond_len (hasW ws wMIN) (dMin ns); have := cond_len (hasW ws wMAX) (dMax ns); have := cond_len (hasW ws wALL || ws.isEmpty) (dAll ns)
    simp only [List.length_append]; omega
mutual
noncomputable def noL : Dat → Bool
  | .list _ => false
  | .tuple ds => noLs ds
  | _ => true
noncomputable def noLs : List Dat → Bool
  | [] => true
  | d :: ds => noL d && noLs ds
end
noncomputable def notT (o : Obj) : Prop := ∀ vs n, o ≠ tup vs n
theorem notT_list {vs : Array Value} {n : Nat} : notT (W.listOf vs n) := fun _ _ e => by injection e with e; injection e with e; exact absurd e (by decide)
theorem notT_tab {ps : Array Value} : notT (tabObj ps) := fun _ _ e => by injection e with e; cases e
theorem notT_cell {o : Obj} {v : Option Value} (d : o.data = .cell v) : notT o := fun _ _ e => by rw [e] at d; cases d
mutual
theorem datin_keep {a b : Led} (hs : ∀ p ∈ a, p ∈ b ∨ notT p.2) : ∀ {v : Value} {d : Dat}, DatIn a v d → noL d = true → DatIn b v d
  | _, _, .none, _ => .none
  | _, _, .bool b, _ => .bool b
  | _, _, .int i t, _ => .int i t
  | _, _, .str x t, _ => .str x t
  | _, _, .bytes b t, _ => .bytes b t
  | _, _, .tuple h r, hn => .tuple ((hs _ h).resolve_right fun q => q _ _ rfl) (datall_keep hs r (by simpa [noL] using hn))
  | _, _, .list _ _, hn => by simp [noL] at hn
theorem datall_keep {a b : Led} (hs : ∀ p ∈ a, p ∈ b ∨ notT p.2) : ∀ {vs : List Value} {ds : List Dat}, DatAll a vs ds → noLs ds = true → DatAll b vs ds
  | _, _, .nil, _ => .nil
  | _, _, .cons h r, hn => by
    simp only [noLs, Bool.and_eq_true] at hn
    exact .cons (datin_keep hs h hn.1) (datall_keep hs r hn.2)
end
theorem noL_pairs : ∀ ps : List (Int × Int), noLs (ps.map pairD) = true
  | [] => rfl
  | p :: ps => by simp only [List.map_cons, noLs, noL_pairs ps, pairD, noL, Bool.and_self]
noncomputable def Join (h₀ : Heap) (L : Addr) (m : Str → Option Value) (news : Led) (P : Addr) (ds : List Dat) (s₁ : Shared) (f : Flow) (s₂ : Shared) : Prop :=
  f = .next ∧ Ex5 fun h' tk os k tl' => An6 (s₂ = { s₁ with heap := h', toks := tk }) (Fr h₀ L h' m) (News h₀ L h' ((P, listOf os.toArray k) :: (news ++ tl'))) ((∀ p ∈ news ++ tl', p.1 ≠ P)) ((∀ q ∈ news, ∀ p ∈ tl', q.1 ≠ p.1)) (DatAll (news ++ tl') os ds)
section
variable {M : Model} {A : Around} {E : Value → Shared → Prop} {Q : Flow → Shared → Prop} {s s₁ : Shared} {h₀ h' : Heap} {L P : Addr} {m : Str → Option Value} {all news tl' : Led} {t : Sem Flow} {ds : List Dat} {os : List Value} {k tk : Nat}
theorem join_at (F : Fr h₀ L s.heap m) (hP : ∀ p ∈ news, p.1 ≠ P) (ds : List Dat) (h : ∀ q : Flow → Shared → Prop, (∀ f s', Join h₀ L m news P ds s f s' → q f s') → wpAny M A t q E s)
    (g : ∀ h' tk os k tl', Fr h₀ L h' m → News h₀ L h' ((P, listOf os.toArray k) :: (news ++ tl')) → (∀ p ∈ news ++ tl', p.1 ≠ P) → (∀ q ∈ news, ∀ p ∈ tl', q.1 ≠ p.1) → DatAll (news ++ tl') os ds → Q .next { s with heap := h', toks := tk }) : wpAny M A t Q E s :=
  wpAny_mono (h _ fun _ _ x => x) (fun f s' x => by obtain ⟨rfl, h', tk, os, k, tl', rfl, F', N', a, b, c⟩ := x; exact g h' tk os k tl' F' N' a b c) fun _ _ e => e
theorem Join.intro (F : Fr h₀ L h' m) (N : News h₀ L h' all) (os : List Value) (k : Nat) (tl' : Led) (hs : ∀ p ∈ (P, listOf os.toArray k) :: (news ++ tl'), p ∈ all) (hP : ∀ p ∈ news ++ tl', p.1 ≠ P) (ho : ∀ q ∈ news, ∀ p ∈ tl', q.1 ≠ p.1) (hd : DatAll (news ++ tl') os ds) :
    Join h₀ L m news P ds s₁ .next { s₁ with heap := h', toks := tk } := ⟨rfl, h', tk, os, k, tl', rfl, F, news_sub N hs, hP, ho, hd⟩
end
theorem Join.push {h₀ h' : Heap} {L P : Addr} {m : Str → Option Value} {news tl' : Led} {ds : List Dat} {s₁ : Shared} {os : List Value} {k tk : Nat} {a : Addr × Obj} {d : Dat} (F : Fr h₀ L h' m) (N : News h₀ L h' (a :: (P, listOf (os.toArray.push (.ref a.1)) k) :: (news ++ tl'))) (hP : ∀ p ∈ news ++ tl', p.1 ≠ P) (ho : ∀ q ∈ news, ∀ p ∈ tl', q.1 ≠ p.1)
    (l : (@LT.lt Nat _ P a.1) ∧ AllLt a.1 (news ++ tl')) (hd : DatAll (news ++ tl') os ds) (hv : DatIn (news ++ (tl' ++ [a])) (.ref a.1) d) : Join h₀ L m news P (ds ++ [d]) s₁ .next { s₁ with heap := h', toks := tk } := by
  rw [List.push_toArray] at N
  refine Join.intro F N (os ++ [.ref a.1]) k (tl' ++ [a]) (fun p hp => ?_) (off_one hP l.1) (ord_one ho l.2) ((DatAll.mono (fun _ h => mem_more h) hd).append (.cons hv .nil))
  simp only [List.mem_cons, List.mem_append, List.not_mem_nil, or_false] at hp ⊢
  rcases hp with h | h | h | h <;> simp only [h, true_or, or_true]
theorem Join.push2 {h₀ h' : Heap} {L P : Addr} {m : Str → Option Value} {news tl' : Led} {ds : List Dat} {s₁ : Shared} {os : List Value} {k tk : Nat} {a b : Addr × Obj} {d : Dat} (F : Fr h₀ L h' m) (N : News h₀ L h' (a :: b :: (P, listOf (os.toArray.push (.ref a.1)) k) :: (news ++ tl'))) (hP : ∀ p ∈ news ++ tl', p.1 ≠ P) (ho : ∀ q ∈ news, ∀ p ∈ tl', q.1 ≠ p.1)
    (l : (@LT.lt Nat _ P a.1) ∧ AllLt a.1 (news ++ tl')) (hd : DatAll (news ++ tl') os ds) (hv : DatIn (news ++ (tl' ++ [a])) (.ref a.1) d) : Join h₀ L m news P (ds ++ [d]) s₁ .next { s₁ with heap := h', toks := tk } :=
  Join.push F (news_sub N fun p hp => (List.mem_cons.mp hp).elim (fun e => by rw [e]; exact .head _) fun h => .tail _ (.tail _ h)) hP ho l hd hv
theorem Join.same {h₀ h' : Heap} {L P : Addr} {m : Str → Option Value} {news tl' : Led} {ds : List Dat} {s₁ : Shared} {os : List Value} {k tk : Nat} (F : Fr h₀ L h' m) (N : News h₀ L h' ((P, listOf os.toArray k) :: (news ++ tl'))) (hP : ∀ p ∈ news ++ tl', p.1 ≠ P) (ho : ∀ q ∈ news, ∀ p ∈ tl', q.1 ≠ p.1)
    (hd : DatAll (news ++ tl') os ds) : Join h₀ L m news P ds s₁ .next { s₁ with heap := h', toks := tk } := Join.intro F N _ _ tl' (fun _ h => h) hP ho hd
theorem my_lenT {prog : Program} {w : World} {A : Around} {E : Value → Shared → Prop} {s : Shared} {h₀ : Heap} {L : Addr} {news : Led} {c : Addr} {vs : List Value} {n : Nat} {Q : Value → Shared → Prop} (N : News h₀ L s.heap news) (hm : (c, tup vs n) ∈ news) (hz : vs.length ≤ 16384)
    (h : Q (.int (vs.length : Int) (s.toks + 1)) { s with toks := s.toks + 1 + 1 }) : wpAny (model prog w) A (call (.builtin "len") [.ref c]) Q E s :=
  kun_lenT (News.isTup N hm) (by simp) (by omega) h
local macro_rules | `(tactic| walk_at "call builtin:len") => `(tactic| (k_here; k_dflt ((with_reducible apply my_lenT); k_asm; lsm_bools; omega)))
local macro_rules | `(tactic| walk_at "exec If") => `(tactic| walk_at "my_halt")
theorem my_neCons {prog : Program} {w : World} {A : Around} {E : Value → Shared → Prop} {s : Shared} {h₀ : Heap} {L : Addr} {news : Led} {a b : Addr} {l : List Value} {x : Value} {k n : Nat} {Q : Value → Shared → Prop} (N : News h₀ L s.heap news) (hm : (a, listOf (x :: l).toArray k) ∈ news) (hb : (b, listOf #[] n) ∈ news) (hu : A.units < cLine) (h : Q (.bool true) s) :
    wpAny (model prog w) A (compareOp .NotEq (.ref a) (.ref b)) Q E s := my_neNil N hm hb hu h
local macro_rules | `(tactic| walk_at "compareOp NotEq ref ref") => `(tactic| tbr_iter my_neCons)
theorem esD_len (ns : List Int) (ws : List Str) : (esD ns ws).length ≤ 4 := by
  have := esN_len ns ws; have := cond_len (hasW ws wCOUNT) (dCount ns)
  simp only [esD, List.length_append]; omega
theorem esearch_gives (w : World) (ns : List Int) (hn : ns.length ≤ 60) (hinc : ns.Pairwise (· < ·)) (ws : List Str) (hw : ws.length ≤ 10) : Gives w 826 6 (fun news vs => Ex6 fun R its k Wt wl kw => An5 (vs = [.ref R, .ref Wt]) ((R, listOf its.toArray k) ∈ news) (IntsAre its ns) ((Wt, tup wl kw) ∈ news) (StrsAre wl ws))
    (fun news r => Ex3 fun q vs k => An3 (r = .ref q) ((q, listOf vs.toArray k) ∈ news) ((DatAll news vs (esD ns ws) ∧ vs.length ≤ 4))) := by
  unfold Gives
  intro prog loose mean mg mb dp un gd cn cs a ccd cl outer A₀ base h₀ L m news s vs Q E B F X N T hk hd hu hR hret
  obtain ⟨R, its, k, Wt, wl, kw, rfl, hm, hi, hW, hs⟩ := hR
  have hL := hi.length
  have hwl := hs.length
  have hn' : ns.length ≤ 100 := by omega
  refine wpAny_call ?_
  k_dflt ktr_enter
  kpc_turns
  rename News _ _ _ _ => N'
  rename Fr _ _ _ _ => F'
  rename (∀ p ∈ news, p.1 < _) => hlt
  have hP := all_ne hlt
  refine Halt.go ?_
  refine join_at F' hP (esN ns ws) (fun q9 hq9 => wpAny_If ?_) ?_
  · rcases ns with _ | ⟨x, r⟩
    · cases hi
      kpc_turns
      refine Join.intro (by k_asm) (by k_asm) [] _ [] (by rw [List.append_nil]; exact fun p hp => .tail _ hp) (by rw [List.append_nil]; exact hP) ord0 ?_
      exact .nil
    · cases hi with
      | cons x t hi' =>
      have hi := IntsAre.cons x t hi'
      have hp : 0 < (x :: r).length := Nat.succ_pos _
      have hn2 : (x :: r).length < 64 := by omega
      have hE : esN (x :: r) ws = cond (hasW ws wMIN) (dMin (x :: r)) ++ cond (hasW ws wMAX) (dMax (x :: r)) ++ cond (hasW ws wALL || ws.isEmpty) (dAll (x :: r)) := if_neg (by simp)
      rw [hE] at hq9
      clear hE
      kpc_turns
      rename News _ _ _ _ => N7
      replace N7 := news_sub N7 (fun _ h => .tail _ h)
      refine Halt.go ?_
      refine join_at (by k_asm) hP (cond (hasW ws wMIN) (dMin (x :: r))) (fun q9 hq9 => wpAny_If ?_) ?_
      · kpc_turns
        · rename (_ = true) => hc
          rename (_ ∧ _) => l1
          rw [cond_t hc]
          refine Join.push (ds := []) (tl' := []) (a := (_, _)) (by k_asm) (by rw [List.append_nil]; k_asm) (by rw [List.append_nil]; exact hP) ord0 (by rw [List.append_nil]; exact l1) .nil (.tuple last1 (.cons (.str _ _) (.cons (.int _ _) .nil)))
        · rename (_ = false) => hc
          rw [cond_f hc]
          exact Join.same (os := []) (tl' := []) (by k_asm) (by rw [List.append_nil]; k_asm) (by rw [List.append_nil]; exact hP) ord0 .nil
      · intro h5 tk5 os5 k5 tl5 F5 N5 hP5 ho5 hd5
        have hl5 := hd5.length
        have hc5 := cond_len (hasW ws wMIN) (dMin (x :: r))
        dsimp only
        kpc_turns
        refine Halt.go ?_
        refine join_at F5 hP (cond (hasW ws wMIN) (dMin (x :: r)) ++ cond (hasW ws wMAX) (dMax (x :: r))) (fun q9 hq9 => wpAny_If ?_) ?_
        · kpc_turns
          · rename (_ = true) => hc
            rename (_ ∧ _) => l1
            rw [cond_t hc]
            exact Join.push (by k_asm) (by k_asm) hP5 ho5 l1 hd5 (.tuple last1 (.cons (.str _ _) (.cons (.int _ _) .nil)))
          · rename (_ = false) => hc
            rw [cond_f hc, List.append_nil]
            exact Join.same (by k_asm) (by k_asm) hP5 ho5 hd5
        · intro h6 tk6 os6 k6 tl6 F6 N6 hP6 ho6 hd6
          have hl6 := hd6.length
          have hc6 := cond_len (hasW ws wMAX) (dMax (x :: r))
          rw [List.length_append] at hl6
          dsimp only
          clear hP5 ho5 hd5
          kpc_turns
          refine Halt.go (wpAny_If ?_)
          kpc_turns
          · rename (List.any _ _ = true) => hc
            have hc' : (hasW ws wALL || ws.isEmpty) = true := by rw [show hasW ws wALL = true from hc]; rfl
            rw [cond_t hc']
            rename (∀ p ∈ news ++ (_ ++ _), p.1 ≠ _) => h8
            rename DatIn _ _ _ => e9
            rename (∀ q ∈ _ :: _ :: (news ++ tl6), ∀ p ∈ (_ : Led), q.1 ≠ p.1) => hl9
            rename (_ < _ ∧ _ ∧ AllLt _ _) => l1
            rename News _ _ _ ((_, _) :: _ :: _) => N8
            refine Join.push2 (by k_asm) N8 h8 (fun q hq p hp => ?_) l1.2 (DatAll.mono (fun _ h => mem_more h) hd6) (.tuple last1 (.cons (.str _ _) (.cons (DatIn.mono (fun _ h => mem_more h) (datin_keep (fun p hp => ?_) e9 (by simp only [noL, noL_pairs]))) .nil)))
            · rcases List.mem_append.mp hp with hp | hp
              · exact ho6 q hq p hp
              · exact hl9 q (.tail _ (.tail _ (List.mem_append.mpr (.inl hq)))) p hp
            · rcases List.mem_cons.mp hp with rfl | hp
              · exact .inr notT_list
              · rcases List.mem_cons.mp hp with rfl | hp
                · exact .inr notT_list
                · exact .inl hp
          · rename (_ = 0) => hc
            have hc' : (hasW ws wALL || ws.isEmpty) = true := by
              have : ws = [] := List.eq_nil_of_length_eq_zero (by omega)
              rw [this]; rfl
            rw [cond_t hc']
            rename (∀ p ∈ news ++ (_ ++ _), p.1 ≠ _) => h8
            rename DatIn _ _ _ => e9
            rename (∀ q ∈ _ :: _ :: (news ++ tl6), ∀ p ∈ (_ : Led), q.1 ≠ p.1) => hl9
            rename (_ < _ ∧ _ ∧ AllLt _ _) => l1
            rename News _ _ _ ((_, _) :: _ :: _) => N8
            refine Join.push2 (by k_asm) N8 h8 (fun q hq p hp => ?_) l1.2 (DatAll.mono (fun _ h => mem_more h) hd6) (.tuple last1 (.cons (.str _ _) (.cons (DatIn.mono (fun _ h => mem_more h) (datin_keep (fun p hp => ?_) e9 (by simp only [noL, noL_pairs]))) .nil)))
            · rcases List.mem_append.mp hp with hp | hp
              · exact ho6 q hq p hp
              · exact hl9 q (.tail _ (.tail _ (List.mem_append.mpr (.inl hq)))) p hp
            · rcases List.mem_cons.mp hp with rfl | hp
              · exact .inr notT_list
              · rcases List.mem_cons.mp hp with rfl | hp
                · exact .inr notT_list
                · exact .inl hp
          · rename (List.any _ _ = false) => hc
            rename (_ ≠ (0 : Int)) => hz
            have hc' : (hasW ws wALL || ws.isEmpty) = false := by
              rw [show hasW ws wALL = false from hc, Bool.false_or]
              cases ws with
              | nil => exact absurd (by rw [hwl]; rfl) hz
              | cons _ _ => rfl
            rw [cond_f hc', List.append_nil]
            exact Join.same (by k_asm) (by k_asm) hP6 ho6 hd6
  · intro h5 tk5 os k5 tl5 F5 N5 hP5 ho5 hd5
    have hl5 := hd5.length
    have hc5 := esN_len ns ws
    dsimp only
    kpc_turns
    refine Halt.go ?_
    refine join_at F5 hP (esD ns ws) (fun q9 hq9 => wpAny_If ?_) ?_
    · kpc_turns
      · rename (List.any _ _ = true) => hc
        rename (_ ∧ _) => l1
        have e : esD ns ws = esN ns ws ++ [dCount ns] := by rw [esD, cond_t hc]
        rw [e]
        refine Join.push (by k_asm) (by k_asm) hP5 ho5 l1 hd5 (.tuple last1 (.cons (.str _ _) (.cons ?_ .nil)))
        rw [hL]; exact .int _ _
      · rename (List.any _ _ = false) => hc
        have e : esD ns ws = esN ns ws := by rw [esD, cond_f hc, List.append_nil]
        rw [e]
        exact Join.same (by k_asm) (by k_asm) hP5 ho5 hd5
    · intro h6 tk6 os6 k6 tl6 F6 N6 hP6 ho6 hd6
      dsimp only
      kpc_turns
      rename News h₀ L _ _ => kN9
      exact hret _ (tl6 ++ [(_, W.listOf os6.toArray k6)]) _ _ (by k_asm) (news_last kN9) (ord_last ho6 hP6) ⟨_, os6, _, rfl, last_mem, DatAll.mono sub_last hd6, Nat.le_trans (Nat.le_of_eq (DatAll.length hd6)) (esD_len _ _)⟩
end S_c20
section S_c26
local macro_rules | `(tactic| walk_at "call ref") => `(tactic| ktr_call 33 (has_kind_gives _ _ ?_))
local macro_rules | `(tactic| walk_at "call ref") => `(tactic| ktn_call 838 (told_number_gives _ _ _))
noncomputable def numOf (b : Bool) (d : SD) : Int := if b then d.uid else d.number
noncomputable def mx (l : List Int) : Int := l.foldl max 0
theorem mx_spec : ∀ (l : List Int) (z : Int), (l.foldl max z = z ∨ l.foldl max z ∈ l) ∧ z ≤ l.foldl max z ∧ ∀ a ∈ l, a ≤ l.foldl max z
  | [], z => ⟨.inl rfl, Int.le_refl _, fun _ h => nomatch h⟩
  | x :: r, z => by
    obtain ⟨h1, h2, h3⟩ := mx_spec r (max z x)
    simp only [List.foldl_cons]
    refine ⟨?_, by omega, fun a ha => ?_⟩
    · rcases h1 with h1 | h1
      · rw [h1]
        rcases Int.le_total z x with h | h
        · right; rw [Int.max_eq_right h]; exact .head _
        · left; exact Int.max_eq_left h
      · exact .inr (.tail _ h1)
    · rcases List.mem_cons.mp ha with rfl | ha
      · omega
      · exact h3 a ha
theorem mx_eq {l : List Int} {M : Int} (hm : M ∈ l ++ [0]) (hl : ∀ a, a ∈ l ++ [0] → a ≤ M) : M = mx l := by
  obtain ⟨h1, h2, h3⟩ := mx_spec l 0
  have h0 : (0 : Int) ≤ M := hl 0 (by simp)
  unfold mx
  have a1 : l.foldl max 0 ≤ M := by
    rcases h1 with h1 | h1
    · rw [h1]; exact h0
    · exact hl _ (List.mem_append.mpr (.inl h1))
  have a2 : M ≤ l.foldl max 0 := by
    rcases List.mem_append.mp hm with h | h
    · exact h3 _ h
    · rw [List.mem_singleton.mp h]; exact h2
  omega
section
variable {prog : Program} {w : World} {A : Around} {E : Value → Shared → Prop} {s : Shared} {h₀ : Heap} {L : Addr} {m : Str → Option Value} {news : Led} {l : Addr} {vs : List Value} {ns : List Int} {k : Nat} {Q : Value → Shared → Prop} {tz : Tok}
theorem my_max0 (F : Fr h₀ L s.heap m) (N : News h₀ L s.heap news) (hm : (l, listOf (vs ++ [Value.int 0 tz]).toArray k) ∈ news) (hi : IntsAre vs ns) (hh : A.handled = none)
    (h : ∀ h' (t : Tok) tk, Fr h₀ L h' m → News h₀ L h' news → Q (.int (mx ns) t) { s with heap := h', toks := tk }) : wpAny (model prog w) A (call (.builtin "max") [.ref l]) Q E s :=
  kso_max F N (News.isList N hm) (hi.append (.cons 0 tz .nil)) (by simp) hh fun h' M t tk F' N' a b => by rw [mx_eq a b]; exact h h' t tk F' N'
end
local macro_rules | `(tactic| walk_at "call builtin:max") => `(tactic| (k_here; ((with_reducible apply my_max0); with_unfolding_all (k_asm; k_asm; lsm_bools; assumption; exact rfl)); intro h' t' k' F' N'))
noncomputable def mqOf (t : Tr) (fs : List SD) : Int := if asks t then mx (fs.map SD.mseq) else 0
noncomputable abbrev foundOf (t : Tr) (ds : List SD) : List SD := ds.filter (meets (gnOf ds) (guOf ds) t)
noncomputable def plainD (t : Tr) (b : Bool) (ds : List SD) : Dat := .tuple [.str (Str.ofString "search"), .tuple (((foundOf t ds).map (numOf b)).map .int), .int (mqOf t (foundOf t ds))]
noncomputable def extD (t : Tr) (b : Bool) (ds : List SD) (ws : List Str) : List Dat := esD ((foundOf t ds).map (numOf b)) ws ++ cond (decide (mqOf t (foundOf t ds) > 0)) (.tuple [.str (Str.ofString "MODSEQ"), .int (mqOf t (foundOf t ds))])
noncomputable def extedD (t : Tr) (b : Bool) (ds : List SD) (ws : List Str) (tag : Str) : Dat := .tuple [.str (Str.ofString "esearch"), .str tag, .bool b, .tuple (extD t b ds ws)]
theorem ints_dat {news : Led} {vs : List Value} {ns : List Int} (h : IntsAre vs ns) : DatAll news vs (ns.map .int) := by
  induction h with
  | nil => exact .nil
  | cons x t _ ih => exact .cons (.int x t) ih
local macro_rules | `(tactic| walk_at "execs cons") => `(tactic| ktn_call "st" (Stmt.If _ _ _ _))
/-- search_answer up to the question what is wanted: what was found, the numbers told, the highest modseq -/
theorem search_head (w : World) (t : Tr) (ht : t.high ≤ 3) (hz : t.size ≤ 40) (ds : List SD) (hds : ds.length ≤ 60) (hpos : ds ≠ [] → 0 < gnOf ds ∧ 0 < guOf ds) (hinj : NumInj ds) (b : Bool) (tag : Str) (wv : Value)
    {prog : Program} {loose : List Str} {mean : ExcName → Option Value} {mg mb : Str → Option Value} {dp un : Nat} {gd : Option (List Code)} {cn : Str} {cs : Scope} {a : Addr} {ccd : Value} {cl : List (Str × Addr)} {outer : List Env} {A₀ : Around} {base h₀ : Heap} {L : Addr} {m : Str → Option Value} {news : Led} {s : Shared} {ps : Array Value} {l : Value} {R : Addr} {its : List Value} {k : Nat} {tt : Tok} {Z : Result → Shared → Prop}
    (B : Below A₀ base outer h₀) (CH : CodeHd base 806 802) (F : Fr h₀ L s.heap m) (X : (Kc w.params).In h₀) (N : News h₀ L s.heap ((802, tabObj ps) :: news)) (hne : ∀ p ∈ news, p.1 ≠ 802) (hlam : LamOk ps news) (T : Top topProg loose mean mg mb h₀) (hk : cs.kind = .function)
    (hd : dp + 48 < recursionLimit) (hu : un + 8 * 48 < cLine) (htr : TrIn news l t) (hm : (R, listOf its.toArray k) ∈ news) (hs : SeensIn w news its ds)
    (next : ∀ (g : Heap) (L' : Addr) (h' : Heap) (tk' : Nat) (ps' : Array Value) (tl : Led) (q D : Addr) (ys : List Value) (oc : Obj) (M : Int) (tm : Tok), Fr h₀ L g m →
      Fr g L' h' (fun y => if y = Str.ofString "modseq" then some (.int M tm) else if y = Str.ofString "numbers" then some (.ref D) else if y = Str.ofString "found" then some (.ref q) else bindL (envOfC (Str.ofString "search_answer") S848 L' 848 (.ref 847)).kindOf [(Str.ofString "tree", l), (Str.ofString "wants", wv), (Str.ofString "rows", .ref R), (Str.ofString "tag", .str tag tt), (Str.ofString "is_uid", .bool b)] (fun _ => none) y) →
      News g L' h' ((D, LCg.lst ys) :: (L' + 1, oc) :: (802, tabObj ps') :: (news ++ tl)) → oc.data = .cell (some (.bool b)) → Below (ktrTop dp un gd cn cs L a ccd cl outer) base (envX cn cs L a ccd cl :: outer) g → (Kc w.params).In g → Top topProg loose mean mg mb g →
      IntsAre ys ((foundOf t ds).map (numOf b)) → M = mqOf t (foundOf t ds) → (∀ q ∈ news, ∀ p ∈ tl, q.1 ≠ p.1) → (∀ p ∈ tl, p.1 ≠ 802) → (∀ nx, LamOk ps nx → LamOk ps' (nx ++ tl)) → (∀ p ∈ (802, tabObj ps) :: news, p.1 < L') →
      wpAny (model prog w) ((ktrTop dp un gd cn cs L a ccd cl outer).deeper (envOfC (Str.ofString "search_answer") S848 L' 848 (.ref 847))) (execs (B848.drop 3) (envOfC (Str.ofString "search_answer") S848 L' 848 (.ref 847)))
        (fun fl s' => LeaveK h₀ L m g Z (match fl with | .ret v => v | _ => .none) s')
        (fun e s' => wpAny (model prog w) ((ktrTop dp un gd cn cs L a ccd cl outer).deeper (envOfC (Str.ofString "search_answer") S848 L' 848 (.ref 847))) (leaving (envOfC (Str.ofString "search_answer") S848 L' 848 (.ref 847)) e) (fun _ s'' => Z (.error e) s'') (fun e' s'' => Z (.error e') s'') s')
        { s with heap := h', toks := tk' }) :
    codeAny (model prog w) (ktrTop dp un gd cn cs L a ccd cl outer) (.call (.ref 848) ⟨[l, wv, .ref R, .str tag tt, .bool b], []⟩) Z s := by
  walk_at "my_enterC"
  kpc_turns
  rename (∀ p ∈ _ :: news, p.1 < _) => hl1
  have hA := all_ne hl1
  refine' GivesT.useU (met_gives w t ht hz ds (by omega) hpos hinj) ?k1 CH ?k2 ?k3 ?k4 ?kU news ?kl ?kn ?k5 ?k6 ?k7 ?k8 ?k9 ?_
  (case k1 => k_asm)
  (case k2 => k_asm)
  (case k3 => k_asm)
  (case k4 => k_asm)
  (case kU => exact UpdF.tail (Nat.ne_of_gt (Nat.lt_succ_of_lt (hl1 _ (.head _)))) (UpdF.head hne))
  (case kl => exact hlam)
  (case kn => exact fun p hp => ⟨.tail _ (.tail _ hp), hne p hp⟩)
  (case k5 => k_asm)
  (case k6 => rfl)
  (case k7 => walk_at "my_room")
  (case k8 => walk_at "my_room")
  (case k9 => exact fun nx hnx => have hx : ∀ p ∈ news, p ∈ nx := fun p hp => hnx p (.tail _ (.tail _ hp)) (hne p hp); ⟨l, R, its, k, rfl, htr.mono hx, hx _ hm, hs.mono hx⟩)
  intro r9 tl9 h9 tk9 ps9 F9 N9 hl9 hs9 e9
  obtain ⟨nx9, ⟨q9, vs9, k9, e9, hq9, hws⟩, hnx9⟩ := e9
  subst e9
  try simp only [List.cons_append] at N9
  replace hws := hws.mono (b := (_, _) :: (802, tabObj ps9) :: (news ++ tl9)) (met_sub hnx9)
  replace hq9 := list_in hq9 hnx9 (by assumption)
  have hfl : (foundOf t ds).length ≤ 60 := Nat.le_trans (List.length_filter_le _ _) hds
  kpc_turns
  refine Halt.go ?_
  have hwl := hws.len
  refine LCg.CompSrc.ledger (by rfl) (by k_asm) (by k_asm) (.tail _ (.tail _ hq9)) (by rw [List.size_toArray, hwl]; exact Nat.le_trans hfl (by rw [sizeLine_eq]; decide)) ?_
  intro g9
  refine compU (fun i ys nx => nx = (_, _) :: (802, tabObj ps9) :: (news ++ tl9) ∧ IntsAre ys (((foundOf t ds).take i).map (numOf b))) ?_ ⟨rfl, .nil⟩ ?_ ?_
  · rintro i ys nx ⟨rfl, -⟩
    exact .inr ⟨_, .tail _ (.tail _ hq9), rfl, _, rfl⟩
  · rintro i v ys nx I oI C oC D m₂ h tk E' q9 hq9 hi hv ⟨rfl, hys⟩ hC hx F₁ N₁ off hne3
    obtain ⟨d, hd, hsd⟩ := hws.get (by simpa using hv)
    kpc_turns
    refine CTurn.none (by k_asm) (by k_asm) (by kxs_still) off ⟨rfl, ?_⟩
    rw [take_snoc hd, List.map_append]
    exact hys.append (.cons _ _ .nil)
  · rintro ys nx ⟨rfl, hys⟩
    rw [take_all (by rw [List.size_toArray, hwl])] at hys
    intro D h tk F₁ N₁ off
    have hyl := hys.length
    rw [List.length_map] at hyl
    have ho9 : ∀ q ∈ news, ∀ p ∈ tl9, q.1 ≠ p.1 := fun q hq p hp => hl9 q (.tail _ (.tail _ hq)) p hp
    have hn9 : ∀ p ∈ tl9, p.1 ≠ 802 := fun p hp e => hl9 (802, tabObj ps) (.tail _ (.head _)) p hp e.symm
    rcases hA9 : asks t
    · kpc_turns
      refine Halt.go ?_
      exact next _ _ _ _ ps9 tl9 q9 D ys _ 0 _ (by k_asm) (by k_asm) (news_sub (by k_asm) (by kxs_still)) (by assumption) (by k_asm) (by k_asm) (by k_asm) hys (by rw [mqOf, hA9]; rfl) ho9 hn9 hs9 hl1
    · kpc_turns
      refine Halt.go ?_
      rename List (Addr × Obj) => tlk
      refine LCg.CompSrc.ledger (by rfl) (by k_asm) (by k_asm) (.tail _ (.tail _ (.tail _ (mem_more hq9)))) (by rw [List.size_toArray, hwl]; exact Nat.le_trans hfl (by rw [sizeLine_eq]; decide)) ?_
      intro g8
      refine compU (fun i ys nx => nx = (_, _) :: (_, _) :: (802, tabObj ps9) :: (news ++ (tl9 ++ _)) ∧ IntsAre ys (((foundOf t ds).take i).map SD.mseq)) ?_ ⟨rfl, .nil⟩ ?_ ?_
      · rintro i ys nx ⟨rfl, -⟩
        exact .inr ⟨_, .tail _ (.tail _ (.tail _ (mem_more hq9))), rfl, _, rfl⟩
      · rintro i v zs nx I oI C oC D2 m₂ h tk E' q9 hq9 hi hv ⟨rfl, hzs⟩ hC hx F₁ N₁ off hne3
        obtain ⟨d, hd, hsd⟩ := hws.get (by simpa using hv)
        replace hsd := hsd.mono (sub_mid (a := (D, LCg.lst ys)) (z := tlk))
        obtain ⟨x0, dx, n0, t1, t2, t3, yl, tn, rfl, hx1, hx2, hx3⟩ := hsd
        obtain ⟨ddy, n3, t4, t5, t6, t7, t8, tu, tb, ti, tm, arr, f, fl, k, hl1, hl2, ⟨hl3, hl3a⟩, hl4, hl5⟩ := hx3
        kpc_turns
        refine CTurn.none (by k_asm) (by k_asm) (by kxs_still) off ⟨rfl, ?_⟩
        rw [take_snoc hd, List.map_append]
        exact hzs.append (.cons _ _ .nil)
      · rintro zs nx ⟨rfl, hzs⟩
        rw [take_all (by rw [List.size_toArray, hwl])] at hzs
        have hzl := hzs.length
        rw [List.length_map] at hzl
        intro D2 h tk F₁ N₁ off2
        kpc_turns
        refine Halt.go ?_
        exact next _ _ _ _ ps9 tl9 q9 D ys _ (mx ((foundOf t ds).map SD.mseq)) _ (by k_asm) (by k_asm) (news_sub (by k_asm) (by kxs_still)) (by assumption) (by k_asm) (by k_asm) (by k_asm) hys (by rw [mqOf, hA9]; rfl) ho9 hn9 hs9 hl1
end S_c26
section S_c19
theorem search_plain_gives (w : World) (t : Tr) (ht : t.high ≤ 3) (hz : t.size ≤ 40) (ds : List SD) (hds : ds.length ≤ 60) (hpos : ds ≠ [] → 0 < gnOf ds ∧ 0 < guOf ds) (hinj : NumInj ds) (b : Bool) (tag : Str) :
    GivesT w 848 48 (fun news vs => Ex5 fun l R its k tt => An4 (vs = [l, .none, .ref R, .str tag tt, .bool b]) (TrIn news l t) ((R, listOf its.toArray k) ∈ news) (SeensIn w news its ds))
      (fun news r => DatIn news r (plainD t b ds)) := by
  unfold GivesT
  intro prog loose mean mg mb dp un gd cn cs a ccd cl outer A₀ base h₀ L m news s ps vs Q E B CH F X N hne hlam T hk hd hu hR hret
  obtain ⟨l, R, its, k, tt, rfl, htr, hm, hs⟩ := hR
  refine wpAny_call (search_head w t ht hz ds hds hpos hinj b tag .none B CH F X N hne hlam T hk hd hu htr hm hs fun g L' h' tk' ps9 tl9 q D ys oc M tm FG F' N' hoc B' X' T' hys hM ho9 hn9 hs9 hl1 => ?_)
  have hyl := hys.length
  rw [List.length_map] at hyl
  have hfl : (foundOf t ds).length ≤ 60 := Nat.le_trans (List.length_filter_le _ _) hds
  show wpAny _ _ _ _ _ _
  k_fold
  kpc_turns
  rename News h₀ L _ _ => kN9
  rename (_ < _ ∧ _) => l2
  rename (∀ p ∈ (D, _) :: _, p.1 < _) => l1
  obtain ⟨n1, n2, n3⟩ := fin2 (T := 802) (ps := ps9) (news := news) (tl := tl9) kN9 (by lsm_bools) (by kxs_still) l1 l2.1 ho9 hn9
  refine hret _ (tl9 ++ [_, _]) _ _ ps9 (by k_asm) n1 n2 n3 (fun nx h => by rw [← List.append_assoc]; exact (hs9 nx h).mono fun p hp => List.mem_append.mpr (.inl hp)) ?_
  rw [plainD, ← hM]
  exact .tuple last2a (.cons (.str _ _) (.cons (.tuple last2b (ints_dat hys)) (.cons (.int _ _) .nil)))
end S_c19
section S_c21
theorem ord_app {n a b : Led} (h : ∀ q ∈ n, ∀ p ∈ a, q.1 ≠ p.1) (g : ∀ q ∈ n, ∀ p ∈ b, q.1 ≠ p.1) : ∀ q ∈ n, ∀ p ∈ a ++ b, q.1 ≠ p.1 := fun q hq p hp => (List.mem_append.mp hp).elim (h q hq p) (g q hq p)
theorem ord_sub {n all tl : Led} (h : ∀ q ∈ all, ∀ p ∈ tl, q.1 ≠ p.1) (s : ∀ q ∈ n, q ∈ all) : ∀ q ∈ n, ∀ p ∈ tl, q.1 ≠ p.1 := fun q hq => h q (s q hq)
theorem noLs_app : ∀ {a b : List Dat}, noLs a = true → noLs b = true → noLs (a ++ b) = true
  | [], _, _, h => h
  | d :: a, b, h, g => by
    simp only [noLs, Bool.and_eq_true] at h
    simp only [List.cons_append, noLs, h.1, noLs_app h.2 g, Bool.and_self]
theorem noLs_cond {c : Bool} {d : Dat} (h : noL d = true) : noLs (cond c d) = true := by cases c <;> simp [cond, noLs, h]
theorem noLs_esD (ns : List Int) (ws : List Str) : noLs (esD ns ws) = true := by
  unfold esD esN
  refine noLs_app ?_ (noLs_cond rfl)
  split
  · rfl
  · exact noLs_app (noLs_app (noLs_cond rfl) (noLs_cond rfl)) (noLs_cond (by simp only [dAll, noL, noLs, noL_pairs, Bool.and_self]))
theorem lam_sub {nx a b c : Led} : ∀ p ∈ nx ++ a, p ∈ nx ++ ((a ++ b) ++ c) := fun p hp => by
  rcases List.mem_append.mp hp with hp | hp
  · exact List.mem_append.mpr (.inl hp)
  · exact List.mem_append.mpr (.inr (List.mem_append.mpr (.inl (List.mem_append.mpr (.inl hp)))))
theorem lam_sub' {nx a b c d : Led} : ∀ p ∈ nx ++ a, p ∈ nx ++ (((a ++ b) ++ c) ++ d) := fun p hp => by
  rcases List.mem_append.mp hp with hp | hp
  · exact List.mem_append.mpr (.inl hp)
  · exact List.mem_append.mpr (.inr (List.mem_append.mpr (.inl (List.mem_append.mpr (.inl (List.mem_append.mpr (.inl hp)))))))
theorem last3 {a b c : Addr × Obj} {news x : Led} : c ∈ news ++ ((x ++ [c]) ++ [a, b]) := List.mem_append.mpr (.inr (List.mem_append.mpr (.inl (List.mem_append.mpr (.inr (.head _))))))
theorem keep3 {x y z : Addr × Obj} {r b : Led} (hx : notT x.2) (hy : notT y.2) (hz : notT z.2) (hr : ∀ p ∈ r, p ∈ b) : ∀ p ∈ x :: y :: z :: r, p ∈ b ∨ notT p.2 := fun p hp => by
  rcases List.mem_cons.mp hp with rfl | hp
  · exact .inr hx
  · rcases List.mem_cons.mp hp with rfl | hp
    · exact .inr hy
    · rcases List.mem_cons.mp hp with rfl | hp
      · exact .inr hz
      · exact .inl (hr p hp)
theorem keep1 {x : Addr × Obj} {r b : Led} (hx : notT x.2) (hr : ∀ p ∈ r, p ∈ b ∨ notT p.2) : ∀ p ∈ x :: r, p ∈ b ∨ notT p.2 := fun p hp => by
  rcases List.mem_cons.mp hp with rfl | hp
  · exact .inr hx
  · exact hr p hp
theorem ord5 {h₀ h : Heap} {L : Addr} {x1 x2 x3 x4 c : Addr × Obj} {rest n : Led} (_N : News h₀ L h (x1 :: x2 :: x3 :: x4 :: c :: rest)) (l : ∀ q ∈ n, (@LT.lt Nat _ q.1 c.1)) : ∀ q ∈ n, ∀ p ∈ [c], q.1 ≠ p.1 := fun q hq p hp => by
  rw [List.mem_singleton.mp hp]; exact Nat.ne_of_lt (l q hq)
theorem off5 {h₀ h : Heap} {L d : Addr} {x1 x2 x3 x4 c : Addr × Obj} {rest : Led} (_N : News h₀ L h (x1 :: x2 :: x3 :: x4 :: c :: rest)) (l : (@LT.lt Nat _ d c.1)) : ∀ p ∈ [c], p.1 ≠ d := fun p hp => by
  rw [List.mem_singleton.mp hp]; exact Nat.ne_of_gt l
local macro_rules | `(tactic| walk_at "call ref") => `(tactic| ktd_call 826 (esearch_gives _ _ ?_ ?_ _ ?_))
theorem search_ext_gives (w : World) (t : Tr) (ht : t.high ≤ 3) (hz : t.size ≤ 40) (ds : List SD) (hds : ds.length ≤ 60) (hpos : ds ≠ [] → 0 < gnOf ds ∧ 0 < guOf ds) (hinj : NumInj ds) (b : Bool) (tag : Str) (ws : List Str) (hws : ws.length ≤ 10) (hinc : ((foundOf t ds).map (numOf b)).Pairwise (· < ·)) :
    GivesT w 848 48 (fun news vs => Ex8 fun l R its k tt Wt wl kw => An6 (vs = [l, .ref Wt, .ref R, .str tag tt, .bool b]) ((Wt, tup wl kw) ∈ news) (StrsAre wl ws) (TrIn news l t) ((R, listOf its.toArray k) ∈ news) (SeensIn w news its ds))
      (fun news r => DatIn news r (extedD t b ds ws tag)) := by
  unfold GivesT
  intro prog loose mean mg mb dp un gd cn cs a ccd cl outer A₀ base h₀ L m news s ps vs Q E B CH F X N hne hlam T hk hd hu hR hret
  obtain ⟨l, R, its, k, tt, Wt, wl, kw, rfl, hWm, hWs, htr, hm, hs⟩ := hR
  refine wpAny_call (search_head w t ht hz ds hds hpos hinj b tag (.ref Wt) B CH F X N hne hlam T hk hd hu htr hm hs fun g L' h' tk' ps9 tl9 q D ys oc M tm FG F' N' hoc B' X' T' hys hM ho9 hn9 hs9 hl1 => ?_)
  have hyl := hys.length
  rw [List.length_map] at hyl
  have hfl : (foundOf t ds).length ≤ 60 := Nat.le_trans (List.length_filter_le _ _) hds
  have hnl : ((foundOf t ds).map (numOf b)).length ≤ 60 := by rw [List.length_map]; exact hfl
  show wpAny _ _ _ _ _ _
  k_fold
  kpc_turns
  · rename (0 < M) => hle0
    rename (∀ q : Addr × Obj, q ∈ (D, LCg.lst ys) :: _ :: _ :: (news ++ tl9) → ∀ p : Addr × Obj, p ∈ (_ : Led) → q.1 ≠ p.1) => hle
    rename (DatAll _ _ _ ∧ _) => hd9
    obtain ⟨hd9, hb9⟩ := hd9
    rename News h₀ L _ _ => kN9
    rename (_ < _ ∧ _) => l2
    rename (∀ p ∈ (_ : Led), p.1 < _) => l1
    rename (_ < _ ∧ _ < _ ∧ _ < _ ∧ AllLt _ (news ++ _)) => lc
    have ho := ord_app (ord_app ho9 (ord_sub hle fun q hq => .tail _ (.tail _ (.tail _ (List.mem_append.mpr (.inl hq)))))) (ord5 kN9 fun q hq => lt_of_all lc.2.2.2 (List.mem_append.mpr (.inl hq)))
    have hn := all_app (all_app hn9 (off_tl hle (.tail _ (.tail _ (.head _))))) (off5 kN9 lc.2.2.1)
    obtain ⟨n1, n2, n3⟩ := fin2 (T := 802) (ps := ps9) kN9 (by lsm_bools) (by kxs_still) l1 l2.1 ho hn
    refine hret _ (((tl9 ++ _) ++ [_]) ++ [_, _]) _ _ ps9 (by k_asm) n1 n2 n3 (fun nx h => (hs9 nx h).mono lam_sub') ?_
    rw [extedD, extD, ← hM, cond_t (decide_eq_true hle0)]
    exact .tuple last2a (.cons (.str _ _) (.cons (.str _ _) (.cons (.bool _) (.cons (.tuple last2b ((datall_keep (keep3 notT_list (notT_cell hoc) notT_tab fun _ h => mem_more (mem_more h)) hd9 (noLs_esD _ _)).append (.cons (.tuple last3 (.cons (.str _ _) (.cons (.int _ _) .nil))) .nil))) .nil))))
  · rename (¬ (0 < M)) => hle0
    rename (∀ q : Addr × Obj, q ∈ (D, LCg.lst ys) :: _ :: _ :: (news ++ tl9) → ∀ p : Addr × Obj, p ∈ (_ : Led) → q.1 ≠ p.1) => hle
    rename (DatAll _ _ _ ∧ _) => hd9
    obtain ⟨hd9, hb9⟩ := hd9
    rename News h₀ L _ _ => kN9
    rename (_ < _ ∧ _) => l2
    rename (∀ p ∈ (_ : Led), p.1 < _) => l1
    have ho := ord_app ho9 (ord_sub hle fun q hq => .tail _ (.tail _ (.tail _ (List.mem_append.mpr (.inl hq)))))
    have hn := all_app hn9 (off_tl hle (.tail _ (.tail _ (.head _))))
    obtain ⟨n1, n2, n3⟩ := fin2 (T := 802) (ps := ps9) kN9 (by lsm_bools) (by kxs_still) l1 l2.1 ho hn
    refine hret _ ((tl9 ++ _) ++ [_, _]) _ _ ps9 (by k_asm) n1 n2 n3 (fun nx h => (hs9 nx h).mono lam_sub) ?_
    rw [extedD, extD, ← hM, cond_f (decide_eq_false hle0), List.append_nil]
    exact .tuple last2a (.cons (.str _ _) (.cons (.str _ _) (.cons (.bool _) (.cons (.tuple last2b (datall_keep (keep3 notT_list (notT_cell hoc) notT_tab fun _ h => mem_more h) hd9 (noLs_esD _ _))) .nil))))
end S_c21
theorem SomeIn.keep {a b : Led} {v : Value} {ps : List (Int × Int)} (x : SomeIn a v ps) (hs : ∀ p ∈ a, p ∈ b ∨ notT p.2) : SomeIn b v ps := by
  have ht : ∀ {q : Addr} {l : List Value} {n : Nat}, (q, tup l n) ∈ a → (q, tup l n) ∈ b := fun h => (hs _ h).resolve_right fun q => q _ _ rfl
  obtain ⟨q, its, k, rfl, h1, h2, h3⟩ := x
  refine ⟨q, its, k, rfl, ht h1, h2, fun j x hx => ?_⟩
  obtain ⟨p, l, h, t, u, n, e, hp, hq⟩ := h3 j x hx
  exact ⟨p, l, h, t, u, n, e, ht hp, hq⟩
theorem TrIn.keep {a b : Led} {v : Value} {t : Tr} (x : TrIn a v t) (hs : ∀ p ∈ a, p ∈ b ∨ notT p.2) : TrIn b v t := by
  have ht : ∀ {q : Addr} {l : List Value} {n : Nat}, (q, tup l n) ∈ a → (q, tup l n) ∈ b := fun h => (hs _ h).resolve_right fun q => q _ _ rfl
  induction x with
  | all a => exact .all (ht a)
  | flag a b => exact .flag (ht a) b
  | seq a b => exact .seq (ht a) (b.keep hs)
  | uid a b => exact .uid (ht a) (b.keep hs)
  | larger a => exact .larger (ht a)
  | smaller a => exact .smaller (ht a)
  | modseq a => exact .modseq (ht a)
  | not a _ ih => exact .not (ht a) ih
  | and a _ _ ih ih' => exact .and (ht a) ih ih'
  | or a _ _ ih ih' => exact .or (ht a) ih ih'
local macro_rules | `(tactic| k_all) => `(tactic| first | assumption | exact off_tl (by assumption) (by lsm_bools) | (refine all_app ?_ ?_ <;> k_all))
theorem draw_use {prog : Program} {w : World} {E : Value → Shared → Prop} {s : Shared} {h₀ : Heap} {L : Addr} {c S : Addr} {at_ lim : Int} {ta tl : Tok} {k n0 : Nat} {all : Led} {g : Obj → Led} {ws : List Value} {ns : List Int} {dp un : Nat} {gd : Option (List Code)} {cn : Str} {cs : Scope} {a : Addr} {ccd : Value} {cl : List (Str × Addr)} {outer : List Env} {A₀ : Around} {base : Heap} {m : Str → Option Value} {loose : List Str} {mean : ExcName → Option Value} {mg mb : Str → Option Value} {Q : Value → Shared → Prop}
    (B : Below A₀ base outer h₀) (F : Fr h₀ L s.heap m) (X : (Kc w.params).In h₀) (N : News h₀ L s.heap all) (U : UpdF S (listOf #[.ref c, .int at_ ta] k) all g) (T : Top topProg loose mean mg mb h₀) (hk : cs.kind = .function)
    (hd : dp + 2 < recursionLimit) (hu : un + 8 * 2 < cLine) (h0 : 0 ≤ at_) (h1 : at_ + 1 < 10000) (hcS : c ≠ S) (hc : (c, listOf ws.toArray n0) ∈ all) (hl : 0 < lim) (hlim : lim ≤ 100) (hns : IntsAre ws ns) (hp0 : 0 < ws.length) (hp1 : ws.length ≤ 63)
    (ret : ∀ x t h' tk' at' ta' k', 0 ≤ x → x < lim → Fr h₀ L h' m → News h₀ L h' (g (listOf #[.ref c, .int at' ta'] k')) → at_ ≤ at' → at' ≤ at_ + 1 → 0 ≤ at' → Q (.int x t) { s with heap := h', toks := tk' }) :
    wpAny (model prog w) (ktrTop dp un gd cn cs L a ccd cl outer) (call (.ref 857) [.ref S, .int lim tl]) Q E s :=
  Draws.use (draw_draws w c ws ns n0 lim hl hlim hns hp0 hp1) B F X N U T hk hd hu h0 h1 (fun nx hnx => ⟨hnx _ hc hcS, _, rfl⟩) fun r tl h' tk' at' ta' k' F' N' _ ha hb e => by
    obtain ⟨_, ⟨x, t, rfl, h1, h2⟩, -⟩ := e
    exact ret x t h' tk' at' ta' k' h1 h2 F' (news_sub N' fun p hp => List.mem_append.mpr (.inl hp)) ha hb (Int.le_trans h0 ha)
local macro_rules | `(tactic| walk_at "call ref") => `(tactic| (k_here; (with_reducible show wpAny _ _ (call (Value.ref 857) _) _ _ _); k_dflt (apply draw_use; (iterate 4 k_asm); k_updF; k_asm; (first | rfl | assumption); (iterate 2 walk_at "my_room"); (first | assumption | omega); omega; assumption; lsm_bools; (iterate 2 (first | decide | omega)); (iterate 3 assumption); intro x9 t9 h9 tk9 at9 ta9 k9 hlo9 hhi9 F9 N9 ha9 hb9 hp9; (try dsimp only at N9); (try dsimp only); (try k_fold))))
noncomputable def mostT : Nat → Int
  | 0 => 6
  | n + 1 => 1 + 2 * mostT n
noncomputable def DrawsT (w : World) (c : Addr) (vs : List Value) (n0 n : Nat) : Prop := Draws w 862 (6 + 3 * n) (mostT n) c (fun news as => (c, listOf vs.toArray n0) ∈ news ∧ ∃ t, as = [.int (n : Int) t])
  (fun news r => Ex1 fun t => An3 (TrIn news r t) (t.high ≤ n) (t.size < 2 ^ (n + 1)))
theorem tree_use {prog : Program} {w : World} {E : Value → Shared → Prop} {s : Shared} {h₀ : Heap} {L : Addr} {c S : Addr} {at_ d : Int} {ta td : Tok} {k n0 n : Nat} {all : Led} {g : Obj → Led} {ws : List Value} {dp un : Nat} {gd : Option (List Code)} {cn : Str} {cs : Scope} {a : Addr} {ccd : Value} {cl : List (Str × Addr)} {outer : List Env} {A₀ : Around} {base : Heap} {m : Str → Option Value} {loose : List Str} {mean : ExcName → Option Value} {mg mb : Str → Option Value} {Q : Value → Shared → Prop}
    (ih : DrawsT w c ws n0 n) (B : Below A₀ base outer h₀) (F : Fr h₀ L s.heap m) (X : (Kc w.params).In h₀) (N : News h₀ L s.heap all) (U : UpdF S (listOf #[.ref c, .int at_ ta] k) all g) (T : Top topProg loose mean mg mb h₀) (hk : cs.kind = .function)
    (hd : dp + (6 + 3 * n) < recursionLimit) (hu : un + 8 * (6 + 3 * n) < cLine) (h0 : 0 ≤ at_) (h1 : at_ + mostT n < 10000) (hdn : d = (n : Int)) (hcS : c ≠ S) (hc : (c, listOf ws.toArray n0) ∈ all)
    (ret : ∀ r tl h' tk' at' ta' k' t, Fr h₀ L h' m → News h₀ L h' (g (listOf #[.ref c, .int at' ta'] k') ++ tl) → (∀ q ∈ all, ∀ p ∈ tl, q.1 ≠ p.1) → at_ ≤ at' → at' ≤ at_ + mostT n → 0 ≤ at' → TrIn (all ++ tl) r t → t.high ≤ n → t.size < 2 ^ (n + 1) → Q r { s with heap := h', toks := tk' }) :
    wpAny (model prog w) (ktrTop dp un gd cn cs L a ccd cl outer) (call (.ref 862) [.ref S, .int d td]) Q E s := by
  subst hdn
  unfold DrawsT at ih
  refine Draws.use ih B F X N U T hk hd hu h0 h1 (fun nx hnx => ⟨hnx _ hc hcS, _, rfl⟩) fun r tl h' tk' at' ta' k' F' N' ho ha hb e => ?_
  obtain ⟨nx, ⟨t, h1, h2, h3⟩, hnx⟩ := e
  refine ret r tl h' tk' at' ta' k' t F' N' ho ha hb (Int.le_trans h0 ha) (h1.mono fun p hp => ?_) h2 h3
  rcases List.mem_append.mp hp with hp | hp
  · exact List.mem_append.mpr (.inl (hnx p hp).1)
  · exact List.mem_append.mpr (.inr hp)
local macro_rules | `(tactic| walk_at "call ref") => `(tactic| (k_here; (with_reducible show wpAny _ _ (call (Value.ref 862) _) _ _ _); k_dflt (apply tree_use; assumption; (iterate 4 k_asm); k_updF; k_asm; (first | rfl | assumption); (iterate 2 walk_at "my_room"); (first | assumption | omega); (iterate 2 omega); assumption; lsm_bools; intro r9 tl9 h9 tk9 at9 ta9 k9 t9 F9 N9 hl9 ha9 hb9 hp9 e9 hi9 hz9; (try simp only [List.cons_append, List.nil_append, List.append_assoc] at N9 e9); (try dsimp only at N9); (try dsimp only); (try k_fold))))
theorem i_two {x : Int} {i : Nat} (h2 : x < 2) (h : i < (1 + x - 0).toNat) : (i : Int) < 2 := by omega
theorem split34 {x : Int} (h1 : ¬ x < 3) (h2 : x < 5) : x = 3 ∨ x = 4 := by omega
theorem split01 {x : Int} (h1 : 0 ≤ x) (h2 : x < 2) : x = 0 ∨ x = 1 := by omega
theorem split89 {x : Int} (h0 : x ≠ 7) (h5 : x ≠ 5) (h6 : x ≠ 6) (h1 : ¬ x < 5) (h2 : x < 10) : x = 8 ∨ x = 9 := by omega
theorem lastA {a : Addr × Obj} {news : Led} : a ∈ news ++ [a] := List.mem_append.mpr (.inr (.head _))
theorem leaf_news {h₀ h : Heap} {L : Addr} {a b x : Addr × Obj} {news : Led} (N : News h₀ L h (a :: b :: x :: news)) : News h₀ L h (x :: (news ++ [a])) := news_sub N fun p hp => by
  rcases List.mem_cons.mp hp with rfl | hp
  · exact .tail _ (.tail _ (.head _))
  · rcases List.mem_append.mp hp with hp | hp
    · exact .tail _ (.tail _ (.tail _ hp))
    · rw [List.mem_singleton.mp hp]; exact .head _
theorem leaf_news2 {h₀ h : Heap} {L : Addr} {a b d x : Addr × Obj} {news : Led} (N : News h₀ L h (a :: d :: b :: x :: news)) : News h₀ L h (x :: (news ++ [a])) := leaf_news (news_sub N fun p hp => by
  rcases List.mem_cons.mp hp with rfl | hp
  · exact .head _
  · exact .tail _ (.tail _ hp))
theorem leaf_ord {S : Addr} {o : Obj} {a : Addr × Obj} {news : Led} (hS : (@LT.lt Nat _ S a.1)) (l : AllLt a.1 news) : ∀ q ∈ (S, o) :: news, ∀ p ∈ [a], q.1 ≠ p.1 := fun q hq p hp => by
  rw [List.mem_singleton.mp hp]
  rcases List.mem_cons.mp hq with rfl | hq
  · exact Nat.ne_of_lt hS
  · exact Nat.ne_of_lt (lt_of_all l hq)
theorem some_of {nl : Led} {a : Addr} {its : List Value} {k : Nat} {ps : List (Int × Int)} (hm : (a, tup its k) ∈ nl) (h : DatAll nl its (ps.map pairD)) : SomeIn nl (.ref a) ps := by
  have hlen := h.length
  rw [List.length_map] at hlen
  refine ⟨a, its, k, rfl, hm, hlen, fun j x hx => ?_⟩
  have hj : j < ps.length := by rw [← hlen]; exact (List.getElem?_eq_some_iff.mp hx).1
  obtain ⟨v, hv, hd⟩ := h.get (k := j) (by rw [List.length_map]; exact hj)
  rw [hx] at hv
  cases hv
  rw [List.getElem_map] at hd
  obtain ⟨q, t, u, n, e, hq⟩ := pair_in hd
  exact ⟨q, _, _, t, u, n, e, hq, List.getElem?_eq_getElem hj⟩
theorem one_lt (n : Nat) : 1 < 2 ^ (n + 1) := Nat.one_lt_two_pow (Nat.succ_ne_zero n)
theorem pairs_snoc {news tl' : Led} {ys : List Value} {ps : List (Int × Int)} {a : Addr} {x y : Int} {tx ty : Tok} {n : Nat} (h : DatAll (news ++ tl') ys (ps.map pairD)) : DatAll (news ++ (tl' ++ [(a, tup [.int x tx, .int y ty] n)])) (ys ++ [.ref a]) ((ps ++ [(x, y)]).map pairD) := by
  rw [List.map_append]
  exact (DatAll.mono (fun _ h => mem_more h) h).append (.cons (.tuple last1 (.cons (.int _ _) (.cons (.int _ _) .nil))) .nil)
theorem mostT_ge : ∀ n, 6 ≤ mostT n
  | 0 => Int.le_refl _
  | n + 1 => by have := mostT_ge n; simp only [mostT]; omega
theorem fin2S {h₀ h : Heap} {L S : Addr} {oS oS' : Obj} {a b : Addr × Obj} {all news tl : Led} (N : News h₀ L h all) (ha : a ∈ all) (hb : b ∈ all) (hS : (S, oS) ∈ all) (hs : ∀ p ∈ news ++ tl, p ∈ all) (h1 : ∀ q ∈ news, (@LT.lt Nat _ q.1 b.1)) (h3 : (@LT.lt Nat _ S b.1)) (h2 : (@LT.lt Nat _ b.1 a.1))
    (ho : ∀ q ∈ news, ∀ p ∈ tl, q.1 ≠ p.1) (hn : ∀ p ∈ tl, p.1 ≠ S) : News h₀ L h ((S, oS) :: (news ++ (tl ++ [a, b]))) ∧ (∀ q ∈ (S, oS') :: news, ∀ p ∈ tl ++ [a, b], q.1 ≠ p.1) := by
  refine ⟨news_sub N fun p hp => ?_, fun q hq p hp => ?_⟩
  · rcases List.mem_cons.mp hp with rfl | hp
    · exact hS
    · rw [← List.append_assoc] at hp
      rcases List.mem_append.mp hp with hp | hp
      · exact hs p hp
      · simp only [List.mem_cons, List.not_mem_nil, or_false] at hp
        rcases hp with rfl | rfl
        · exact ha
        · exact hb
  · have key : (@LT.lt Nat _ q.1 b.1) := by
      rcases List.mem_cons.mp hq with rfl | hq
      · exact h3
      · exact h1 q hq
    rcases List.mem_append.mp hp with hp | hp
    · rcases List.mem_cons.mp hq with rfl | hq
      · exact (hn p hp).symm
      · exact ho q hq p hp
    · simp only [List.mem_cons, List.not_mem_nil, or_false] at hp
      rcases hp with rfl | rfl
      · exact Nat.ne_of_lt (Nat.lt_trans key h2)
      · exact Nat.ne_of_lt key
theorem ord_tl {S : Addr} {oS : Obj} {news all tl : Led} {a : Addr × Obj} (hl : ∀ q ∈ all, ∀ p ∈ tl, q.1 ≠ p.1) (hs : ∀ q ∈ (S, oS) :: news, ∃ q' ∈ all, q'.1 = q.1) (h1 : ∀ q ∈ news, (@LT.lt Nat _ q.1 a.1)) (h3 : (@LT.lt Nat _ S a.1)) : ∀ q ∈ (S, oS) :: news, ∀ p ∈ tl ++ [a], q.1 ≠ p.1 := fun q hq p hp => by
  rcases List.mem_append.mp hp with hp | hp
  · obtain ⟨q', h, e⟩ := hs q hq
    rw [← e]; exact hl q' h p hp
  · rw [List.mem_singleton.mp hp]
    rcases List.mem_cons.mp hq with rfl | hq
    · exact Nat.ne_of_lt h3
    · exact Nat.ne_of_lt (h1 q hq)
theorem src_same {S : Addr} {oS oS' : Obj} {x : Addr × Obj} {news : Led} : ∀ q ∈ (S, oS) :: news, ∃ q' ∈ x :: (S, oS') :: news, q'.1 = q.1 := fun q hq => by
  rcases List.mem_cons.mp hq with rfl | hq
  · exact ⟨_, .tail _ (.head _), rfl⟩
  · exact ⟨q, .tail _ (.tail _ hq), rfl⟩
theorem keepX {x : Addr × Obj} {r b : Led} (hx : notT x.2) (hr : ∀ p ∈ r, p ∈ b ∨ notT p.2) : ∀ p ∈ x :: r, p ∈ b ∨ notT p.2 := fun p hp => by
  rcases List.mem_cons.mp hp with rfl | hp
  · exact .inr hx
  · exact hr p hp
theorem keepY {x : Addr × Obj} {r b : Led} (hx : x ∈ b) (hr : ∀ p ∈ r, p ∈ b ∨ notT p.2) : ∀ p ∈ x :: r, p ∈ b ∨ notT p.2 := fun p hp => by
  rcases List.mem_cons.mp hp with rfl | hp
  · exact .inl hx
  · exact hr p hp
theorem CTurn.oneS {h₀ h' : Heap} {L I C D S : Addr} {m : Str → Option Value} {s₁ : Shared} {oI oC oD oS oS' : Obj} {R : Value → Led → Prop} {y : Value} {tk : Nat} {a x : Addr × Obj} {news tl' : Led} (F : Fr h₀ L h' m) (N : News h₀ L h' (a :: (I, oI) :: (C, oC) :: (D, oD) :: x :: (S, oS) :: (news ++ tl')))
    (l : (@LT.lt Nat _ I a.1) ∧ (@LT.lt Nat _ C a.1) ∧ (@LT.lt Nat _ D a.1) ∧ (@LT.lt Nat _ x.1 a.1) ∧ (@LT.lt Nat _ S a.1) ∧ AllLt a.1 (news ++ tl')) (off : ∀ p ∈ x :: (S, oS') :: (news ++ tl'), p.1 ≠ I ∧ p.1 ≠ C ∧ p.1 ≠ D) (r : R y (x :: (S, oS) :: (news ++ (tl' ++ [a])))) : CTurn h₀ L m s₁ I oI C oC D oD R y { s₁ with heap := h', toks := tk } := by
  refine CTurn.intro F N _ (fun p hp => ?_) (fun p hp => ?_) r
  · simp only [List.mem_cons, List.mem_append, List.not_mem_nil, or_false] at hp ⊢
    rcases hp with h | h | h | h | h | h | h | h <;> simp only [h, true_or, or_true]
  · rcases List.mem_cons.mp hp with rfl | hp
    · exact off _ (.head _)
    · rcases List.mem_cons.mp hp with rfl | hp
      · exact off (S, oS') (.tail _ (.head _))
      · rw [← List.append_assoc] at hp
        rcases List.mem_append.mp hp with hp | hp
        · exact off _ (.tail _ (.tail _ hp))
        · rw [List.mem_singleton.mp hp]
          exact ⟨Nat.ne_of_gt l.1, Nat.ne_of_gt l.2.1, Nat.ne_of_gt l.2.2.1⟩
noncomputable def HaltMk : Prop := True
local macro_rules | `(tactic| walk_at "execs cons") => `(tactic| (k_here; (with_reducible show wpAny _ _ (execs (Stmt.If (Expr.Compare (Expr.Name (Str.ofString "way") _) _ _ _) _ _ _ :: _) _) _ _ _); (rename HaltMk => hM9); k_dflt (refine Halt.mk ?_)))
theorem src_ord {S : Addr} {o o' : Obj} {news tl : Led} (h : ∀ q ∈ (S, o) :: news, ∀ p ∈ tl, q.1 ≠ p.1) : ∀ q ∈ (S, o') :: news, ∀ p ∈ tl, q.1 ≠ p.1 := fun q hq p hp => by
  rcases List.mem_cons.mp hq with rfl | hq
  · exact h (S, o) (.head _) p hp
  · exact h q (.tail _ hq) p hp
theorem drop_cell {h₀ h : Heap} {L : Addr} {x : Addr × Obj} {r : Led} (N : News h₀ L h (x :: r)) : News h₀ L h r := news_sub N fun _ hp => .tail _ hp
theorem leaf_newsB {h₀ h : Heap} {L : Addr} {a b x : Addr × Obj} {news : Led} (N : News h₀ L h (a :: b :: x :: news)) : News h₀ L h (b :: x :: (news ++ [a])) := news_sub N fun p hp => by
  rcases List.mem_cons.mp hp with rfl | hp
  · exact .tail _ (.head _)
  · rcases List.mem_cons.mp hp with rfl | hp
    · exact .tail _ (.tail _ (.head _))
    · rcases List.mem_append.mp hp with hp | hp
      · exact .tail _ (.tail _ (.tail _ hp))
      · rw [List.mem_singleton.mp hp]; exact .head _
theorem leaf_news2B {h₀ h : Heap} {L : Addr} {a b d x : Addr × Obj} {news : Led} (N : News h₀ L h (a :: d :: b :: x :: news)) : News h₀ L h (b :: x :: (news ++ [a])) := leaf_newsB (news_sub N fun p hp => by
  rcases List.mem_cons.mp hp with rfl | hp
  · exact .head _
  · exact .tail _ (.tail _ hp))
/-- the row behind the first draw, a leaf drawn -/
theorem add_cell {h₀ h : Heap} {L : Addr} {x : Addr × Obj} {all r : Led} (N : News h₀ L h all) (m : x ∈ all) (n : News h₀ L h r) : News h₀ L h (x :: r) := fun p hp => by
  rcases List.mem_cons.mp hp with rfl | hp
  · exact N _ m
  · exact n _ hp
theorem law_tree_rest (w : World) (c : Addr) (vs : List Value) (ns : List Int) (n0 : Nat) (hns : IntsAre vs ns) (h0 : 0 < vs.length) (h63 : vs.length ≤ 63) (n : Nat) {prog : Program} {loose : List Str} {mean : ExcName → Option Value} {mg mb : Str → Option Value} {dp un : Nat} {gd : Option (List Code)} {cn : Str} {cs : Scope} {a L1 : Addr} {ccd : Value} {cl : List (Str × Addr)} {outer : List Env} {base h₀ : Heap} {L : Addr} {mp : Str → Option Value} {o : Obj} {news : Led} {s : Shared} {S : Addr} {at_ x : Int} {ta tx : Tok} {k : Nat} {Q : Flow → Shared → Prop} {E : Value → Shared → Prop}
    (B : Below (ktrTop dp un gd cn cs L1 a ccd cl outer) base (envX cn cs L1 a ccd cl :: outer) h₀) (F : Fr h₀ L s.heap (fun y => if y = Str.ofString "way" then some (.int x tx) else mp y)) (X : (Kc w.params).In h₀)
    (N : News h₀ L s.heap ((L + 1, o) :: (S, listOf #[.ref c, .int at_ ta] k) :: news)) (T : Top topProg loose mean mg mb h₀) (d1 : o.data = .cell (some (.ref S))) (hS : ∀ p ∈ news, p.1 ≠ S) (hc : (c, listOf vs.toArray n0) ∈ news) (hcS : c ≠ S) (hSL : (@LT.lt Nat _ S L))
    (hd : dp + 6 < recursionLimit) (hu : un + 8 * 6 < cLine) (hat : 0 ≤ at_) (hmost : at_ + 5 < 10000) (hlo : 0 ≤ x) (hhi : x < 7)
    (hret : ∀ r tl h' tk' at' ta' k' m', Fr h₀ L h' m' → News h₀ L h' ((L + 1, o) :: (S, listOf #[.ref c, .int at' ta'] k') :: (news ++ tl)) → (∀ q ∈ (S, listOf #[.ref c, .int at_ ta] k) :: news, ∀ p ∈ tl, q.1 ≠ p.1) → at_ ≤ at' → at' ≤ at_ + 5 → (Ex1 fun t => An3 (TrIn (news ++ tl) r t) (t.high ≤ n) (t.size < 2 ^ (n + 1))) → Q (.ret r) { s with heap := h', toks := tk' }) :
    wpAny (model prog w) ((ktrTop dp un gd cn cs L1 a ccd cl outer).deeper (envOfC (Str.ofString "_law_tree") S862 L 862 (.ref 861))) (execs (B862.drop 1) (envOfC (Str.ofString "_law_tree") S862 L 862 (.ref 861))) Q E s := by
  kpc_turns
  · skip
    rename News h₀ L _ _ => kN9
    rename (_ < _ ∧ _) => l2
    refine hret _ [_] _ _ _ _ _ _ (by k_asm) (leaf_newsB kN9) (leaf_ord l2.2.1 l2.2.2) (by omega) (by omega) ⟨_, .all lastA, Nat.zero_le _, one_lt _⟩
  · skip
    rename News h₀ L _ _ => kN9
    rename (_ < _ ∧ _) => l2
    refine hret _ [_] _ _ _ _ _ _ (by k_asm) (leaf_newsB kN9) (leaf_ord l2.2.1 l2.2.2) (by omega) (by omega) ⟨_, .flag lastA (by first | exact .inl rfl | exact .inr (.inl rfl) | exact .inr (.inr rfl)), Nat.zero_le _, one_lt _⟩
  · skip
    rename News h₀ L _ _ => kN9
    rename (_ < _ ∧ _) => l2
    refine hret _ [_] _ _ _ _ _ _ (by k_asm) (leaf_newsB kN9) (leaf_ord l2.2.1 l2.2.2) (by omega) (by omega) ⟨_, .flag lastA (by first | exact .inl rfl | exact .inr (.inl rfl) | exact .inr (.inr rfl)), Nat.zero_le _, one_lt _⟩
  · skip
    rename News h₀ L _ _ => kN9
    rename (_ < _ ∧ _) => l2
    refine hret _ [_] _ _ _ _ _ _ (by k_asm) (leaf_newsB kN9) (leaf_ord l2.2.1 l2.2.2) (by omega) (by omega) ⟨_, .flag lastA (by first | exact .inl rfl | exact .inr (.inl rfl) | exact .inr (.inr rfl)), Nat.zero_le _, one_lt _⟩
  · refine Halt.go ?_
    rename (¬ _ < (3 : Int)) => h3
    rename (_ < (5 : Int)) => h5
    rename IsRange _ _ _ _ _ _ _ _ => hrg
    rename News _ _ _ _ => N7
    refine LCg.CompSrc.range (by rfl) (by k_asm) N7 (by assumption) (small_one (by omega) (by omega) (by omega) (by omega)) (rangeSize_nat _ _) (by rw [sizeLine_eq]; omega) ?_
    intro g9
    refine compU (fun i ys nx => Ex5 fun at5 ta5 k5 tl' ps => An7 (nx = (_, _) :: (S, W.listOf #[.ref c, .int at5 ta5] k5) :: (news ++ tl')) (at_ ≤ at5) (at5 ≤ at_ + 1 + 2 * (i : Int)) ((∀ p ∈ news ++ tl', p.1 ≠ S)) ((∀ q ∈ news, ∀ p ∈ tl', q.1 ≠ p.1)) (DatAll (news ++ tl') ys (ps.map pairD)) (ys.length = i)) (fun _ _ _ _ => trivial) ⟨_, _, _, [], [], by rw [List.append_nil], by omega, by omega, by rw [List.append_nil]; exact hS, ord0, .nil, rfl⟩ ?_ ?_
    · rintro i v ys nx I oI C oC D m₂ h tk E' q9 hq9 hi hv ⟨at5, ta5, k5, tl', ps, rfl, ha5, hb5, hS5, ho5, hd5, hy5⟩ hC hx F₁ N₁ off hne3
      obtain ⟨tv, rfl⟩ := hv
      obtain ⟨hIS, hCS, hDS⟩ := off (S, _) (.tail _ (.head _))
      have hIS : (@Ne Nat S I) := hIS
      have hCS : (@Ne Nat S C) := hCS
      have hDS : (@Ne Nat S D) := hDS
      have hi2 : (i : Int) < 2 := i_two (by assumption) hi
      kpc_turns
      rename (_ < _ ∧ _) => l2
      rename News _ _ _ (_ :: (I, oI) :: _) => kN9
      refine CTurn.oneS (by k_asm) kN9 l2 off ⟨_, _, _, tl' ++ [_], ps ++ [(_, _)], rfl, by omega, by omega, off_one hS5 l2.2.2.2.2.1, ord_one ho5 l2.2.2.2.2.2, pairs_snoc hd5, by rw [List.length_append, hy5]; rfl⟩
    · rintro ys nx ⟨at5, ta5, k5, tl', ps, rfl, ha5, hb5, hS5, ho5, hd5, hy5⟩
      intro D h tk F₁ N₁ off
      have hyl : ys.length ≤ 2 := by rw [hy5]; omega
      have hb6 : at5 ≤ at_ + 5 := by omega
      clear hb5 hy5
      kpc_turns
      rcases split34 h3 h5 with rfl | rfl
      · kpc_turns
        rename News h₀ L _ _ => kN9
        rename (_ < _ ∧ _ < _ ∧ _) => l2
        rename (∀ p ∈ (D, LCg.lst ys) :: _, p.1 < _) => l1
        obtain ⟨n1, n2⟩ := fin2S (S := S) (oS := W.listOf #[.ref c, .int at5 ta5] k5) (oS' := W.listOf #[.ref c, .int at_ ta] k) (a := (_, _)) (b := (_, tup ys 0)) (news := news) (tl := tl') kN9 (.head _) (by lsm_bools) (by lsm_bools) (by kxs_still) (fun q hq => l1 q (.tail _ (.tail _ (.tail _ (List.mem_append.mpr (.inl hq)))))) (l1 _ (.tail _ (.tail _ (.head _)))) l2.2.1 ho5 (fun p hp => hS5 p (List.mem_append.mpr (.inr hp)))
        refine hret _ (tl' ++ [_, _]) _ _ _ _ _ _ (by k_asm) (add_cell kN9 (by lsm_bools) n1) n2 (by omega) (by omega) ⟨_, .seq last2a (some_of last2b (DatAll.mono sub_two hd5)), Nat.zero_le _, one_lt _⟩
      · kpc_turns
        rename News h₀ L _ _ => kN9
        rename (_ < _ ∧ _ < _ ∧ _) => l2
        rename (∀ p ∈ (D, LCg.lst ys) :: _, p.1 < _) => l1
        obtain ⟨n1, n2⟩ := fin2S (S := S) (oS := W.listOf #[.ref c, .int at5 ta5] k5) (oS' := W.listOf #[.ref c, .int at_ ta] k) (a := (_, _)) (b := (_, tup ys 0)) (news := news) (tl := tl') kN9 (.head _) (by lsm_bools) (by lsm_bools) (by kxs_still) (fun q hq => l1 q (.tail _ (.tail _ (.tail _ (List.mem_append.mpr (.inl hq)))))) (l1 _ (.tail _ (.tail _ (.head _)))) l2.2.1 ho5 (fun p hp => hS5 p (List.mem_append.mpr (.inr hp)))
        refine hret _ (tl' ++ [_, _]) _ _ _ _ _ _ (by k_asm) (add_cell kN9 (by lsm_bools) n1) n2 (by omega) (by omega) ⟨_, .uid last2a (some_of last2b (DatAll.mono sub_two hd5)), Nat.zero_le _, one_lt _⟩
  · rename (_ < (2 : Int)) => h2
    rcases split01 (by assumption) h2 with rfl | rfl
    · kpc_turns
      rename News h₀ L _ _ => kN9
      rename (_ < _ ∧ _) => l2
      refine hret _ [_] _ _ _ _ _ _ (by k_asm) (leaf_news2B kN9) (leaf_ord l2.2.2.1 l2.2.2.2) (by omega) (by omega) ⟨_, .larger lastA, Nat.zero_le _, one_lt _⟩
    · kpc_turns
      rename News h₀ L _ _ => kN9
      rename (_ < _ ∧ _) => l2
      refine hret _ [_] _ _ _ _ _ _ (by k_asm) (leaf_news2B kN9) (leaf_ord l2.2.2.1 l2.2.2.2) (by omega) (by omega) ⟨_, .smaller lastA, Nat.zero_le _, one_lt _⟩
  · skip
    rename News h₀ L _ _ => kN9
    rename (_ < _ ∧ _) => l2
    refine hret _ [_] _ _ _ _ _ _ (by k_asm) (leaf_newsB kN9) (leaf_ord l2.2.1 l2.2.2) (by omega) (by omega) ⟨_, .modseq lastA, Nat.zero_le _, one_lt _⟩
  · exfalso; omega
theorem law_tree_zero (w : World) (c : Addr) (vs : List Value) (ns : List Int) (n0 : Nat) (hns : IntsAre vs ns) (h0 : 0 < vs.length) (h63 : vs.length ≤ 63) : DrawsT w c vs n0 0 := by
  unfold DrawsT Draws
  intro prog loose mean mg mb dp un gd cn cs a ccd cl outer A₀ base h₀ L m news s S at_ ta k as Q E B F X N hS T hk hd hu hat hmost hR hret
  obtain ⟨hc, t, rfl⟩ := hR
  have hcS : c ≠ S := hS _ hc
  simp only [mostT] at hmost hret
  refine wpAny_call ?_
  walk_at "my_enterC"
  rename (∀ p ∈ (S, _) :: news, p.1 < _) => hl1
  have hSL : (@LT.lt Nat _ S _) := hl1 _ (.head _)
  have hM : HaltMk := trivial
  kpc_turns
  refine Halt.go ?_
  refine law_tree_rest w c vs ns n0 hns h0 h63 0 (by k_asm) (by k_asm) (by k_asm) (by k_asm) (by k_asm) (by k_asm) hS hc hcS hSL (room2 hd (by decide)) (room2 hu (by decide)) (by omega) (by omega) (by omega) (by omega) ?_
  intro r5 tl5 h5 tk5 at5 ta5 k5 m5 F5 N5 ho5 ha5 hb5 hP5
  kpc_turns
  rename News h₀ L _ _ => kN9
  refine hret _ tl5 _ _ _ _ _ (by k_asm) (drop_cell kN9) (src_ord ho5) (by omega) (by omega) hP5
section S_c23
theorem eq_no_int {prog : Program} {w : World} {A : Around} {E : Value → Shared → Prop} {s : Shared} {a b : Int} {t u : Tok} {Q : Value → Shared → Prop} (h : a ≠ b) (k : Q (.bool false) s) : wpAny (model prog w) A (compareOp .Eq (.int a t) (.int b u)) Q E s := PyProof.Rows.eq_int (by rw [beq_false_of_ne h]; exact k)
local macro_rules | `(tactic| walk_at "compareOp Eq int int") => `(tactic| (k_here; with_reducible refine eq_no_int (by assumption) ?_))
theorem split89w {x : Int} (h0 : x ≠ 7) (h1 : ¬ x < 7) (h2 : x < 10) : x = 8 ∨ x = 9 := by omega
theorem ge7 {x : Int} (h : ¬ x < 7) : x ≠ 0 ∧ x ≠ 5 ∧ x ≠ 6 := by omega
theorem lt7 {x : Int} (_ : x < 10) : x < 7 ∨ ¬ x < 7 := Decidable.em _
theorem ord_app' {n a b : Led} (h : ∀ q ∈ n, ∀ p ∈ a, q.1 ≠ p.1) (g : ∀ q ∈ n, ∀ p ∈ b, q.1 ≠ p.1) : ∀ q ∈ n, ∀ p ∈ a ++ b, q.1 ≠ p.1 := fun q hq p hp => (List.mem_append.mp hp).elim (h q hq p) (g q hq p)
theorem ord_sub' {n all tl : Led} (h : ∀ q ∈ all, ∀ p ∈ tl, q.1 ≠ p.1) (s : ∀ q ∈ n, q ∈ all) : ∀ q ∈ n, ∀ p ∈ tl, q.1 ≠ p.1 := fun q hq => h q (s q hq)
theorem law_tree_succ (w : World) (c : Addr) (vs : List Value) (ns : List Int) (n0 : Nat) (hns : IntsAre vs ns) (h0 : 0 < vs.length) (h63 : vs.length ≤ 63) (n : Nat) (hn3 : n + 1 ≤ 3) (ih : DrawsT w c vs n0 n) : DrawsT w c vs n0 (n + 1) := by
  unfold DrawsT Draws
  intro prog loose mean mg mb dp un gd cn cs a ccd cl outer A₀ base h₀ L m news s S at_ ta k as Q E B F X N hS T hk hd hu hat hmost hR hret
  obtain ⟨hc, t, rfl⟩ := hR
  have hcS : c ≠ S := hS _ hc
  have hm6 := mostT_ge n
  simp only [mostT] at hmost hret
  refine wpAny_call ?_
  walk_at "my_enterC"
  rename (∀ p ∈ (S, _) :: news, p.1 < _) => hl1
  have hSL : (@LT.lt Nat _ S _) := hl1 _ (.head _)
  have hM : HaltMk := trivial
  kpc_turns
  refine Halt.go ?_
  rename (_ < (10 : Int)) => h10w
  rcases lt7 h10w with h7w | h7w
  · refine law_tree_rest w c vs ns n0 hns h0 h63 (n + 1) (by k_asm) (by k_asm) (by k_asm) (by k_asm) (by k_asm) (by k_asm) hS hc hcS hSL (room2 hd (by omega)) (room2 hu (by omega)) (by omega) (by omega) (by omega) h7w ?_
    intro r5 tl5 h5 tk5 at5 ta5 k5 m5 F5 N5 ho5 ha5 hb5 hP5
    kpc_turns
    rename News h₀ L _ _ => kN9
    refine hret _ tl5 _ _ _ _ _ (by k_asm) (drop_cell kN9) (src_ord ho5) (by omega) (by omega) hP5
  · rename HaltMk => hM9
    clear hM9
    obtain ⟨h0w, h5w, h6w⟩ := ge7 h7w
    kpc_turns
    · rename News h₀ L _ _ => kN9
      rename TrIn _ _ _ => ht1
      rename (∀ q : Addr × Obj, q ∈ (_ : Led) → ∀ p : Addr × Obj, p ∈ (_ : Led) → q.1 ≠ p.1) => hl1'
      rename (_ < _ ∧ _) => l2
      rename (Tr.high _ ≤ n) => hh1
      rename (Tr.size _ < _) => hs1
      refine hret _ (_ ++ [_]) _ _ _ _ _ (by k_asm) (by rw [← List.append_assoc]; exact leaf_news kN9) (ord_tl hl1' src_same (fun q hq => lt_of_all l2.2.2 (List.mem_append.mpr (.inl hq))) l2.2.1) (by omega) (by omega) ⟨_, .not last1 (ht1.keep (keepX (notT_cell (by assumption)) (keepX notT_list fun p hp => .inl (mem_more hp)))), Nat.succ_le_succ hh1, ?_⟩
      have e2 : 2 ^ (n + 1 + 1) = 2 ^ (n + 1) * 2 := Nat.pow_succ ..
      simp only [Tr.size]
      omega
    · rename (_ < (10 : Int)) => h10
      rename (_ ≠ (7 : Int)) => h7
      rename (_ < _ ∧ _) => lt
      rcases split89w h7 h7w h10 with rfl | rfl
      · kpc_turns
        rename News h₀ L _ _ => kN9
        rename (_ < _ ∧ _ < _ ∧ _) => l2
        rename TrIn _ _ _ => ht2
        revert ht2
        rename TrIn _ _ _ => ht1
        intro ht2
        rename (∀ q : Addr × Obj, q ∈ (_ : Led) → ∀ p : Addr × Obj, p ∈ (_ : Led) → q.1 ≠ p.1) => hb'
        revert hb'
        rename (∀ q : Addr × Obj, q ∈ (_ : Led) → ∀ p : Addr × Obj, p ∈ (_ : Led) → q.1 ≠ p.1) => ha'
        intro hb'
        have ho := ord_app' (ord_sub' ha' (n := news) fun q hq => .tail _ (.tail _ (.tail _ hq))) (ord_sub' hb' (n := news) fun q hq => .tail _ (.tail _ (.tail _ (List.mem_append.mpr (.inl hq)))))
        have hn := all_app (off_tl ha' (.tail _ (.tail _ (.head _)))) (off_tl hb' (.tail _ (.tail _ (.head _))))
        obtain ⟨n1, n2⟩ := fin2S (S := S) (oS' := W.listOf #[.ref c, .int at_ ta] k) (a := (_, _)) (b := (_, _)) kN9 (.head _) (.tail _ (.head _)) (.tail _ (.tail _ (.tail _ (.head _)))) (by kxs_still) (fun q hq => lt_of_all lt.2.2 hq) lt.2.1 l2.1 ho hn
        refine hret _ ((_ ++ _) ++ [_, _]) _ _ _ _ _ (by k_asm) n1 n2 (by omega) (by omega) ⟨_, .and last2a (ht1.keep (keepY last2b (keepX (notT_cell (by assumption)) (keepX notT_list fun p hp => .inl (mem_more (mem_more hp)))))) (ht2.keep (keepY last2b (keepX (notT_cell (by assumption)) (keepX notT_list fun p hp => .inl (mem_more hp))))), ?_, ?_⟩
        · simp only [Tr.high]; omega
        · have e2 : 2 ^ (n + 1 + 1) = 2 ^ (n + 1) * 2 := Nat.pow_succ ..
          simp only [Tr.size]
          omega
      · kpc_turns
        rename News h₀ L _ _ => kN9
        rename (_ < _ ∧ _ < _ ∧ _) => l2
        rename TrIn _ _ _ => ht2
        revert ht2
        rename TrIn _ _ _ => ht1
        intro ht2
        rename (∀ q : Addr × Obj, q ∈ (_ : Led) → ∀ p : Addr × Obj, p ∈ (_ : Led) → q.1 ≠ p.1) => hb'
        revert hb'
        rename (∀ q : Addr × Obj, q ∈ (_ : Led) → ∀ p : Addr × Obj, p ∈ (_ : Led) → q.1 ≠ p.1) => ha'
        intro hb'
        have ho := ord_app' (ord_sub' ha' (n := news) fun q hq => .tail _ (.tail _ (.tail _ hq))) (ord_sub' hb' (n := news) fun q hq => .tail _ (.tail _ (.tail _ (List.mem_append.mpr (.inl hq)))))
        have hn := all_app (off_tl ha' (.tail _ (.tail _ (.head _)))) (off_tl hb' (.tail _ (.tail _ (.head _))))
        obtain ⟨n1, n2⟩ := fin2S (S := S) (oS' := W.listOf #[.ref c, .int at_ ta] k) (a := (_, _)) (b := (_, _)) kN9 (.head _) (.tail _ (.head _)) (.tail _ (.tail _ (.tail _ (.head _)))) (by kxs_still) (fun q hq => lt_of_all lt.2.2 hq) lt.2.1 l2.1 ho hn
        refine hret _ ((_ ++ _) ++ [_, _]) _ _ _ _ _ (by k_asm) n1 n2 (by omega) (by omega) ⟨_, .or last2a (ht1.keep (keepY last2b (keepX (notT_cell (by assumption)) (keepX notT_list fun p hp => .inl (mem_more (mem_more hp)))))) (ht2.keep (keepY last2b (keepX (notT_cell (by assumption)) (keepX notT_list fun p hp => .inl (mem_more hp))))), ?_, ?_⟩
        · simp only [Tr.high]; omega
        · have e2 : 2 ^ (n + 1 + 1) = 2 ^ (n + 1) * 2 := Nat.pow_succ ..
          simp only [Tr.size]
          omega
end S_c23
section S_c25
noncomputable def stepL (ps : List (Int × Int)) (n : Int) : List (Int × Int) := match ps.getLast? with
  | some p => if p.2 + 1 = n then ps.dropLast ++ [(p.1, n)] else ps ++ [(n, n)]
  | none => ps ++ [(n, n)]
noncomputable def runsF (ns : List Int) : List (Int × Int) := ns.foldl stepL []
noncomputable abbrev dRuns (ns : List Int) : Dat := .tuple [.str wALL, .tuple ((runsF ns).map pairD)]
noncomputable def lpD (ns : List Int) (ws : List Str) (mq : Int) : List Dat :=
  cond (!ns.isEmpty && hasW ws wMIN) (dMin ns) ++ cond (!ns.isEmpty && hasW ws wMAX) (dMax ns) ++ cond (!ns.isEmpty && (hasW ws wALL || ws.isEmpty)) (dRuns ns) ++ cond (hasW ws wCOUNT) (dCount ns) ++ cond (decide (mq > 0)) (.tuple [.str (Str.ofString "MODSEQ"), .int mq])
theorem my_neSnoc' {prog : Program} {w : World} {A : Around} {E : Value → Shared → Prop} {s : Shared} {h₀ : Heap} {L : Addr} {news : Led} {a b : Addr} {l : List Value} {x : Value} {k n : Nat} {Q : Value → Shared → Prop} (N : News h₀ L s.heap news) (hm : (a, listOf (l ++ [x]).toArray k) ∈ news) (hb : (b, listOf #[] n) ∈ news) (hu : A.units < cLine) (h : Q (.bool true) s) :
    wpAny (model prog w) A (compareOp .NotEq (.ref a) (.ref b)) Q E s := by
  refine my_neNil N hm hb hu ?_
  have e : (l ++ [x]).isEmpty = false := by simp
  rw [e]; exact h
section
variable {prog : Program} {w : World} {A : Around} {E : Value → Shared → Prop} {s : Shared} {h₀ : Heap} {L : Addr} {news : Led}
theorem my_eqTnil {a b : Addr} {l : List Value} {k n : Nat} {Q : Value → Shared → Prop} (N : News h₀ L s.heap news) (hm : (a, tup l k) ∈ news) (hb : (b, tup [] n) ∈ news) (hu : A.units < cLine) (h : Q (.bool l.isEmpty) s) :
    wpAny (model prog w) A (compareOp .Eq (.ref a) (.ref b)) Q E s := by
  refine cmp_ofEq (SeqAt.RcAt.tuples (l := a) (b := b) (items := l.toArray) (items2 := #[]) (e := fun _ => true) ⟨_, (N _ hm).1, rfl, _, rfl⟩ ⟨_, (N _ hb).1, rfl, _, rfl⟩ hu (fun j _ h2 => absurd h2 (Nat.not_lt_zero _)) prog w E Q ?_)
  have e : ((List.range (min l.toArray.size (#[] : Array Value).size)).all (fun _ => true) && l.toArray.size == (#[] : Array Value).size) = l.isEmpty := by cases l <;> simp
  rw [e]; exact h
theorem my_at0 {value slice : PySem.Expr} {a : Addr} {x : Value} {l : List Value} {n : Nat} {u : Tok} {Q : Value → Shared → Prop}
    (hs : subscripted slice false (.ref a) (.int 0 u) = operate [.ref a, .int 0 u] (getItem (.ref a) (.int 0 u))) (N : News h₀ L s.heap news) (hm : (a, listOf (x :: l).toArray n) ∈ news) (h : Q x s) :
    wpAny (model prog w) A (subscriptTail value slice (.ref a) (.int 0 u)) Q E s := by
  have hl := News.isList N hm
  exact tail_any hl.typeIs slot_list_getitem.lookup (wpAny_getItem_list hl (by decide) (by decide) (by rfl) h) hs
theorem my_lastG {value slice : PySem.Expr} {a : Addr} {l : List Value} {x : Value} {n : Nat} {u : Tok} {Q : Value → Shared → Prop}
    (hs : subscripted slice false (.ref a) (.int (-1) u) = operate [.ref a, .int (-1) u] (getItem (.ref a) (.int (-1) u))) (N : News h₀ L s.heap news) (hm : (a, listOf l.toArray n) ∈ news) (hx : l.getLast? = some x) (h : Q x s) :
    wpAny (model prog w) A (subscriptTail value slice (.ref a) (.int (-1) u)) Q E s := by
  obtain ⟨ys, rfl⟩ := List.getLast?_eq_some_iff.mp hx
  exact my_lastL hs N hm h
end
theorem ints_last {vs : List Value} {ns : List Int} (h : IntsAre vs ns) : ns ≠ [] → ∃ t, vs.getLast? = some (.int (ns.getLastD 0) t) := by
  induction h with
  | nil => intro h; exact absurd rfl h
  | cons x t h ih =>
    intro _
    cases h with
    | nil => exact ⟨t, rfl⟩
    | cons y u h' =>
      obtain ⟨t', e⟩ := ih (by simp)
      exact ⟨t', by simpa using e⟩
theorem stepL_in {ps : List (Int × Int)} {p : Int × Int} {n : Int} (h : p.2 + 1 = n) : stepL (ps ++ [p]) n = ps ++ [(p.1, n)] := by simp [stepL, h]
theorem stepL_out {ps : List (Int × Int)} {p : Int × Int} {n : Int} (h : ¬p.2 + 1 = n) : stepL (ps ++ [p]) n = ps ++ [p] ++ [(n, n)] := by simp [stepL, h]
theorem foldL_snoc {ns : List Int} {i : Nat} {x : Int} (h : ns[i]? = some x) : (ns.take (i + 1)).foldl stepL [] = stepL ((ns.take i).foldl stepL []) x := by
  rw [take_snoc h, List.foldl_append]; rfl
theorem fin2N {h₀ h : Heap} {L : Addr} {a b : Addr × Obj} {all news tl : Led} (N : News h₀ L h all) (ha : a ∈ all) (hb : b ∈ all) (hs : ∀ p ∈ news ++ tl, p ∈ all) (h1 : AllLt b.1 (news ++ tl)) (h2 : (@LT.lt Nat _ b.1 a.1)) (ho : ∀ q ∈ news, ∀ p ∈ tl, q.1 ≠ p.1) :
    News h₀ L h (news ++ (tl ++ [a, b])) ∧ (∀ q ∈ news, ∀ p ∈ tl ++ [a, b], q.1 ≠ p.1) := by
  refine ⟨news_sub N fun p hp => ?_, fun q hq p hp => ?_⟩
  · rw [← List.append_assoc] at hp
    rcases List.mem_append.mp hp with hp | hp
    · exact hs p hp
    · simp only [List.mem_cons, List.not_mem_nil, or_false] at hp
      rcases hp with rfl | rfl
      · exact ha
      · exact hb
  · rcases List.mem_append.mp hp with hp | hp
    · exact ho q hq p hp
    · have h3 := lt_of_all h1 (List.mem_append.mpr (.inl hq))
      simp only [List.mem_cons, List.not_mem_nil, or_false] at hp
      rcases hp with rfl | rfl
      · exact Nat.ne_of_lt (Nat.lt_trans h3 h2)
      · exact Nat.ne_of_lt h3
theorem named {P : Addr} {news : Led} (h : ∀ p ∈ news, p.1 < P) : Ex1 fun (Q : Addr) => An2 ((∀ p ∈ news, p.1 < Q)) (Q = P) := ⟨P, h, rfl⟩
theorem namedA {P : Addr} {news : Led} (h : AllLt P news) : Ex1 fun (Q : Addr) => An2 (AllLt Q news) (Q = P) := ⟨P, h, rfl⟩
theorem drop2 {h₀ h : Heap} {L : Addr} {a b : Addr × Obj} {r : Led} (N : News h₀ L h (a :: b :: r)) : News h₀ L h (a :: r) := news_sub N fun p hp => by
  rcases List.mem_cons.mp hp with rfl | hp
  · exact .head _
  · exact .tail _ (.tail _ hp)
theorem MapIn.inner {l stored : List Str} {m₀ m u : Str → Option Value} (hl : ∀ z, stored.contains z = false → l.contains z = false) (h : MapIn stored m₀ m) : MapIn stored m₀ (fun z => if l.contains z then u z else m z) := fun z hz => by
  simp only [hl z hz, Bool.false_eq_true, if_false]
  exact h z hz
noncomputable def JoinM (stored : List Str) (h₀ : Heap) (L : Addr) (m : Str → Option Value) (news : Led) (P : Addr) (ds : List Dat) (s₁ : Shared) (f : Flow) (s₂ : Shared) : Prop := Ex1 fun m' => An2 (MapIn stored m m') (Join h₀ L m' news P ds s₁ f s₂)
theorem join_atM {M : Model} {A : Around} {E : Value → Shared → Prop} {Q : Flow → Shared → Prop} {s : Shared} {h₀ : Heap} {L P : Addr} {m : Str → Option Value} {news : Led} {t : Sem Flow} (stored : List Str) (F : Fr h₀ L s.heap m) (hP : ∀ p ∈ news, p.1 ≠ P) (ds : List Dat) (h : ∀ q : Flow → Shared → Prop, (∀ f s', JoinM stored h₀ L m news P ds s f s' → q f s') → wpAny M A t q E s)
    (g : ∀ h' tk os k tl' (u : Str → Option Value), Fr h₀ L h' (fun z => if stored.contains z then u z else m z) → News h₀ L h' ((P, listOf os.toArray k) :: (news ++ tl')) → (∀ p ∈ news ++ tl', p.1 ≠ P) → (∀ q ∈ news, ∀ p ∈ tl', q.1 ≠ p.1) → DatAll (news ++ tl') os ds → Q .next { s with heap := h', toks := tk }) : wpAny M A t Q E s :=
  wpAny_mono (h _ fun _ _ x => x) (fun f s' x => by
    obtain ⟨m', hm, rfl, h', tk, os, k, tl', rfl, F', N', a, b, c⟩ := x
    rw [hm.eq] at F'
    exact g h' tk os k tl' m' F' N' a b c) fun _ _ e => e
theorem JoinM.same {stored : List Str} {h₀ : Heap} {L P : Addr} {m : Str → Option Value} {news : Led} {ds : List Dat} {s₁ : Shared} {f : Flow} {s₂ : Shared} (h : Join h₀ L m news P ds s₁ f s₂) : JoinM stored h₀ L m news P ds s₁ f s₂ := ⟨m, MapIn.refl, h⟩
theorem JoinM.of {stored : List Str} {h₀ : Heap} {L P : Addr} {m m' : Str → Option Value} {news : Led} {ds : List Dat} {s₁ : Shared} {f : Flow} {s₂ : Shared} (h : Join h₀ L m' news P ds s₁ f s₂) (hm : MapIn stored m m') : JoinM stored h₀ L m news P ds s₁ f s₂ := ⟨m', hm, h⟩
theorem two_names {a b z : Str} (h : [a, b].contains z = false) : [b].contains z = false := by
  simp only [List.contains_cons, List.contains_nil, Bool.or_eq_false_iff, Bool.or_false] at h ⊢
  exact h.2
theorem Join.runs {h₀ h' : Heap} {L P : Addr} {m : Str → Option Value} {news tl6 tl' : Led} {ds : List Dat} {s₁ : Shared} {os : List Value} {k tk : Nat} {a b c : Addr × Obj} {d : Dat} (F : Fr h₀ L h' m) (N : News h₀ L h' (a :: b :: c :: (P, listOf (os.toArray.push (.ref a.1)) k) :: (news ++ tl6 ++ tl'))) (hP6 : ∀ p ∈ news ++ tl6, p.1 ≠ P) (hPt : ∀ p ∈ tl', p.1 ≠ P)
    (ho6 : ∀ q ∈ news, ∀ p ∈ tl6, q.1 ≠ p.1) (hot : ∀ q ∈ news, ∀ p ∈ tl', q.1 ≠ p.1) (hPb : (@LT.lt Nat _ P b.1)) (hlb : ∀ q ∈ news, (@LT.lt Nat _ q.1 b.1)) (hab : (@LT.lt Nat _ b.1 a.1)) (hd : DatAll (news ++ tl6) os ds) (hv : DatIn (news ++ ((tl6 ++ tl') ++ [a, b])) (.ref a.1) d) : Join h₀ L m news P (ds ++ [d]) s₁ .next { s₁ with heap := h', toks := tk } := by
  rw [List.push_toArray] at N
  refine Join.intro F N (os ++ [.ref a.1]) k ((tl6 ++ tl') ++ [a, b]) (fun p hp => ?_) (fun p hp => ?_) (fun q hq p hp => ?_) ((DatAll.mono (fun _ h => mem_more (mem_more h)) hd).append (.cons hv .nil))
  · simp only [List.mem_cons, List.mem_append, List.not_mem_nil, or_false] at hp ⊢
    rcases hp with h | h | (h | h) | h | h <;> simp only [h, true_or, or_true]
  · rcases List.mem_append.mp hp with hp | hp
    · exact hP6 p (List.mem_append.mpr (.inl hp))
    · rcases List.mem_append.mp hp with hp | hp
      · exact (List.mem_append.mp hp).elim (fun h => hP6 p (List.mem_append.mpr (.inr h))) (hPt p)
      · simp only [List.mem_cons, List.not_mem_nil, or_false] at hp
        rcases hp with rfl | rfl
        · exact Nat.ne_of_gt (Nat.lt_trans hPb hab)
        · exact Nat.ne_of_gt hPb
  · rcases List.mem_append.mp hp with hp | hp
    · exact (List.mem_append.mp hp).elim (ho6 q hq p) (hot q hq p)
    · simp only [List.mem_cons, List.not_mem_nil, or_false] at hp
      rcases hp with rfl | rfl
      · exact Nat.ne_of_lt (Nat.lt_trans (hlb q hq) hab)
      · exact Nat.ne_of_lt (hlb q hq)
local macro_rules | `(tactic| walk_at "compareOp Eq ref ref") => `(tactic| tbr_iter my_eqTnil)
local macro_rules | `(tactic| walk_at "subscriptTail") => `(tactic| ktn_call "sub" my_at0)
local macro_rules | `(tactic| walk_at "subscriptTail") => `(tactic| (k_here; k_dflt ((with_reducible apply my_lastG); (with_unfolding_all rfl); k_asm; lsm_bools; assumption)))
local macro_rules | `(tactic| walk_at "compareOp NotEq ref ref") => `(tactic| tbr_iter my_neSnoc')
local macro_rules | `(tactic| walk_at "compareOp NotEq ref ref") => `(tactic| tbr_iter my_neCons)
local macro_rules | `(tactic| walk_at "exec If") => `(tactic| walk_at "my_halt")
local macro_rules | `(tactic| walk_at "exec For Name Name cons nil") => `(tactic| walk_at "my_for")
local macro_rules | `(tactic| walk_at "call type:tuple") => `(tactic| (k_here; k_dflt ((with_reducible apply my_tupleOfB); k_asm; k_asm; lsm_bools; walk_at "my_len"); intro D' h' F' N' l1 l1b; (try simp only [AllLt, and_true] at l1b)))
theorem test_cut {M : Model} {A : Around} {E : Value → Shared → Prop} {Q : Bool → Shared → Prop} {s : Shared} {h₀ : Heap} {L : Addr} {m : Str → Option Value} {all : Led} {t : Sem Bool} {v : Bool} (_F : Fr h₀ L s.heap m) (_N : News h₀ L s.heap all)
    (h : ∀ q : Bool → Shared → Prop, (∀ h' tk, Fr h₀ L h' m → News h₀ L h' all → q v { s with heap := h', toks := tk }) → wpAny M A t q E s) (k : ∀ h' tk, Fr h₀ L h' m → News h₀ L h' all → Q v { s with heap := h', toks := tk }) : wpAny M A t Q E s := h Q k
theorem law_pairs_gives (w : World) (ns : List Int) (hn : ns.length ≤ 60) (hinc : ns.Pairwise (· < ·)) (ws : List Str) (hw : ws.length ≤ 10) (mq : Int) : Gives w 888 6 (fun news vs => Ex7 fun R its k Wt wl kw tm => An5 (vs = [.ref R, .ref Wt, .int mq tm]) ((R, listOf its.toArray k) ∈ news) (IntsAre its ns) ((Wt, tup wl kw) ∈ news) (StrsAre wl ws))
    (fun news r => DatIn news r (.tuple (lpD ns ws mq))) := by
  unfold Gives
  intro prog loose mean mg mb dp un gd cn cs a ccd cl outer A₀ base h₀ L m news s vs Q E B F X N T hk hd hu hR hret
  obtain ⟨R, its, k, Wt, wl, kw, tm, rfl, hm, hi, hW, hs⟩ := hR
  have hL := hi.length
  have hwl := hs.length
  refine wpAny_call ?_
  k_dflt ktr_enter
  kpc_turns
  rename News _ _ _ _ => N'
  rename Fr _ _ _ _ => F'
  rename (∀ p ∈ news, p.1 < _) => hlt
  obtain ⟨P, hlt2, e⟩ := named hlt
  subst e
  have hP : ∀ p ∈ news, p.1 ≠ P := all_ne hlt
  refine Halt.go ?_
  refine join_at F' hP (cond (!ns.isEmpty && hasW ws wMIN) (dMin ns)) (fun q9 hq9 => wpAny_If ?_) ?_
  · rcases ns with _ | ⟨x, r⟩
    · cases hi
      kpc_turns
      exact Join.intro (by k_asm) (by k_asm) [] _ [] (by rw [List.append_nil]; exact fun p hp => .tail _ hp) (by rw [List.append_nil]; exact hP) ord0 .nil
    · cases hi with
      | cons x t hi' =>
      have e : (!(x :: r).isEmpty && hasW ws wMIN) = hasW ws wMIN := rfl
      rw [e] at hq9
      kpc_turns
      · rename (_ = true) => hc
        rename (_ < _ ∧ _ ∧ _) => l1
        rw [cond_t hc]
        exact Join.push2 (ds := []) (tl' := []) (a := (_, _)) (b := (_, _)) (by k_asm) (by rw [List.append_nil]; k_asm) (by rw [List.append_nil]; exact hP) ord0 (by rw [List.append_nil]; exact l1.2) .nil (.tuple last1 (.cons (.str _ _) (.cons (.int _ _) .nil)))
      · rename (_ = false) => hc
        rw [cond_f hc]
        exact Join.intro (by k_asm) (by k_asm) [] _ [] (by rw [List.append_nil]; exact fun p hp => .tail _ hp) (by rw [List.append_nil]; exact hP) ord0 .nil
  · intro h5 tk5 os5 k5 tl5 F5 N5 hP5 ho5 hd5
    have hl5 := hd5.length
    have hc5 := cond_len (!ns.isEmpty && hasW ws wMIN) (dMin ns)
    dsimp only
    kpc_turns
    refine Halt.go ?_
    refine join_at F5 hP (cond (!ns.isEmpty && hasW ws wMIN) (dMin ns) ++ cond (!ns.isEmpty && hasW ws wMAX) (dMax ns)) (fun q9 hq9 => wpAny_If ?_) ?_
    · rcases ns with _ | ⟨x, r⟩
      · cases hi
        kpc_turns
        rename News _ _ _ ((_, _) :: _ :: _) => N8
        exact Join.same (by k_asm) (news_sub N8 fun _ h => .tail _ h) hP5 ho5 (by rw [show cond (!([] : List Int).isEmpty && hasW ws wMAX) (dMax []) = [] from rfl, List.append_nil]; exact hd5)
      · have hla := ints_last hi (by simp)
        obtain ⟨tla, hla⟩ := hla
        cases hi with
        | cons x t hi' =>
        have e : (!(x :: r).isEmpty && hasW ws wMAX) = hasW ws wMAX := rfl
        rw [e] at hq9
        kpc_turns
        · rename (_ = true) => hc
          rename (_ < _ ∧ _ ∧ _) => l1
          rename News _ _ _ ((_, _) :: _ :: _) => N8
          rw [cond_t hc]
          exact Join.push2 (by k_asm) N8 hP5 ho5 l1.2 hd5 (.tuple last1 (.cons (.str _ _) (.cons (.int _ _) .nil)))
        · rename (_ = false) => hc
          rename News _ _ _ ((_, _) :: _ :: _) => N8
          rw [cond_f hc, List.append_nil]
          exact Join.same (by k_asm) (news_sub N8 fun _ h => .tail _ h) hP5 ho5 hd5
    · intro h6 tk6 os6 k6 tl6 F6 N6 hP6 ho6 hd6
      have hl6 := hd6.length
      have hc6 := cond_len (!ns.isEmpty && hasW ws wMAX) (dMax ns)
      rw [List.length_append] at hl6
      dsimp only
      clear hP5 ho5 hd5
      kpc_turns
      refine Halt.go ?_
      refine join_atM [Str.ofString "runs", Str.ofString "number"] F6 hP (cond (!ns.isEmpty && hasW ws wMIN) (dMin ns) ++ cond (!ns.isEmpty && hasW ws wMAX) (dMax ns) ++ cond (!ns.isEmpty && (hasW ws wALL || ws.isEmpty)) (dRuns ns)) (fun q9 hq9 => wpAny_If ?_) ?_
      · rcases ns with _ | ⟨x, r⟩
        · cases hi
          kpc_turns
          rename News _ _ _ ((_, _) :: _ :: _) => N8
          exact JoinM.same <| Join.same (by k_asm) (news_sub N8 fun _ h => .tail _ h) hP6 ho6 (by rw [show cond (!([] : List Int).isEmpty && (hasW ws wALL || ws.isEmpty)) (dRuns []) = [] from rfl, List.append_nil]; exact hd6)
        · cases hi with
          | cons x t hi' =>
          have hi := IntsAre.cons x t hi'
          have e : (!(x :: r).isEmpty && (hasW ws wALL || ws.isEmpty)) = (hasW ws wALL || ws.isEmpty) := rfl
          rw [e] at hq9
          have iL := hi
          refine test_cut (v := hasW ws wALL || ws.isEmpty) F6 N6 ?_ ?_
          · intro q hq
            kpc_turns
            · rename (List.any _ _ = true) => hc
              rw [show (hasW ws wALL || ws.isEmpty) = true from by rw [show hasW ws wALL = true from hc]; rfl] at hq
              rename News _ _ _ (_ :: _ :: _) => N8
              exact hq _ _ (by k_asm) (news_sub N8 fun _ h => .tail _ h)
            · rename (wl.isEmpty = true) => hz
              rw [show (hasW ws wALL || ws.isEmpty) = true from by (cases ws with | nil => exact Bool.or_true _ | cons _ _ => cases hs; cases hz)] at hq
              rename News _ _ _ (_ :: _ :: _ :: _) => N8
              exact hq _ _ (by k_asm) (news_sub N8 fun _ h => .tail _ (.tail _ h))
            · rename (List.any _ _ = false) => hc
              rename (wl.isEmpty = false) => hz
              have hc' : (hasW ws wALL || ws.isEmpty) = false := by
                rw [show hasW ws wALL = false from hc, Bool.false_or]
                cases ws with
                | nil => cases hs; cases hz
                | cons _ _ => rfl
              rw [hc'] at hq
              rename News _ _ _ (_ :: _ :: _ :: _) => N8
              exact hq _ _ (by k_asm) (news_sub N8 fun _ h => .tail _ (.tail _ h))
          · intro hA tkA FT NT
            rcases hv : (hasW ws wALL || ws.isEmpty)
            · kpc_turns
              rw [cond_f hv, List.append_nil]
              exact JoinM.same <| Join.same (by k_asm) NT hP6 ho6 hd6
            · have hc' := hv
              kpc_turns
              rename (_ < _ ∧ AllLt _ _) => lx
              rename Fr _ _ _ _ => FA
              rename News _ _ _ (_ :: _ :: _) => NB
              obtain ⟨O, hAO, e⟩ := namedA lx.2
              subst e
              have hPO : (@LT.lt Nat _ P O) := lx.1
              have hmB : (R, W.listOf (Value.int x t :: _).toArray k) ∈ (O, W.listOf #[] 0) :: ((P, W.listOf os6.toArray k6) :: (news ++ tl6)) := .tail _ (.tail _ (List.mem_append.mpr (.inl hm)))
              have hOb : ∀ p ∈ ((P, W.listOf os6.toArray k6) :: (news ++ tl6)), p.1 ≠ O := ne_cons (Nat.ne_of_lt hPO) fun p hp => Nat.ne_of_lt (lt_of_all hAO hp)
              refine iter_seqM [Str.ofString "number"] rfl FA NB hmB (Or.inl rfl) (fun i nx => Ex3 fun os k tl' => An5 (nx = (O, W.listOf os.toArray k) :: (((P, W.listOf os6.toArray k6) :: (news ++ tl6)) ++ tl')) ((∀ p ∈ ((P, W.listOf os6.toArray k6) :: (news ++ tl6)) ++ tl', p.1 ≠ O)) ((∀ q ∈ ((P, W.listOf os6.toArray k6) :: (news ++ tl6)), ∀ p ∈ tl', q.1 ≠ p.1)) (DatAll (((P, W.listOf os6.toArray k6) :: (news ++ tl6)) ++ tl') os ((((x :: r).take i).foldl stepL []).map pairD)) (os.length ≤ i))
                ⟨[], 0, [], by rw [List.append_nil], by rw [List.append_nil]; exact hOb, ord0, .nil, Nat.le_refl _⟩ (fun i nx => ?_) ?_ ?_
              · rintro ⟨os, k, tl', rfl, -⟩
                exact .tail _ (.tail _ (List.mem_append.mpr (.inl (List.mem_append.mpr (.inl hm)))))
              · rintro i v u nx h tk I oI q9 hq9 hi ⟨os, k, tl', rfl, hoff, hord, hd, hol⟩ hnI F₁ N₁
                obtain ⟨y, ty, rfl, hx⟩ := ints_get iL hi
                have hi2 : i < (Value.int x t :: _).length := (List.getElem?_eq_some_iff.mp hi).1
                have hIO : (@Ne Nat I O) := Ne.symm (hnI _ (.head _))
                have hfs := foldL_snoc hx
                rcases List.eq_nil_or_concat (((x :: r).take i).foldl stepL []) with e | ⟨ps, p, e⟩
                · rw [e] at hd hfs
                  cases hd
                  kpc_turns
                  refine Halt.go (wpAny_If ?_)
                  kpc_turns
                  rename (_ < _ ∧ _ < _ ∧ _ < _ ∧ _) => l9
                  rename News _ _ _ (_ :: _ :: (I, oI) :: _) => N9
                  refine TurnPost.one (news := ((P, W.listOf os6.toArray k6) :: (news ++ tl6))) (tl' := tl') (by k_asm) (drop2 N9) (o' := W.listOf #[] k) l9.2 hnI ⟨by walk_at "my_map", [_], k + 1, tl' ++ [_], rfl, off_one hoff l9.2.2.1, ord_one hord l9.2.2.2, ?_, by simp⟩
                  rw [hfs]
                  exact .cons (.tuple (.tail _ last1) (.cons (.int _ _) (.cons (.int _ _) .nil))) .nil
                · rw [List.concat_eq_append] at e
                  rw [e] at hd hfs
                  rw [List.map_append] at hd
                  obtain ⟨os', v, rfl, hv, hd'⟩ := datall_snoc hd
                  obtain ⟨q, t1, t2, n1, rfl, hq⟩ := pair_in hv
                  simp only [List.length_append, List.length_cons, List.length_nil] at hol
                  kpc_turns
                  refine Halt.go (wpAny_If ?_)
                  kpc_turns
                  · rename (p.2 + 1 = y) => hle
                    rename (_ < _ ∧ _ < _ ∧ _ < _ ∧ _) => l9
                    rename News _ _ _ (_ :: _ :: (I, oI) :: _) => N9
                    refine TurnPost.one (news := ((P, W.listOf os6.toArray k6) :: (news ++ tl6))) (tl' := tl') (by k_asm) (drop2 N9) (o' := W.listOf (os' ++ [Value.ref q]).toArray k) l9.2 hnI ⟨by walk_at "my_map", os' ++ [_], k, tl' ++ [_], rfl, off_one hoff l9.2.2.1, ord_one hord l9.2.2.2, ?_, by simp only [List.length_append, List.length_cons, List.length_nil]; omega⟩
                    rw [hfs, stepL_in hle, List.map_append]
                    exact (DatAll.mono (fun _ h => mem_more h) hd').append (.cons (.tuple last1 (.cons (.int _ _) (.cons (.int _ _) .nil))) .nil)
                  · rename (p.2 + 1 ≠ y) => hle
                    rename (_ < _ ∧ _ < _ ∧ _ < _ ∧ _) => l9
                    rename News _ _ _ (_ :: _ :: (I, oI) :: _) => N9
                    simp only [List.push_toArray] at N9
                    refine TurnPost.one (news := ((P, W.listOf os6.toArray k6) :: (news ++ tl6))) (tl' := tl') (by k_asm) (drop2 N9) (o' := W.listOf (os' ++ [Value.ref q]).toArray k) l9.2 hnI ⟨by walk_at "my_map", os' ++ [Value.ref q] ++ [_], k + 1, tl' ++ [_], rfl, off_one hoff l9.2.2.1, ord_one hord l9.2.2.2, ?_, by simp only [List.length_append, List.length_cons, List.length_nil]; omega⟩
                    rw [hfs, stepL_out hle, List.map_append, List.map_append]
                    exact (DatAll.mono (fun _ h => mem_more h) hd).append (.cons (.tuple last1 (.cons (.int _ _) (.cons (.int _ _) .nil))) .nil)
              · rintro u nx h tk ⟨os, k, tl', rfl, hoff, hord, hd, hol⟩ F₁ N₁
                rw [take_all (by rw [iL.length])] at hd
                have hosl : os.length ≤ 60 := by have := iL.length; omega
                simp only [List.cons_append] at N₁
                have hPt : ∀ p ∈ tl', p.1 ≠ P := fun p hp => (hord (P, _) (.head _) p hp).symm
                have hPx : ∀ p ∈ news ++ tl6 ++ tl', p.1 ≠ P := all_app hP6 hPt
                kpc_turns
                rename (_ < _ ∧ _ < _ ∧ _) => l2
                rename (∀ p ∈ (O, _) :: _, p.1 < _) => l3
                rename News _ _ _ (_ :: _ :: (O, _) :: _) => N9
                rw [cond_t hc']
                rename Fr _ _ _ _ => F9
                refine JoinM.of (Join.runs F9 N9 hP6 hPt ho6 (fun q hq p hp => hord q (.tail _ (List.mem_append.mpr (.inl hq))) p hp) (l3 (P, _) (.tail _ (.head _))) (fun q hq => l3 q (.tail _ (.tail _ (List.mem_append.mpr (.inl (List.mem_append.mpr (.inl hq))))))) l2.1 hd6 (.tuple last2a (.cons (.str _ _) (.cons (.tuple last2b (datall_keep ?_ hd (noL_pairs _))) .nil)))) (MapIn.inner (l := [Str.ofString "number"]) (fun _ => two_names) (MapIn.upd rfl MapIn.refl))
                intro p hp
                rcases List.mem_cons.mp hp with rfl | hp
                · exact .inr notT_list
                · change p ∈ (news ++ tl6) ++ tl' at hp
                  rw [List.append_assoc] at hp
                  exact .inl (mem_more hp)
      · intro h7 tk7 os7 k7 tl7 u7 F7 N7 hP7 ho7 hd7
        have hl7 := hd7.length
        have hc7 := cond_len (!ns.isEmpty && (hasW ws wALL || ws.isEmpty)) (dRuns ns)
        rw [List.length_append, List.length_append] at hl7
        dsimp only
        clear hP6 ho6 hd6
        kpc_turns
        refine Halt.go ?_
        refine join_at F7 hP (cond (!ns.isEmpty && hasW ws wMIN) (dMin ns) ++ cond (!ns.isEmpty && hasW ws wMAX) (dMax ns) ++ cond (!ns.isEmpty && (hasW ws wALL || ws.isEmpty)) (dRuns ns) ++ cond (hasW ws wCOUNT) (dCount ns)) (fun q9 hq9 => wpAny_If ?_) ?_
        · kpc_turns
          · rename (_ = true) => hc
            rename (_ ∧ _) => l1
            rw [cond_t hc]
            refine Join.push (by k_asm) (by k_asm) hP7 ho7 l1 hd7 (.tuple last1 (.cons (.str _ _) (.cons ?_ .nil)))
            rw [hL]; exact .int _ _
          · rename (_ = false) => hc
            rw [cond_f hc, List.append_nil]
            exact Join.same (by k_asm) (by k_asm) hP7 ho7 hd7
        · intro h8 tk8 os8 k8 tl8 F8 N8 hP8 ho8 hd8
          have hl8 := hd8.length
          have hc8 := cond_len (hasW ws wCOUNT) (dCount ns)
          rw [List.length_append, List.length_append, List.length_append] at hl8
          dsimp only
          clear hP7 ho7 hd7
          kpc_turns
          · rename (0 < mq) => hq
            rename News h₀ L _ _ => kN9
            rename (∀ p ∈ _ :: _ :: _ :: _ :: (news ++ tl8), p.1 < _) => l1
            rename (P < _ ∧ AllLt _ (news ++ tl8)) => l2
            obtain ⟨n1, n2⟩ := fin2N (a := (_, _)) (b := (_, { cls := .type "tuple", data := _ })) kN9 (.head _) (.tail _ (.tail _ (.tail _ (.head _)))) (by kxs_still) l2.2 (l1 _ (.tail _ (.tail _ (.head _)))) ho8
            refine hret _ (tl8 ++ [_, _]) _ _ (by k_asm) n1 n2 ?_
            rw [lpD, cond_t (decide_eq_true hq)]
            exact .tuple last2a ((DatAll.mono sub_two hd8).append (.cons (.tuple last2b (.cons (.str _ _) (.cons (.int _ _) .nil))) .nil))
          · rename (¬ (0 < mq)) => hq
            rename News h₀ L _ _ => kN9
            rename (∀ p ∈ _ :: _ :: _ :: (news ++ tl8), p.1 < _) => l1
            refine hret _ (tl8 ++ [(_, tup (os8 ++ []) 0)]) _ _ (by k_asm) (news_sub kN9 (by kxs_still)) (ord_one ho8 (allLt_of fun p hp => l1 p (.tail _ (.tail _ (.tail _ hp))))) ?_
            rw [lpD, cond_f (decide_eq_false hq)]
            exact .tuple last1 ((DatAll.mono (fun _ h => mem_more h) hd8).append .nil)
end S_c25
local macro_rules | `(tactic| walk_at "call type:tuple") => `(tactic| (k_here; k_dflt ((with_reducible apply my_tupleOfB); k_asm; k_asm; lsm_bools; walk_at "my_len"); intro D' h' F' N' l1 l1b; (try simp only [AllLt, and_true] at l1b)))
section S_c24
section
variable {prog : Program} {w : World} {A : Around} {E : Value → Shared → Prop} {s : Shared} {h₀ : Heap} {L : Addr} {m : Str → Option Value} {env : Env}
theorem tup_st {ax I : Addr} {its : List Value} {k : Nat} : ∀ i (h h' : Heap) (o : Obj) (nw : Led), (h.IsTupleIter I ax i ∧ h.IsTuple ax its.toArray) → h.get? I = some o → h'.get? I = some o → (∀ b o, h₀.get? b = some o → h'.get? b = some o) → News h₀ L h' nw → (ax, tup its k) ∈ nw → (h'.IsTupleIter I ax i ∧ h'.IsTuple ax its.toArray) :=
  fun i h h' o nw st e e' _ N S => ⟨by obtain ⟨o', q, r⟩ := st.1; rw [e] at q; cases q; exact ⟨o, e', r⟩, ⟨_, (N _ S).1, rfl, _, rfl⟩⟩
noncomputable def SrcTup (prog : Program) (w : World) (A : Around) (h₀ : Heap) (L : Addr) (m : Str → Option Value) (env : Env) (ct elt : PySem.Expr) (x : Str) (scope : Scope) (cl : List (Str × Addr)) (Q : Value → Shared → Prop) (xv : Value) (s₁ : Shared) : Prop :=
  Ex4 fun ax its k news => An7 (xv = .ref ax) (A.handled = none) (Fr h₀ L s₁.heap m) (News h₀ L s₁.heap news) ((ax, tup its k) ∈ news) (its.length ≤ sizeLine) (∀ g, LCt.CompRestT prog w A h₀ L m env ct elt x scope cl { s₁ with heap := g } (fun nw => (ax, tup its k) ∈ nw) (fun i v => its[i]? = some v) (LCg.FinE h₀ L m { s₁ with heap := g } Q) its.length 0 [] news)
theorem my_ListComp_Tup {ct elt iter : PySem.Expr} {x : Str} {px : Pos} {scope : Scope} {cl : List (Str × Addr)} {pos : Pos} {Q : Value → Shared → Prop} (F₀ : Fr h₀ L s.heap m)
    (hclos : closureFor scope env = pure cl) (hcell : ∀ y ∈ scope.names, y.2 ≠ .cell) (hkind : scope.kind = .function)
    (hnames : ∀ y ∈ scope.names, y.2 = .local → scope.names.lookup y.1 = some .local) (hx : scope.names.lookup x = some .local)
    (h : wpAny (model prog w) A (eval iter env) (SrcTup prog w A h₀ L m env ct elt x scope cl Q) E s)
    (hs : ∀ x, foldedSetIterable iter env x = pure x := by intro _; rfl) :
    wpAny (model prog w) A (eval (.ListComp elt [⟨.Name x px, iter, [ct], 0⟩] scope pos) env) Q E s := by
  rw [eval_ListComp]
  refine wpAny_comprehension_free (use := none) rfl hs hclos hkind hnames (wpAny_mono h (fun xv s₁ h₁ => ?_) fun _ _ e => e)
  obtain ⟨ax, its, k, news, rfl, hh, F, N, S, hsz, R⟩ := h₁
  have hl : s₁.heap.IsTuple ax its.toArray := ⟨_, (N _ S).1, rfl, _, rfl⟩
  have hlt : ax < s₁.heap.objs.size := Heap.lt_size (N _ S).1
  have ez : its.toArray.size = its.length := List.size_toArray
  refine wpAny_pyIter_tuple hl ?_
  have W := Walks.tuple (prog := prog) (w := w) hh s₁.heap.objs.size ax (Nat.ne_of_lt hlt) its.toArray
  rw [ez] at W
  refine LCt.block_T (P := fun i v => its[i]? = some v) (S := fun nw => (ax, tup its k) ∈ nw) (news := news) (Fin := LCg.FinE h₀ L m _ Q) { sub := W.sub, frame := W.frame, done := W.done, self := W.self, item := fun i s Q E hi st hQ => W.item i s Q E hi st fun v h' tk hP => hQ v h' tk (by simpa using hP) } hsz (fun i h st => by obtain ⟨o, e, _⟩ := st.1; exact ⟨o, e⟩) tup_st hcell hkind hx ⟨⟨_, Heap.get?_push_size _ rfl, rfl, rfl⟩, hl.at fun o e => Heap.get?_push_of_some _ e⟩ (fun b hb => ?_)
    (F.push _) (fun p hp => ⟨Heap.get?_push_of_some _ (N p hp).1, (N p hp).2⟩) (Nat.ne_of_lt F.ns.lt) (next_is_new F) (fun p hp => Nat.ne_of_lt (Heap.lt_size (N p hp).1)) S (R _) ?_
  · show b < (s₁.heap.push _).objs.size
    rw [Heap.size_push]
    rcases List.mem_cons.mp hb with rfl | hb
    · exact Nat.lt_succ_self _
    · rw [List.mem_singleton.mp hb]; exact Nat.lt_succ_of_lt hlt
  · intro D C h tk m' ys news' F' N' o1 hn hC₀ hD₀ hCL hDL hCD offC fin
    refine ⟨m', hn, fun h'' hs'' => fin D h'' tk (F'.change hs'' hCL hC₀) (fun p hp => ?_) o1⟩
    refine ⟨hs''.extBut _ _ ?_ (N' p hp).1, (N' p hp).2⟩
    rcases List.mem_cons.mp hp with rfl | hp
    · exact Ne.symm hCD
    · exact offC p hp
theorem my_sliceT {value slice : PySem.Expr} {t : Addr} {x : Value} {l : List Value} {n : Nat} {u : Tok} {news : Led} {Q : Value → Shared → Prop}
    (hs : subscripted slice false (.ref t) (.ref s.heap.objs.size) = operate [.ref s.heap.objs.size, .ref t] (getItem (.ref t) (.ref s.heap.objs.size)))
    (hg : ∀ r, letTemporaryGo value (.ref t) r = pure ()) (F : Fr h₀ L s.heap m) (N : News h₀ L s.heap news) (hm : (t, tup (x :: l) n) ∈ news) (hl : l.length ≤ 40)
    (h : ∀ D h', Fr h₀ L h' m → News h₀ L h' ((D, tup l 0) :: news) → Q (.ref D) { s with heap := h' }) :
    wpAny (model prog w) A (subscriptTail value slice (.ref t) (.ref s.heap.objs.size)) Q E { s with heap := s.heap.push { cls := .type "slice", data := .fields #[.int 1 u, .none, .none] } } :=
  slice_tuple_from (a := 1) F N (News.isTup N hm) (by decide) (by simp) (fun h' F' N' => h _ h' F' N') hs hg (by rw [sizeLine_eq]; simp; omega)
end
local macro_rules | `(tactic| walk_at "eval ListComp") => `(tactic| walk_at "my_halt")
local macro_rules | `(tactic| walk_at "subscriptTail") => `(tactic| (k_here; k_dflt ((with_reducible apply my_sliceT); (with_unfolding_all rfl); (intro _; with_unfolding_all rfl); k_asm; k_asm; lsm_bools; walk_at "my_len"); intro D' h' F' N'))
theorem bools_read {h : Heap} : ∀ bs : List Bool, ∃ as, PySem.ReadsAll h (bs.map Value.bool) (bs.map PyData.bool) as
  | [] => ⟨_, .nil⟩
  | b :: bs => by obtain ⟨as, q⟩ := bools_read (h := h) bs; exact ⟨_, .cons (.bool b) q⟩
theorem bools_lay : ∀ bs : List Bool, PyData.canLayAll0 (bs.map PyData.bool) = true
  | [] => rfl
  | b :: bs => by simp only [List.map_cons, PyData.canLayAll0, PyData.canLay0, bools_lay bs, Bool.and_self]
theorem bools_any : ∀ bs : List Bool, ((bs.map PyData.bool).any fun y => PyData.eqv y (.bool true)) = bs.any id
  | [] => rfl
  | b :: bs => by
    rw [List.map_cons, List.any_cons, List.any_cons, bools_any bs]
    congr 1
    cases b <;> rfl
theorem my_inB {prog : Program} {w : World} {A : Around} {E : Value → Shared → Prop} {s : Shared} {h₀ : Heap} {L : Addr} {news : Led} {a : Addr} {bs : List Bool} {k : Nat} {Q : Value → Shared → Prop} (N : News h₀ L s.heap news) (hm : (a, listOf (bs.map Value.bool).toArray k) ∈ news) (hu : A.units + 1 < cLine) (h : Q (.bool (bs.any id)) s) :
    wpAny (model prog w) A (compareOp .In (.bool true) (.ref a)) Q E s := by
  obtain ⟨as, ra⟩ := bools_read (h := s.heap) bs
  refine SeqAt.in_list_reads (reads_list_at (N.get hm) rfl rfl (by simpa using ra)) (Reads.bool true) (bools_lay bs) rfl ?_ (by rw [bools_any]; exact h)
  have : min (PyData.depthAll (bs.map PyData.bool)) (PyData.depth (.bool true)) = 0 := Nat.min_zero _
  omega
noncomputable def LAAll (w : World) (n : Nat) : Prop := ∀ t : Tr, t.high < n → Gives w 881 (4 + 3 * n) (fun news vs => Ex1 fun l => An2 (vs = [l]) (TrIn news l t)) (fun _ r => r = .bool (asks t))
theorem LAAll.at {w : World} {n : Nat} (h : LAAll w n) (t : Tr) (ht : t.high < n) : Gives w 881 (4 + 3 * n) (fun news vs => Ex1 fun l => An2 (vs = [l]) (TrIn news l t)) (fun _ r => r = .bool (asks t)) := h t ht
local macro_rules | `(tactic| walk_at "call ref") => `(tactic| ktr_call 881 (LAAll.at (by assumption) _ ?_))
theorem asks_not (t : Tr) : asks (.not t) = asks t := rfl
theorem asks_and (a b : Tr) : asks (.and a b) = (asks a || asks b) := by simp only [asks, leaves, List.any_append]
theorem asks_or (a b : Tr) : asks (.or a b) = (asks a || asks b) := by simp only [asks, leaves, List.any_append]
noncomputable def Tr.two : Tr → Bool
  | .flag _ | .seq _ | .uid _ | .larger _ | .smaller _ => true
  | _ => false
noncomputable def Tr.pair : Tr → Option (Tr × Tr)
  | .and x y | .or x y => some (x, y)
  | _ => none
theorem TrIn.two {news : Led} {v : Value} {t : Tr} (x : TrIn news v t) (h : t.two = true) : Ex4 fun a u v' n => An2 (v = .ref a) ((a, tup [sv t.kind u, v'] n) ∈ news) := by
  cases x <;> first | exact Bool.noConfusion h | exact ⟨_, _, _, _, rfl, by assumption⟩
theorem TrIn.pair {news : Led} {v : Value} {t x y : Tr} (z : TrIn news v t) (h : t.pair = some (x, y)) : Ex5 fun a u v1 v2 n => An4 (v = .ref a) ((a, tup [sv t.kind u, v1, v2] n) ∈ news) (TrIn news v1 x) (TrIn news v2 y) := by
  cases z with
  | and h1 h2 h3 => cases h; exact ⟨_, _, _, _, _, rfl, h1, h2, h3⟩
  | or h1 h2 h3 => cases h; exact ⟨_, _, _, _, _, rfl, h1, h2, h3⟩
  | _ => cases h
theorem kind_two {t : Tr} (h : t.two = true) : (Str.ofString t.kind == Str.ofString "modseq") = false ∧ [Str.ofString "not", Str.ofString "and", Str.ofString "or"].any (· == Str.ofString t.kind) = false := by
  cases t <;> first | exact Bool.noConfusion h | (constructor <;> (simp only [Tr.kind]; decide +kernel))
theorem kind_pair {t x y : Tr} (h : t.pair = some (x, y)) : (Str.ofString t.kind == Str.ofString "modseq") = false ∧ [Str.ofString "not", Str.ofString "and", Str.ofString "or"].any (· == Str.ofString t.kind) = true := by
  cases t <;> first | (cases h; done) | (constructor <;> (simp only [Tr.kind]; decide +kernel))
theorem asks_two {t : Tr} (h : t.two = true) : asks t = false := by cases t <;> first | exact Bool.noConfusion h | rfl
theorem asks_pair {t x y : Tr} (h : t.pair = some (x, y)) : asks t = (asks x || asks y) := by
  cases t with
  | and a b => cases h; exact asks_and _ _
  | or a b => cases h; exact asks_or _ _
  | _ => cases h
theorem high_pair {t x y : Tr} {n : Nat} (h : t.pair = some (x, y)) (ht : t.high < n + 1) : x.high < n ∧ y.high < n := by
  cases t with
  | and a b => cases h; simp only [Tr.high] at ht; omega
  | or a b => cases h; simp only [Tr.high] at ht; omega
  | _ => cases h
theorem law_asks_all (w : World) : ∀ n, LAAll w n := by
  intro n
  induction n with
  | zero => intro t ht; exact absurd ht (Nat.not_lt_zero _)
  | succ n ih =>
  intro t ht
  unfold Gives
  intro prog loose mean mg mb dp un gd cn cs a ccd cl outer A₀ base h₀ L m news s vs Q E B F X N T hk hd hu hR hret
  obtain ⟨l, rfl, htr⟩ := hR
  refine wpAny_call ?_
  rcases htwo : t.two
  · rcases hpair : t.pair with _ | ⟨x, y⟩
    · cases htr with
      | modseq hm =>
        walk_at "my_enterC"
        kpc_turns
        (rename News h₀ L _ _ => kN9; refine hret _ [] _ _ (by k_asm) (tl0 (news_sub kN9 (by kxs_still))) ord0 ?_)
        rfl
      | all hm =>
        walk_at "my_enterC"
        kpc_turns
        refine Halt.go ?_
        refine my_ListComp_Tup (F₀ := by k_asm) (by with_unfolding_all rfl) (by decide) (by rfl) (by decide) (by rfl) ?_
        kpc_turns
        refine ⟨_, _, _, _, rfl, rfl, by k_asm, by k_asm, .head _, by simp only [List.length_cons, List.length_nil]; rw [sizeLine_eq]; omega, fun g => ?_⟩
        refine compT (fun i ys nx => nx = (_, tup [] 0) :: (_, _) :: news ∧ ys = []) ?_ ⟨rfl, rfl⟩ ?_ ?_
        · rintro i ys nx ⟨rfl, -⟩
          exact .head _
        · rintro i v ys nx I oI C oC D m₂ h tk E' q9 q8 hq9 hq8 hi hv ⟨rfl, rfl⟩ hC hx F₁ N₁ off hne3
          exact absurd hi (Nat.not_lt_zero _)
        · rintro ys nx ⟨rfl, rfl⟩
          intro D h tk F₁ N₁ off
          kpc_turns
          refine my_inB (bs := []) N₁ (.head _) (by walk_at "my_room") ?_
          kpc_turns
          (rename News h₀ L _ _ => kN9; refine hret _ [] _ _ (by k_asm) (tl0 (news_sub kN9 (by kxs_still))) ord0 ?_)
          rfl
      | not hm hx =>
        rename_i v0 x
        have h1 : x.high < n := by simp only [Tr.high] at ht; omega
        walk_at "my_enterC"
        kpc_turns
        refine Halt.go ?_
        refine my_ListComp_Tup (F₀ := by k_asm) (by with_unfolding_all rfl) (by decide) (by rfl) (by decide) (by rfl) ?_
        kpc_turns
        refine ⟨_, _, _, _, rfl, rfl, by k_asm, by k_asm, .head _, by simp only [List.length_cons, List.length_nil]; rw [sizeLine_eq]; omega, fun g => ?_⟩
        refine compT (fun i ys nx => nx = (_, tup [_] 0) :: (_, _) :: news ∧ ys = [Value.bool (asks x)].take i) ?_ ⟨rfl, rfl⟩ ?_ ?_
        · rintro i ys nx ⟨rfl, -⟩
          exact .head _
        · rintro i v ys nx I oI C oC D m₂ h tk E' q9 q8 hq9 hq8 hi hv ⟨rfl, rfl⟩ hC hx F₁ N₁ off hne3
          have hi0 : i = 0 := by simp only [List.length_cons, List.length_nil] at hi; omega
          subst hi0
          simp at hv
          subst hv
          kpc_turns
          exact CTurn.none (by k_asm) (by k_asm) (by kxs_still) off ⟨rfl, by trivial⟩
        · rintro ys nx ⟨rfl, rfl⟩
          intro D h tk F₁ N₁ off
          try simp only [List.length_cons, List.length_nil, List.take_succ_cons, List.take_zero, Nat.zero_add] at N₁
          kpc_turns
          refine my_inB (bs := [asks x]) N₁ (.head _) (by walk_at "my_room") ?_
          kpc_turns
          (rename News h₀ L _ _ => kN9; refine hret _ [] _ _ (by k_asm) (tl0 (news_sub kN9 (by kxs_still))) ord0 ?_)
          rw [asks_not]; simp
      | and _ _ _ => cases hpair
      | or _ _ _ => cases hpair
      | _ => cases htwo
    · obtain ⟨a9, u9, v9, v8, n9, rfl, hm, hx, hy⟩ := htr.pair hpair
      have hkm : (Str.ofString t.kind == Str.ofString "modseq") = false := (kind_pair hpair).1
      have hka : [Str.ofString "not", Str.ofString "and", Str.ofString "or"].any (· == Str.ofString t.kind) = true := (kind_pair hpair).2
      obtain ⟨h1, h2⟩ : x.high < n ∧ y.high < n := high_pair hpair ht
      walk_at "my_enterC"
      kpc_turns
      refine Halt.go ?_
      refine my_ListComp_Tup (F₀ := by k_asm) (by with_unfolding_all rfl) (by decide) (by rfl) (by decide) (by rfl) ?_
      kpc_turns
      refine ⟨_, _, _, _, rfl, rfl, by k_asm, by k_asm, .head _, by simp only [List.length_cons, List.length_nil]; rw [sizeLine_eq]; omega, fun g => ?_⟩
      refine compT (fun i ys nx => nx = (_, tup [_, _] 0) :: (_, _) :: news ∧ ys = [Value.bool (asks x), Value.bool (asks y)].take i) ?_ ⟨rfl, rfl⟩ ?_ ?_
      · rintro i ys nx ⟨rfl, -⟩
        exact .head _
      · rintro i v ys nx I oI C oC D m₂ h tk E' q9 q8 hq9 hq8 hi hv ⟨rfl, rfl⟩ hC hx F₁ N₁ off hne3
        have hi0 : i = 0 ∨ i = 1 := by simp only [List.length_cons, List.length_nil] at hi; omega
        rcases hi0 with hi0 | hi0
        · subst hi0
          simp at hv
          subst hv
          kpc_turns
          exact CTurn.none (by k_asm) (by k_asm) (by kxs_still) off ⟨rfl, by trivial⟩
        · subst hi0
          simp at hv
          subst hv
          kpc_turns
          exact CTurn.none (by k_asm) (by k_asm) (by kxs_still) off ⟨rfl, by trivial⟩
      · rintro ys nx ⟨rfl, rfl⟩
        intro D h tk F₁ N₁ off
        try simp only [List.length_cons, List.length_nil, List.take_succ_cons, List.take_zero, Nat.zero_add] at N₁
        kpc_turns
        refine my_inB (bs := [asks x, asks y]) N₁ (.head _) (by walk_at "my_room") ?_
        kpc_turns
        (rename News h₀ L _ _ => kN9; refine hret _ [] _ _ (by k_asm) (tl0 (news_sub kN9 (by kxs_still))) ord0 ?_)
        rw [asks_pair hpair]; simp
  · obtain ⟨a9, u9, v9, n9, rfl, hm⟩ := htr.two htwo
    have hkm : (Str.ofString t.kind == Str.ofString "modseq") = false := (kind_two htwo).1
    have hka : [Str.ofString "not", Str.ofString "and", Str.ofString "or"].any (· == Str.ofString t.kind) = false := (kind_two htwo).2
    walk_at "my_enterC"
    kpc_turns
    refine Halt.go ?_
    refine my_ListComp_Tup (F₀ := by k_asm) (by with_unfolding_all rfl) (by decide) (by rfl) (by decide) (by rfl) ?_
    kpc_turns
    refine ⟨_, _, _, _, rfl, rfl, by k_asm, by k_asm, .head _, by simp only [List.length_cons, List.length_nil]; rw [sizeLine_eq]; omega, fun g => ?_⟩
    refine compT (fun i ys nx => nx = (_, tup [_] 0) :: (_, _) :: news ∧ ys = []) ?_ ⟨rfl, rfl⟩ ?_ ?_
    · rintro i ys nx ⟨rfl, -⟩
      exact .head _
    · rintro i v ys nx I oI C oC D m₂ h tk E' q9 q8 hq9 hq8 hi hv ⟨rfl, rfl⟩ hC hx F₁ N₁ off hne3
      kpc_turns
      exact CTurn.none (by k_asm) (by k_asm) (by kxs_still) off ⟨rfl, by trivial⟩
    · rintro ys nx ⟨rfl, rfl⟩
      intro D h tk F₁ N₁ off
      kpc_turns
      refine my_inB (bs := []) N₁ (.head _) (by walk_at "my_room") ?_
      kpc_turns
      (rename News h₀ L _ _ => kN9; refine hret _ [] _ _ (by k_asm) (tl0 (news_sub kN9 (by kxs_still))) ord0 ?_)
      exact congrArg Value.bool (asks_two htwo).symm
end S_c24
section S_pl
/-! the plain law -/
theorem step_same {acc : List (Int × Int)} {n : Int} (h : ∀ p, acc.getLast? = some p → p.2 < n) : stepR acc n = stepL acc n := by
  unfold stepR stepL
  cases e : acc.getLast? with
  | none => rfl
  | some p =>
    have := h p e
    by_cases hq : n ≤ p.2 + 1
    · simp only []
      rw [if_pos hq, if_pos (by omega)]
    · simp only []
      rw [if_neg hq, if_neg (by omega)]
theorem stepR_last {acc : List (Int × Int)} {n : Int} {p : Int × Int} (h : (stepR acc n).getLast? = some p) : p.2 = n := by
  unfold stepR at h
  split at h
  · split at h <;> · rw [List.getLast?_append] at h; simp at h; rw [← h]
  · rw [List.getLast?_append] at h; simp at h; rw [← h]
theorem fold_same : ∀ (ns : List Int) (acc : List (Int × Int)), (∀ p, acc.getLast? = some p → ∀ n ∈ ns, p.2 < n) → ns.Pairwise (· < ·) → ns.foldl stepR acc = ns.foldl stepL acc
  | [], _, _, _ => rfl
  | n :: r, acc, h, hp => by
    obtain ⟨h1, h2⟩ := List.pairwise_cons.mp hp
    rw [List.foldl_cons, List.foldl_cons, ← step_same fun p e => h p e n (.head _)]
    exact fold_same r _ (fun p e m hm => by rw [stepR_last e]; exact h1 m hm) h2
theorem ranges_runs {ns : List Int} (h : ns.Pairwise (· < ·)) : rangesF ns = runsF ns := fold_same ns [] (fun p e => by simp at e) h
theorem es_lp {ns : List Int} (h : ns.Pairwise (· < ·)) (ws : List Str) (mq : Int) : esD ns ws ++ cond (decide (mq > 0)) (.tuple [.str (Str.ofString "MODSEQ"), .int mq]) = lpD ns ws mq := by
  have e : dAll ns = dRuns ns := by simp only [dAll, dRuns, ranges_runs h]
  unfold esD lpD esN
  cases ns with
  | nil => simp [cond]
  | cons x r =>
    rw [if_neg (by simp), e]
    rfl
theorem pick_inc {ds : List SD} {f : SD → Int} (h : (ds.map f).Pairwise (· < ·)) (P : SD → Bool) : ((ds.filter P).map f).Pairwise (· < ·) := h.sublist (List.Sublist.map f List.filter_sublist)
theorem inc_inj {ds : List SD} (h : (ds.map SD.number).Pairwise (· < ·)) : NumInj ds := by
  induction ds with
  | nil => intro a ha; cases ha
  | cons d r ih =>
    rw [List.map_cons] at h
    obtain ⟨h1, h2⟩ := List.pairwise_cons.mp h
    replace h1 : ∀ a ∈ r, d.number < a.number := fun a ha => h1 _ (List.mem_map_of_mem ha)
    intro a ha b hb e
    rcases List.mem_cons.mp ha with e1 | h3 <;> rcases List.mem_cons.mp hb with e2 | h4
    · rw [e1, e2]
    · have := h1 b h4; rw [e1] at e; omega
    · have := h1 a h3; rw [e2] at e; omega
    · exact ih h2 a h3 b h4 e
/-! the data are readable -/
theorem ok_pairs (n : Nat) : ∀ ps : List (Int × Int), (ps.map pairD).all (kqdOk (n + 1)) = true
  | [] => rfl
  | p :: ps => by rw [List.map_cons, List.all_cons, ok_pairs n ps]; cases n <;> rfl
theorem ok_ints (n : Nat) : ∀ ns : List Int, (ns.map Dat.int).all (kqdOk n) = true
  | [] => rfl
  | p :: ps => by rw [List.map_cons, List.all_cons, ok_ints n ps]; cases n <;> rfl
theorem ok_cond {n : Nat} {c : Bool} {d : Dat} (h : kqdOk n d = true) : (cond c d).all (kqdOk n) = true := by cases c <;> simp [cond, h]
theorem ok_lp (ns : List Int) (ws : List Str) (mq : Int) : (lpD ns ws mq).all (kqdOk 6) = true := by
  unfold lpD
  simp only [List.all_append, Bool.and_eq_true]
  refine ⟨⟨⟨⟨ok_cond ?_, ok_cond ?_⟩, ok_cond ?_⟩, ok_cond ?_⟩, ok_cond ?_⟩
  · simp only [dMin, kqdOk, List.all_cons, List.all_nil]; decide +kernel
  · simp only [dMax, kqdOk, List.all_cons, List.all_nil]; decide +kernel
  · simp only [dRuns, kqdOk, List.all_cons, List.all_nil, ok_pairs 3, Bool.and_true]; decide +kernel
  · simp only [dCount, kqdOk, List.all_cons, List.all_nil]; decide +kernel
  · simp only [kqdOk, List.all_cons, List.all_nil]; decide +kernel
section
variable {prog : Program} {w : World} {A : Around} {E : Value → Shared → Prop} {s : Shared} {h₀ : Heap} {L : Addr} {news n₁ n₂ : Led} {a b : Addr} {Q : Value → Shared → Prop}
theorem eqv_refl {n : Nat} {d : Dat} (h : kqdOk n d = true) : PyData.eqv (kqdP d) (kqdP d) = true := (kqd_eqv n d d n h h).mpr rfl
theorem eqvAll_refl {n : Nat} : ∀ {ds : List Dat}, ds.all (kqdOk n) = true → PyData.eqvAll (kqdPs ds) (kqdPs ds) = true
  | [], _ => rfl
  | d :: ds, h => by
    simp only [List.all_cons, Bool.and_eq_true] at h
    simp only [kqdPs, PyData.eqvAll, eqv_refl h.1, eqvAll_refl h.2, Bool.and_self]
/-- two tuples that bear the same data -/
theorem my_neDat {ds : List Dat} (N : News h₀ L s.heap news) (Da : DatIn n₁ (.ref a) (.tuple ds)) (sa : ∀ p ∈ n₁, p ∈ news) (Db : DatIn n₂ (.ref b) (.tuple ds)) (sb : ∀ p ∈ n₂, p ∈ news) (hk : ds.all (kqdOk 7) = true) (hu : A.units + 64 < cLine) (h : Q (.bool false) s) :
    wpAny (model prog w) A (compareOp .NotEq (.ref a) (.ref b)) Q E s := by
  have hk' : kqdOk 8 (.tuple ds) = true := hk
  obtain ⟨as, ra⟩ := kqd_in N 8 (DatIn.mono sa Da) hk'
  obtain ⟨bs, rb⟩ := kqd_in N 8 (DatIn.mono sb Db) hk'
  have la := kqd_lay 8 (.tuple ds) hk'
  have sh : SeqAt.shaped (kqdP (.tuple ds)) = true := by unfold SeqAt.shaped; rw [la.1, Bool.true_and]; exact decide_eq_true (Nat.le_trans la.2 (by decide))
  exact ne_dataH ra rb sh sh hu (by rw [eqv_refl hk']; exact h)
/-- the same, a bool at the third place -/
theorem my_neExt {x y : Str} {c : Bool} {ds : List Dat} (N : News h₀ L s.heap news) (Da : DatIn n₁ (.ref a) (.tuple [.str x, .str y, .bool c, .tuple ds])) (sa : ∀ p ∈ n₁, p ∈ news) (Db : DatIn n₂ (.ref b) (.tuple [.str x, .str y, .bool c, .tuple ds])) (sb : ∀ p ∈ n₂, p ∈ news)
    (hx : PyData.strOk x = true) (hy : PyData.strOk y = true) (hk : ds.all (kqdOk 6) = true) (hu : A.units + 64 < cLine) (h : Q (.bool false) s) : wpAny (model prog w) A (compareOp .NotEq (.ref a) (.ref b)) Q E s := by
  have hk' : kqdOk 7 (.tuple ds) = true := hk
  have rd : ∀ {q : Addr} {n : Led}, DatIn n (.ref q) (.tuple [.str x, .str y, .bool c, .tuple ds]) → (∀ p ∈ n, p ∈ news) → ∃ as, PySem.Reads s.heap (.ref q) (.tuple [.str x, .str y, .bool c, kqdP (.tuple ds)]) as := by
    intro q n D sb
    cases D with
    | tuple hm r =>
      cases r with | cons h1 r => cases r with | cons h2 r => cases r with | cons h3 r => cases r with | cons h4 r =>
      cases r
      cases h1
      cases h2
      cases h3
      obtain ⟨as, rx⟩ := kqd_in N 7 (DatIn.mono sb h4) hk'
      exact ⟨_, reads_tuple_at (N.get (sb _ hm)) rfl rfl (by simpa using PySem.ReadsAll.cons (Reads.str _ _) (.cons (Reads.str _ _) (.cons (Reads.bool _) (.cons rx .nil))))⟩
  obtain ⟨as, ra⟩ := rd Da sa
  obtain ⟨bs, rb⟩ := rd Db sb
  have la := kqd_lay 7 (.tuple ds) hk'
  have sh : SeqAt.shaped (.tuple [.str x, .str y, .bool c, kqdP (.tuple ds)]) = true := by
    unfold SeqAt.shaped
    have l2 := la.2
    simp only [PyData.canLay0, PyData.canLayAll0, la.1, hx, hy, Bool.and_self, Bool.true_and]
    refine decide_eq_true (Nat.le_trans (m := 9) ?_ (by decide))
    simp only [PyData.depth, PyData.depthAll]
    omega
  refine ne_dataH ra rb sh sh hu ?_
  have e : PyData.eqv (.tuple [.str x, .str y, .bool c, kqdP (.tuple ds)]) (.tuple [.str x, .str y, .bool c, kqdP (.tuple ds)]) = true := by
    simp only [PyData.eqv, PyData.eqvAll, eqv_refl hk', beq_self_eq_true, Bool.and_self]
  rw [e]; exact h
end
end S_pl
section S_ll
noncomputable abbrev lawEnv (L fa : Addr) (cd : Value) : Env := envOfC (Str.ofString "law") S893 L fa cd
noncomputable abbrev forSt : Stmt := (B893[5]?).getD (.Pass ⟨0, 0, 0, 0⟩)
/-- the law's cells -/
noncomputable abbrev cellsL (L : Addr) (o4 o3 o2 o1 : Obj) : Led := [(L + 1 + 1 + 1 + 1, o4), (L + 1 + 1 + 1, o3), (L + 1 + 1, o2), (L + 1, o1)]
noncomputable abbrev incD (f : SD → Int) (ds : List SD) : Prop := (ds.map f).Pairwise (· < ·)
local macro_rules | `(tactic| walk_at "my_room") => `(tactic| decide)
local macro_rules | `(tactic| walk_at "eval ListComp") => `(tactic| walk_at "my_halt")
local macro_rules | `(tactic| walk_at "exec Assign cons ListComp") => `(tactic| walk_at "my_halt")
theorem off_src {I C D S : Addr} {x y : Addr × Obj} {o o' : Obj} {r : Led} (h : ∀ p ∈ x :: y :: (S, o) :: r, p.1 ≠ I ∧ p.1 ≠ C ∧ p.1 ≠ D) : ∀ p ∈ x :: y :: (S, o') :: r, p.1 ≠ I ∧ p.1 ≠ C ∧ p.1 ≠ D := fun p hp => by
  rcases List.mem_cons.mp hp with rfl | hp
  · exact h _ (.head _)
  · rcases List.mem_cons.mp hp with rfl | hp
    · exact h _ (.tail _ (.head _))
    · rcases List.mem_cons.mp hp with rfl | hp
      · exact h (S, o) (.tail _ (.tail _ (.head _)))
      · exact h _ (.tail _ (.tail _ (.tail _ hp)))
section
variable {a1 a2 a3 a4 a5 a6 b x x' y y' c4 c3 c2 c1 t : Addr × Obj} {news : Led}
theorem all5 {P : Addr × Obj → Prop} (h : ∀ p ∈ news, P p) (h1 : P a1) (h2 : P a2) (h3 : P a3) (h4 : P a4) (h5 : P a5) : ∀ p ∈ news ++ [a1, a2, a3, a4, a5], P p := fun p hp => by
  rcases List.mem_append.mp hp with hp | hp
  · exact h p hp
  · simp only [List.mem_cons, List.not_mem_nil, or_false] at hp
    rcases hp with rfl | rfl | rfl | rfl | rfl <;> assumption
theorem m51 : a1 ∈ news ++ [a1, a2, a3, a4, a5] := List.mem_append.mpr (.inr (.head _))
theorem m52 : a2 ∈ news ++ [a1, a2, a3, a4, a5] := List.mem_append.mpr (.inr (.tail _ (.head _)))
theorem m53 : a3 ∈ news ++ [a1, a2, a3, a4, a5] := List.mem_append.mpr (.inr (.tail _ (.tail _ (.head _))))
theorem m54 : a4 ∈ news ++ [a1, a2, a3, a4, a5] := List.mem_append.mpr (.inr (.tail _ (.tail _ (.tail _ (.head _)))))
theorem m55 : a5 ∈ news ++ [a1, a2, a3, a4, a5] := List.mem_append.mpr (.inr (.tail _ (.tail _ (.tail _ (.tail _ (.head _))))))
end
theorem inc_snoc {f : SD → Int} {ds : List SD} {d : SD} (h : incD f ds) (hb : ∀ e ∈ ds, f e < f d) : incD f (ds ++ [d]) := by
  unfold incD at *
  rw [List.map_append]
  refine List.pairwise_append.mpr ⟨h, List.pairwise_singleton _ _, fun a ha b hb' => ?_⟩
  obtain ⟨e, he, rfl⟩ := List.mem_map.mp ha
  rw [List.mem_singleton.mp hb']
  exact hb e he
theorem size_rep {x : Int} (h0 : 0 ≤ x) (h5 : x < 5) : ((List.replicate x.toNat [(120 : UInt8)]).flatten.toArray).size ≤ 9 := by
  simp
  omega
theorem five_subB {a1 a2 a3 a4 a5 a6 b x y : Addr × Obj} {base tl : Led} : ∀ p ∈ b :: (x :: y :: (base ++ (tl ++ [a1, a2, a3, a4, a5]))), p ∈ a1 :: a2 :: a3 :: a4 :: a5 :: a6 :: b :: x :: y :: (base ++ tl) := by kxs_still
/-- five new objects behind all that stood -/
theorem five_news {D I R S d1 x1 D' d2 x2 : Addr} {oR oS oR' oS' o1 o2 o3 o4 o5 : Obj} {base tl : Led} (la : (@LT.lt Nat _ D d1) ∧ (@LT.lt Nat _ I d1) ∧ (@LT.lt Nat _ R d1) ∧ (@LT.lt Nat _ S d1) ∧ AllLt d1 (base ++ tl)) (lx : (@LT.lt Nat _ d1 x1)) (lb : (@LT.lt Nat _ d1 D')) (lc : (@LT.lt Nat _ d1 d2)) (ly : (@LT.lt Nat _ d2 x2))
    (hS : ∀ p ∈ tl, p.1 ≠ S) (hR : ∀ p ∈ tl, p.1 ≠ R) (ho : ∀ q ∈ base, ∀ p ∈ tl, q.1 ≠ p.1) (hI : ∀ p ∈ (R, oR) :: (S, oS) :: (base ++ tl), p.1 ≠ I) :
    (∀ p ∈ (R, oR') :: (S, oS') :: (base ++ (tl ++ [(x2, o1), (d2, o2), (D', o3), (x1, o4), (d1, o5)])), p.1 ≠ I) ∧ (∀ p ∈ tl ++ [(x2, o1), (d2, o2), (D', o3), (x1, o4), (d1, o5)], p.1 ≠ S) ∧ (∀ p ∈ tl ++ [(x2, o1), (d2, o2), (D', o3), (x1, o4), (d1, o5)], p.1 ≠ R) ∧
      (∀ q ∈ base, ∀ p ∈ tl ++ [(x2, o1), (d2, o2), (D', o3), (x1, o4), (d1, o5)], q.1 ≠ p.1) := by
  obtain ⟨-, lI, lR, lS, lt⟩ := la
  have key : ∀ {P : Addr → Prop}, (∀ y, d1 ≤ y → P y) → (∀ p ∈ tl, P p.1) → ∀ p ∈ tl ++ [(x2, o1), (d2, o2), (D', o3), (x1, o4), (d1, o5)], P p.1 := fun {P} g k => all5 (P := fun p => P p.1) k (g x2 (Nat.le_of_lt (Nat.lt_trans lc ly))) (g d2 (Nat.le_of_lt lc)) (g D' (Nat.le_of_lt lb)) (g x1 (Nat.le_of_lt lx)) (g d1 (Nat.le_refl d1))
  refine ⟨fun p hp => ?_, key (fun y g => Nat.ne_of_gt (Nat.lt_of_lt_of_le lS g)) hS, key (fun y g => Nat.ne_of_gt (Nat.lt_of_lt_of_le lR g)) hR, fun q hq => key (fun y g => Nat.ne_of_lt (Nat.lt_of_lt_of_le (lt_of_all lt (mem_l hq)) g)) (ho q hq)⟩
  rcases List.mem_cons.mp hp with rfl | hp
  · exact hI (R, oR) (.head _)
  rcases List.mem_cons.mp hp with rfl | hp
  · exact hI (S, oS) (.tail _ (.head _))
  rcases List.mem_append.mp hp with hp | hp
  · exact hI p (.tail _ (.tail _ (mem_l hp)))
  · exact key (fun y g => Nat.ne_of_gt (Nat.lt_of_lt_of_le lI g)) (fun p hp => hI p (.tail _ (.tail _ (mem_r hp)))) p hp
theorem law_loopB {prog : Program} {w : World} {h₀ : Heap} {L fa c S R : Addr} {cd : Value} {s : Shared} {ws : List Value} {ns : List Int} {base : Led} {o2 o1 : Obj} {ta tn tu : Tok} {kS kc : Nat} {m : Str → Option Value} {loose : List Str} {mean : ExcName → Option Value} {mg mb : Str → Option Value} {Q : Flow → Shared → Prop} {E : Value → Shared → Prop}
    (B : Below callerA h₀ [] h₀) (CH : CodeHd h₀ 806 802) (F : Fr h₀ L s.heap (fun y => if y = Str.ofString "uid" then some (.int 0 tu) else if y = Str.ofString "number" then some (.int 0 tn) else m y)) (X : (Kc w.params).In h₀) (T : Top topProg loose mean mg mb h₀)
    (N : News h₀ L s.heap ((R, W.listOf #[] 0) :: (S, W.listOf #[.ref c, .int 0 ta] kS) :: base)) (b2 : (L + 1 + 1, o2) ∈ base) (b1 : (L + 1, o1) ∈ base) (bc : (c, W.listOf ws.toArray kc) ∈ base) (d2 : o2.data = .cell (some (.ref R))) (d1 : o1.data = .cell (some (.ref S)))
    (bS : ∀ p ∈ base, p.1 ≠ S) (bR : ∀ p ∈ base, p.1 ≠ R) (hI : IntsAre ws ns) (hp0 : 0 < ws.length) (hp1 : ws.length ≤ 63) (hcS' : c ≠ S) (hSR : (@LT.lt Nat _ S R))
    (hE : PassesOwn (model prog w) (callerA.deeper (lawEnv L fa cd)) (lawEnv L fa cd) E)
    (next : ∀ h' tk' its ds at_ ta' kS' kR tl m', Fr h₀ L h' m' → News h₀ L h' ((R, W.listOf (List.toArray its) kR) :: (S, W.listOf #[.ref c, .int at_ ta'] kS') :: (base ++ tl)) → (∀ p ∈ tl, p.1 ≠ S) → (∀ p ∈ tl, p.1 ≠ R) → (∀ q ∈ base, ∀ p ∈ tl, q.1 ≠ p.1) → 0 ≤ at_ → at_ ≤ 50 → SeensIn w tl its ds → ds.length ≤ 6 → incD SD.number ds → incD SD.uid ds → (∀ d ∈ ds, 0 < d.number ∧ 0 < d.uid) → Q .next { s with heap := h', toks := tk' }) :
    wpAny (model prog w) (callerA.deeper (lawEnv L fa cd)) (exec forSt (lawEnv L fa cd)) Q E s := by
  rename Fr _ _ _ _ => lF'
  refine For_turns (hE := hE) lF' ?_
  kpc_turns
  rename IsRange _ _ _ _ _ _ _ _ => hrg
  rename (_ < (7 : Int)) => h7
  have hSR' : (@Ne Nat S R) := Nat.ne_of_lt hSR
  refine iter_rangeJ (a := 0) rfl (fun _ _ => rfl) hrg (small_one (by omega) (by omega) (by omega) (by omega)) (rangeSize_nat _ _) (by k_asm) (by k_asm) (fun i m₁ nx => Ex11 fun its ds at_ ta' kS' kR tl nV uV tn tu => An15 (nx = (R, W.listOf (List.toArray its) kR) :: (S, W.listOf #[.ref c, .int at_ ta'] kS') :: (base ++ tl)) (m₁ (Str.ofString "uid") = some (.int uV tu)) (m₁ (Str.ofString "number") = some (.int nV tn)) ((∀ p ∈ tl, p.1 ≠ S)) ((∀ p ∈ tl, p.1 ≠ R)) ((∀ q ∈ base, ∀ p ∈ tl, q.1 ≠ p.1)) (0 ≤ at_) (at_ ≤ 1 + 7 * (i : Int)) (SeensIn w tl its ds) (ds.length = i) (incD SD.number ds) (incD SD.uid ds) ((∀ d ∈ ds, 0 < d.number ∧ d.number ≤ nV ∧ 0 < d.uid ∧ d.uid ≤ uV)) (0 ≤ nV) (0 ≤ uV))
    ⟨[], [], _, _, _, 0, [], 0, 0, _, _, congrArg (fun x => _ :: _ :: x) (List.append_nil _).symm, rfl, rfl, (fun _ h => nomatch h), (fun _ h => nomatch h), (fun _ _ _ h => nomatch h), by omega, by omega, .nil, rfl, .nil, .nil, (fun _ h => nomatch h), Int.le_refl _, Int.le_refl _⟩ ?_ ?_
  · rintro i v m₁ nx h tk I oI q9 hq9 hi ⟨t0, rfl⟩ ⟨its, ds, at_, ta', kS', kR, tl, nV, uV, tn', tu', rfl, hmu, hmn, htS, htR, hto, ha0, ha1, hs, hdl, hin, hiu, hpos, hn0, hu0⟩ hnI F₁ N₁
    have hi7 : (i : Int) < 6 := by omega
    have hm2 := map_two hmu hmn
    rw [hm2] at F₁
    have hIS : (@Ne Nat I S) := Ne.symm (hnI (S, _) (.tail _ (.head _)))
    have hIR : (@Ne Nat I R) := Ne.symm (hnI (R, _) (.head _))
    kpc_turns
    rename News _ _ _ ((I, oI) :: _) => N2
    rename Fr _ _ _ _ => F2
    refine Halt.go ?_
    refine my_Assign_B (F₀ := by k_asm) (by rfl) (by with_unfolding_all rfl) (by with_unfolding_all rfl) (by decide) (by rfl) (by decide) (by rfl) (by rfl) (by rfl) ?_
    kpc_turns
    refine ⟨_, _, _, rfl, rfl, by k_asm, by k_asm, ⟨_, X _ _ (by k_is), rfl, _, rfl⟩, by decide +kernel, fun g => ?_⟩
    refine compT (fun j ys nx => Ex4 fun at5 ta5 k5 fs => An6 (nx = (I, oI) :: (R, W.listOf (List.toArray its) kR) :: (S, W.listOf #[.ref c, .int at5 ta5] k5) :: (base ++ tl)) (at_ ≤ at5) (at5 ≤ at_ + 2 + (j : Int)) (StrsAre ys fs) ((∀ f ∈ fs, Flag f)) (ys.length ≤ j)) (fun _ _ _ _ => trivial) ⟨_, _, _, [], rfl, by omega, by omega, .nil, (fun _ h => nomatch h), Nat.le_refl _⟩ ?_ ?_
    · rintro j v ys nx I2 oI2 C oC D m₂ h tk E' q9 q8 hq9 hq8 hj hv ⟨at5, ta5, k5, fs, rfl, ha5, hb5, hfs, hfl, hyj⟩ hC hx F₁ N₁ off hne3
      obtain ⟨g1, g2, g3⟩ := off (S, _) (.tail _ (.tail _ (.head _)))
      have g1 : (@Ne Nat S I2) := g1
      have g2 : (@Ne Nat S C) := g2
      have g3 : (@Ne Nat S D) := g3
      have hj3 : j < 3 := hj
      have hvf : Ex2 fun f t => An2 (v = .str f t) (Flag f) := by
        rcases j with _ | _ | _ | j
        · exact ⟨_, _, (Option.some.inj hv).symm, .inl rfl⟩
        · exact ⟨_, _, (Option.some.inj hv).symm, .inr (.inl rfl)⟩
        · exact ⟨_, _, (Option.some.inj hv).symm, .inr (.inr rfl)⟩
        · omega
      obtain ⟨f, tf, rfl, hf⟩ := hvf
      have hat : at5 ≤ 45 := by omega
      kpc_turns
      · rename News _ _ _ _ => N9
        refine CTurn.none (by k_asm) N9 (fun _ h => h) (off_src (S := S) off) ⟨_, _, _, fs ++ [f], rfl, by omega, by omega, strs_append hfs (.cons _ _ .nil), ?_, by rw [List.length_append]; simp only [List.length_cons, List.length_nil]; omega⟩
        intro g hg
        rcases List.mem_append.mp hg with hg | hg
        · exact hfl g hg
        · rw [List.mem_singleton.mp hg]; exact hf
      · rename News _ _ _ _ => N9
        exact CTurn.none (by k_asm) N9 (fun _ h => h) (off_src (S := S) off) ⟨_, _, _, fs, rfl, by omega, by omega, hfs, hfl, by omega⟩
    · rintro ys nx ⟨at5, ta5, k5, fs, rfl, ha5, hb5, hfs, hfl, hyj⟩
      intro D h tk F₁ N₁ off
      have hb5 : at5 ≤ at_ + 2 + ((3 : Nat) : Int) := hb5
      have hb5' : at5 ≤ at_ + 5 := by omega
      have ha6 : at5 ≤ 45 := by omega
      have hyl : ys.length ≤ 3 := hyj
      have hil : its.length ≤ 6 := by rw [hs.len, hdl]; omega
      simp only [LCg.Off1] at off
      obtain ⟨f1, f2, f3, foff⟩ := off
      have foff := off1_mem foff
      kpc_turns
      rename News h₀ L _ (_ :: _ :: _ :: _ :: _ :: _ :: (I, oI) :: _) => N9
      rename (_ < _ ∧ _ < _ ∧ _ < _ ∧ _ < _ ∧ AllLt _ _) => la
      rename (_ < _ ∧ _ < _ ∧ _ < _ ∧ _ < _ ∧ _ < _ ∧ _ < _ ∧ AllLt _ _) => lb
      rename (_ < _ ∧ _ < _ ∧ _ < _ ∧ _ < _ ∧ _ < _ ∧ _ < _ ∧ _ < _ ∧ AllLt _ _) => lc
      simp only [List.push_toArray] at N9
      refine TurnPost.next (by k_asm) N9 _ five_subB (five_news (oR := W.listOf (List.toArray its) kR) (oS := W.listOf #[.ref c, .int at_ ta'] kS') la (by assumption) lb.2.1 lc.2.2.1 (by assumption) htS htR hto hnI).1 ?_
      obtain ⟨-, qS, qR, qo⟩ := five_news (oR' := W.listOf #[] 0) (oS' := W.listOf #[] 0) la (by assumption) lb.2.1 lc.2.2.1 (by assumption) htS htR hto hnI
      refine ⟨its ++ [_], ds ++ [⟨_, _, _, _, fs⟩], _, _, _, _, _, _, _, _, _, rfl, rfl, rfl, qS, qR, qo, by omega, by omega,
        (hs.mono fun p hp => List.mem_append.mpr (.inl hp)).append (.cons ⟨_, _, _, _, _, _, _, _, rfl, m51, m52, ⟨_, _, _, _, _, _, _, _, _, _, _, _, _, _, _, m54, m55, ⟨rfl, size_rep (by assumption) (by assumption)⟩, m53, hfs⟩⟩ .nil), by rw [List.length_append, hdl]; rfl, inc_snoc hin fun e he => ?_, inc_snoc hiu fun e he => ?_, fun e he => ?_, by omega, by omega⟩
      · have := hpos e he; dsimp only; omega
      · have := hpos e he; dsimp only; omega
      · rcases List.mem_append.mp he with he | he
        · have := hpos e he; omega
        · rw [List.mem_singleton.mp he]; dsimp only; omega
  · rintro m' nx h tk ⟨its, ds, at_, ta', kS', kR, tl, nV, uV, tn', tu', rfl, hmu, hmn, htS, htR, hto, ha0, ha1, hs, hdl, hin, hiu, hpos, hn0, hu0⟩ F₁ N₁
    have hd6 : ds.length ≤ 6 := by rw [hdl]; omega
    exact next h tk its ds at_ ta' kS' kR tl m' F₁ N₁ htS htR hto ha0 (by omega) hs hd6 hin hiu fun d hd => ⟨(hpos d hd).1, (hpos d hd).2.2.1⟩
theorem ne_lt {a S : Nat} {p : Addr × Obj} (h : a < S) (e : p.1 = a) : p.1 ≠ S := e ▸ Nat.ne_of_lt h
theorem base_lt {L c S : Addr} {o4 o3 o2 o1 o0 oc : Obj} (l0 : (@LT.lt Nat _ 802 L)) (h : (@LT.lt Nat _ (L + 1 + 1 + 1 + 1) S)) (hc : (@LT.lt Nat _ c S)) : ∀ p ∈ [(L + 1 + 1 + 1 + 1, o4), (L + 1 + 1 + 1, o3), (L + 1 + 1, o2), (L + 1, o1), (802, o0), (c, oc)], p.1 ≠ S := by
  have h3 := Nat.lt_of_succ_lt h
  have h2 := Nat.lt_of_succ_lt h3
  have h1 := Nat.lt_of_succ_lt h2
  have h0 := Nat.lt_trans l0 (Nat.lt_of_succ_lt h1)
  exact ne_cons (Nat.ne_of_lt h) (ne_cons (Nat.ne_of_lt h3) (ne_cons (Nat.ne_of_lt h2) (ne_cons (Nat.ne_of_lt h1) (ne_cons (Nat.ne_of_lt h0) (ne_cons (Nat.ne_of_lt hc) fun _ h => nomatch h)))))
theorem law_loop {prog : Program} {w : World} {h₀ : Heap} {L fa c S R : Addr} {cd : Value} {s : Shared} {ws : List Value} {ns : List Int} {o4 o3 o2 o1 : Obj} {v4 v3 : Option Value} {ta tn tu : Tok} {kS kc : Nat} {m : Str → Option Value} {loose : List Str} {mean : ExcName → Option Value} {mg mb : Str → Option Value} {Q : Flow → Shared → Prop} {E : Value → Shared → Prop}
    (B : Below callerA h₀ [] h₀) (CH : CodeHd h₀ 806 802) (F : Fr h₀ L s.heap (fun y => if y = Str.ofString "uid" then some (.int 0 tu) else if y = Str.ofString "number" then some (.int 0 tn) else m y)) (X : (Kc w.params).In h₀) (T : Top topProg loose mean mg mb h₀)
    (N : News h₀ L s.heap ((R, W.listOf #[] 0) :: (S, W.listOf #[.ref c, .int 0 ta] kS) :: (L + 1 + 1 + 1 + 1, o4) :: (L + 1 + 1 + 1, o3) :: (L + 1 + 1, o2) :: (L + 1, o1) :: (802, tabObj #[]) :: [(c, W.listOf ws.toArray kc)])) (l0 : (@LT.lt Nat _ 802 L)) (d4 : o4.data = .cell v4) (d3 : o3.data = .cell v3) (d2 : o2.data = .cell (some (.ref R))) (d1 : o1.data = .cell (some (.ref S)))
    (hI : IntsAre ws ns) (hp0 : 0 < ws.length) (hp1 : ws.length ≤ 63) (hcX : (@Ne Nat c (L + 1 + 1 + 1 + 1)) ∧ (@Ne Nat c (L + 1 + 1 + 1)) ∧ (@Ne Nat c 802)) (hLS : (@LT.lt Nat _ (L + 1 + 1 + 1 + 1) S)) (hcS : (@LT.lt Nat _ c S)) (hSR : (@LT.lt Nat _ S R))
    (hE : PassesOwn (model prog w) (callerA.deeper (lawEnv L fa cd)) (lawEnv L fa cd) E)
    (next : ∀ h' tk' its ds at_ ta' kS' kR news m', Fr h₀ L h' m' → News h₀ L h' ((R, W.listOf (List.toArray its) kR) :: (S, W.listOf #[.ref c, .int at_ ta'] kS') :: (L + 1 + 1 + 1 + 1, o4) :: (L + 1 + 1 + 1, o3) :: (L + 1 + 1, o2) :: (L + 1, o1) :: (802, tabObj #[]) :: news) → (c, W.listOf ws.toArray kc) ∈ news → (∀ p ∈ news, ((@Ne Nat p.1 (L + 1 + 1 + 1 + 1)) ∧ (@Ne Nat p.1 (L + 1 + 1 + 1)) ∧ (@Ne Nat p.1 802)) ∧ p.1 ≠ S ∧ p.1 ≠ R) → 0 ≤ at_ → at_ ≤ 50 → SeensIn w news its ds → ds.length ≤ 6 → incD SD.number ds → incD SD.uid ds → (∀ d ∈ ds, 0 < d.number ∧ 0 < d.uid) → Q .next { s with heap := h', toks := tk' }) :
    wpAny (model prog w) (callerA.deeper (lawEnv L fa cd)) (exec forSt (lawEnv L fa cd)) Q E s := by
  have hcS' : c ≠ S := Nat.ne_of_lt hcS
  refine law_loopB (base := [(L + 1 + 1 + 1 + 1, o4), (L + 1 + 1 + 1, o3), (L + 1 + 1, o2), (L + 1, o1), (802, tabObj #[]), (c, W.listOf ws.toArray kc)]) B CH F X T N (.tail _ (.tail _ (.head _))) (.tail _ (.tail _ (.tail _ (.head _)))) (.tail _ (.tail _ (.tail _ (.tail _ (.tail _ (.head _)))))) d2 d1 (base_lt l0 hLS hcS) (base_lt l0 (Nat.lt_trans hLS hSR) (Nat.lt_trans hcS hSR)) hI hp0 hp1 hcS' hSR hE
    fun h' tk' its ds at_ ta' kS' kR tl m' F' N' htS htR hto ha0 ha1 hs hd hin hiu hpos => next h' tk' its ds at_ ta' kS' kR ((c, W.listOf ws.toArray kc) :: tl) m' F' N' (.head _) (fun p hp => ?_) ha0 ha1 (hs.mono (subTail subRefl)) hd hin hiu hpos
  rcases List.mem_cons.mp hp with rfl | hp
  · exact ⟨hcX, hcS', Nat.ne_of_lt (Nat.lt_trans hcS hSR)⟩
  · exact ⟨⟨Ne.symm (hto (_, o4) (.head _) p hp), Ne.symm (hto (_, o3) (.tail _ (.head _)) p hp), Ne.symm (hto (802, tabObj #[]) (.tail _ (.tail _ (.tail _ (.tail _ (.head _))))) p hp)⟩, htS p hp, htR p hp⟩
/-- the table's place below the law's cells, its source and its rows -/
theorem upd7 {L S R : Addr} {oR oS o4 o3 o2 o1 : Obj} {ps : Array Value} {news : Led} (l0 : (@LT.lt Nat _ 802 L)) (hLS : (@LT.lt Nat _ (L + 1 + 1 + 1 + 1) S)) (hSR : (@LT.lt Nat _ S R)) (n8 : ∀ p ∈ news, p.1 ≠ 802) :
    UpdF 802 (tabObj ps) ((R, oR) :: (S, oS) :: (L + 1 + 1 + 1 + 1, o4) :: (L + 1 + 1 + 1, o3) :: (L + 1 + 1, o2) :: (L + 1, o1) :: (802, tabObj ps) :: news) (fun o => (R, oR) :: (S, oS) :: (L + 1 + 1 + 1 + 1, o4) :: (L + 1 + 1 + 1, o3) :: (L + 1 + 1, o2) :: (L + 1, o1) :: (802, o) :: news) := by
  have h1 := Nat.lt_succ_of_lt l0
  have h2 := Nat.lt_succ_of_lt h1
  have h3 := Nat.lt_succ_of_lt h2
  have h4 := Nat.lt_succ_of_lt h3
  have hS := Nat.lt_trans h4 hLS
  exact .tail (Nat.ne_of_gt (Nat.lt_trans hS hSR)) (.tail (Nat.ne_of_gt hS) (.tail (Nat.ne_of_gt h4) (.tail (Nat.ne_of_gt h3) (.tail (Nat.ne_of_gt h2) (.tail (Nat.ne_of_gt h1) (.head n8))))))
theorem lt802 {L S R : Addr} (l0 : (@LT.lt Nat _ 802 L)) (hLS : (@LT.lt Nat _ (L + 1 + 1 + 1 + 1) S)) (hSR : (@LT.lt Nat _ S R)) : (@LT.lt Nat _ 802 R) := Nat.lt_trans (Nat.lt_trans (Nat.lt_trans l0 (Nat.lt_of_lt_of_le (Nat.lt_succ_self L) (Nat.le_add_right (L + 1) 3))) hLS) hSR
end S_ll
section S_turn
local macro_rules | `(tactic| walk_at "my_room") => `(tactic| decide)
local macro_rules | `(tactic| walk_at "call ref") => `(tactic| ktn_call "at" 848)
local macro_rules | `(tactic| walk_at "call ref") => `(tactic| ktn_call "at" 888)
local macro_rules | `(tactic| walk_at "compareOp NotEq ref ref") => `(tactic| walk_at "my_halt")
theorem mem12 {a1 a2 a3 a4 a5 a6 a7 a8 a9 a10 a11 a12 p : Addr × Obj} {news : Led} (h : p ∈ news) : p ∈ a1 :: a2 :: a3 :: a4 :: a5 :: a6 :: a7 :: a8 :: a9 :: a10 :: a11 :: a12 :: news := .tail _ (.tail _ (.tail _ (.tail _ (.tail _ (.tail _ (.tail _ (.tail _ (.tail _ (.tail _ (.tail _ (.tail _ h)))))))))))
theorem sub12 {a1 a2 a3 a4 a5 a6 a7 a8 a9 a10 a11 a12 p : Addr × Obj} {x y z : Led} (h : p ∈ a1 :: a2 :: a3 :: a4 :: a5 :: a6 :: a7 :: a8 :: a9 :: a10 :: a11 :: a12 :: (x ++ y)) : p ∈ a1 :: a2 :: a3 :: a4 :: a5 :: a6 :: a7 :: a8 :: a9 :: a10 :: a11 :: a12 :: (x ++ (y ++ z)) := by
  rw [← List.append_assoc]
  exact List.mem_append.mpr (.inl h)
theorem upd_sub {ps ps' : Array Value} {all : Led} {g : Obj → Led} (U : UpdF 802 (tabObj ps) all g) {nx tl : Led} (h : ∀ p ∈ nx, p ∈ all ∧ p.1 ≠ 802) : ∀ p ∈ nx ++ tl, p ∈ g (tabObj ps') ++ tl := fun p hp => by
  obtain ⟨pre, post, rfl, hg, h2, h3⟩ := U.split
  rw [hg]
  rcases List.mem_append.mp hp with q | q
  · obtain ⟨q, h8⟩ := h p q
    refine List.mem_append.mpr (.inl ?_)
    rcases List.mem_append.mp q with q | q
    · exact List.mem_append.mpr (.inl q)
    · rcases List.mem_cons.mp q with rfl | q
      · exact absurd rfl h8
      · exact List.mem_append.mpr (.inr (.tail _ q))
  · exact List.mem_append.mpr (.inr q)
theorem gn_pos {ds : List SD} (h : ∀ d ∈ ds, 0 < d.number ∧ 0 < d.uid) : ds ≠ [] → 0 < gnOf ds ∧ 0 < guOf ds := by
  intro hne
  rcases List.eq_nil_or_concat ds with rfl | ⟨ds', e, rfl⟩
  · exact absurd rfl hne
  · rw [List.concat_eq_append] at *
    have hg : gnOf (ds' ++ [e]) = e.number := by simp [gnOf]
    have hu : guOf (ds' ++ [e]) = e.uid := by simp [guOf]
    rw [hg, hu]
    exact h e (by simp)
theorem inc_num {ds : List SD} {b : Bool} (hin : incD SD.number ds) (hiu : incD SD.uid ds) : (ds.map (numOf b)).Pairwise (· < ·) := by
  cases b
  · exact hin
  · exact hiu
theorem ref_of {news : Led} {v : Value} {ds : List Dat} (h : DatIn news v (.tuple ds)) : ∃ q, v = .ref q := by
  cases h; exact ⟨_, rfl⟩
theorem ok_plain (ns : List Int) (mq : Int) : [Dat.str (Str.ofString "search"), .tuple (ns.map .int), .int mq].all (kqdOk 7) = true := by
  simp only [kqdOk, List.all_cons, List.all_nil, ok_ints 6, Bool.and_true]; decide +kernel
noncomputable abbrev turnSt : List Stmt := match (B893[12]?).getD (.Pass ⟨0, 0, 0, 0⟩) with | .For _ _ body _ _ => body | _ => []
noncomputable abbrev turnTg : PySem.Expr := match (B893[12]?).getD (.Pass ⟨0, 0, 0, 0⟩) with | .For e _ _ _ _ => e | _ => .Name (Str.ofString "") ⟨0, 0, 0, 0⟩
theorem law_turnC {prog : Program} {w : World} {h₀ : Heap} {L fa c S R : Addr} {cd : Value} {s : Shared} {its ys zs : List Value} {D DN Wt TW I : Addr} {oI : Obj} {b : Bool} {wl : List Value} {wn : List Str} {ps : Array Value} {ds : List SD} {o4 o3 o2 o1 : Obj} {l : Value} {t : Tr} {at_ : Int} {ta tq : Tok} {kS kR : Nat} {m : Str → Option Value} {news : Led} {loose : List Str} {mean : ExcName → Option Value} {mg mb : Str → Option Value} {Q : Flow → Shared → Prop} {E : Value → Shared → Prop}
    (B : Below callerA h₀ [] h₀) (CH : CodeHd h₀ 806 802) (F : Fr h₀ L s.heap (fun z => if z = Str.ofString "numbers" then some (.ref DN) else if z = Str.ofString "wants" then some (.ref Wt) else if z = Str.ofString "modseq" then some (.int (mqOf t (foundOf t ds)) tq) else if z = Str.ofString "found" then some (.ref D) else m z)) (X : (Kc w.params).In h₀) (T : Top topProg loose mean mg mb h₀)
    (N : News h₀ L s.heap ((I, oI) :: (DN, LCg.lst zs) :: (TW, tup [.bool false, .bool true] 0) :: (Wt, tup wl 0) :: (D, LCg.lst ys) :: (R, W.listOf (List.toArray its) kR) :: (S, W.listOf #[.ref c, .int at_ ta] kS) :: (L + 1 + 1 + 1 + 1, o4) :: (L + 1 + 1 + 1, o3) :: (L + 1 + 1, o2) :: (L + 1, o1) :: (802, tabObj ps) :: news)) (l0 : (@LT.lt Nat _ 802 L)) (d4 : o4.data = .cell (some (.bool b))) (d3 : o3.data = .cell (some l)) (d2 : o2.data = .cell (some (.ref R)))
    (hI8 : (@Ne Nat I 802)) (hT8 : (@Ne Nat TW 802)) (hN8 : (@Ne Nat DN 802)) (hW8 : (@Ne Nat Wt 802)) (hD8 : (@Ne Nat D 802))
    (hLS : (@LT.lt Nat _ (L + 1 + 1 + 1 + 1) S)) (hSR : (@LT.lt Nat _ S R)) (n8 : ∀ p ∈ news, p.1 ≠ 802) (hs : SeensIn w news its ds) (hdl : ds.length ≤ 6) (hin : incD SD.number ds) (hiu : incD SD.uid ds) (hpos : ∀ d ∈ ds, 0 < d.number ∧ 0 < d.uid)
    (hlam : LamOk ps news) (hwl : StrsAre wl wn) (hwn : wn.length ≤ 4) (hzs : IntsAre zs ((foundOf t ds).map (numOf b))) (htr : TrIn news l t) (hth : t.high ≤ 3) (hts : t.size ≤ 40)
    (fin : ∀ h' tk' (ps' : Array Value) (nw : Led), Fr h₀ L h' (fun z => if z = Str.ofString "numbers" then some (.ref DN) else if z = Str.ofString "wants" then some (.ref Wt) else if z = Str.ofString "modseq" then some (.int (mqOf t (foundOf t ds)) tq) else if z = Str.ofString "found" then some (.ref D) else m z) →
      News h₀ L h' ((I, oI) :: (DN, LCg.lst zs) :: (TW, tup [.bool false, .bool true] 0) :: (Wt, tup wl 0) :: (D, LCg.lst ys) :: (R, W.listOf (List.toArray its) kR) :: (S, W.listOf #[.ref c, .int at_ ta] kS) :: (L + 1 + 1 + 1 + 1, o4) :: (L + 1 + 1 + 1, o3) :: (L + 1 + 1, o2) :: (L + 1, o1) :: (802, tabObj ps') :: (news ++ nw)) →
      LamOk ps' (news ++ nw) → (∀ p ∈ nw, p.1 ≠ L + 1 + 1 + 1 + 1) → (∀ p ∈ nw, p.1 ≠ 802) → (∀ p ∈ nw, p.1 ≠ I) → Q .next { s with heap := h', toks := tk' }) :
    wpAny (model prog w) (callerA.deeper (lawEnv L fa cd)) (execs (turnSt.drop 3) (lawEnv L fa cd)) Q E s := by
  have U : UpdF 802 (tabObj ps) ((I, oI) :: (DN, LCg.lst zs) :: (TW, tup [.bool false, .bool true] 0) :: (Wt, tup wl 0) :: (D, LCg.lst ys) :: (R, W.listOf (List.toArray its) kR) :: (S, W.listOf #[.ref c, .int at_ ta] kS) :: (L + 1 + 1 + 1 + 1, o4) :: (L + 1 + 1 + 1, o3) :: (L + 1 + 1, o2) :: (L + 1, o1) :: (802, tabObj ps) :: news) (fun o => (I, oI) :: (DN, LCg.lst zs) :: (TW, tup [.bool false, .bool true] 0) :: (Wt, tup wl 0) :: (D, LCg.lst ys) :: (R, W.listOf (List.toArray its) kR) :: (S, W.listOf #[.ref c, .int at_ ta] kS) :: (L + 1 + 1 + 1 + 1, o4) :: (L + 1 + 1 + 1, o3) :: (L + 1 + 1, o2) :: (L + 1, o1) :: (802, o) :: news) :=
    .tail hI8 (.tail hN8 (.tail hT8 (.tail hW8 (.tail hD8 (upd7 l0 hLS hSR n8)))))
  have hR8 : (@Ne Nat R 802) := Nat.ne_of_gt (lt802 l0 hLS hSR)
  have hinc := pick_inc (inc_num (b := b) hin hiu) (meets (gnOf ds) (guOf ds) t)
  have hfl : (foundOf t ds).length ≤ 6 := Nat.le_trans (List.length_filter_le _ _) hdl
  have hzl := hzs.length
  rw [List.length_map] at hzl
  kpc_turns
  refine Halt.go ?_
  refine' GivesT.useU (search_ext_gives w t hth hts ds (by omega) (gn_pos hpos) (inc_inj hin) b (Str.ofString "t") wn (by omega) hinc) ?k1 CH ?k2 ?k3 ?k4 U news ?kl ?kn ?k5 ?k6 ?k7 ?k8 ?k9 ?_
  (case k1 => k_asm)
  (case k2 => k_asm)
  (case k3 => k_asm)
  (case k4 => k_asm)
  (case kl => exact hlam)
  (case kn => exact fun p hp => ⟨mem12 hp, n8 p hp⟩)
  (case k5 => k_asm)
  (case k6 => rfl)
  (case k7 => decide)
  (case k8 => decide)
  (case k9 =>
    intro nx hnx
    have hx : ∀ p ∈ news, p ∈ nx := fun p hp => hnx p (mem12 hp) (n8 p hp)
    have hRn : (R, W.listOf (List.toArray its) kR) ∈ nx := hnx _ (by lsm_bools) hR8
    exact ⟨l, R, its, kR, _, Wt, wl, 0, rfl, hnx _ (by lsm_bools) hW8, hwl, htr.mono hx, hRn, hs.mono hx⟩)
  intro r9 tl9 h9 tk9 ps9 F9 N9 hl9 hs9 e9
  obtain ⟨nx9, hd9, hnx9⟩ := e9
  replace hnx9 := upd_sub (ps' := ps9) (tl := tl9) U hnx9
  try simp only [List.cons_append] at N9 hnx9
  have hsub9 : ∀ p ∈ news, p ∈ news ++ tl9 := fun p hp => List.mem_append.mpr (.inl hp)
  rw [extedD, extD, es_lp hinc] at hd9
  obtain ⟨q9, rfl⟩ := ref_of hd9
  kpc_turns
  refine Halt.go ?_
  refine' Gives.use (law_pairs_gives w ((foundOf t ds).map (numOf b)) (by rw [List.length_map]; omega) hinc wn (by omega) (mqOf t (foundOf t ds))) ?k1 ?k2 ?k3 ?k4 ?k5 ?k6 ?k7 ?k8 ?k9 ?_
  (case k1 => k_asm)
  (case k2 => k_asm)
  (case k3 => k_asm)
  (case k4 => k_asm)
  (case k5 => k_asm)
  (case k6 => rfl)
  (case k7 => decide)
  (case k8 => decide)
  (case k9 => exact ⟨DN, zs, _, Wt, wl, 0, _, rfl, by lsm_bools, hzs, by lsm_bools, hwl⟩)
  intro r8 tl8 h8 tk8 F8 N8 hl8 hd8
  try simp only [List.cons_append, List.append_assoc] at N8 hd8
  kpc_turns
  refine Halt.go ?_
  rename News h₀ L _ _ => N7
  rename Fr _ _ _ _ => F7
  refine my_neExt N7 hd9 (fun p hp => .tail _ (sub12 (hnx9 p hp))) (.tuple (.head _) (.cons (.str _ _) (.cons (.str _ _) (.cons (.bool _) (.cons (DatIn.mono (fun p hp => .tail _ hp) hd8) .nil))))) (fun _ h => h) (by decide +kernel) (by decide +kernel) (ok_lp _ _ _) (by show callerA.units + 3 + 64 < cLine; decide) ?_
  kpc_turns
  exact fin _ _ ps9 (tl9 ++ tl8) F7 (news_sub N7 fun p hp => .tail _ hp) ((hs9 news hlam).mono (by rw [← List.append_assoc]; exact fun p hp => List.mem_append.mpr (.inl hp))) (all_app (off_tl hl9 (by lsm_bools)) (off_tl hl8 (by lsm_bools))) (all_app (off_tl hl9 (by lsm_bools)) (off_tl hl8 (by lsm_bools))) (all_app (off_tl hl9 (.head _)) (off_tl hl8 (.head _)))
local macro_rules | `(tactic| walk_at "execs cons") => `(tactic| ktn_call "st" (Stmt.If (Expr.Compare (Expr.Call (Expr.Name (Str.ofString "search_answer") _) (_ :: (Expr.Name (Str.ofString "wants") _) :: _) _ _) _ _ _) _ _ _))
theorem law_turnB {prog : Program} {w : World} {h₀ : Heap} {L fa c S R : Addr} {cd : Value} {s : Shared} {its ys zs : List Value} {D DN Wt TW I : Addr} {oI : Obj} {b : Bool} {wl : List Value} {wn : List Str} {ps : Array Value} {ds : List SD} {o4 o3 o2 o1 : Obj} {l : Value} {t : Tr} {at_ : Int} {ta tq : Tok} {kS kR : Nat} {m : Str → Option Value} {news : Led} {loose : List Str} {mean : ExcName → Option Value} {mg mb : Str → Option Value} {Q : Flow → Shared → Prop} {E : Value → Shared → Prop}
    (B : Below callerA h₀ [] h₀) (CH : CodeHd h₀ 806 802) (F : Fr h₀ L s.heap (fun z => if z = Str.ofString "numbers" then some (.ref DN) else if z = Str.ofString "wants" then some (.ref Wt) else if z = Str.ofString "modseq" then some (.int (mqOf t (foundOf t ds)) tq) else if z = Str.ofString "found" then some (.ref D) else m z)) (X : (Kc w.params).In h₀) (T : Top topProg loose mean mg mb h₀)
    (N : News h₀ L s.heap ((I, oI) :: (DN, LCg.lst zs) :: (TW, tup [.bool false, .bool true] 0) :: (Wt, tup wl 0) :: (D, LCg.lst ys) :: (R, W.listOf (List.toArray its) kR) :: (S, W.listOf #[.ref c, .int at_ ta] kS) :: (L + 1 + 1 + 1 + 1, o4) :: (L + 1 + 1 + 1, o3) :: (L + 1 + 1, o2) :: (L + 1, o1) :: (802, tabObj ps) :: news)) (l0 : (@LT.lt Nat _ 802 L)) (d4 : o4.data = .cell (some (.bool b))) (d3 : o3.data = .cell (some l)) (d2 : o2.data = .cell (some (.ref R)))
    (hI8 : (@Ne Nat I 802)) (hT8 : (@Ne Nat TW 802)) (hN8 : (@Ne Nat DN 802)) (hW8 : (@Ne Nat Wt 802)) (hD8 : (@Ne Nat D 802))
    (hLS : (@LT.lt Nat _ (L + 1 + 1 + 1 + 1) S)) (hSR : (@LT.lt Nat _ S R)) (n8 : ∀ p ∈ news, p.1 ≠ 802) (hs : SeensIn w news its ds) (hdl : ds.length ≤ 6) (hin : incD SD.number ds) (hiu : incD SD.uid ds) (hpos : ∀ d ∈ ds, 0 < d.number ∧ 0 < d.uid)
    (hlam : LamOk ps news) (hwl : StrsAre wl wn) (hwn : wn.length ≤ 4) (hzs : IntsAre zs ((foundOf t ds).map (numOf b))) (htr : TrIn news l t) (hth : t.high ≤ 3) (hts : t.size ≤ 40)
    (fin : ∀ h' tk' (ps' : Array Value) (nw : Led), Fr h₀ L h' (fun z => if z = Str.ofString "numbers" then some (.ref DN) else if z = Str.ofString "wants" then some (.ref Wt) else if z = Str.ofString "modseq" then some (.int (mqOf t (foundOf t ds)) tq) else if z = Str.ofString "found" then some (.ref D) else m z) →
      News h₀ L h' ((I, oI) :: (DN, LCg.lst zs) :: (TW, tup [.bool false, .bool true] 0) :: (Wt, tup wl 0) :: (D, LCg.lst ys) :: (R, W.listOf (List.toArray its) kR) :: (S, W.listOf #[.ref c, .int at_ ta] kS) :: (L + 1 + 1 + 1 + 1, o4) :: (L + 1 + 1 + 1, o3) :: (L + 1 + 1, o2) :: (L + 1, o1) :: (802, tabObj ps') :: (news ++ nw)) →
      LamOk ps' (news ++ nw) → (∀ p ∈ nw, p.1 ≠ L + 1 + 1 + 1 + 1) → (∀ p ∈ nw, p.1 ≠ 802) → (∀ p ∈ nw, p.1 ≠ I) → Q .next { s with heap := h', toks := tk' }) :
    wpAny (model prog w) (callerA.deeper (lawEnv L fa cd)) (execs (turnSt.drop 2) (lawEnv L fa cd)) Q E s := by
  have U : UpdF 802 (tabObj ps) ((I, oI) :: (DN, LCg.lst zs) :: (TW, tup [.bool false, .bool true] 0) :: (Wt, tup wl 0) :: (D, LCg.lst ys) :: (R, W.listOf (List.toArray its) kR) :: (S, W.listOf #[.ref c, .int at_ ta] kS) :: (L + 1 + 1 + 1 + 1, o4) :: (L + 1 + 1 + 1, o3) :: (L + 1 + 1, o2) :: (L + 1, o1) :: (802, tabObj ps) :: news) (fun o => (I, oI) :: (DN, LCg.lst zs) :: (TW, tup [.bool false, .bool true] 0) :: (Wt, tup wl 0) :: (D, LCg.lst ys) :: (R, W.listOf (List.toArray its) kR) :: (S, W.listOf #[.ref c, .int at_ ta] kS) :: (L + 1 + 1 + 1 + 1, o4) :: (L + 1 + 1 + 1, o3) :: (L + 1 + 1, o2) :: (L + 1, o1) :: (802, o) :: news) :=
    .tail hI8 (.tail hN8 (.tail hT8 (.tail hW8 (.tail hD8 (upd7 l0 hLS hSR n8)))))
  have hR8 : (@Ne Nat R 802) := Nat.ne_of_gt (lt802 l0 hLS hSR)
  have hinc := pick_inc (inc_num (b := b) hin hiu) (meets (gnOf ds) (guOf ds) t)
  have hfl : (foundOf t ds).length ≤ 6 := Nat.le_trans (List.length_filter_le _ _) hdl
  have hzl := hzs.length
  rw [List.length_map] at hzl
  kpc_turns
  refine Halt.go ?_
  refine' GivesT.useU (search_plain_gives w t hth hts ds (by omega) (gn_pos hpos) (inc_inj hin) b (Str.ofString "t")) ?k1 CH ?k2 ?k3 ?k4 U news ?kl ?kn ?k5 ?k6 ?k7 ?k8 ?k9 ?_
  (case k1 => k_asm)
  (case k2 => k_asm)
  (case k3 => k_asm)
  (case k4 => k_asm)
  (case kl => exact hlam)
  (case kn => exact fun p hp => ⟨mem12 hp, n8 p hp⟩)
  (case k5 => k_asm)
  (case k6 => rfl)
  (case k7 => decide)
  (case k8 => decide)
  (case k9 =>
    intro nx hnx
    have hx : ∀ p ∈ news, p ∈ nx := fun p hp => hnx p (mem12 hp) (n8 p hp)
    have hRn : (R, W.listOf (List.toArray its) kR) ∈ nx := hnx _ (by lsm_bools) hR8
    exact ⟨l, R, its, kR, _, rfl, htr.mono hx, hRn, hs.mono hx⟩)
  intro r9 tl9 h9 tk9 ps9 F9 N9 hl9 hs9 e9
  obtain ⟨nx9, hd9, hnx9⟩ := e9
  replace hnx9 := upd_sub (ps' := ps9) (tl := tl9) U hnx9
  try simp only [List.cons_append] at N9 hnx9
  have hsub9 : ∀ p ∈ news, p ∈ news ++ tl9 := fun p hp => List.mem_append.mpr (.inl hp)
  rw [plainD] at hd9
  obtain ⟨q9, rfl⟩ := ref_of hd9
  kpc_turns
  refine Halt.go ?_
  rename News h₀ L _ _ => N7
  rename Fr _ _ _ _ => F7
  refine my_neDat N7 hd9 (fun p hp => .tail _ (.tail _ (hnx9 p hp))) (.tuple (.head _) (.cons (.str _ _) (.cons (.tuple (.tail _ (.head _)) (ints_dat hzs)) (.cons (.int _ _) .nil)))) (fun _ h => h) (ok_plain _ _) (by show callerA.units + 3 + 64 < cLine; decide) ?_
  kpc_turns
  refine Halt.go ?_
  refine law_turnC (oI := oI) (b := b) (wn := wn) (ds := ds) (t := t) (zs := zs) B CH F7 X T (news_sub N7 fun p hp => .tail _ (.tail _ hp)) l0 d4 d3 d2 hI8 hT8 hN8 hW8 hD8 hLS hSR (all_app n8 (off_tl hl9 (by lsm_bools))) (hs.mono hsub9) hdl hin hiu hpos (hs9 news hlam) hwl hwn hzs (htr.mono hsub9) hth hts ?_
  intro h' tk' ps' nw F6 N6 hl6 m4 m8 mI
  rw [List.append_assoc] at N6 hl6
  exact fin _ _ ps' (tl9 ++ nw) F6 N6 hl6 (all_app (off_tl hl9 (by lsm_bools)) m4) (all_app (off_tl hl9 (by lsm_bools)) m8) (all_app (off_tl hl9 (.head _)) mI)
end S_turn
section S_law
local macro_rules | `(tactic| walk_at "call ref") => `(tactic| ktn_call 838 (told_number_gives _ _ _))
local macro_rules | `(tactic| walk_at "my_room") => `(tactic| decide)
local macro_rules | `(tactic| walk_at "eval ListComp") => `(tactic| walk_at "my_halt")
local macro_rules | `(tactic| walk_at "exec Assign cons ListComp") => `(tactic| walk_at "my_halt")
local macro_rules | `(tactic| walk_at "call ref") => `(tactic| ktr_call 876 (LMAll.at (by assumption) _ ?_))
local macro_rules | `(tactic| walk_at "subscriptTail") => `(tactic| (k_here; k_dflt ((with_reducible apply my_lastG); (with_unfolding_all rfl); k_asm; lsm_bools; assumption)))
local macro_rules | `(tactic| walk_at "call ref") => `(tactic| ktn_call "at" 831)
local macro_rules | `(tactic| walk_at "call ref") => `(tactic| ktn_call "at" 848)
local macro_rules | `(tactic| walk_at "exec For Name Tuple cons nil") => `(tactic| walk_at "my_halt")
local macro_rules | `(tactic| walk_at "execs cons") => `(tactic| ktn_call "st" (Stmt.If (Expr.Compare (Expr.Call (Expr.Name (Str.ofString "search_answer") _) _ _ _) _ _ _) _ _ _))
theorem mem8 {a1 a2 a3 a4 a5 a6 a7 a8 p : Addr × Obj} {news : Led} (h : p ∈ news) : p ∈ a1 :: a2 :: a3 :: a4 :: a5 :: a6 :: a7 :: a8 :: news := .tail _ (.tail _ (.tail _ (.tail _ (.tail _ (.tail _ (.tail _ (.tail _ h)))))))
theorem met_sub7 {a1 a2 a3 a4 a5 a6 a7 : Addr × Obj} {nx news tl : Led} {T : Addr} {ps ps' : Array Value} (h : ∀ p ∈ nx, p ∈ a1 :: a2 :: a3 :: a4 :: a5 :: a6 :: a7 :: (T, tabObj ps) :: news ∧ p.1 ≠ T) :
    ∀ p ∈ nx ++ tl, p ∈ a1 :: a2 :: a3 :: a4 :: a5 :: a6 :: a7 :: (T, tabObj ps') :: (news ++ tl) := fun p hp => by
  rcases List.mem_append.mp hp with hp | hp
  · obtain ⟨h, hT⟩ := h p hp
    simp only [List.mem_cons, List.mem_append] at h ⊢
    rcases h with h | h | h | h | h | h | h | h | h
    · simp only [h, true_or]
    · simp only [h, true_or, or_true]
    · simp only [h, true_or, or_true]
    · simp only [h, true_or, or_true]
    · simp only [h, true_or, or_true]
    · simp only [h, true_or, or_true]
    · simp only [h, true_or, or_true]
    · rw [h] at hT; exact absurd rfl hT
    · simp only [h, true_or, or_true]
  · simp only [List.mem_cons, List.mem_append, hp, or_true]
theorem map_skip {x : Str} {v : Option Value} {u m : Str → Option Value} : (fun z => if z = x then v else if [x].contains z then u z else m z) = (fun z => if z = x then v else m z) := by
  funext z
  by_cases h : z = x <;> simp [h]
theorem map_put {x : Str} {v : Option Value} {m : Str → Option Value} : (fun z => if z = x then v else m z) = (fun z => if [x].contains z then (fun _ => v) z else m z) := by
  funext z
  by_cases h : z = x <;> simp [h]
theorem drop_2nd {h₀ h : Heap} {L : Addr} {a b : Addr × Obj} {r : Led} (N : News h₀ L h (a :: b :: r)) : News h₀ L h (a :: r) := news_sub N fun p hp => by
  rcases List.mem_cons.mp hp with rfl | hp
  · exact .head _
  · exact .tail _ (.tail _ hp)
theorem swap_2nd {h₀ h : Heap} {L : Addr} {a b c : Addr × Obj} {r : Led} (N : News h₀ L h (a :: b :: c :: r)) : News h₀ L h (c :: b :: r) := news_sub N fun p hp => by
  rcases List.mem_cons.mp hp with rfl | hp
  · exact .tail _ (.tail _ (.head _))
  · rcases List.mem_cons.mp hp with rfl | hp
    · exact .tail _ (.head _)
    · exact .tail _ (.tail _ (.tail _ hp))
/-- one turn of the last for -/
theorem law_turn {prog : Program} {w : World} {h₀ : Heap} {L fa c S R : Addr} {cd : Value} {s : Shared} {its ys : List Value} {D Wt TW I : Addr} {oI : Obj} {b : Bool} {wl : List Value} {wn : List Str} {ps : Array Value} {ds : List SD} {o4 o3 o2 o1 : Obj} {v4 : Option Value} {l : Value} {t : Tr} {at_ : Int} {ta tq : Tok} {kS kR : Nat} {m u : Str → Option Value} {news : Led} {loose : List Str} {mean : ExcName → Option Value} {mg mb : Str → Option Value} {Q : Flow → Shared → Prop} {E : Value → Shared → Prop}
    (B : Below callerA h₀ [] h₀) (CH : CodeHd h₀ 806 802) (F : Fr h₀ L s.heap (fun z => if [Str.ofString "numbers"].contains z then u z else if z = Str.ofString "wants" then some (.ref Wt) else if z = Str.ofString "modseq" then some (.int (mqOf t (foundOf t ds)) tq) else if z = Str.ofString "found" then some (.ref D) else m z)) (X : (Kc w.params).In h₀) (T : Top topProg loose mean mg mb h₀)
    (N : News h₀ L s.heap ((I, oI) :: (TW, tup [.bool false, .bool true] 0) :: (Wt, tup wl 0) :: (D, LCg.lst ys) :: (R, W.listOf (List.toArray its) kR) :: (S, W.listOf #[.ref c, .int at_ ta] kS) :: (L + 1 + 1 + 1 + 1, o4) :: (L + 1 + 1 + 1, o3) :: (L + 1 + 1, o2) :: (L + 1, o1) :: (802, tabObj ps) :: news)) (l0 : (@LT.lt Nat _ 802 L)) (d4 : o4.data = .cell v4) (d3 : o3.data = .cell (some l)) (d2 : o2.data = .cell (some (.ref R)))
    (hI4 : (@Ne Nat I (L + 1 + 1 + 1 + 1))) (hI8 : (@Ne Nat I 802)) (hT4 : (@Ne Nat TW (L + 1 + 1 + 1 + 1))) (hT8 : (@Ne Nat TW 802))
    (hLS : (@LT.lt Nat _ (L + 1 + 1 + 1 + 1) S)) (hSR : (@LT.lt Nat _ S R)) (n4 : ∀ p ∈ news, p.1 ≠ L + 1 + 1 + 1 + 1) (n8 : ∀ p ∈ news, p.1 ≠ 802) (hs : SeensIn w news its ds) (hdl : ds.length ≤ 6) (hin : incD SD.number ds) (hiu : incD SD.uid ds) (hpos : ∀ d ∈ ds, 0 < d.number ∧ 0 < d.uid)
    (hys : SeensIn w news ys (foundOf t ds)) (hlam : LamOk ps news) (hwl : StrsAre wl wn) (hwn : wn.length ≤ 4) (hWx : (@Ne Nat Wt 802) ∧ (@Ne Nat Wt (L + 1 + 1 + 1 + 1))) (hDx : (@Ne Nat D 802) ∧ (@Ne Nat D (L + 1 + 1 + 1 + 1))) (htr : TrIn news l t) (hth : t.high ≤ 3) (hts : t.size ≤ 40)
    (fin : ∀ h' tk' (u' : Str → Option Value) (o4' : Obj) (v4' : Option Value) (ps' : Array Value) (nw : Led), Fr h₀ L h' (fun z => if [Str.ofString "numbers"].contains z then u' z else if z = Str.ofString "wants" then some (.ref Wt) else if z = Str.ofString "modseq" then some (.int (mqOf t (foundOf t ds)) tq) else if z = Str.ofString "found" then some (.ref D) else m z) →
      News h₀ L h' ((I, oI) :: (TW, tup [.bool false, .bool true] 0) :: (Wt, tup wl 0) :: (D, LCg.lst ys) :: (R, W.listOf (List.toArray its) kR) :: (S, W.listOf #[.ref c, .int at_ ta] kS) :: (L + 1 + 1 + 1 + 1, o4') :: (L + 1 + 1 + 1, o3) :: (L + 1 + 1, o2) :: (L + 1, o1) :: (802, tabObj ps') :: (news ++ nw)) →
      o4'.data = .cell v4' → LamOk ps' (news ++ nw) → (∀ p ∈ nw, p.1 ≠ L + 1 + 1 + 1 + 1) → (∀ p ∈ nw, p.1 ≠ 802) → (∀ p ∈ nw, p.1 ≠ I) → Q .next { s with heap := h', toks := tk' }) :
    wpAny (model prog w) (callerA.deeper (lawEnv L fa cd)) (assign turnTg (lawEnv L fa cd) (.bool b)) (fun _ s₃ => wpAny (model prog w) (callerA.deeper (lawEnv L fa cd)) (execs turnSt (lawEnv L fa cd)) Q E s₃) E s := by
  obtain ⟨hDx8, hDxL⟩ := id hDx
  have eTg : ∃ pos, turnTg = .Name (Str.ofString "is_uid") pos := ⟨_, rfl⟩
  obtain ⟨pos, eTg⟩ := eTg
  rw [eTg]
  have hyl := hys.len
  have hfl : (foundOf t ds).length ≤ 6 := Nat.le_trans (List.length_filter_le _ _) hdl
  have hW4 := hWx.2
  have hD4 := hDx.2
  kpc_turns
  rename Obj => o5
  rename (o5.data = _) => d5
  refine Halt.go ?_
  refine LCg.Assign_ListComp_U (F₀ := by k_asm) (by rfl) (by with_unfolding_all rfl) (by with_unfolding_all rfl) (by decide) (by rfl) (by decide) (by rfl) (by rfl) (by rfl) ?_
  kpc_turns
  refine Halt.go ?_
  refine LCg.CompSrc.ledger (by rfl) (by k_asm) (by k_asm) (.tail _ (.tail _ (.tail _ (.head _)))) (by rw [List.size_toArray, hyl]; exact Nat.le_trans hfl (by rw [sizeLine_eq]; decide)) ?_
  intro g9
  refine compU (fun i zs nx => nx = (I, oI) :: (TW, tup [.bool false, .bool true] 0) :: (Wt, tup wl 0) :: (D, LCg.lst ys) :: (R, W.listOf (List.toArray its) kR) :: (S, W.listOf #[.ref c, .int at_ ta] kS) :: (L + 1 + 1 + 1 + 1, o5) :: (L + 1 + 1 + 1, o3) :: (L + 1 + 1, o2) :: (L + 1, o1) :: (802, tabObj ps) :: news ∧ IntsAre zs (((foundOf t ds).take i).map (numOf b))) ?_ ⟨rfl, .nil⟩ ?_ ?_
  · rintro i zs nx ⟨rfl, -⟩
    exact .inr ⟨_, .tail _ (.tail _ (.tail _ (.head _))), rfl, _, rfl⟩
  · rintro i v zs nx I2 oI2 C oC D2 m₂ h tk E' q9 hq9 hi hv ⟨rfl, hzs⟩ hC hx F₁ N₁ off hne3
    obtain ⟨d, hd, hsd⟩ := hys.get (by simpa using hv)
    obtain ⟨x0, dx, n0, t1, t2, t3, yl, tn, rfl, hx1, hx2, hx3⟩ := hsd
    obtain ⟨ddy, n3, t4, t5, t6, t7, t8, tu, tb, ti, tm, arr, f, fl, k, hl1, hl2, ⟨hl3, hl3a⟩, hl4, hl5⟩ := hx3
    have hne : (@Ne Nat I2 (L + 1 + 1 + 1 + 1)) := Ne.symm (off (L + 1 + 1 + 1 + 1, _) (.tail _ (.tail _ (.tail _ (.tail _ (.tail _ (.tail _ (.head _)))))))).1
    cases b
    · kpc_turns
      refine CTurn.none (by k_asm) (by k_asm) (by kxs_still) off ⟨rfl, ?_⟩
      rw [take_snoc hd, List.map_append]
      exact hzs.append (.cons _ _ .nil)
    · kpc_turns
      refine CTurn.none (by k_asm) (by k_asm) (by kxs_still) off ⟨rfl, ?_⟩
      rw [take_snoc hd, List.map_append]
      exact hzs.append (.cons _ _ .nil)
  · rintro zs nx ⟨rfl, hzs⟩
    rw [take_all (by rw [List.size_toArray, hyl])] at hzs
    have hzl := hzs.length
    rw [List.length_map] at hzl
    intro D1 h tk F₁ N₁ off1
    have D18 : (@Ne Nat D1 802) := Ne.symm (off1_mem off1 (802, _) (by lsm_bools))
    kpc_turns
    refine Halt.go ?_
    refine LCg.ListComp_U (F₀ := by k_asm) (by with_unfolding_all rfl) (by decide) (by rfl) (by decide) (by rfl) ?_
    kpc_turns
    refine Halt.go ?_
    refine LCg.CompSrc.ledger (by rfl) (by k_asm) (by k_asm) (.tail _ (.tail _ (.tail _ (.tail _ (.head _))))) (by rw [List.size_toArray, hyl]; exact Nat.le_trans hfl (by rw [sizeLine_eq]; decide)) ?_
    intro g8
    refine compU (fun i us nx => nx = (D1, LCg.lst zs) :: (I, oI) :: (TW, tup [.bool false, .bool true] 0) :: (Wt, tup wl 0) :: (D, LCg.lst ys) :: (R, W.listOf (List.toArray its) kR) :: (S, W.listOf #[.ref c, .int at_ ta] kS) :: (L + 1 + 1 + 1 + 1, o5) :: (L + 1 + 1 + 1, o3) :: (L + 1 + 1, o2) :: (L + 1, o1) :: (802, tabObj ps) :: news ∧ IntsAre us (((foundOf t ds).take i).map (numOf b))) ?_ ⟨rfl, .nil⟩ ?_ ?_
    · rintro i us nx ⟨rfl, -⟩
      exact .inr ⟨_, .tail _ (.tail _ (.tail _ (.tail _ (.head _)))), rfl, _, rfl⟩
    · rintro i v us nx I2 oI2 C oC D2 m₂ h tk E' q9 hq9 hi hv ⟨rfl, hus⟩ hC hx F₁ N₁ off hne3
      obtain ⟨d, hd, hsd⟩ := hys.get (by simpa using hv)
      have hne : (@Ne Nat I2 (L + 1 + 1 + 1 + 1)) := Ne.symm (off (L + 1 + 1 + 1 + 1, _) (.tail _ (.tail _ (.tail _ (.tail _ (.tail _ (.tail _ (.tail _ (.head _))))))))).1
      kpc_turns
      refine CTurn.none (by k_asm) (by k_asm) (by kxs_still) off ⟨rfl, ?_⟩
      rw [take_snoc hd, List.map_append]
      exact hus.append (.cons _ _ .nil)
    · rintro us nx ⟨rfl, hus⟩
      rw [take_all (by rw [List.size_toArray, hyl])] at hus
      intro D2 h tk F₁ N₁ off2
      kpc_turns
      refine Halt.go ?_
      rename Fr _ _ _ _ => F9
      rename News _ _ _ _ => N9
      rw [map_skip] at F9
      refine law_turnB (c := c) (S := S) (R := R) (its := its) (ys := ys) (wl := wl) (kS := kS) (kR := kR) (at_ := at_) (ta := ta) (oI := oI) (b := b) (wn := wn) (ds := ds) (t := t) (zs := zs) (DN := D1) B CH F9 X T (swap_2nd N9) l0 d5 d3 d2 hI8 hT8 D18 hWx.1 hDx8 hLS hSR n8 hs hdl hin hiu hpos hlam hwl hwn hzs htr hth hts ?_
      intro h' tk' ps' nw F6 N6 hl6 m4 m8 mI
      rw [map_put] at F6
      exact fin _ _ _ o5 _ ps' nw F6 (drop_2nd N6) d5 hl6 m4 m8 mI
theorem law_tail6 {prog : Program} {w : World} {h₀ : Heap} {L fa c S R : Addr} {cd : Value} {s : Shared} {ws its ys : List Value} {D Wt : Addr} {wl : List Value} {wn : List Str} {ps : Array Value} {ns : List Int} {ds : List SD} {o4 o3 o2 o1 : Obj} {v4 : Option Value} {l : Value} {t : Tr} {at_ : Int} {ta tq : Tok} {kS kc kR : Nat} {m : Str → Option Value} {news : Led} {loose : List Str} {mean : ExcName → Option Value} {mg mb : Str → Option Value} {Q : Flow → Shared → Prop} {E : Value → Shared → Prop}
    (B : Below callerA h₀ [] h₀) (CH : CodeHd h₀ 806 802) (F : Fr h₀ L s.heap (fun z => if z = Str.ofString "wants" then some (.ref Wt) else if z = Str.ofString "modseq" then some (.int (mqOf t (foundOf t ds)) tq) else if z = Str.ofString "found" then some (.ref D) else m z)) (X : (Kc w.params).In h₀) (T : Top topProg loose mean mg mb h₀)
    (N : News h₀ L s.heap ((Wt, tup wl 0) :: (D, LCg.lst ys) :: (R, W.listOf (List.toArray its) kR) :: (S, W.listOf #[.ref c, .int at_ ta] kS) :: (L + 1 + 1 + 1 + 1, o4) :: (L + 1 + 1 + 1, o3) :: (L + 1 + 1, o2) :: (L + 1, o1) :: (802, tabObj ps) :: news)) (l0 : (@LT.lt Nat _ 802 L)) (d4 : o4.data = .cell v4) (d3 : o3.data = .cell (some l)) (d2 : o2.data = .cell (some (.ref R))) (d1 : o1.data = .cell (some (.ref S)))
    (hI : IntsAre ws ns) (hp0 : 0 < ws.length) (hp1 : ws.length ≤ 63) (hLS : (@LT.lt Nat _ (L + 1 + 1 + 1 + 1) S)) (hcS : c ≠ S) (hSR : (@LT.lt Nat _ S R))
    (hcm : (c, W.listOf ws.toArray kc) ∈ news) (n4 : ∀ p ∈ news, p.1 ≠ L + 1 + 1 + 1 + 1) (n8 : ∀ p ∈ news, p.1 ≠ 802) (nS : ∀ p ∈ news, p.1 ≠ S) (nR : ∀ p ∈ news, p.1 ≠ R) (hat0 : 0 ≤ at_) (hat1 : at_ ≤ 300) (hs : SeensIn w news its ds) (hdl : ds.length ≤ 6) (hin : incD SD.number ds) (hiu : incD SD.uid ds) (hpos : ∀ d ∈ ds, 0 < d.number ∧ 0 < d.uid)
    (hys : SeensIn w news ys (foundOf t ds)) (hlam : LamOk ps news) (hwl : StrsAre wl wn) (hwn : wn.length ≤ 4) (hWx : (@Ne Nat Wt 802) ∧ (@Ne Nat Wt (L + 1 + 1 + 1 + 1))) (hDx : (@Ne Nat D 802) ∧ (@Ne Nat D R) ∧ (@Ne Nat D S) ∧ (@Ne Nat D (L + 1 + 1 + 1 + 1))) (nD : ∀ p ∈ news, p.1 ≠ D) (htr : TrIn news l t) (hth : t.high ≤ 3) (hts : t.size ≤ 40)
    (hE : PassesOwn (model prog w) (callerA.deeper (lawEnv L fa cd)) (lawEnv L fa cd) E)
    (ret : ∀ h' tk' ps, h'.get? 802 = some (tabObj ps) → (∀ b o, h₀.get? b = some o → h'.get? b = some o) → Q (.ret (.bool true)) { s with heap := h', toks := tk' }) :
    wpAny (model prog w) (callerA.deeper (lawEnv L fa cd)) (execs (B893.drop 12) (lawEnv L fa cd)) Q E s := by
  have hSR' : (@Ne Nat S R) := Nat.ne_of_lt hSR
  obtain ⟨hDx8, hDxR, hDxS, hDxL⟩ := id hDx
  kpc_turns
  refine Halt.go ?_
  rename Fr _ _ _ _ => lF'
  refine For_turns (hE := hE) lF' ?_
  kpc_turns
  rename Addr => TW
  rename Fr _ _ _ _ => F'
  rename News _ _ _ _ => N'
  rename (@LT.lt Nat _ Wt TW ∧ _) => l1
  refine iter_seqM [Str.ofString "numbers"] (its := [.bool false, .bool true]) (k := 0) rfl F' N' (.head _) (Or.inr rfl) (fun _ nx => Ex4 fun o4' v4' ps' nw => An6 (nx = (TW, tup [.bool false, .bool true] 0) :: (Wt, tup wl 0) :: (D, LCg.lst ys) :: (R, W.listOf (List.toArray its) kR) :: (S, W.listOf #[.ref c, .int at_ ta] kS) :: (L + 1 + 1 + 1 + 1, o4') :: (L + 1 + 1 + 1, o3) :: (L + 1 + 1, o2) :: (L + 1, o1) :: (802, tabObj ps') :: nw) (o4'.data = .cell v4') (LamOk ps' nw) ((∀ p ∈ news, p ∈ nw)) ((∀ p ∈ nw, p.1 ≠ L + 1 + 1 + 1 + 1)) ((∀ p ∈ nw, p.1 ≠ 802))) ⟨_, _, _, _, rfl, d4, hlam, fun _ h => h, n4, n8⟩ ?_ ?_ ?_
  · rintro i nx ⟨o4', v4', ps', nw, rfl, -⟩
    exact .head _
  · rintro i v u nx h tk I oI q9 hq9 hi ⟨o4', v4', ps', nw, rfl, d4', hlam', hsub, n4', n8'⟩ hnI F₁ N₁
    have hb : ∃ b : Bool, v = .bool b := by
      rcases i with _ | _ | i
      · exact ⟨_, (Option.some.inj hi).symm⟩
      · exact ⟨_, (Option.some.inj hi).symm⟩
      · cases hi
    obtain ⟨b, rfl⟩ := hb
    have hs' := hs.mono hsub
    have hys2 := hys.mono hsub
    have htr' := htr.mono hsub
    refine law_turn (TW := TW) (wn := wn) (ds := ds) (t := t) B CH F₁ X T N₁ l0 d4' d3 d2 (Ne.symm (hnI (_, o4') (.tail _ (.tail _ (.tail _ (.tail _ (.tail _ (.head _)))))))) (Ne.symm (hnI (802, tabObj ps') (.tail _ (.tail _ (.tail _ (.tail _ (.tail _ (.tail _ (.tail _ (.tail _ (.tail _ (.head _)))))))))))) (Nat.ne_of_gt (by omega)) (Nat.ne_of_gt (by omega)) hLS hSR n4' n8' hs' hdl hin hiu hpos hys2 hlam' hwl hwn hWx ⟨hDx8, hDxL⟩ htr' hth hts ?_
    intro h' tk' u' o4n v4n psn nw2 F9 N9 d9 hl9 m4 m8 mI
    refine hq9 _ _ (TurnPost.next F9 N9 _ (fun _ h => h) ?_ ⟨?_, _, _, _, _, rfl, d9, hl9, fun p hp => List.mem_append.mpr (.inl (hsub p hp)), all_app n4' m4, all_app n8' m8⟩)
    · intro p hp
      simp only [List.mem_cons, List.mem_append] at hp
      rcases hp with rfl | rfl | rfl | rfl | rfl | rfl | rfl | rfl | rfl | rfl | hp | hp
      · exact hnI _ (.head _)
      · exact hnI _ (.tail _ (.head _))
      · exact hnI _ (.tail _ (.tail _ (.head _)))
      · exact hnI _ (.tail _ (.tail _ (.tail _ (.head _))))
      · exact hnI _ (.tail _ (.tail _ (.tail _ (.tail _ (.head _)))))
      · exact hnI (_, o4') (.tail _ (.tail _ (.tail _ (.tail _ (.tail _ (.head _))))))
      · exact hnI _ (.tail _ (.tail _ (.tail _ (.tail _ (.tail _ (.tail _ (.head _)))))))
      · exact hnI _ (.tail _ (.tail _ (.tail _ (.tail _ (.tail _ (.tail _ (.tail _ (.head _))))))))
      · exact hnI _ (.tail _ (.tail _ (.tail _ (.tail _ (.tail _ (.tail _ (.tail _ (.tail _ (.head _)))))))))
      · exact hnI (802, tabObj ps') (.tail _ (.tail _ (.tail _ (.tail _ (.tail _ (.tail _ (.tail _ (.tail _ (.tail _ (.head _))))))))))
      · exact hnI _ (.tail _ (.tail _ (.tail _ (.tail _ (.tail _ (.tail _ (.tail _ (.tail _ (.tail _ (.tail _ hp))))))))))
      · exact mI p hp
    · intro z hz
      simp only [hz, Bool.false_eq_true, if_false]
  · rintro u nx h tk ⟨o4', v4', ps', nw, rfl, d4', hlam', hsub, n4', n8'⟩ F₁ N₁
    kpc_turns
    exact ret h tk ps' (N₁ (802, tabObj ps') (.tail _ (.tail _ (.tail _ (.tail _ (.tail _ (.tail _ (.tail _ (.tail _ (.tail _ (.head _))))))))))).1 F₁.keep
local macro_rules | `(tactic| walk_at "execs cons") => `(tactic| ktn_call "st" (Stmt.For (Expr.Name (Str.ofString "is_uid") _) _ _ _ _))
theorem law_tail5 {prog : Program} {w : World} {h₀ : Heap} {L fa c S R : Addr} {cd : Value} {s : Shared} {ws its ys : List Value} {D : Addr} {ps : Array Value} {ns : List Int} {ds : List SD} {o4 o3 o2 o1 : Obj} {v4 : Option Value} {l : Value} {t : Tr} {at_ : Int} {ta tq : Tok} {kS kc kR : Nat} {m : Str → Option Value} {news : Led} {loose : List Str} {mean : ExcName → Option Value} {mg mb : Str → Option Value} {Q : Flow → Shared → Prop} {E : Value → Shared → Prop}
    (B : Below callerA h₀ [] h₀) (CH : CodeHd h₀ 806 802) (F : Fr h₀ L s.heap (fun z => if z = Str.ofString "modseq" then some (.int (mqOf t (foundOf t ds)) tq) else if z = Str.ofString "found" then some (.ref D) else m z)) (X : (Kc w.params).In h₀) (T : Top topProg loose mean mg mb h₀)
    (N : News h₀ L s.heap ((D, LCg.lst ys) :: (R, W.listOf (List.toArray its) kR) :: (S, W.listOf #[.ref c, .int at_ ta] kS) :: (L + 1 + 1 + 1 + 1, o4) :: (L + 1 + 1 + 1, o3) :: (L + 1 + 1, o2) :: (L + 1, o1) :: (802, tabObj ps) :: news)) (l0 : (@LT.lt Nat _ 802 L)) (d4 : o4.data = .cell v4) (d3 : o3.data = .cell (some l)) (d2 : o2.data = .cell (some (.ref R))) (d1 : o1.data = .cell (some (.ref S)))
    (hI : IntsAre ws ns) (hp0 : 0 < ws.length) (hp1 : ws.length ≤ 63) (hLS : (@LT.lt Nat _ (L + 1 + 1 + 1 + 1) S)) (hcS : c ≠ S) (hSR : (@LT.lt Nat _ S R))
    (hcm : (c, W.listOf ws.toArray kc) ∈ news) (n4 : ∀ p ∈ news, p.1 ≠ L + 1 + 1 + 1 + 1) (n8 : ∀ p ∈ news, p.1 ≠ 802) (nS : ∀ p ∈ news, p.1 ≠ S) (nR : ∀ p ∈ news, p.1 ≠ R) (hat0 : 0 ≤ at_) (hat1 : at_ ≤ 200) (hs : SeensIn w news its ds) (hdl : ds.length ≤ 6) (hin : incD SD.number ds) (hiu : incD SD.uid ds) (hpos : ∀ d ∈ ds, 0 < d.number ∧ 0 < d.uid)
    (hys : SeensIn w news ys (foundOf t ds)) (hlam : LamOk ps news) (hDx : (@Ne Nat D 802) ∧ (@Ne Nat D R) ∧ (@Ne Nat D S) ∧ (@Ne Nat D (L + 1 + 1 + 1 + 1))) (nD : ∀ p ∈ news, p.1 ≠ D) (htr : TrIn news l t) (hth : t.high ≤ 3) (hts : t.size ≤ 40)
    (hE : PassesOwn (model prog w) (callerA.deeper (lawEnv L fa cd)) (lawEnv L fa cd) E)
    (ret : ∀ h' tk' ps, h'.get? 802 = some (tabObj ps) → (∀ b o, h₀.get? b = some o → h'.get? b = some o) → Q (.ret (.bool true)) { s with heap := h', toks := tk' }) :
    wpAny (model prog w) (callerA.deeper (lawEnv L fa cd)) (execs (B893.drop 11) (lawEnv L fa cd)) Q E s := by
  have hSR' : (@Ne Nat S R) := Nat.ne_of_lt hSR
  obtain ⟨hDx8, hDxR, hDxS, hDxL⟩ := id hDx
  kpc_turns
  refine Halt.go ?_
  refine my_ListComp_B (F₀ := by k_asm) (by with_unfolding_all rfl) (by decide) (by rfl) (by decide) (by rfl) ?_
  kpc_turns
  refine ⟨_, _, _, rfl, rfl, by k_asm, by k_asm, ⟨_, X _ _ (by k_is), rfl, _, rfl⟩, by decide +kernel, fun g => ?_⟩
  refine compT (fun j zs nx => Ex4 fun at5 ta5 k5 fs => An5 (nx = (D, LCg.lst ys) :: (R, W.listOf (List.toArray its) kR) :: (S, W.listOf #[.ref c, .int at5 ta5] k5) :: (L + 1 + 1 + 1 + 1, o4) :: (L + 1 + 1 + 1, o3) :: (L + 1 + 1, o2) :: (L + 1, o1) :: (802, tabObj ps) :: news) (at_ ≤ at5) (at5 ≤ at_ + (j : Int)) (StrsAre zs fs) (zs.length ≤ j)) (fun _ _ _ _ => trivial) ⟨_, _, _, [], rfl, by omega, by omega, .nil, Nat.le_refl _⟩ ?_ ?_
  · rintro j v zs nx I2 oI2 C oC D2 m₂ h tk E' q9 q8 hq9 hq8 hj hv ⟨at5, ta5, k5, fs, rfl, ha5, hb5, hfs, hzj⟩ hC hx F₁ N₁ off hne3
    obtain ⟨g1, g2, g3⟩ := off (S, _) (.tail _ (.tail _ (.head _)))
    have g1 : (@Ne Nat S I2) := g1
    have g2 : (@Ne Nat S C) := g2
    have g3 : (@Ne Nat S D2) := g3
    have hj4 : j < 4 := hj
    have hvf : Ex2 fun f t => v = .str f t := by
      rcases j with _ | _ | _ | _ | j
      · exact ⟨_, _, (Option.some.inj hv).symm⟩
      · exact ⟨_, _, (Option.some.inj hv).symm⟩
      · exact ⟨_, _, (Option.some.inj hv).symm⟩
      · exact ⟨_, _, (Option.some.inj hv).symm⟩
      · omega
    obtain ⟨f, tf, rfl⟩ := hvf
    have hat : at5 ≤ 300 := by omega
    kpc_turns
    · rename News _ _ _ _ => N9
      exact CTurn.none (by k_asm) N9 (fun _ h => h) (off_src (S := S) off) ⟨_, _, _, fs ++ [f], rfl, by omega, by omega, strs_append hfs (.cons _ _ .nil), by rw [List.length_append]; simp only [List.length_cons, List.length_nil]; omega⟩
    · rename News _ _ _ _ => N9
      exact CTurn.none (by k_asm) N9 (fun _ h => h) (off_src (S := S) off) ⟨_, _, _, fs, rfl, by omega, by omega, hfs, by omega⟩
  · rintro zs nx ⟨at5, ta5, k5, fs, rfl, ha5, hb5, hfs, hzj⟩
    intro D2 h tk F₁ N₁ off
    have hb5 : at5 ≤ at_ + ((4 : Nat) : Int) := hb5
    have hzl : zs.length ≤ 4 := hzj
    have hfn : fs.length ≤ 4 := by rw [← hfs.length]; exact hzl
    kpc_turns
    refine Halt.go ?_
    rename Fr _ _ _ _ => F9
    rename News _ _ _ _ => N9
    rename (∀ p : Addr × Obj, p ∈ _ → p.1 < _) => l1
    have hW8 := Nat.ne_of_gt (l1 (802, tabObj ps) (.tail _ (.tail _ (.tail _ (.tail _ (.tail _ (.tail _ (.tail _ (.tail _ (.head _))))))))))
    have hWL := Nat.ne_of_gt (l1 (L + 1 + 1 + 1 + 1, o4) (.tail _ (.tail _ (.tail _ (.tail _ (.head _))))))
    exact law_tail6 (kR := kR) (kS := k5) (ta := ta5) (at_ := at5) (its := its) (ys := ys) (ps := ps) (wl := zs) (wn := fs) (D := D) B CH F9 X T (drop2 N9) l0 d4 d3 d2 d1 hI hp0 hp1 hLS hcS hSR hcm n4 n8 nS nR (by omega) (by omega) hs hdl hin hiu hpos hys hlam hfs hfn ⟨hW8, hWL⟩ hDx nD htr hth hts hE ret
local macro_rules | `(tactic| walk_at "call ref") => `(tactic| ktr_call 881 (LAAll.at (by assumption) _ ?_))
local macro_rules | `(tactic| walk_at "call builtin:max") => `(tactic| (k_here; ((with_reducible apply my_max0); with_unfolding_all (k_asm; k_asm; lsm_bools; assumption; exact rfl)); intro h' t' k' F' N'))
local macro_rules | `(tactic| walk_at "execs cons") => `(tactic| ktn_call "st" (Stmt.Assign [Expr.Name (Str.ofString "wants") _] _ _))
theorem law_tail4 {prog : Program} {w : World} {h₀ : Heap} {L fa c S R : Addr} {cd : Value} {s : Shared} {ws its ys : List Value} {D : Addr} {ps : Array Value} {ns : List Int} {ds : List SD} {o4 o3 o2 o1 : Obj} {v4 : Option Value} {l : Value} {t : Tr} {at_ : Int} {ta : Tok} {kS kc kR : Nat} {m : Str → Option Value} {news : Led} {loose : List Str} {mean : ExcName → Option Value} {mg mb : Str → Option Value} {Q : Flow → Shared → Prop} {E : Value → Shared → Prop}
    (B : Below callerA h₀ [] h₀) (CH : CodeHd h₀ 806 802) (F : Fr h₀ L s.heap (fun z => if z = Str.ofString "found" then some (.ref D) else m z)) (X : (Kc w.params).In h₀) (T : Top topProg loose mean mg mb h₀)
    (N : News h₀ L s.heap ((D, LCg.lst ys) :: (R, W.listOf (List.toArray its) kR) :: (S, W.listOf #[.ref c, .int at_ ta] kS) :: (L + 1 + 1 + 1 + 1, o4) :: (L + 1 + 1 + 1, o3) :: (L + 1 + 1, o2) :: (L + 1, o1) :: (802, tabObj ps) :: news)) (l0 : (@LT.lt Nat _ 802 L)) (d4 : o4.data = .cell v4) (d3 : o3.data = .cell (some l)) (d2 : o2.data = .cell (some (.ref R))) (d1 : o1.data = .cell (some (.ref S)))
    (hI : IntsAre ws ns) (hp0 : 0 < ws.length) (hp1 : ws.length ≤ 63) (hLS : (@LT.lt Nat _ (L + 1 + 1 + 1 + 1) S)) (hcS : c ≠ S) (hSR : (@LT.lt Nat _ S R))
    (hcm : (c, W.listOf ws.toArray kc) ∈ news) (n4 : ∀ p ∈ news, p.1 ≠ L + 1 + 1 + 1 + 1) (n8 : ∀ p ∈ news, p.1 ≠ 802) (nS : ∀ p ∈ news, p.1 ≠ S) (nR : ∀ p ∈ news, p.1 ≠ R) (hat0 : 0 ≤ at_) (hat1 : at_ ≤ 200) (hs : SeensIn w news its ds) (hdl : ds.length ≤ 6) (hin : incD SD.number ds) (hiu : incD SD.uid ds) (hpos : ∀ d ∈ ds, 0 < d.number ∧ 0 < d.uid)
    (hys : SeensIn w news ys (foundOf t ds)) (hlam : LamOk ps news) (hDx : (@Ne Nat D 802) ∧ (@Ne Nat D R) ∧ (@Ne Nat D S) ∧ (@Ne Nat D (L + 1 + 1 + 1 + 1))) (nD : ∀ p ∈ news, p.1 ≠ D) (htr : TrIn news l t) (hth : t.high ≤ 3) (hts : t.size ≤ 40)
    (hE : PassesOwn (model prog w) (callerA.deeper (lawEnv L fa cd)) (lawEnv L fa cd) E)
    (ret : ∀ h' tk' ps, h'.get? 802 = some (tabObj ps) → (∀ b o, h₀.get? b = some o → h'.get? b = some o) → Q (.ret (.bool true)) { s with heap := h', toks := tk' }) :
    wpAny (model prog w) (callerA.deeper (lawEnv L fa cd)) (execs (B893.drop 10) (lawEnv L fa cd)) Q E s := by
  have hil : its.length ≤ 6 := by rw [hs.len]; exact hdl
  have hfl : (foundOf t ds).length ≤ 6 := Nat.le_trans (List.length_filter_le _ _) hdl
  have hyl := hys.len
  have hLA : LAAll w 4 := law_asks_all w 4
  have h4 : t.high < 4 := by omega
  kpc_turns
  · rename (asks t = true) => hA
    refine Halt.go ?_
    refine LCg.ListComp_U (F₀ := by k_asm) (by rfl) (by decide) (by rfl) (by decide) (by rfl) ?_
    kpc_turns
    refine Halt.go ?_
    rename News _ _ _ _ => N5
    rename List (Addr × Obj) => tl9
    rename (∀ q : Addr × Obj, q ∈ (_ : Led) → ∀ p : Addr × Obj, p ∈ (_ : Led) → q.1 ≠ p.1) => hl9
    have hsub : ∀ p ∈ news, p ∈ news ++ tl9 := fun p hp => List.mem_append.mpr (.inl hp)
    have hmq : mqOf t (foundOf t ds) = mx ((foundOf t ds).map SD.mseq) := by rw [mqOf, hA]; rfl
    refine LCg.CompSrc.ledger (by rfl) (by k_asm) N5 (.head _) (by rw [List.size_toArray, hyl]; exact Nat.le_trans hfl (by rw [sizeLine_eq]; decide)) ?_
    intro g8
    refine compU (fun i zs nx => nx = (D, LCg.lst ys) :: (R, W.listOf (List.toArray its) kR) :: (S, W.listOf #[.ref c, .int at_ ta] kS) :: (L + 1 + 1 + 1 + 1, o4) :: (L + 1 + 1 + 1, o3) :: (L + 1 + 1, o2) :: (L + 1, o1) :: (802, tabObj ps) :: (news ++ tl9) ∧ IntsAre zs (((foundOf t ds).take i).map SD.mseq)) ?_ ⟨rfl, .nil⟩ ?_ ?_
    · rintro i zs nx ⟨rfl, -⟩
      exact .inr ⟨_, .head _, rfl, _, rfl⟩
    · rintro i v zs nx I oI C oC D2 m₂ h tk E' q9 hq9 hi hv ⟨rfl, hzs⟩ hC hx F₁ N₁ off hne3
      obtain ⟨d, hd, hsd⟩ := hys.get (by simpa using hv)
      replace hsd := hsd.mono hsub
      obtain ⟨x0, dx, n0, t1, t2, t3, yl, tn, rfl, hx1, hx2, hx3⟩ := hsd
      obtain ⟨ddy, n3, t4, t5, t6, t7, t8, tu, tb, ti, tm, arr, f, fl, k, hl1, hl2, ⟨hl3, hl3a⟩, hl4, hl5⟩ := hx3
      kpc_turns
      refine CTurn.none (by k_asm) (by k_asm) (by kxs_still) off ⟨rfl, ?_⟩
      rw [take_snoc hd, List.map_append]
      exact hzs.append (.cons _ _ .nil)
    · rintro zs nx ⟨rfl, hzs⟩
      rw [take_all (by rw [List.size_toArray, hyl])] at hzs
      have hzl := hzs.length
      rw [List.length_map] at hzl
      intro D1 h tk F₁ N₁ off1
      kpc_turns
      refine Halt.go ?_
      rename Fr _ _ _ _ => F9
      rename News _ _ _ _ => N9
      exact law_tail5 (kR := kR) (kS := kS) (ta := ta) (at_ := at_) (its := its) (news := news ++ tl9) (c := c) (S := S) (R := R) (o4 := o4) (o3 := o3) (o2 := o2) (o1 := o1) (ds := ds) (ns := ns) (t := t) (D := D) (ys := ys) (ps := ps) B CH (by rw [hmq]; exact F9) X T (news_sub N9 (by kxs_still)) l0 d4 d3 d2 d1 hI hp0 hp1 hLS hcS hSR (hsub _ hcm) (all_app n4 (off_tl hl9 (by lsm_bools))) (all_app n8 (off_tl hl9 (by lsm_bools))) (all_app nS (off_tl hl9 (by lsm_bools))) (all_app nR (off_tl hl9 (by lsm_bools))) hat0 hat1
        (hs.mono hsub) hdl hin hiu hpos (hys.mono hsub) (hlam.mono hsub) hDx (all_app nD (off_tl hl9 (.head _))) (htr.mono hsub) hth hts hE ret
  · rename (asks t = false) => hA
    rename List (Addr × Obj) => tl9
    rename (∀ q : Addr × Obj, q ∈ (_ : Led) → ∀ p : Addr × Obj, p ∈ (_ : Led) → q.1 ≠ p.1) => hl9
    have hsub : ∀ p ∈ news, p ∈ news ++ tl9 := fun p hp => List.mem_append.mpr (.inl hp)
    have hmq : mqOf t (foundOf t ds) = 0 := by rw [mqOf, hA]; rfl
    skip
    refine Halt.go ?_
    rename Fr _ _ _ _ => F9
    rename News _ _ _ _ => N9
    exact law_tail5 (kR := kR) (kS := kS) (ta := ta) (at_ := at_) (its := its) (news := news ++ tl9) (c := c) (S := S) (R := R) (o4 := o4) (o3 := o3) (o2 := o2) (o1 := o1) (ds := ds) (ns := ns) (t := t) (D := D) (ys := ys) (ps := ps) B CH (by rw [hmq]; exact F9) X T (news_sub N9 (by kxs_still)) l0 d4 d3 d2 d1 hI hp0 hp1 hLS hcS hSR (hsub _ hcm) (all_app n4 (off_tl hl9 (by lsm_bools))) (all_app n8 (off_tl hl9 (by lsm_bools))) (all_app nS (off_tl hl9 (by lsm_bools))) (all_app nR (off_tl hl9 (by lsm_bools))) hat0 hat1
      (hs.mono hsub) hdl hin hiu hpos (hys.mono hsub) (hlam.mono hsub) hDx (all_app nD (off_tl hl9 (.head _))) (htr.mono hsub) hth hts hE ret
local macro_rules | `(tactic| walk_at "execs cons") => `(tactic| ktn_call "st" (Stmt.Assign [Expr.Name (Str.ofString "modseq") _] _ _))
local macro_rules | `(tactic| walk_at "call ref") => `(tactic| ktd_call 843 (by_uid_gives _ _ ?_))
theorem CTurn.one1 {h₀ h' : Heap} {L I C D : Addr} {m : Str → Option Value} {s₁ : Shared} {oI oC oD : Obj} {R : Value → Led → Prop} {y : Value} {tk : Nat} {a : Addr × Obj} {base tl' : Led} (F : Fr h₀ L h' m) (N : News h₀ L h' (a :: (I, oI) :: (C, oC) :: (D, oD) :: (base ++ tl')))
    (l : (@LT.lt Nat _ I a.1) ∧ (@LT.lt Nat _ C a.1) ∧ (@LT.lt Nat _ D a.1) ∧ AllLt a.1 (base ++ tl')) (off : ∀ p ∈ base ++ tl', p.1 ≠ I ∧ p.1 ≠ C ∧ p.1 ≠ D) (r : R y (base ++ (tl' ++ [a]))) : CTurn h₀ L m s₁ I oI C oC D oD R y { s₁ with heap := h', toks := tk } := by
  refine CTurn.intro F N _ (fun p hp => ?_) (fun p hp => ?_) r
  · simp only [List.mem_cons, List.mem_append, List.not_mem_nil, or_false] at hp ⊢
    rcases hp with h | h | h | h | h | h <;> simp only [h, true_or, or_true]
  · rw [← List.append_assoc] at hp
    rcases List.mem_append.mp hp with hp | hp
    · exact off _ hp
    · rw [List.mem_singleton.mp hp]
      exact ⟨Nat.ne_of_gt l.1, Nat.ne_of_gt l.2.1, Nat.ne_of_gt l.2.2.1⟩
theorem pairs_snoc1 {base tl' : Led} {ys : List Value} {ps : List (Int × Int)} {a : Addr} {x y : Int} {tx ty : Tok} {n : Nat} (h : DatAll (base ++ tl') ys (ps.map pairD)) : DatAll (base ++ (tl' ++ [(a, tup [.int x tx, .int y ty] n)])) (ys ++ [.ref a]) ((ps ++ [(x, y)]).map pairD) := pairs_snoc h
theorem name_base {w : World} {h₀ h : Heap} {L : Addr} {base : Led} {x : Addr × Obj} {vs : List Value} {ds : List SD} (N : News h₀ L h base) (hq : x ∈ base) (hx : SeensIn w base vs ds) : Ex1 fun (b : Led) => An4 (b = base) (News h₀ L h b) (x ∈ b) (SeensIn w b vs ds) := ⟨_, rfl, N, hq, hx⟩
theorem name_led {h₀ h : Heap} {L : Addr} {base : Led} (N : News h₀ L h base) : Ex1 fun (b : Led) => An2 (b = base) (News h₀ L h b) := ⟨_, rfl, N⟩
theorem my_neDL {prog : Program} {w : World} {A : Around} {E : Value → Shared → Prop} {s : Shared} {h₀ : Heap} {L a b : Addr} {news n₁ n₂ : Led} {xs ys : List Value} {ka kb : Nat} {ds : List Dat} {Q : Value → Shared → Prop} (N : News h₀ L s.heap news) (ma : (a, W.listOf xs.toArray ka) ∈ news) (Da : DatAll n₁ xs ds) (sa : ∀ p ∈ n₁, p ∈ news)
    (mb : (b, W.listOf ys.toArray kb) ∈ news) (Db : DatAll n₂ ys ds) (sb : ∀ p ∈ n₂, p ∈ news) (ha : ∀ d ∈ ds, kqdOk 8 d = true) (hu : A.units + 64 < cLine) (h : Q (.bool false) s) : wpAny (model prog w) A (compareOp .NotEq (.ref a) (.ref b)) Q E s :=
  kqd_ne N ma rfl rfl Da sa mb rfl rfl Db sb ha ha hu (by simpa using h)
theorem law_tail3 {prog : Program} {w : World} {h₀ : Heap} {L fa c S R : Addr} {cd : Value} {s : Shared} {ws its ys : List Value} {D : Addr} {ps : Array Value} {ns : List Int} {ds : List SD} {o4 o3 o2 o1 : Obj} {v4 : Option Value} {l : Value} {t : Tr} {at_ : Int} {ta : Tok} {kS kc kR : Nat} {m : Str → Option Value} {news : Led} {loose : List Str} {mean : ExcName → Option Value} {mg mb : Str → Option Value} {Q : Flow → Shared → Prop} {E : Value → Shared → Prop}
    (B : Below callerA h₀ [] h₀) (CH : CodeHd h₀ 806 802) (F : Fr h₀ L s.heap (fun z => if z = Str.ofString "found" then some (.ref D) else m z)) (X : (Kc w.params).In h₀) (T : Top topProg loose mean mg mb h₀)
    (N : News h₀ L s.heap ((D, LCg.lst ys) :: (R, W.listOf (List.toArray its) kR) :: (S, W.listOf #[.ref c, .int at_ ta] kS) :: (L + 1 + 1 + 1 + 1, o4) :: (L + 1 + 1 + 1, o3) :: (L + 1 + 1, o2) :: (L + 1, o1) :: (802, tabObj ps) :: news)) (l0 : (@LT.lt Nat _ 802 L)) (d4 : o4.data = .cell v4) (d3 : o3.data = .cell (some l)) (d2 : o2.data = .cell (some (.ref R))) (d1 : o1.data = .cell (some (.ref S)))
    (hI : IntsAre ws ns) (hp0 : 0 < ws.length) (hp1 : ws.length ≤ 63) (hLS : (@LT.lt Nat _ (L + 1 + 1 + 1 + 1) S)) (hcS : c ≠ S) (hSR : (@LT.lt Nat _ S R))
    (hcm : (c, W.listOf ws.toArray kc) ∈ news) (n4 : ∀ p ∈ news, p.1 ≠ L + 1 + 1 + 1 + 1) (n8 : ∀ p ∈ news, p.1 ≠ 802) (nS : ∀ p ∈ news, p.1 ≠ S) (nR : ∀ p ∈ news, p.1 ≠ R) (hat0 : 0 ≤ at_) (hat1 : at_ ≤ 200) (hs : SeensIn w news its ds) (hdl : ds.length ≤ 6) (hin : incD SD.number ds) (hiu : incD SD.uid ds) (hpos : ∀ d ∈ ds, 0 < d.number ∧ 0 < d.uid)
    (hys : SeensIn w news ys (foundOf t ds)) (hlam : LamOk ps news) (hDx : (@Ne Nat D 802) ∧ (@Ne Nat D R) ∧ (@Ne Nat D S) ∧ (@Ne Nat D (L + 1 + 1 + 1 + 1))) (nD : ∀ p ∈ news, p.1 ≠ D) (htr : TrIn news l t) (hth : t.high ≤ 3) (hts : t.size ≤ 40)
    (hE : PassesOwn (model prog w) (callerA.deeper (lawEnv L fa cd)) (lawEnv L fa cd) E)
    (ret : ∀ h' tk' ps, h'.get? 802 = some (tabObj ps) → (∀ b o, h₀.get? b = some o → h'.get? b = some o) → Q (.ret (.bool true)) { s with heap := h', toks := tk' }) :
    wpAny (model prog w) (callerA.deeper (lawEnv L fa cd)) (execs (B893.drop 9) (lawEnv L fa cd)) Q E s := by
  have hil : its.length ≤ 6 := by rw [hs.len]; exact hdl
  have hfl : (foundOf t ds).length ≤ 6 := Nat.le_trans (List.length_filter_le _ _) hdl
  have hfl' : (foundOf t ds).length ≤ 100 := by omega
  have hyl := hys.len
  kpc_turns
  refine Halt.go ?_
  refine LCg.ListComp_U (F₀ := by k_asm) (by rfl) (by decide) (by rfl) (by decide) (by rfl) ?_
  kpc_turns
  refine Halt.go ?_
  rename News _ _ _ _ => N5
  rename List (Addr × Obj) => tl9
  rename (∀ q : Addr × Obj, q ∈ (_ : Led) → ∀ p : Addr × Obj, p ∈ (_ : Led) → q.1 ≠ p.1) => hl9
  rename SeensIn _ _ _ (List.map uidD _) => hx5
  rename (_, W.listOf _ _) ∈ _ :: _ => hq5
  obtain ⟨base, hbase, N6, hq6, hx6⟩ := name_base N5 hq5 hx5
  have hD6 : (D, LCg.lst ys) ∈ base := by rw [hbase]; exact .head _
  have hy6 : SeensIn w base ys (foundOf t ds) := by rw [hbase]; exact hys.mono (by kxs_still)
  have hx6l := hx6.len
  rw [List.length_map] at hx6l
  refine LCg.CompSrc.ledger (by rfl) (by k_asm) N6 hq6 (by rw [List.size_toArray, hx6l]; exact Nat.le_trans hfl (by rw [sizeLine_eq]; decide)) ?_
  intro g8
  refine compU (fun i zs nx => Ex1 fun tl' => An2 (nx = base ++ tl') (DatAll (base ++ tl') zs ((((foundOf t ds).take i).map fun d => (d.uid, d.uid)).map pairD))) ?_ ⟨[], (List.append_nil _).symm, .nil⟩ ?_ ?_
  · rintro i zs nx ⟨tl', rfl, -⟩
    exact .inr ⟨_, List.mem_append.mpr (.inl hq6), rfl, _, rfl⟩
  · rintro i v zs nx I oI C oC D2 m₂ h tk E' q9 hq9 hi hv ⟨tl', rfl, hzs⟩ hC hx F₁ N₁ off hne3
    obtain ⟨d', hd', hsd⟩ := hx6.get (by simpa using hv)
    rw [List.getElem?_map] at hd'
    obtain ⟨d, hd, rfl⟩ := Option.map_eq_some_iff.mp hd'
    replace hsd := hsd.mono (news' := base ++ tl') fun p hp => List.mem_append.mpr (.inl hp)
    obtain ⟨x0, dx, n0, t1, t2, t3, yl, tn, rfl, hx1, hx2, hx3⟩ := hsd
    obtain ⟨ddy, n3, t4, t5, t6, t7, t8, tu, tb, ti, tm, arr, f, fl, k, hl1, hl2, ⟨hl3, hl3a⟩, hl4, hl5⟩ := hx3
    kpc_turns
    rename (_ < _ ∧ _) => l2
    rename News _ _ _ (_ :: (I, oI) :: _) => N9
    refine CTurn.one1 (by k_asm) N9 l2 off ⟨tl' ++ [_], rfl, ?_⟩
    rw [take_snoc hd, List.map_append]
    exact pairs_snoc1 hzs
  · rintro zs nx ⟨tl1, rfl, hzs⟩
    rw [take_all (by rw [List.size_toArray, hx6l])] at hzs
    intro D1 h tk F₁ N₁ off1
    kpc_turns
    refine Halt.go ?_
    refine LCg.ListComp_U (F₀ := by k_asm) (by rfl) (by decide) (by rfl) (by decide) (by rfl) ?_
    kpc_turns
    refine Halt.go ?_
    obtain ⟨base2, hb2, N8⟩ := name_led N₁
    have hD8 : (D, LCg.lst ys) ∈ base2 := by rw [hb2]; exact .tail _ (List.mem_append.mpr (.inl hD6))
    have hy8 : SeensIn w base2 ys (foundOf t ds) := by rw [hb2]; exact hy6.mono fun p hp => .tail _ (List.mem_append.mpr (.inl hp))
    refine LCg.CompSrc.ledger (by rfl) (by k_asm) N8 hD8 (by rw [List.size_toArray, hyl]; exact Nat.le_trans hfl (by rw [sizeLine_eq]; decide)) ?_
    intro g7
    refine compU (fun i us nx => Ex1 fun tl' => An2 (nx = base2 ++ tl') (DatAll (base2 ++ tl') us ((((foundOf t ds).take i).map fun d => (d.uid, d.uid)).map pairD))) ?_ ⟨[], (List.append_nil _).symm, .nil⟩ ?_ ?_
    · rintro i us nx ⟨tl', rfl, -⟩
      exact .inr ⟨_, List.mem_append.mpr (.inl hD8), rfl, _, rfl⟩
    · rintro i v us nx I oI C oC D2 m₂ h tk E' q9 hq9 hi hv ⟨tl', rfl, hus⟩ hC hx F₁ N₁ off hne3
      obtain ⟨d, hd, hsd⟩ := hy8.get (by simpa using hv)
      replace hsd := hsd.mono (news' := base2 ++ tl') fun p hp => List.mem_append.mpr (.inl hp)
      obtain ⟨x0, dx, n0, t1, t2, t3, yl, tn, rfl, hx1, hx2, hx3⟩ := hsd
      obtain ⟨ddy, n3, t4, t5, t6, t7, t8, tu, tb, ti, tm, arr, f, fl, k, hl1, hl2, ⟨hl3, hl3a⟩, hl4, hl5⟩ := hx3
      kpc_turns
      rename (_ < _ ∧ _) => l2
      rename News _ _ _ (_ :: (I, oI) :: _) => N9
      refine CTurn.one1 (by k_asm) N9 l2 off ⟨tl' ++ [_], rfl, ?_⟩
      rw [take_snoc hd, List.map_append]
      exact pairs_snoc1 hus
    · rintro us nx ⟨tl2, rfl, hus⟩
      rw [take_all (by rw [List.size_toArray, hyl])] at hus
      intro D2 h tk F₁ N₁ off2
      kpc_turns
      refine my_neDL (a := D1) (b := D2) N₁ (.tail _ (List.mem_append.mpr (.inl (by rw [hb2]; exact .head _)))) hzs (fun p hp => .tail _ (List.mem_append.mpr (.inl (by rw [hb2]; exact .tail _ hp)))) (.head _) hus (fun p hp => .tail _ hp) (List.all_eq_true.mp (ok_pairs 7 _)) (by show callerA.units + 3 + 64 < cLine; decide) ?_
      kpc_turns
      refine Halt.go ?_
      rename Fr _ _ _ _ => F9
      have hsub : ∀ p ∈ news, p ∈ news ++ tl9 := fun p hp => List.mem_append.mpr (.inl hp)
      have NN := news_sub N₁ (b := base) fun p hp => .tail _ (List.mem_append.mpr (.inl (by rw [hb2]; exact .tail _ (List.mem_append.mpr (.inl hp)))))
      rw [hbase] at NN
      exact law_tail4 (ds := ds) (ns := ns) (t := t) (D := D) (ys := ys) (ps := ps) B CH F9 X T NN l0 d4 d3 d2 d1 hI hp0 hp1 hLS hcS hSR (hsub _ hcm) (all_app n4 (off_tl hl9 (by lsm_bools))) (all_app n8 (off_tl hl9 (by lsm_bools))) (all_app nS (off_tl hl9 (by lsm_bools))) (all_app nR (off_tl hl9 (by lsm_bools))) hat0 hat1
        (hs.mono hsub) hdl hin hiu hpos (hys.mono hsub) (hlam.mono hsub) hDx (all_app nD (off_tl hl9 (.head _))) (htr.mono hsub) hth hts hE ret
local macro_rules | `(tactic| walk_at "execs cons") => `(tactic| ktn_call "st" (Stmt.If (Expr.Compare (Expr.ListComp (Expr.Tuple _ _ _) _ _ _) _ _ _) _ _ _))
theorem law_tail2 {prog : Program} {w : World} {h₀ : Heap} {L fa c S R : Addr} {cd : Value} {s : Shared} {ws its : List Value} {ns : List Int} {ds : List SD} {o4 o3 o2 o1 : Obj} {v4 : Option Value} {l : Value} {t : Tr} {at_ : Int} {ta : Tok} {kS kc kR : Nat} {m : Str → Option Value} {news : Led} {loose : List Str} {mean : ExcName → Option Value} {mg mb : Str → Option Value} {Q : Flow → Shared → Prop} {E : Value → Shared → Prop}
    (B : Below callerA h₀ [] h₀) (CH : CodeHd h₀ 806 802) (F : Fr h₀ L s.heap m) (X : (Kc w.params).In h₀) (T : Top topProg loose mean mg mb h₀)
    (N : News h₀ L s.heap ((R, W.listOf (List.toArray its) kR) :: (S, W.listOf #[.ref c, .int at_ ta] kS) :: (L + 1 + 1 + 1 + 1, o4) :: (L + 1 + 1 + 1, o3) :: (L + 1 + 1, o2) :: (L + 1, o1) :: (802, tabObj #[]) :: news)) (l0 : (@LT.lt Nat _ 802 L)) (d4 : o4.data = .cell v4) (d3 : o3.data = .cell (some l)) (d2 : o2.data = .cell (some (.ref R))) (d1 : o1.data = .cell (some (.ref S)))
    (hI : IntsAre ws ns) (hp0 : 0 < ws.length) (hp1 : ws.length ≤ 63) (hLS : (@LT.lt Nat _ (L + 1 + 1 + 1 + 1) S)) (hcS : c ≠ S) (hSR : (@LT.lt Nat _ S R))
    (hcm : (c, W.listOf ws.toArray kc) ∈ news) (n4 : ∀ p ∈ news, p.1 ≠ L + 1 + 1 + 1 + 1) (n8 : ∀ p ∈ news, p.1 ≠ 802) (nS : ∀ p ∈ news, p.1 ≠ S) (nR : ∀ p ∈ news, p.1 ≠ R) (hat0 : 0 ≤ at_) (hat1 : at_ ≤ 200) (hs : SeensIn w news its ds) (hdl : ds.length ≤ 6) (hin : incD SD.number ds) (hiu : incD SD.uid ds) (hpos : ∀ d ∈ ds, 0 < d.number ∧ 0 < d.uid)
    (htr : TrIn news l t) (hth : t.high ≤ 3) (hts : t.size ≤ 40)
    (hE : PassesOwn (model prog w) (callerA.deeper (lawEnv L fa cd)) (lawEnv L fa cd) E)
    (ret : ∀ h' tk' ps, h'.get? 802 = some (tabObj ps) → (∀ b o, h₀.get? b = some o → h'.get? b = some o) → Q (.ret (.bool true)) { s with heap := h', toks := tk' }) :
    wpAny (model prog w) (callerA.deeper (lawEnv L fa cd)) (execs (B893.drop 7) (lawEnv L fa cd)) Q E s := by
  have hil : its.length ≤ 6 := by rw [hs.len]; exact hdl
  have hSR' : (@Ne Nat S R) := Nat.ne_of_lt hSR
  kpc_turns
  refine Halt.go ?_
  refine LCt.Assign_ListComp_T (F₀ := by k_asm) (by rfl) (by with_unfolding_all rfl) (by with_unfolding_all rfl) (by decide) (by rfl) (by decide) (by rfl) (by rfl) (by rfl) ?_
  kpc_turns
  refine Halt.go ?_
  have h4 : t.high < 4 := by omega
  have hsl := hs.len
  refine LCt.CompSrcT.ledger (by rfl) (by k_asm) (by k_asm) (.head _) (by rw [List.size_toArray]; exact Nat.le_trans hil (by rw [sizeLine_eq]; decide)) ?_
  intro g9
  refine compT (fun i ys nx => nx = (R, W.listOf (List.toArray its) kR) :: (S, W.listOf #[.ref c, .int at_ ta] kS) :: (L + 1 + 1 + 1 + 1, o4) :: (L + 1 + 1 + 1, o3) :: (L + 1 + 1, o2) :: (L + 1, o1) :: (802, tabObj #[]) :: news ∧ SeensIn w news ys ((ds.take i).filter (meets (gnOf ds) (guOf ds) t))) ?_ ⟨rfl, .nil⟩ ?_ ?_
  · rintro i ys nx ⟨rfl, -⟩
    exact .inr ⟨_, .head _, rfl, _, rfl⟩
  · rintro i v ys nx I oI C oC D m₂ h tk E' q9 q8 hq9 hq8 hi hv ⟨rfl, hys⟩ hC hx F₁ N₁ off hne3
    obtain ⟨d, hd, hsd⟩ := hs.get (by simpa using hv)
    have hdm := List.mem_of_getElem? hd
    rcases List.eq_nil_or_concat ds with rfl | ⟨ds', e, rfl⟩
    · cases hdm
    rw [List.concat_eq_append] at *
    obtain ⟨its', ve, rfl, hve, _⟩ := hs.snoc
    have hla : (its' ++ [ve]).getLast? = some ve := by simp
    have hem : e ∈ ds' ++ [e] := by simp
    have hLM : LMAll w d e 4 := law_meets_all w d e (hpos e hem).1 (hpos e hem).2 4
    have hg : gnOf (ds' ++ [e]) = e.number := by simp [gnOf]
    have hu : guOf (ds' ++ [e]) = e.uid := by simp [guOf]
    kpc_turns
    · rename (meets e.number e.uid t d = true) => hm
      refine CTurn.none (by k_asm) (by k_asm) (by kxs_still) off ⟨rfl, ?_⟩
      rw [take_snoc hd, List.filter_append, List.filter_cons_of_pos (by rw [hg, hu]; exact hm), List.filter_nil]
      exact hys.append (.cons hsd .nil)
    · rename (meets e.number e.uid t d = false) => hm
      refine CTurn.none (by k_asm) (by k_asm) (by kxs_still) off ⟨rfl, ?_⟩
      rw [take_snoc hd, List.filter_append, List.filter_cons_of_neg (by rw [hg, hu, hm]; exact Bool.false_ne_true), List.filter_nil, List.append_nil]
      exact hys
  · rintro ys nx ⟨rfl, hys⟩
    rw [take_all (by rw [List.size_toArray, hsl])] at hys
    intro D h tk F₁ N₁ off
    have hfl : (foundOf t ds).length ≤ 6 := Nat.le_trans (List.length_filter_le _ _) hdl
    have offD := off1_mem off
    have D8 : (@Ne Nat D 802) := Ne.symm (offD (802, _) (.tail _ (.tail _ (.tail _ (.tail _ (.tail _ (.tail _ (.head _))))))))
    kpc_turns
    refine Halt.go ?_
    refine LCg.ListComp_U (F₀ := by k_asm) (by rfl) (by decide) (by rfl) (by decide) (by rfl) ?_
    kpc_turns
    refine Halt.go ?_
    rename Fr _ _ _ _ => F2
    rename News _ _ _ _ => N2
    refine' GivesT.useU (met_gives w t hth hts ds (by omega) (gn_pos hpos) (inc_inj hin)) ?k1 CH ?k2 ?k3 ?k4 ?kU news ?kl ?kn ?k5 ?k6 ?k7 ?k8 ?k9 ?_
    (case k1 => k_asm)
    (case k2 => k_asm)
    (case k3 => k_asm)
    (case k4 => k_asm)
    (case kU => exact UpdF.tail D8 (upd7 l0 hLS hSR n8))
    (case kl => exact .inl rfl)
    (case kn => exact fun p hp => ⟨mem8 hp, n8 p hp⟩)
    (case k5 => k_asm)
    (case k6 => rfl)
    (case k7 => decide)
    (case k8 => decide)
    (case k9 =>
      intro nx hnx
      have hx : ∀ p ∈ news, p ∈ nx := fun p hp => hnx p (mem8 hp) (n8 p hp)
      have hRn : (R, W.listOf (List.toArray its) kR) ∈ nx := hnx _ (.tail _ (.head _)) (Nat.ne_of_gt (by omega))
      exact ⟨l, R, its, kR, rfl, htr.mono hx, hRn, hs.mono hx⟩)
    intro r9 tl9 h9 tk9 ps9 F9 N9 hl9 hs9 e9
    obtain ⟨nx9, ⟨q9, vs9, k9, e9, hq9, hwx⟩, hnx9⟩ := e9
    subst e9
    try simp only [List.cons_append] at N9
    replace hwx := hwx.mono (met_sub7 (ps' := ps9) hnx9)
    replace hq9 := met_sub7 (ps' := ps9) hnx9 _ hq9
    have hwl := hwx.len
    kpc_turns
    refine Halt.go ?_
    refine LCg.CompSrc.ledger (by rfl) (by k_asm) (by k_asm) hq9 (by rw [List.size_toArray, hwl]; exact Nat.le_trans hfl (by rw [sizeLine_eq]; decide)) ?_
    intro g8
    refine compU (fun i zs nx => nx = (D, LCg.lst ys) :: (R, W.listOf (List.toArray its) kR) :: (S, W.listOf #[.ref c, .int at_ ta] kS) :: (L + 1 + 1 + 1 + 1, o4) :: (L + 1 + 1 + 1, o3) :: (L + 1 + 1, o2) :: (L + 1, o1) :: (802, tabObj ps9) :: (news ++ tl9) ∧ IntsAre zs (((foundOf t ds).take i).map SD.number)) ?_ ⟨rfl, .nil⟩ ?_ ?_
    · rintro i zs nx ⟨rfl, -⟩
      exact .inr ⟨_, hq9, rfl, _, rfl⟩
    · rintro i v zs nx I oI C oC D2 m₂ h tk E' q9 hq9 hi hv ⟨rfl, hzs⟩ hC hx F₁ N₁ off hne3
      obtain ⟨d, hd, hsd⟩ := hwx.get (by simpa using hv)
      obtain ⟨x0, dx, n0, t1, t2, t3, yl, tn, rfl, hx1, hx2, hx3⟩ := hsd
      kpc_turns
      refine CTurn.none (by k_asm) (by k_asm) (by kxs_still) off ⟨rfl, ?_⟩
      rw [take_snoc hd, List.map_append]
      exact hzs.append (.cons _ _ .nil)
    · rintro zs nx ⟨rfl, hzs⟩
      rw [take_all (by rw [List.size_toArray, hwl])] at hzs
      intro D1 h tk F₁ N₁ off1
      kpc_turns
      refine Halt.go ?_
      refine LCg.ListComp_U (F₀ := by k_asm) (by rfl) (by decide) (by rfl) (by decide) (by rfl) ?_
      kpc_turns
      refine Halt.go ?_
      have hys' := hys.mono (b := (D1, LCg.lst zs) :: (D, LCg.lst ys) :: (R, W.listOf (List.toArray its) kR) :: (S, W.listOf #[.ref c, .int at_ ta] kS) :: (L + 1 + 1 + 1 + 1, o4) :: (L + 1 + 1 + 1, o3) :: (L + 1 + 1, o2) :: (L + 1, o1) :: (802, tabObj ps9) :: (news ++ tl9)) fun p hp => .tail _ (mem8 (List.mem_append.mpr (.inl hp)))
      have hyl := hys.len
      refine LCg.CompSrc.ledger (by rfl) (by k_asm) (by k_asm) (.tail _ (.head _)) (by rw [List.size_toArray, hyl]; exact Nat.le_trans hfl (by rw [sizeLine_eq]; decide)) ?_
      intro g7
      refine compU (fun i us nx => nx = (D1, LCg.lst zs) :: (D, LCg.lst ys) :: (R, W.listOf (List.toArray its) kR) :: (S, W.listOf #[.ref c, .int at_ ta] kS) :: (L + 1 + 1 + 1 + 1, o4) :: (L + 1 + 1 + 1, o3) :: (L + 1 + 1, o2) :: (L + 1, o1) :: (802, tabObj ps9) :: (news ++ tl9) ∧ IntsAre us (((foundOf t ds).take i).map SD.number)) ?_ ⟨rfl, .nil⟩ ?_ ?_
      · rintro i us nx ⟨rfl, -⟩
        exact .inr ⟨_, .tail _ (.head _), rfl, _, rfl⟩
      · rintro i v us nx I oI C oC D2 m₂ h tk E' q9 hq9 hi hv ⟨rfl, hus⟩ hC hx F₁ N₁ off hne3
        obtain ⟨d, hd, hsd⟩ := hys'.get (by simpa using hv)
        obtain ⟨x0, dx, n0, t1, t2, t3, yl, tn, rfl, hx1, hx2, hx3⟩ := hsd
        kpc_turns
        refine CTurn.none (by k_asm) (by k_asm) (by kxs_still) off ⟨rfl, ?_⟩
        rw [take_snoc hd, List.map_append]
        exact hus.append (.cons _ _ .nil)
      · rintro us nx ⟨rfl, hus⟩
        rw [take_all (by rw [List.size_toArray, hyl])] at hus
        intro D2 h tk F₁ N₁ off2
        kpc_turns
        refine Halt.go ?_
        rename Fr _ _ _ _ => F5
        rename News _ _ _ _ => N5
        have nD : ∀ p ∈ news, p.1 ≠ D := fun p hp => offD p (.tail _ (.tail _ (.tail _ (.tail _ (.tail _ (.tail _ (.tail _ hp)))))))
        have hDx : (@Ne Nat D 802) ∧ (@Ne Nat D R) ∧ (@Ne Nat D S) ∧ (@Ne Nat D (L + 1 + 1 + 1 + 1)) := ⟨D8, Ne.symm (offD (R, _) (.head _)), Ne.symm (offD (S, _) (.tail _ (.head _))), Ne.symm (offD (L + 1 + 1 + 1 + 1, _) (.tail _ (.tail _ (.head _))))⟩
        exact law_tail3 (ds := ds) (ns := ns) (t := t) (D := D) (ys := ys) (ps := ps9) B CH F5 X T (news_sub N5 fun p hp => .tail _ (.tail _ hp)) l0 d4 d3 d2 d1 hI hp0 hp1 hLS hcS hSR (List.mem_append.mpr (.inl hcm)) (all_app n4 (off_tl hl9 (by lsm_bools))) (all_app n8 (off_tl hl9 (by lsm_bools))) (all_app nS (off_tl hl9 (by lsm_bools))) (all_app nR (off_tl hl9 (by lsm_bools))) hat0 hat1
          (hs.mono fun p hp => List.mem_append.mpr (.inl hp)) hdl hin hiu hpos (hys.mono fun p hp => List.mem_append.mpr (.inl hp)) (hs9 _ (.inl rfl)) hDx (all_app nD (off_tl hl9 (.head _))) (htr.mono fun p hp => List.mem_append.mpr (.inl hp)) hth hts hE ret
end S_law
section S_lt
local macro_rules | `(tactic| walk_at "my_room") => `(tactic| decide)
local macro_rules | `(tactic| walk_at "eval ListComp") => `(tactic| walk_at "my_halt")
local macro_rules | `(tactic| walk_at "exec Assign cons ListComp") => `(tactic| walk_at "my_halt")
local macro_rules | `(tactic| walk_at "execs cons") => `(tactic| ktn_call "st" (Stmt.Assign [Expr.Name (Str.ofString "found") _] _ _))
theorem law_tail {prog : Program} {w : World} {h₀ : Heap} {L fa c S R : Addr} {cd : Value} {s : Shared} {ws its : List Value} {ns : List Int} {ds : List SD} {o4 o3 o2 o1 : Obj} {v4 v3 : Option Value} {at_ : Int} {ta : Tok} {kS kc kR : Nat} {m : Str → Option Value} {news : Led} {loose : List Str} {mean : ExcName → Option Value} {mg mb : Str → Option Value} {Q : Flow → Shared → Prop} {E : Value → Shared → Prop}
    (B : Below callerA h₀ [] h₀) (CH : CodeHd h₀ 806 802) (F : Fr h₀ L s.heap m) (X : (Kc w.params).In h₀) (T : Top topProg loose mean mg mb h₀)
    (N : News h₀ L s.heap ((R, W.listOf (List.toArray its) kR) :: (S, W.listOf #[.ref c, .int at_ ta] kS) :: (L + 1 + 1 + 1 + 1, o4) :: (L + 1 + 1 + 1, o3) :: (L + 1 + 1, o2) :: (L + 1, o1) :: (802, tabObj #[]) :: news)) (l0 : (@LT.lt Nat _ 802 L)) (d4 : o4.data = .cell v4) (d3 : o3.data = .cell v3) (d2 : o2.data = .cell (some (.ref R))) (d1 : o1.data = .cell (some (.ref S)))
    (hI : IntsAre ws ns) (hp0 : 0 < ws.length) (hp1 : ws.length ≤ 63) (hLS : (@LT.lt Nat _ (L + 1 + 1 + 1 + 1) S)) (hcS : (@LT.lt Nat _ c S)) (hSR : (@LT.lt Nat _ S R))
    (hcm : (c, W.listOf ws.toArray kc) ∈ news) (hnews : ∀ p ∈ news, ((@Ne Nat p.1 (L + 1 + 1 + 1 + 1)) ∧ (@Ne Nat p.1 (L + 1 + 1 + 1)) ∧ (@Ne Nat p.1 802)) ∧ p.1 ≠ S ∧ p.1 ≠ R) (hat0 : 0 ≤ at_) (hat1 : at_ ≤ 50) (hs : SeensIn w news its ds) (hdl : ds.length ≤ 6) (hin : incD SD.number ds) (hiu : incD SD.uid ds) (hpos : ∀ d ∈ ds, 0 < d.number ∧ 0 < d.uid)
    (hE : PassesOwn (model prog w) (callerA.deeper (lawEnv L fa cd)) (lawEnv L fa cd) E)
    (ret : ∀ h' tk' ps, h'.get? 802 = some (tabObj ps) → (∀ b o, h₀.get? b = some o → h'.get? b = some o) → Q (.ret (.bool true)) { s with heap := h', toks := tk' }) :
    wpAny (model prog w) (callerA.deeper (lawEnv L fa cd)) (execs (B893.drop 6) (lawEnv L fa cd)) Q E s := by
  have t3 : DrawsT w c ws kc 3 := law_tree_succ w c ws ns kc hI hp0 hp1 2 (by decide) (law_tree_succ w c ws ns kc hI hp0 hp1 1 (by decide) (law_tree_succ w c ws ns kc hI hp0 hp1 0 (by decide) (law_tree_zero w c ws ns kc hI hp0 hp1)))
  have hSR' : (@Ne Nat S R) := Nat.ne_of_lt hSR
  have hcS' : c ≠ S := Nat.ne_of_lt hcS
  have hm3 : mostT 3 = 55 := by decide
  have hil : its.length ≤ 6 := by rw [hs.len]; exact hdl
  have n4 : ∀ p ∈ news, p.1 ≠ L + 1 + 1 + 1 + 1 := fun p hp => (hnews p hp).1.1
  have n3 : ∀ p ∈ news, p.1 ≠ L + 1 + 1 + 1 := fun p hp => (hnews p hp).1.2.1
  have n8 : ∀ p ∈ news, p.1 ≠ 802 := fun p hp => (hnews p hp).1.2.2
  have nS : ∀ p ∈ news, p.1 ≠ S := fun p hp => (hnews p hp).2.1
  have nR : ∀ p ∈ news, p.1 ≠ R := fun p hp => (hnews p hp).2.2
  kpc_turns
  refine Halt.go ?_
  rename News _ _ _ _ => N7
  rename Fr _ _ _ _ => F7
  rename TrIn _ _ _ => ht7
  rename (∀ q : Addr × Obj, q ∈ (_ : Led) → ∀ p : Addr × Obj, p ∈ (_ : Led) → q.1 ≠ p.1) => hl7
  refine law_tail2 (ds := ds) (ns := ns) (t := _) B CH F7 X T N7 l0 d4 (by assumption) d2 d1 hI hp0 hp1 hLS hcS' hSR (List.mem_append.mpr (.inl hcm)) (all_app n4 (off_tl hl7 (by lsm_bools))) (all_app n8 (off_tl hl7 (by lsm_bools))) (all_app nS (off_tl hl7 (by lsm_bools))) (all_app nR (off_tl hl7 (by lsm_bools))) (by omega) (by omega) (hs.mono fun p hp => List.mem_append.mpr (.inl hp)) hdl hin hiu hpos (ht7.keep ?_) (by assumption) (by omega) hE ret
  exact keepX notT_list (keepX notT_list (keepX (notT_cell d4) (keepX (notT_cell d3) (keepX (notT_cell d2) (keepX (notT_cell d1) (keepX notT_tab fun p hp => .inl hp))))))
end S_lt
section S_lw
local macro_rules | `(tactic| walk_at "exec For Name Call cons nil") => `(tactic| walk_at "my_halt")
theorem pick1 {h₀ h : Heap} {L : Addr} {r s d d' c4 c3 c2 c1 t : Addr × Obj} (N : News h₀ L h [r, s, d, d', c4, c3, c2, c1, t]) : News h₀ L h (r :: s :: c4 :: c3 :: c2 :: c1 :: t :: [d]) := news_sub N (by kxs_still)
theorem pick2 {h₀ h : Heap} {L : Addr} {r s c d d' c4 c3 c2 c1 t : Addr × Obj} (N : News h₀ L h [r, s, c, d, d', c4, c3, c2, c1, t]) : News h₀ L h (r :: s :: c4 :: c3 :: c2 :: c1 :: t :: [c]) := news_sub N (by kxs_still)
theorem law_walk {prog : Program} {w : World} {h₀ : Heap} {L fa a : Addr} {cd : Value} {s : Shared} {vs : List Value} {ns : List Int} {o4 o3 o2 o1 : Obj} {loose : List Str} {mean : ExcName → Option Value} {mg mb : Str → Option Value} {Q : Flow → Shared → Prop} {E : Value → Shared → Prop}
    (B : Below callerA h₀ [] h₀) (CH : CodeHd h₀ 806 802) (F : Fr h₀ L s.heap (bindL (lawEnv L fa cd).kindOf [(Str.ofString "script", .ref a)] (fun _ => none))) (X : (Kc w.params).In h₀) (T : Top topProg loose mean mg mb h₀)
    (N : News h₀ L s.heap [(L + 1 + 1 + 1 + 1, o4), (L + 1 + 1 + 1, o3), (L + 1 + 1, o2), (L + 1, o1), (802, tabObj #[])]) (l0 : 802 < L) (d4 : ∃ v, o4.data = .cell v) (d3 : ∃ v, o3.data = .cell v) (d2 : ∃ v, o2.data = .cell v) (d1 : ∃ v, o1.data = .cell v)
    (hl : h₀.IsList a vs.toArray) (hI : IntsAre vs ns) (hn : ns.length ≤ 63)
    (hE : PassesOwn (model prog w) (callerA.deeper (lawEnv L fa cd)) (lawEnv L fa cd) E)
    (ret : ∀ h' tk' ps, h'.get? 802 = some (tabObj ps) → (∀ b o, h₀.get? b = some o → h'.get? b = some o) → Q (.ret (.bool true)) { s with heap := h', toks := tk' }) :
    wpAny (model prog w) (callerA.deeper (lawEnv L fa cd)) (execs B893 (lawEnv L fa cd)) Q E s := by
  obtain ⟨v4, d4⟩ := d4
  obtain ⟨v3, d3⟩ := d3
  obtain ⟨v2, d2⟩ := d2
  obtain ⟨v1, d1⟩ := d1
  have l0' : (@LT.lt Nat _ 802 L) := l0
  kpc_turns
  refine Halt.go ?_
  rename IntsAre _ (List.take 60 ns) => hI2
  have hIl := hI2.length
  refine LCg.CompSrc.ledger (by rfl) (by k_asm) (by k_asm) (.head _) (by simp only [List.size_toArray, hIl, List.length_take]; rw [sizeLine_eq]; omega) ?_
  intro g9
  refine compU (fun i ys nx => nx = _ ∧ IntsAre ys ((List.take 60 ns).take i)) ?_ ⟨rfl, .nil⟩ ?_ ?_
  · rintro i ys nx ⟨rfl, -⟩
    exact .inr ⟨_, .head _, rfl, _, rfl⟩
  · rintro i v ys nx I oI C oC D m₂ h tk E' q9 hq9 hi hv ⟨rfl, hys⟩ hC hx F₁ N₁ off hne3
    obtain ⟨x, tx, rfl, hx'⟩ := ints_get hI2 (by simpa using hv)
    kpc_turns
    refine CTurn.none (by k_asm) (by k_asm) (by kxs_still) off ⟨rfl, ?_⟩
    rw [take_snoc hx']
    exact hys.append (.cons _ _ .nil)
  · rintro ys nx ⟨rfl, hys⟩
    rw [take_all (by rw [List.size_toArray, hIl])] at hys
    intro D h tk F₁ N₁ off
    simp only [LCg.Off1, and_true] at off
    obtain ⟨f0, f4, f3, f2, f1, f8⟩ := off
    have hyl := hys.length
    kpc_turns
    · rename (0 < _) => hlen
      rename News _ _ _ _ => N7
      rename Fr _ _ _ _ => F7
      refine Halt.go ?_
      refine law_loop (ns := List.take 60 ns) (ws := ys) (c := D) B CH F7 X T (pick1 N7) l0 d4 d3 (by assumption) (by assumption) hys (by rw [hyl]; omega) (by rw [hyl, List.length_take]; omega) ⟨f4.symm, f3.symm, f8.symm⟩ (by omega) (by omega) (by omega) hE ?_
      intro h' tk' its ds at_ ta' kS' kR news m' F' N' hcm hnews ha0 ha1 hs hdl hin hiu hpos
      exact law_tail B CH F' X T N' l0 d4 d3 (by assumption) (by assumption) hys (by rw [hyl]; omega) (by rw [hyl, List.length_take]; omega) (by omega) (by omega) (by omega) hcm hnews ha0 ha1 hs hdl hin hiu hpos hE ret
    · rename News _ _ _ _ => N7
      rename Fr _ _ _ _ => F7
      refine Halt.go ?_
      refine law_loop (ns := [0]) (ws := [.int 0 _]) B CH F7 X T (pick2 N7) l0 d4 d3 (by assumption) (by assumption) (.cons _ _ .nil) (by simp) (by simp) ⟨Nat.ne_of_gt (by omega), Nat.ne_of_gt (by omega), Nat.ne_of_gt (by omega)⟩ (by omega) (by omega) (by omega) hE ?_
      intro h' tk' its ds at_ ta' kS' kR news m' F' N' hcm hnews ha0 ha1 hs hdl hin hiu hpos
      exact law_tail (ns := [0]) (ws := [.int 0 _]) B CH F' X T N' l0 d4 d3 (by assumption) (by assumption) (.cons _ _ .nil) (by simp) (by simp) (by omega) (by omega) (by omega) hcm hnews ha0 ha1 hs hdl hin hiu hpos hE ret
end S_lw
section S_m0
theorem main : PySem.Challenge.rw_nz0336_01.Holds := hd (by w_witness2) (by
  w_strict (
  k_fill
  intro w s₀ s₁ mg mb G Y fa o pm cd doc dV kV ho hd hcd hD hmg hg args vals as hpre hlay hrd hwl hlo
  dsimp only [dL] at hmg ho hcd hD
  have KX := km_in_of Y
  km_tabs Y
  have X := (Ground.X G).1
  have V := (Ground.X G).2
  refine Ground.open G ?_
  intro T B D TE TW
  try (refine guard_noD D (by decide +kernel) ?_; clear D)
  km_lay T hmg ho hd cd
  clear hmg
  wrow_args hpre hlay hrd hwl hlo
  first | refine callC_kw (enter_call ?_) | refine enter_call ?_
  w_top on
  kn_posts
  w_call any ho hd hcd hD T F
  clear hd
  kn_ghosts F T
  k_drop
  dsimp only [dL] at *
  clear hD hcd ho G Y X V B TE TW hT8 hT9 T
  rename Below _ _ _ _ => hB
  rename Fr _ _ _ _ => hF
  rename Frag.In _ _ => hX
  rename PyProof.Rows.Top _ _ _ _ _ _ => hT
  rename News _ _ _ _ => hN
  rename (802 < _) => l0
  rename (ghostOf _ _).IsList _ _ => hl
  rename IntsAre _ _ => hI
  rename ¬ ((63 : Nat) : Int) < _ => hn
  rename CodeHd _ _ _ => hCH
  refine law_walk (fa := fa) (cd := cd) hB hCH hF hX hT hN l0 ⟨_, by assumption⟩ ⟨_, by assumption⟩ ⟨_, by assumption⟩ ⟨_, by assumption⟩ hl hI (by omega) (by passes_own) ?_
  intro h' tk' ps hps hkeep
  refine ⟨⟨.inl ⟨.bool true, .bool true, [], rfl, ?_, .bool true, ?_, ?_⟩, hkeep, rfl, hg⟩, ⟨⟨ps, hps⟩, True.intro⟩⟩
  · intro cls; rfl
  · first | kernel_rfl | (show (WShape.has _ _ _ && _) = true; refine and_ok ?_ ?_ <;> first | rfl | kernel_rfl | simp [WShape.has, WTm.holds, WTm.value])
  · intro h; exact ⟨List.nodup_nil, fun a h => nomatch h⟩))
end S_m0
end Mine
theorem PySem.Challenge.cw_nz0336_01_holds : PySem.Challenge.rw_nz0336_01.Holds := by
  exact Mine.main
