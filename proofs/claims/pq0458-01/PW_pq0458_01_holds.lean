import PyProof.Rows.All
import Wide.All
import OpenK.AllK
import Wide.FinOn
import PySem.Challenge.RW_pq0458_01
open PySem PySem.W PyProof.Rows
set_option Elab.async false
set_option compiler.extract_closed false
set_option linter.all false
set_option maxRecDepth 100000
set_option maxHeartbeats 8000000
namespace Mine
def sBody : PySem.Stmt → List PySem.Stmt
  | .FunctionDef _ _ b _ _ _ _ _ _ _ => b
  | .ClassDef _ _ _ b _ _ _ _ _ _ _ => b
  | _ => []
def sArgs : PySem.Stmt → PySem.Arguments
  | .FunctionDef _ a _ _ _ _ _ _ _ _ => a
  | _ => ⟨[], [], none, [], [], none, []⟩
def sScope : PySem.Stmt → PySem.Scope
  | .FunctionDef _ _ _ _ _ _ s _ _ _ => s
  | _ => PySem.Challenge.pw_pq0458_01.main.scope
def sAt (l : List PySem.Stmt) (i : Nat) : PySem.Stmt := l.getD i (.Pass ⟨0, 0, 0, 0⟩)
noncomputable def top : List PySem.Stmt := PySem.Challenge.pw_pq0458_01.main.body
noncomputable def hd.heap_39 : Params → Frag := by
  apply (?key : (x0 : PySem.Arguments) → (h0 : x0 = sArgs (sAt top 0) ∧ True) → (x1 : List PySem.Stmt) → (h1 : x1 = sBody (sAt top 0) ∧ True) → (x2 : PySem.Scope) → (h2 : x2 = sScope (sAt top 0) ∧ True) → (x3 : PySem.Arguments) → (h3 : x3 = sArgs (sAt top 2) ∧ True) → (x4 : List PySem.Stmt) → (h4 : x4 = sBody (sAt top 2) ∧ True) → (x5 : PySem.Scope) → (h5 : x5 = sScope (sAt top 2) ∧ True) → (x6 : PySem.Arguments) → (h6 : x6 = sArgs (sAt top 4) ∧ True) → (x7 : List PySem.Stmt) → (h7 : x7 = sBody (sAt top 4) ∧ True) → (x8 : PySem.Scope) → (h8 : x8 = sScope (sAt top 4) ∧ True) → (x9 : PySem.Arguments) → (h9 : x9 = sArgs (sAt top 5) ∧ True) → (x10 : List PySem.Stmt) → (h10 : x10 = sBody (sAt top 5) ∧ True) → (x11 : PySem.Scope) → (h11 : x11 = sScope (sAt top 5) ∧ True) → (x12 : PySem.Arguments) → (h12 : x12 = sArgs (sAt top 6) ∧ True) → (x13 : List PySem.Stmt) → (h13 : x13 = sBody (sAt top 6) ∧ True) → (x14 : PySem.Scope) → (h14 : x14 = sScope (sAt top 6) ∧ True) → (x15 : PySem.Arguments) → (h15 : x15 = sArgs (sAt top 7) ∧ True) → (x16 : List PySem.Stmt) → (h16 : x16 = sBody (sAt top 7) ∧ True) → (x17 : PySem.Scope) → (h17 : x17 = sScope (sAt top 7) ∧ True) → (x18 : PySem.Arguments) → (h18 : x18 = sArgs (sAt top 8) ∧ True) → (x19 : List PySem.Stmt) → (h19 : x19 = sBody (sAt top 8) ∧ True) → (x20 : PySem.Scope) → (h20 : x20 = sScope (sAt top 8) ∧ True) → (x21 : PySem.Arguments) → (h21 : x21 = sArgs (sAt (sBody (sAt top 10)) 0) ∧ True) → (x22 : List PySem.Stmt) → (h22 : x22 = sBody (sAt (sBody (sAt top 10)) 0) ∧ True) → (x23 : PySem.Scope) → (h23 : x23 = sScope (sAt (sBody (sAt top 10)) 0) ∧ True) → (x24 : PySem.Arguments) → (h24 : x24 = sArgs (sAt top 11) ∧ True) → (x25 : List PySem.Stmt) → (h25 : x25 = sBody (sAt top 11) ∧ True) → (x26 : PySem.Scope) → (h26 : x26 = sScope (sAt top 11) ∧ True) → (x27 : PySem.Arguments) → (h27 : x27 = sArgs (sAt top 12) ∧ True) → (x28 : List PySem.Stmt) → (h28 : x28 = sBody (sAt top 12) ∧ True) → (x29 : PySem.Scope) → (h29 : x29 = sScope (sAt top 12) ∧ True) → (x30 : PySem.Arguments) → (h30 : x30 = sArgs (sAt top 13) ∧ True) → (x31 : List PySem.Stmt) → (h31 : x31 = sBody (sAt top 13) ∧ True) → (x32 : PySem.Scope) → (h32 : x32 = sScope (sAt top 13) ∧ True) → (x33 : PySem.Arguments) → (h33 : x33 = sArgs (sAt (sBody (sAt top 15)) 0) ∧ True) → (x34 : List PySem.Stmt) → (h34 : x34 = sBody (sAt (sBody (sAt top 15)) 0) ∧ True) → (x35 : PySem.Scope) → (h35 : x35 = sScope (sAt (sBody (sAt top 15)) 0) ∧ True) → (x36 : PySem.Arguments) → (h36 : x36 = sArgs (sAt (sBody (sAt top 16)) 0) ∧ True) → (x37 : List PySem.Stmt) → (h37 : x37 = sBody (sAt (sBody (sAt top 16)) 0) ∧ True) → (x38 : PySem.Scope) → (h38 : x38 = sScope (sAt (sBody (sAt top 16)) 0) ∧ True) → (x39 : PySem.Arguments) → (h39 : x39 = sArgs (sAt (sBody (sAt top 17)) 0) ∧ True) → (x40 : List PySem.Stmt) → (h40 : x40 = sBody (sAt (sBody (sAt top 17)) 0) ∧ True) → (x41 : PySem.Scope) → (h41 : x41 = sScope (sAt (sBody (sAt top 17)) 0) ∧ True) → (x42 : PySem.Arguments) → (h42 : x42 = sArgs (sAt (sBody (sAt top 18)) 0) ∧ True) → (x43 : List PySem.Stmt) → (h43 : x43 = sBody (sAt (sBody (sAt top 18)) 0) ∧ True) → (x44 : PySem.Scope) → (h44 : x44 = sScope (sAt (sBody (sAt top 18)) 0) ∧ True) → (x45 : PySem.Arguments) → (h45 : x45 = sArgs (sAt (sBody (sAt top 18)) 1) ∧ True) → (x46 : List PySem.Stmt) → (h46 : x46 = sBody (sAt (sBody (sAt top 18)) 1) ∧ True) → (x47 : PySem.Scope) → (h47 : x47 = sScope (sAt (sBody (sAt top 18)) 1) ∧ True) → (x48 : PySem.Arguments) → (h48 : x48 = sArgs (sAt (sBody (sAt top 18)) 2) ∧ True) → (x49 : List PySem.Stmt) → (h49 : x49 = sBody (sAt (sBody (sAt top 18)) 2) ∧ True) → (x50 : PySem.Scope) → (h50 : x50 = sScope (sAt (sBody (sAt top 18)) 2) ∧ True) → (x51 : PySem.Arguments) → (h51 : x51 = sArgs (sAt (sBody (sAt top 18)) 3) ∧ True) → (x52 : List PySem.Stmt) → (h52 : x52 = sBody (sAt (sBody (sAt top 18)) 3) ∧ True) → (x53 : PySem.Scope) → (h53 : x53 = sScope (sAt (sBody (sAt top 18)) 3) ∧ True) → (x54 : PySem.Arguments) → (h54 : x54 = sArgs (sAt (sBody (sAt top 18)) 4) ∧ True) → (x55 : List PySem.Stmt) → (h55 : x55 = sBody (sAt (sBody (sAt top 18)) 4) ∧ True) → (x56 : PySem.Scope) → (h56 : x56 = sScope (sAt (sBody (sAt top 18)) 4) ∧ True) → (x57 : PySem.Arguments) → (h57 : x57 = sArgs (sAt (sBody (sAt top 18)) 5) ∧ True) → (x58 : List PySem.Stmt) → (h58 : x58 = sBody (sAt (sBody (sAt top 18)) 5) ∧ True) → (x59 : PySem.Scope) → (h59 : x59 = sScope (sAt (sBody (sAt top 18)) 5) ∧ True) → (x60 : PySem.Arguments) → (h60 : x60 = sArgs (sAt (sBody (sAt top 18)) 6) ∧ True) → (x61 : List PySem.Stmt) → (h61 : x61 = sBody (sAt (sBody (sAt top 18)) 6) ∧ True) → (x62 : PySem.Scope) → (h62 : x62 = sScope (sAt (sBody (sAt top 18)) 6) ∧ True) → (x63 : PySem.Arguments) → (h63 : x63 = sArgs (sAt (sBody (sAt top 20)) 0) ∧ True) → (x64 : List PySem.Stmt) → (h64 : x64 = sBody (sAt (sBody (sAt top 20)) 0) ∧ True) → (x65 : PySem.Scope) → (h65 : x65 = sScope (sAt (sBody (sAt top 20)) 0) ∧ True) → (x66 : PySem.Arguments) → (h66 : x66 = sArgs (sAt top 22) ∧ True) → (x67 : List PySem.Stmt) → (h67 : x67 = sBody (sAt top 22) ∧ True) → (x68 : PySem.Scope) → (h68 : x68 = sScope (sAt top 22) ∧ True) → (x69 : PySem.Arguments) → (h69 : x69 = sArgs (sAt top 23) ∧ True) → (x70 : List PySem.Stmt) → (h70 : x70 = sBody (sAt top 23) ∧ True) → (x71 : PySem.Scope) → (h71 : x71 = sScope (sAt top 23) ∧ True) → (x72 : PySem.Arguments) → (h72 : x72 = sArgs (sAt top 24) ∧ True) → (x73 : List PySem.Stmt) → (h73 : x73 = sBody (sAt top 24) ∧ True) → (x74 : PySem.Scope) → (h74 : x74 = sScope (sAt top 24) ∧ True) → (x75 : PySem.Arguments) → (h75 : x75 = sArgs (sAt top 25) ∧ True) → (x76 : List PySem.Stmt) → (h76 : x76 = sBody (sAt top 25) ∧ True) → (x77 : PySem.Scope) → (h77 : x77 = sScope (sAt top 25) ∧ True) → (x78 : PySem.Arguments) → (h78 : x78 = sArgs (sAt top 26) ∧ True) → (x79 : List PySem.Stmt) → (h79 : x79 = sBody (sAt top 26) ∧ True) → (x80 : PySem.Scope) → (h80 : x80 = sScope (sAt top 26) ∧ True) → Params → Frag)
  case h0 =>
    conv => enter [1, 2]; whnf
    exact ⟨rfl, trivial⟩
  case h1 =>
    conv => enter [1, 2]; whnf
    exact ⟨rfl, trivial⟩
  case h2 =>
    conv => enter [1, 2]; whnf
    exact ⟨rfl, trivial⟩
  case h3 =>
    conv => enter [1, 2]; whnf
    exact ⟨rfl, trivial⟩
  case h4 =>
    conv => enter [1, 2]; whnf
    exact ⟨rfl, trivial⟩
  case h5 =>
    conv => enter [1, 2]; whnf
    exact ⟨rfl, trivial⟩
  case h6 =>
    conv => enter [1, 2]; whnf
    exact ⟨rfl, trivial⟩
  case h7 =>
    conv => enter [1, 2]; whnf
    exact ⟨rfl, trivial⟩
  case h8 =>
    conv => enter [1, 2]; whnf
    exact ⟨rfl, trivial⟩
  case h9 =>
    conv => enter [1, 2]; whnf
    exact ⟨rfl, trivial⟩
  case h10 =>
    conv => enter [1, 2]; whnf
    exact ⟨rfl, trivial⟩
  case h11 =>
    conv => enter [1, 2]; whnf
    exact ⟨rfl, trivial⟩
  case h12 =>
    conv => enter [1, 2]; whnf
    exact ⟨rfl, trivial⟩
  case h13 =>
    conv => enter [1, 2]; whnf
    exact ⟨rfl, trivial⟩
  case h14 =>
    conv => enter [1, 2]; whnf
    exact ⟨rfl, trivial⟩
  case h15 =>
    conv => enter [1, 2]; whnf
    exact ⟨rfl, trivial⟩
  case h16 =>
    conv => enter [1, 2]; whnf
    exact ⟨rfl, trivial⟩
  case h17 =>
    conv => enter [1, 2]; whnf
    exact ⟨rfl, trivial⟩
  case h18 =>
    conv => enter [1, 2]; whnf
    exact ⟨rfl, trivial⟩
  case h19 =>
    conv => enter [1, 2]; whnf
    exact ⟨rfl, trivial⟩
  case h20 =>
    conv => enter [1, 2]; whnf
    exact ⟨rfl, trivial⟩
  case h21 =>
    conv => enter [1, 2]; whnf
    exact ⟨rfl, trivial⟩
  case h22 =>
    conv => enter [1, 2]; whnf
    exact ⟨rfl, trivial⟩
  case h23 =>
    conv => enter [1, 2]; whnf
    exact ⟨rfl, trivial⟩
  case h24 =>
    conv => enter [1, 2]; whnf
    exact ⟨rfl, trivial⟩
  case h25 =>
    conv => enter [1, 2]; whnf
    exact ⟨rfl, trivial⟩
  case h26 =>
    conv => enter [1, 2]; whnf
    exact ⟨rfl, trivial⟩
  case h27 =>
    conv => enter [1, 2]; whnf
    exact ⟨rfl, trivial⟩
  case h28 =>
    conv => enter [1, 2]; whnf
    exact ⟨rfl, trivial⟩
  case h29 =>
    conv => enter [1, 2]; whnf
    exact ⟨rfl, trivial⟩
  case h30 =>
    conv => enter [1, 2]; whnf
    exact ⟨rfl, trivial⟩
  case h31 =>
    conv => enter [1, 2]; whnf
    exact ⟨rfl, trivial⟩
  case h32 =>
    conv => enter [1, 2]; whnf
    exact ⟨rfl, trivial⟩
  case h33 =>
    conv => enter [1, 2]; whnf
    exact ⟨rfl, trivial⟩
  case h34 =>
    conv => enter [1, 2]; whnf
    exact ⟨rfl, trivial⟩
  case h35 =>
    conv => enter [1, 2]; whnf
    exact ⟨rfl, trivial⟩
  case h36 =>
    conv => enter [1, 2]; whnf
    exact ⟨rfl, trivial⟩
  case h37 =>
    conv => enter [1, 2]; whnf
    exact ⟨rfl, trivial⟩
  case h38 =>
    conv => enter [1, 2]; whnf
    exact ⟨rfl, trivial⟩
  case h39 =>
    conv => enter [1, 2]; whnf
    exact ⟨rfl, trivial⟩
  case h40 =>
    conv => enter [1, 2]; whnf
    exact ⟨rfl, trivial⟩
  case h41 =>
    conv => enter [1, 2]; whnf
    exact ⟨rfl, trivial⟩
  case h42 =>
    conv => enter [1, 2]; whnf
    exact ⟨rfl, trivial⟩
  case h43 =>
    conv => enter [1, 2]; whnf
    exact ⟨rfl, trivial⟩
  case h44 =>
    conv => enter [1, 2]; whnf
    exact ⟨rfl, trivial⟩
  case h45 =>
    conv => enter [1, 2]; whnf
    exact ⟨rfl, trivial⟩
  case h46 =>
    conv => enter [1, 2]; whnf
    exact ⟨rfl, trivial⟩
  case h47 =>
    conv => enter [1, 2]; whnf
    exact ⟨rfl, trivial⟩
  case h48 =>
    conv => enter [1, 2]; whnf
    exact ⟨rfl, trivial⟩
  case h49 =>
    conv => enter [1, 2]; whnf
    exact ⟨rfl, trivial⟩
  case h50 =>
    conv => enter [1, 2]; whnf
    exact ⟨rfl, trivial⟩
  case h51 =>
    conv => enter [1, 2]; whnf
    exact ⟨rfl, trivial⟩
  case h52 =>
    conv => enter [1, 2]; whnf
    exact ⟨rfl, trivial⟩
  case h53 =>
    conv => enter [1, 2]; whnf
    exact ⟨rfl, trivial⟩
  case h54 =>
    conv => enter [1, 2]; whnf
    exact ⟨rfl, trivial⟩
  case h55 =>
    conv => enter [1, 2]; whnf
    exact ⟨rfl, trivial⟩
  case h56 =>
    conv => enter [1, 2]; whnf
    exact ⟨rfl, trivial⟩
  case h57 =>
    conv => enter [1, 2]; whnf
    exact ⟨rfl, trivial⟩
  case h58 =>
    conv => enter [1, 2]; whnf
    exact ⟨rfl, trivial⟩
  case h59 =>
    conv => enter [1, 2]; whnf
    exact ⟨rfl, trivial⟩
  case h60 =>
    conv => enter [1, 2]; whnf
    exact ⟨rfl, trivial⟩
  case h61 =>
    conv => enter [1, 2]; whnf
    exact ⟨rfl, trivial⟩
  case h62 =>
    conv => enter [1, 2]; whnf
    exact ⟨rfl, trivial⟩
  case h63 =>
    conv => enter [1, 2]; whnf
    exact ⟨rfl, trivial⟩
  case h64 =>
    conv => enter [1, 2]; whnf
    exact ⟨rfl, trivial⟩
  case h65 =>
    conv => enter [1, 2]; whnf
    exact ⟨rfl, trivial⟩
  case h66 =>
    conv => enter [1, 2]; whnf
    exact ⟨rfl, trivial⟩
  case h67 =>
    conv => enter [1, 2]; whnf
    exact ⟨rfl, trivial⟩
  case h68 =>
    conv => enter [1, 2]; whnf
    exact ⟨rfl, trivial⟩
  case h69 =>
    conv => enter [1, 2]; whnf
    exact ⟨rfl, trivial⟩
  case h70 =>
    conv => enter [1, 2]; whnf
    exact ⟨rfl, trivial⟩
  case h71 =>
    conv => enter [1, 2]; whnf
    exact ⟨rfl, trivial⟩
  case h72 =>
    conv => enter [1, 2]; whnf
    exact ⟨rfl, trivial⟩
  case h73 =>
    conv => enter [1, 2]; whnf
    exact ⟨rfl, trivial⟩
  case h74 =>
    conv => enter [1, 2]; whnf
    exact ⟨rfl, trivial⟩
  case h75 =>
    conv => enter [1, 2]; whnf
    exact ⟨rfl, trivial⟩
  case h76 =>
    conv => enter [1, 2]; whnf
    exact ⟨rfl, trivial⟩
  case h77 =>
    conv => enter [1, 2]; whnf
    exact ⟨rfl, trivial⟩
  case h78 =>
    conv => enter [1, 2]; whnf
    exact ⟨rfl, trivial⟩
  case h79 =>
    conv => enter [1, 2]; whnf
    exact ⟨rfl, trivial⟩
  case h80 =>
    conv => enter [1, 2]; whnf
    exact ⟨rfl, trivial⟩
  case key => exact fun x0 _ x1 _ x2 _ x3 _ x4 _ x5 _ x6 _ x7 _ x8 _ x9 _ x10 _ x11 _ x12 _ x13 _ x14 _ x15 _ x16 _ x17 _ x18 _ x19 _ x20 _ x21 _ x22 _ x23 _ x24 _ x25 _ x26 _ x27 _ x28 _ x29 _ x30 _ x31 _ x32 _ x33 _ x34 _ x35 _ x36 _ x37 _ x38 _ x39 _ x40 _ x41 _ x42 _ x43 _ x44 _ x45 _ x46 _ x47 _ x48 _ x49 _ x50 _ x51 _ x52 _ x53 _ x54 _ x55 _ x56 _ x57 _ x58 _ x59 _ x60 _ x61 _ x62 _ x63 _ x64 _ x65 _ x66 _ x67 _ x68 _ x69 _ x70 _ x71 _ x72 _ x73 _ x74 _ x75 _ x76 _ x77 _ x78 _ x79 _ x80 _ => fun P => (
  ((nat_lit 2), (PySem.Obj.mk PySem.Value.none (Option.none) (PySem.Data.dict (List.toArray []) 0) (List.toArray []))) ::
  ((nat_lit 3), (PySem.Obj.mk (PySem.Value.type "dict") (Option.none) (PySem.Data.dict (List.toArray [(PySem.DictEntry.mk (PySem.PyData.keyHash P (PySem.Str.ofString "__name__")) (PySem.Value.str (PySem.Str.ofString "__name__") 165) (PySem.Value.str (PySem.Str.ofString "law_pq0458_01") 582)), (PySem.DictEntry.mk (PySem.PyData.keyHash P (PySem.Str.ofString "__doc__")) (PySem.Value.str (PySem.Str.ofString "__doc__") 166) PySem.Value.none), (PySem.DictEntry.mk (PySem.PyData.keyHash P (PySem.Str.ofString "__package__")) (PySem.Value.str (PySem.Str.ofString "__package__") 167) PySem.Value.none), (PySem.DictEntry.mk (PySem.PyData.keyHash P (PySem.Str.ofString "__loader__")) (PySem.Value.str (PySem.Str.ofString "__loader__") 168) (PySem.Value.builtin "__main__.__loader__#opaque")), (PySem.DictEntry.mk (PySem.PyData.keyHash P (PySem.Str.ofString "__spec__")) (PySem.Value.str (PySem.Str.ofString "__spec__") 169) PySem.Value.none), (PySem.DictEntry.mk (PySem.PyData.keyHash P (PySem.Str.ofString "__annotations__")) (PySem.Value.str (PySem.Str.ofString "__annotations__") 170) (PySem.Value.ref 6)), (PySem.DictEntry.mk (PySem.PyData.keyHash P (PySem.Str.ofString "__builtins__")) (PySem.Value.str (PySem.Str.ofString "__builtins__") 171) (PySem.Value.ref 4)), (PySem.DictEntry.mk (PySem.PyData.keyHash P (PySem.Str.ofString "__file__")) (PySem.Value.str (PySem.Str.ofString "__file__") 173) (PySem.Value.str (PySem.Str.ofString "/claim/cut.py") 172)), (PySem.DictEntry.mk (PySem.PyData.keyHash P (PySem.Str.ofString "__cached__")) (PySem.Value.str (PySem.Str.ofString "__cached__") 174) PySem.Value.none), (PySem.DictEntry.mk (PySem.PyData.keyHash P (PySem.Str.ofString "_wall")) (PySem.Value.str (PySem.Str.ofString "_wall") 193) (PySem.Value.ref 21)), (PySem.DictEntry.mk (PySem.PyData.keyHash P (PySem.Str.ofString "default_strength")) (PySem.Value.str (PySem.Str.ofString "default_strength") 202) (PySem.Value.ref 28)), (PySem.DictEntry.mk (PySem.PyData.keyHash P (PySem.Str.ofString "children")) (PySem.Value.str (PySem.Str.ofString "children") 212) (PySem.Value.ref 35)), (PySem.DictEntry.mk (PySem.PyData.keyHash P (PySem.Str.ofString "subexpressions")) (PySem.Value.str (PySem.Str.ofString "subexpressions") 223) (PySem.Value.ref 42)), (PySem.DictEntry.mk (PySem.PyData.keyHash P (PySem.Str.ofString "expr_reads")) (PySem.Value.str (PySem.Str.ofString "expr_reads") 232) (PySem.Value.ref 49)), (PySem.DictEntry.mk (PySem.PyData.keyHash P (PySem.Str.ofString "target_indexes")) (PySem.Value.str (PySem.Str.ofString "target_indexes") 241) (PySem.Value.ref 56)), (PySem.DictEntry.mk (PySem.PyData.keyHash P (PySem.Str.ofString "target_reads")) (PySem.Value.str (PySem.Str.ofString "target_reads") 251) (PySem.Value.ref 63)), (PySem.DictEntry.mk (PySem.PyData.keyHash P (PySem.Str.ofString "Element")) (PySem.Value.str (PySem.Str.ofString "Element") 294) (PySem.Value.ref 80)), (PySem.DictEntry.mk (PySem.PyData.keyHash P (PySem.Str.ofString "make_elements")) (PySem.Value.str (PySem.Str.ofString "make_elements") 305) (PySem.Value.ref 91)), (PySem.DictEntry.mk (PySem.PyData.keyHash P (PySem.Str.ofString "element_targets")) (PySem.Value.str (PySem.Str.ofString "element_targets") 312) (PySem.Value.ref 98)), (PySem.DictEntry.mk (PySem.PyData.keyHash P (PySem.Str.ofString "element_reads")) (PySem.Value.str (PySem.Str.ofString "element_reads") 324) (PySem.Value.ref 105)), (PySem.DictEntry.mk (PySem.PyData.keyHash P (PySem.Str.ofString "AssignDef")) (PySem.Value.str (PySem.Str.ofString "AssignDef") 363) (PySem.Value.ref 122)), (PySem.DictEntry.mk (PySem.PyData.keyHash P (PySem.Str.ofString "GateDef")) (PySem.Value.str (PySem.Str.ofString "GateDef") 402) (PySem.Value.ref 143)), (PySem.DictEntry.mk (PySem.PyData.keyHash P (PySem.Str.ofString "UdpDef")) (PySem.Value.str (PySem.Str.ofString "UdpDef") 439) (PySem.Value.ref 164)), (PySem.DictEntry.mk (PySem.PyData.keyHash P (PySem.Str.ofString "Design")) (PySem.Value.str (PySem.Str.ofString "Design") 538) (PySem.Value.ref 227)), (PySem.DictEntry.mk (PySem.PyData.keyHash P (PySem.Str.ofString "Primitive")) (PySem.Value.str (PySem.Str.ofString "Primitive") 581) (PySem.Value.ref 248)), (PySem.DictEntry.mk (PySem.PyData.keyHash P (PySem.Str.ofString "_law_keys")) (PySem.Value.str (PySem.Str.ofString "_law_keys") 594) (PySem.Value.ref 259)), (PySem.DictEntry.mk (PySem.PyData.keyHash P (PySem.Str.ofString "_law_key")) (PySem.Value.str (PySem.Str.ofString "_law_key") 602) (PySem.Value.ref 266)), (PySem.DictEntry.mk (PySem.PyData.keyHash P (PySem.Str.ofString "_law_source")) (PySem.Value.str (PySem.Str.ofString "_law_source") 612) (PySem.Value.ref 273)), (PySem.DictEntry.mk (PySem.PyData.keyHash P (PySem.Str.ofString "_law_goal")) (PySem.Value.str (PySem.Str.ofString "_law_goal") 623) (PySem.Value.ref 280)), (PySem.DictEntry.mk (PySem.PyData.keyHash P (PySem.Str.ofString "law")) (PySem.Value.str (PySem.Str.ofString "law") 629) (PySem.Value.ref 285))]) 30) (List.toArray []))) ::
  ((nat_lit 15), (PySem.Obj.mk (PySem.Value.type "tuple") (Option.none) (PySem.Data.seq (List.toArray []) 0) (List.toArray []))) ::
  ((nat_lit 17), (PySem.Obj.mk (PySem.Value.type "tuple") (Option.none) (PySem.Data.seq (List.toArray [(PySem.Value.str (PySem.Str.ofString "k") 190)]) 0) (List.toArray []))) ::
  ((nat_lit 18), (PySem.Obj.mk (PySem.Value.type "tuple") (Option.none) (PySem.Data.seq (List.toArray []) 0) (List.toArray []))) ::
  ((nat_lit 20), (PySem.Obj.mk (PySem.Value.type "code") (Option.none) (PySem.Data.fields (List.toArray [(PySem.Value.str (PySem.Str.ofString "_wall") 187), (PySem.Value.str (PySem.Str.ofString "_wall") 188), (PySem.Value.str (PySem.Str.ofString "/claim/cut.py") 189), (PySem.Value.int 1 0), (PySem.Value.int 1 0), (PySem.Value.int 0 0), (PySem.Value.int 0 0), (PySem.Value.int 3 0), (PySem.Value.ref 15), (PySem.Value.bool Bool.true), (PySem.Value.int 181 0), (PySem.Value.ref 16), PySem.Value.none, (PySem.Value.ref 17), (PySem.Value.ref 18), (PySem.Value.ref 19), (PySem.Value.int 191 0), (PySem.Value.int 1 0), (PySem.Value.str (PySem.Str.ofString "/claim/cut.py") 192)])) (List.toArray []))) ::
  ((nat_lit 21), (PySem.Obj.mk (PySem.Value.type "function") (Option.none) (PySem.Data.func (PySem.FuncData.mk (PySem.Str.ofString "_wall") (PySem.Str.ofString "_wall") (x0) (PySem.FuncBody.stmts x1) x2 3 [] PySem.Value.none PySem.Value.none PySem.Value.none (PySem.Value.str (PySem.Str.ofString "__main__") 164) (Option.none) (PySem.Value.ref 20) PySem.Value.none 0)) (List.toArray []))) ::
  ((nat_lit 22), (PySem.Obj.mk (PySem.Value.type "tuple") (Option.none) (PySem.Data.seq (List.toArray []) 0) (List.toArray []))) ::
  ((nat_lit 24), (PySem.Obj.mk (PySem.Value.type "tuple") (Option.none) (PySem.Data.seq (List.toArray [(PySem.Value.str (PySem.Str.ofString "kind") 199)]) 0) (List.toArray []))) ::
  ((nat_lit 25), (PySem.Obj.mk (PySem.Value.type "tuple") (Option.none) (PySem.Data.seq (List.toArray []) 0) (List.toArray []))) ::
  ((nat_lit 27), (PySem.Obj.mk (PySem.Value.type "code") (Option.none) (PySem.Data.fields (List.toArray [(PySem.Value.str (PySem.Str.ofString "default_strength") 196), (PySem.Value.str (PySem.Str.ofString "default_strength") 197), (PySem.Value.str (PySem.Str.ofString "/claim/cut.py") 198), (PySem.Value.int 5 0), (PySem.Value.int 1 0), (PySem.Value.int 0 0), (PySem.Value.int 0 0), (PySem.Value.int 3 0), (PySem.Value.ref 22), (PySem.Value.bool Bool.true), (PySem.Value.int 181 0), (PySem.Value.ref 23), PySem.Value.none, (PySem.Value.ref 24), (PySem.Value.ref 25), (PySem.Value.ref 26), (PySem.Value.int 200 0), (PySem.Value.int 5 0), (PySem.Value.str (PySem.Str.ofString "/claim/cut.py") 201)])) (List.toArray []))) ::
  ((nat_lit 28), (PySem.Obj.mk (PySem.Value.type "function") (Option.none) (PySem.Data.func (PySem.FuncData.mk (PySem.Str.ofString "default_strength") (PySem.Str.ofString "default_strength") (x3) (PySem.FuncBody.stmts x4) x5 3 [] PySem.Value.none PySem.Value.none PySem.Value.none (PySem.Value.str (PySem.Str.ofString "gateloom.gates") 194) (Option.none) (PySem.Value.ref 27) PySem.Value.none 0)) (List.toArray []))) ::
  ((nat_lit 29), (PySem.Obj.mk (PySem.Value.type "tuple") (Option.none) (PySem.Data.seq (List.toArray []) 0) (List.toArray []))) ::
  ((nat_lit 31), (PySem.Obj.mk (PySem.Value.type "tuple") (Option.none) (PySem.Data.seq (List.toArray [(PySem.Value.str (PySem.Str.ofString "e") 208), (PySem.Value.str (PySem.Str.ofString "tag") 209)]) 0) (List.toArray []))) ::
  ((nat_lit 32), (PySem.Obj.mk (PySem.Value.type "tuple") (Option.none) (PySem.Data.seq (List.toArray []) 0) (List.toArray []))) ::
  ((nat_lit 34), (PySem.Obj.mk (PySem.Value.type "code") (Option.none) (PySem.Data.fields (List.toArray [(PySem.Value.str (PySem.Str.ofString "children") 205), (PySem.Value.str (PySem.Str.ofString "children") 206), (PySem.Value.str (PySem.Str.ofString "/claim/cut.py") 207), (PySem.Value.int 10 0), (PySem.Value.int 1 0), (PySem.Value.int 0 0), (PySem.Value.int 0 0), (PySem.Value.int 3 0), (PySem.Value.ref 29), (PySem.Value.bool Bool.true), (PySem.Value.int 181 0), (PySem.Value.ref 30), PySem.Value.none, (PySem.Value.ref 31), (PySem.Value.ref 32), (PySem.Value.ref 33), (PySem.Value.int 210 0), (PySem.Value.int 10 0), (PySem.Value.str (PySem.Str.ofString "/claim/cut.py") 211)])) (List.toArray []))) ::
  ((nat_lit 35), (PySem.Obj.mk (PySem.Value.type "function") (Option.none) (PySem.Data.func (PySem.FuncData.mk (PySem.Str.ofString "children") (PySem.Str.ofString "children") (x6) (PySem.FuncBody.stmts x7) x8 3 [] PySem.Value.none PySem.Value.none PySem.Value.none (PySem.Value.str (PySem.Str.ofString "gateloom.walks") 203) (Option.none) (PySem.Value.ref 34) PySem.Value.none 0)) (List.toArray []))) ::
  ((nat_lit 36), (PySem.Obj.mk (PySem.Value.type "tuple") (Option.none) (PySem.Data.seq (List.toArray []) 0) (List.toArray []))) ::
  ((nat_lit 38), (PySem.Obj.mk (PySem.Value.type "tuple") (Option.none) (PySem.Data.seq (List.toArray [(PySem.Value.str (PySem.Str.ofString "e") 216), (PySem.Value.str (PySem.Str.ofString "found") 217), (PySem.Value.str (PySem.Str.ofString "stack") 218), (PySem.Value.str (PySem.Str.ofString "node") 219), (PySem.Value.str (PySem.Str.ofString "part") 220)]) 0) (List.toArray []))) ::
  ((nat_lit 39), (PySem.Obj.mk (PySem.Value.type "tuple") (Option.none) (PySem.Data.seq (List.toArray []) 0) (List.toArray []))) ::
  ((nat_lit 41), (PySem.Obj.mk (PySem.Value.type "code") (Option.none) (PySem.Data.fields (List.toArray [(PySem.Value.str (PySem.Str.ofString "subexpressions") 213), (PySem.Value.str (PySem.Str.ofString "subexpressions") 214), (PySem.Value.str (PySem.Str.ofString "/claim/cut.py") 215), (PySem.Value.int 29 0), (PySem.Value.int 1 0), (PySem.Value.int 0 0), (PySem.Value.int 0 0), (PySem.Value.int 3 0), (PySem.Value.ref 36), (PySem.Value.bool Bool.true), (PySem.Value.int 181 0), (PySem.Value.ref 37), PySem.Value.none, (PySem.Value.ref 38), (PySem.Value.ref 39), (PySem.Value.ref 40), (PySem.Value.int 221 0), (PySem.Value.int 29 0), (PySem.Value.str (PySem.Str.ofString "/claim/cut.py") 222)])) (List.toArray []))) ::
  ((nat_lit 42), (PySem.Obj.mk (PySem.Value.type "function") (Option.none) (PySem.Data.func (PySem.FuncData.mk (PySem.Str.ofString "subexpressions") (PySem.Str.ofString "subexpressions") (x9) (PySem.FuncBody.stmts x10) x11 3 [] PySem.Value.none PySem.Value.none PySem.Value.none (PySem.Value.str (PySem.Str.ofString "gateloom.walks") 203) (Option.none) (PySem.Value.ref 41) PySem.Value.none 0)) (List.toArray []))) ::
  ((nat_lit 43), (PySem.Obj.mk (PySem.Value.type "tuple") (Option.none) (PySem.Data.seq (List.toArray []) 0) (List.toArray []))) ::
  ((nat_lit 45), (PySem.Obj.mk (PySem.Value.type "tuple") (Option.none) (PySem.Data.seq (List.toArray [(PySem.Value.str (PySem.Str.ofString "e") 227), (PySem.Value.str (PySem.Str.ofString "keys") 228), (PySem.Value.str (PySem.Str.ofString "node") 229)]) 0) (List.toArray []))) ::
  ((nat_lit 46), (PySem.Obj.mk (PySem.Value.type "tuple") (Option.none) (PySem.Data.seq (List.toArray []) 0) (List.toArray []))) ::
  ((nat_lit 48), (PySem.Obj.mk (PySem.Value.type "code") (Option.none) (PySem.Data.fields (List.toArray [(PySem.Value.str (PySem.Str.ofString "expr_reads") 224), (PySem.Value.str (PySem.Str.ofString "expr_reads") 225), (PySem.Value.str (PySem.Str.ofString "/claim/cut.py") 226), (PySem.Value.int 38 0), (PySem.Value.int 1 0), (PySem.Value.int 0 0), (PySem.Value.int 0 0), (PySem.Value.int 3 0), (PySem.Value.ref 43), (PySem.Value.bool Bool.true), (PySem.Value.int 181 0), (PySem.Value.ref 44), PySem.Value.none, (PySem.Value.ref 45), (PySem.Value.ref 46), (PySem.Value.ref 47), (PySem.Value.int 230 0), (PySem.Value.int 38 0), (PySem.Value.str (PySem.Str.ofString "/claim/cut.py") 231)])) (List.toArray []))) ::
  ((nat_lit 49), (PySem.Obj.mk (PySem.Value.type "function") (Option.none) (PySem.Data.func (PySem.FuncData.mk (PySem.Str.ofString "expr_reads") (PySem.Str.ofString "expr_reads") (x12) (PySem.FuncBody.stmts x13) x14 3 [] PySem.Value.none PySem.Value.none PySem.Value.none (PySem.Value.str (PySem.Str.ofString "gateloom.walks") 203) (Option.none) (PySem.Value.ref 48) PySem.Value.none 0)) (List.toArray []))) ::
  ((nat_lit 50), (PySem.Obj.mk (PySem.Value.type "tuple") (Option.none) (PySem.Data.seq (List.toArray []) 0) (List.toArray []))) ::
  ((nat_lit 52), (PySem.Obj.mk (PySem.Value.type "tuple") (Option.none) (PySem.Data.seq (List.toArray [(PySem.Value.str (PySem.Str.ofString "lv") 236), (PySem.Value.str (PySem.Str.ofString "found") 237), (PySem.Value.str (PySem.Str.ofString "part") 238)]) 0) (List.toArray []))) ::
  ((nat_lit 53), (PySem.Obj.mk (PySem.Value.type "tuple") (Option.none) (PySem.Data.seq (List.toArray []) 0) (List.toArray []))) ::
  ((nat_lit 55), (PySem.Obj.mk (PySem.Value.type "code") (Option.none) (PySem.Data.fields (List.toArray [(PySem.Value.str (PySem.Str.ofString "target_indexes") 233), (PySem.Value.str (PySem.Str.ofString "target_indexes") 234), (PySem.Value.str (PySem.Str.ofString "/claim/cut.py") 235), (PySem.Value.int 44 0), (PySem.Value.int 1 0), (PySem.Value.int 0 0), (PySem.Value.int 0 0), (PySem.Value.int 3 0), (PySem.Value.ref 50), (PySem.Value.bool Bool.true), (PySem.Value.int 181 0), (PySem.Value.ref 51), PySem.Value.none, (PySem.Value.ref 52), (PySem.Value.ref 53), (PySem.Value.ref 54), (PySem.Value.int 239 0), (PySem.Value.int 44 0), (PySem.Value.str (PySem.Str.ofString "/claim/cut.py") 240)])) (List.toArray []))) ::
  ((nat_lit 56), (PySem.Obj.mk (PySem.Value.type "function") (Option.none) (PySem.Data.func (PySem.FuncData.mk (PySem.Str.ofString "target_indexes") (PySem.Str.ofString "target_indexes") (x15) (PySem.FuncBody.stmts x16) x17 3 [] PySem.Value.none PySem.Value.none PySem.Value.none (PySem.Value.str (PySem.Str.ofString "gateloom.walks") 203) (Option.none) (PySem.Value.ref 55) PySem.Value.none 0)) (List.toArray []))) ::
  ((nat_lit 57), (PySem.Obj.mk (PySem.Value.type "tuple") (Option.none) (PySem.Data.seq (List.toArray []) 0) (List.toArray []))) ::
  ((nat_lit 59), (PySem.Obj.mk (PySem.Value.type "tuple") (Option.none) (PySem.Data.seq (List.toArray [(PySem.Value.str (PySem.Str.ofString "lv") 245), (PySem.Value.str (PySem.Str.ofString "keys") 246), (PySem.Value.str (PySem.Str.ofString "e") 247), (PySem.Value.str (PySem.Str.ofString "key") 248)]) 0) (List.toArray []))) ::
  ((nat_lit 60), (PySem.Obj.mk (PySem.Value.type "tuple") (Option.none) (PySem.Data.seq (List.toArray []) 0) (List.toArray []))) ::
  ((nat_lit 62), (PySem.Obj.mk (PySem.Value.type "code") (Option.none) (PySem.Data.fields (List.toArray [(PySem.Value.str (PySem.Str.ofString "target_reads") 242), (PySem.Value.str (PySem.Str.ofString "target_reads") 243), (PySem.Value.str (PySem.Str.ofString "/claim/cut.py") 244), (PySem.Value.int 52 0), (PySem.Value.int 1 0), (PySem.Value.int 0 0), (PySem.Value.int 0 0), (PySem.Value.int 3 0), (PySem.Value.ref 57), (PySem.Value.bool Bool.true), (PySem.Value.int 181 0), (PySem.Value.ref 58), PySem.Value.none, (PySem.Value.ref 59), (PySem.Value.ref 60), (PySem.Value.ref 61), (PySem.Value.int 249 0), (PySem.Value.int 52 0), (PySem.Value.str (PySem.Str.ofString "/claim/cut.py") 250)])) (List.toArray []))) ::
  ((nat_lit 63), (PySem.Obj.mk (PySem.Value.type "function") (Option.none) (PySem.Data.func (PySem.FuncData.mk (PySem.Str.ofString "target_reads") (PySem.Str.ofString "target_reads") (x18) (PySem.FuncBody.stmts x19) x20 3 [] PySem.Value.none PySem.Value.none PySem.Value.none (PySem.Value.str (PySem.Str.ofString "gateloom.walks") 203) (Option.none) (PySem.Value.ref 62) PySem.Value.none 0)) (List.toArray []))) ::
  ((nat_lit 71), (PySem.Obj.mk (PySem.Value.type "tuple") (Option.none) (PySem.Data.seq (List.toArray []) 0) (List.toArray []))) ::
  ((nat_lit 73), (PySem.Obj.mk (PySem.Value.type "tuple") (Option.none) (PySem.Data.seq (List.toArray [(PySem.Value.str (PySem.Str.ofString "self") 269), (PySem.Value.str (PySem.Str.ofString "number") 270), (PySem.Value.str (PySem.Str.ofString "kind") 271), (PySem.Value.str (PySem.Str.ofString "definition") 272), (PySem.Value.str (PySem.Str.ofString "strength") 273)]) 0) (List.toArray []))) ::
  ((nat_lit 74), (PySem.Obj.mk (PySem.Value.type "tuple") (Option.none) (PySem.Data.seq (List.toArray []) 0) (List.toArray []))) ::
  ((nat_lit 76), (PySem.Obj.mk (PySem.Value.type "code") (Option.none) (PySem.Data.fields (List.toArray [(PySem.Value.str (PySem.Str.ofString "__init__") 266), (PySem.Value.str (PySem.Str.ofString "Element.__init__") 267), (PySem.Value.str (PySem.Str.ofString "/claim/cut.py") 268), (PySem.Value.int 61 0), (PySem.Value.int 5 0), (PySem.Value.int 0 0), (PySem.Value.int 0 0), (PySem.Value.int 3 0), (PySem.Value.ref 71), (PySem.Value.bool Bool.true), (PySem.Value.int 181 0), (PySem.Value.ref 72), PySem.Value.none, (PySem.Value.ref 73), (PySem.Value.ref 74), (PySem.Value.ref 75), (PySem.Value.int 274 0), (PySem.Value.int 61 0), (PySem.Value.str (PySem.Str.ofString "/claim/cut.py") 275)])) (List.toArray []))) ::
  ((nat_lit 77), (PySem.Obj.mk (PySem.Value.type "function") (Option.none) (PySem.Data.func (PySem.FuncData.mk (PySem.Str.ofString "__init__") (PySem.Str.ofString "Element.__init__") (x21) (PySem.FuncBody.stmts x22) x23 3 [] PySem.Value.none PySem.Value.none PySem.Value.none (PySem.Value.str (PySem.Str.ofString "gateloom.netkernel") 252) (Option.none) (PySem.Value.ref 76) PySem.Value.none 0)) (List.toArray []))) ::
  ((nat_lit 78), (PySem.Obj.mk (PySem.Value.type "tuple") (Option.none) (PySem.Data.seq (List.toArray [(PySem.Value.str (PySem.Str.ofString "definition") 277), (PySem.Value.str (PySem.Str.ofString "due") 278), (PySem.Value.str (PySem.Str.ofString "inputs") 279), (PySem.Value.str (PySem.Str.ofString "kind") 280), (PySem.Value.str (PySem.Str.ofString "number") 281), (PySem.Value.str (PySem.Str.ofString "pairs") 282), (PySem.Value.str (PySem.Str.ofString "pending") 283), (PySem.Value.str (PySem.Str.ofString "stamp") 284), (PySem.Value.str (PySem.Str.ofString "state") 285), (PySem.Value.str (PySem.Str.ofString "strength") 286)]) 0) (List.toArray []))) ::
  ((nat_lit 79), (PySem.Obj.mk (PySem.Value.type "dict") (Option.none) (PySem.Data.dict (List.toArray [(PySem.DictEntry.mk (PySem.PyData.keyHash P (PySem.Str.ofString "__module__")) (PySem.Value.str (PySem.Str.ofString "__module__") 261) (PySem.Value.str (PySem.Str.ofString "gateloom.netkernel") 252)), (PySem.DictEntry.mk (PySem.PyData.keyHash P (PySem.Str.ofString "__firstlineno__")) (PySem.Value.str (PySem.Str.ofString "__firstlineno__") 265) (PySem.Value.int 59 264)), (PySem.DictEntry.mk (PySem.PyData.keyHash P (PySem.Str.ofString "__init__")) (PySem.Value.str (PySem.Str.ofString "__init__") 276) (PySem.Value.ref 77)), (PySem.DictEntry.mk (PySem.PyData.keyHash P (PySem.Str.ofString "__static_attributes__")) (PySem.Value.str (PySem.Str.ofString "__static_attributes__") 287) (PySem.Value.ref 78)), (PySem.DictEntry.mk (PySem.PyData.keyHash P (PySem.Str.ofString "__dict__")) (PySem.Value.str (PySem.Str.ofString "__dict__") 289) (PySem.Value.ref 81)), (PySem.DictEntry.mk (PySem.PyData.keyHash P (PySem.Str.ofString "__weakref__")) (PySem.Value.str (PySem.Str.ofString "__weakref__") 291) (PySem.Value.ref 82)), (PySem.DictEntry.mk (PySem.PyData.keyHash P (PySem.Str.ofString "__doc__")) (PySem.Value.str (PySem.Str.ofString "__doc__") 292) PySem.Value.none)]) 4) (List.toArray []))) ::
  ((nat_lit 80), (PySem.Obj.mk (PySem.Value.type "type") (Option.none) (PySem.Data.cls (PySem.ClassData.mk (PySem.Str.ofString "Element") [(PySem.Value.type "object")] [(PySem.Value.ref 80), (PySem.Value.type "object")] 79 (PySem.Str.ofString "Element") Bool.true [] [] Bool.false (Option.none) Bool.false)) (List.toArray [(Option.none), (Option.none), (Option.some (PySem.Value.str (PySem.Str.ofString "Element") 254)), (Option.some (PySem.Value.str (PySem.Str.ofString "Element") 262)), (Option.some (PySem.Value.builtin "object.__new__")), (Option.some (PySem.Value.bool Bool.true))]))) ::
  ((nat_lit 81), (PySem.Obj.mk (PySem.Value.type "getset_descriptor") (Option.none) (PySem.Data.fields (List.toArray [(PySem.Value.str (PySem.Str.ofString "__dict__") 288), (PySem.Value.ref 80), (PySem.Value.builtin "function.__dict__"), (PySem.Value.builtin "function.__dict__#set")])) (List.toArray []))) ::
  ((nat_lit 82), (PySem.Obj.mk (PySem.Value.type "getset_descriptor") (Option.none) (PySem.Data.fields (List.toArray [(PySem.Value.str (PySem.Str.ofString "__weakref__") 290), (PySem.Value.ref 80), (PySem.Value.builtin "ExceptionGroup.__weakref__"), PySem.Value.none])) (List.toArray []))) ::
  ((nat_lit 85), (PySem.Obj.mk (PySem.Value.type "tuple") (Option.none) (PySem.Data.seq (List.toArray []) 0) (List.toArray []))) ::
  ((nat_lit 87), (PySem.Obj.mk (PySem.Value.type "tuple") (Option.none) (PySem.Data.seq (List.toArray [(PySem.Value.str (PySem.Str.ofString "design") 298), (PySem.Value.str (PySem.Str.ofString "elements") 299), (PySem.Value.str (PySem.Str.ofString "item") 300), (PySem.Value.str (PySem.Str.ofString "strength") 301), (PySem.Value.str (PySem.Str.ofString "element") 302)]) 0) (List.toArray []))) ::
  ((nat_lit 88), (PySem.Obj.mk (PySem.Value.type "tuple") (Option.none) (PySem.Data.seq (List.toArray []) 0) (List.toArray []))) ::
  ((nat_lit 90), (PySem.Obj.mk (PySem.Value.type "code") (Option.none) (PySem.Data.fields (List.toArray [(PySem.Value.str (PySem.Str.ofString "make_elements") 295), (PySem.Value.str (PySem.Str.ofString "make_elements") 296), (PySem.Value.str (PySem.Str.ofString "/claim/cut.py") 297), (PySem.Value.int 72 0), (PySem.Value.int 1 0), (PySem.Value.int 0 0), (PySem.Value.int 0 0), (PySem.Value.int 3 0), (PySem.Value.ref 85), (PySem.Value.bool Bool.true), (PySem.Value.int 181 0), (PySem.Value.ref 86), PySem.Value.none, (PySem.Value.ref 87), (PySem.Value.ref 88), (PySem.Value.ref 89), (PySem.Value.int 303 0), (PySem.Value.int 72 0), (PySem.Value.str (PySem.Str.ofString "/claim/cut.py") 304)])) (List.toArray []))) ::
  ((nat_lit 91), (PySem.Obj.mk (PySem.Value.type "function") (Option.none) (PySem.Data.func (PySem.FuncData.mk (PySem.Str.ofString "make_elements") (PySem.Str.ofString "make_elements") (x24) (PySem.FuncBody.stmts x25) x26 3 [] PySem.Value.none PySem.Value.none PySem.Value.none (PySem.Value.str (PySem.Str.ofString "gateloom.netkernel") 252) (Option.none) (PySem.Value.ref 90) PySem.Value.none 0)) (List.toArray []))) ::
  ((nat_lit 92), (PySem.Obj.mk (PySem.Value.type "tuple") (Option.none) (PySem.Data.seq (List.toArray []) 0) (List.toArray []))) ::
  ((nat_lit 94), (PySem.Obj.mk (PySem.Value.type "tuple") (Option.none) (PySem.Data.seq (List.toArray [(PySem.Value.str (PySem.Str.ofString "element") 309)]) 0) (List.toArray []))) ::
  ((nat_lit 95), (PySem.Obj.mk (PySem.Value.type "tuple") (Option.none) (PySem.Data.seq (List.toArray []) 0) (List.toArray []))) ::
  ((nat_lit 97), (PySem.Obj.mk (PySem.Value.type "code") (Option.none) (PySem.Data.fields (List.toArray [(PySem.Value.str (PySem.Str.ofString "element_targets") 306), (PySem.Value.str (PySem.Str.ofString "element_targets") 307), (PySem.Value.str (PySem.Str.ofString "/claim/cut.py") 308), (PySem.Value.int 86 0), (PySem.Value.int 1 0), (PySem.Value.int 0 0), (PySem.Value.int 0 0), (PySem.Value.int 3 0), (PySem.Value.ref 92), (PySem.Value.bool Bool.true), (PySem.Value.int 181 0), (PySem.Value.ref 93), PySem.Value.none, (PySem.Value.ref 94), (PySem.Value.ref 95), (PySem.Value.ref 96), (PySem.Value.int 310 0), (PySem.Value.int 86 0), (PySem.Value.str (PySem.Str.ofString "/claim/cut.py") 311)])) (List.toArray []))) ::
  ((nat_lit 98), (PySem.Obj.mk (PySem.Value.type "function") (Option.none) (PySem.Data.func (PySem.FuncData.mk (PySem.Str.ofString "element_targets") (PySem.Str.ofString "element_targets") (x27) (PySem.FuncBody.stmts x28) x29 3 [] PySem.Value.none PySem.Value.none PySem.Value.none (PySem.Value.str (PySem.Str.ofString "gateloom.netkernel") 252) (Option.none) (PySem.Value.ref 97) PySem.Value.none 0)) (List.toArray []))) ::
  ((nat_lit 99), (PySem.Obj.mk (PySem.Value.type "tuple") (Option.none) (PySem.Data.seq (List.toArray []) 0) (List.toArray []))) ::
  ((nat_lit 101), (PySem.Obj.mk (PySem.Value.type "tuple") (Option.none) (PySem.Data.seq (List.toArray [(PySem.Value.str (PySem.Str.ofString "element") 316), (PySem.Value.str (PySem.Str.ofString "keys") 317), (PySem.Value.str (PySem.Str.ofString "sources") 318), (PySem.Value.str (PySem.Str.ofString "e") 319), (PySem.Value.str (PySem.Str.ofString "key") 320), (PySem.Value.str (PySem.Str.ofString "lv") 321)]) 0) (List.toArray []))) ::
  ((nat_lit 102), (PySem.Obj.mk (PySem.Value.type "tuple") (Option.none) (PySem.Data.seq (List.toArray []) 0) (List.toArray []))) ::
  ((nat_lit 104), (PySem.Obj.mk (PySem.Value.type "code") (Option.none) (PySem.Data.fields (List.toArray [(PySem.Value.str (PySem.Str.ofString "element_reads") 313), (PySem.Value.str (PySem.Str.ofString "element_reads") 314), (PySem.Value.str (PySem.Str.ofString "/claim/cut.py") 315), (PySem.Value.int 92 0), (PySem.Value.int 1 0), (PySem.Value.int 0 0), (PySem.Value.int 0 0), (PySem.Value.int 3 0), (PySem.Value.ref 99), (PySem.Value.bool Bool.true), (PySem.Value.int 181 0), (PySem.Value.ref 100), PySem.Value.none, (PySem.Value.ref 101), (PySem.Value.ref 102), (PySem.Value.ref 103), (PySem.Value.int 322 0), (PySem.Value.int 92 0), (PySem.Value.str (PySem.Str.ofString "/claim/cut.py") 323)])) (List.toArray []))) ::
  ((nat_lit 105), (PySem.Obj.mk (PySem.Value.type "function") (Option.none) (PySem.Data.func (PySem.FuncData.mk (PySem.Str.ofString "element_reads") (PySem.Str.ofString "element_reads") (x30) (PySem.FuncBody.stmts x31) x32 3 [] PySem.Value.none PySem.Value.none PySem.Value.none (PySem.Value.str (PySem.Str.ofString "gateloom.netkernel") 252) (Option.none) (PySem.Value.ref 104) PySem.Value.none 0)) (List.toArray []))) ::
  ((nat_lit 113), (PySem.Obj.mk (PySem.Value.type "tuple") (Option.none) (PySem.Data.seq (List.toArray []) 0) (List.toArray []))) ::
  ((nat_lit 115), (PySem.Obj.mk (PySem.Value.type "tuple") (Option.none) (PySem.Data.seq (List.toArray [(PySem.Value.str (PySem.Str.ofString "self") 342), (PySem.Value.str (PySem.Str.ofString "target") 343), (PySem.Value.str (PySem.Str.ofString "value") 344), (PySem.Value.str (PySem.Str.ofString "strength") 345), (PySem.Value.str (PySem.Str.ofString "delay") 346), (PySem.Value.str (PySem.Str.ofString "at") 347)]) 0) (List.toArray []))) ::
  ((nat_lit 116), (PySem.Obj.mk (PySem.Value.type "tuple") (Option.none) (PySem.Data.seq (List.toArray []) 0) (List.toArray []))) ::
  ((nat_lit 118), (PySem.Obj.mk (PySem.Value.type "code") (Option.none) (PySem.Data.fields (List.toArray [(PySem.Value.str (PySem.Str.ofString "__init__") 339), (PySem.Value.str (PySem.Str.ofString "AssignDef.__init__") 340), (PySem.Value.str (PySem.Str.ofString "/claim/cut.py") 341), (PySem.Value.int 108 0), (PySem.Value.int 6 0), (PySem.Value.int 0 0), (PySem.Value.int 0 0), (PySem.Value.int 3 0), (PySem.Value.ref 113), (PySem.Value.bool Bool.true), (PySem.Value.int 181 0), (PySem.Value.ref 114), PySem.Value.none, (PySem.Value.ref 115), (PySem.Value.ref 116), (PySem.Value.ref 117), (PySem.Value.int 348 0), (PySem.Value.int 108 0), (PySem.Value.str (PySem.Str.ofString "/claim/cut.py") 349)])) (List.toArray []))) ::
  ((nat_lit 119), (PySem.Obj.mk (PySem.Value.type "function") (Option.none) (PySem.Data.func (PySem.FuncData.mk (PySem.Str.ofString "__init__") (PySem.Str.ofString "AssignDef.__init__") (x33) (PySem.FuncBody.stmts x34) x35 3 [] PySem.Value.none PySem.Value.none PySem.Value.none (PySem.Value.str (PySem.Str.ofString "gateloom.design") 325) (Option.none) (PySem.Value.ref 118) PySem.Value.none 0)) (List.toArray []))) ::
  ((nat_lit 120), (PySem.Obj.mk (PySem.Value.type "tuple") (Option.none) (PySem.Data.seq (List.toArray [(PySem.Value.str (PySem.Str.ofString "at") 351), (PySem.Value.str (PySem.Str.ofString "delay") 352), (PySem.Value.str (PySem.Str.ofString "strength") 353), (PySem.Value.str (PySem.Str.ofString "target") 354), (PySem.Value.str (PySem.Str.ofString "value") 355)]) 0) (List.toArray []))) ::
  ((nat_lit 121), (PySem.Obj.mk (PySem.Value.type "dict") (Option.none) (PySem.Data.dict (List.toArray [(PySem.DictEntry.mk (PySem.PyData.keyHash P (PySem.Str.ofString "__module__")) (PySem.Value.str (PySem.Str.ofString "__module__") 334) (PySem.Value.str (PySem.Str.ofString "gateloom.design") 325)), (PySem.DictEntry.mk (PySem.PyData.keyHash P (PySem.Str.ofString "__firstlineno__")) (PySem.Value.str (PySem.Str.ofString "__firstlineno__") 338) (PySem.Value.int 106 337)), (PySem.DictEntry.mk (PySem.PyData.keyHash P (PySem.Str.ofString "__init__")) (PySem.Value.str (PySem.Str.ofString "__init__") 350) (PySem.Value.ref 119)), (PySem.DictEntry.mk (PySem.PyData.keyHash P (PySem.Str.ofString "__static_attributes__")) (PySem.Value.str (PySem.Str.ofString "__static_attributes__") 356) (PySem.Value.ref 120)), (PySem.DictEntry.mk (PySem.PyData.keyHash P (PySem.Str.ofString "__dict__")) (PySem.Value.str (PySem.Str.ofString "__dict__") 358) (PySem.Value.ref 123)), (PySem.DictEntry.mk (PySem.PyData.keyHash P (PySem.Str.ofString "__weakref__")) (PySem.Value.str (PySem.Str.ofString "__weakref__") 360) (PySem.Value.ref 124)), (PySem.DictEntry.mk (PySem.PyData.keyHash P (PySem.Str.ofString "__doc__")) (PySem.Value.str (PySem.Str.ofString "__doc__") 361) PySem.Value.none)]) 4) (List.toArray []))) ::
  ((nat_lit 122), (PySem.Obj.mk (PySem.Value.type "type") (Option.none) (PySem.Data.cls (PySem.ClassData.mk (PySem.Str.ofString "AssignDef") [(PySem.Value.type "object")] [(PySem.Value.ref 122), (PySem.Value.type "object")] 121 (PySem.Str.ofString "AssignDef") Bool.true [] [] Bool.false (Option.none) Bool.false)) (List.toArray [(Option.none), (Option.none), (Option.some (PySem.Value.str (PySem.Str.ofString "AssignDef") 327)), (Option.some (PySem.Value.str (PySem.Str.ofString "AssignDef") 335)), (Option.some (PySem.Value.builtin "object.__new__")), (Option.some (PySem.Value.bool Bool.true))]))) ::
  ((nat_lit 123), (PySem.Obj.mk (PySem.Value.type "getset_descriptor") (Option.none) (PySem.Data.fields (List.toArray [(PySem.Value.str (PySem.Str.ofString "__dict__") 357), (PySem.Value.ref 122), (PySem.Value.builtin "function.__dict__"), (PySem.Value.builtin "function.__dict__#set")])) (List.toArray []))) ::
  ((nat_lit 124), (PySem.Obj.mk (PySem.Value.type "getset_descriptor") (Option.none) (PySem.Data.fields (List.toArray [(PySem.Value.str (PySem.Str.ofString "__weakref__") 359), (PySem.Value.ref 122), (PySem.Value.builtin "ExceptionGroup.__weakref__"), PySem.Value.none])) (List.toArray []))) ::
  ((nat_lit 134), (PySem.Obj.mk (PySem.Value.type "tuple") (Option.none) (PySem.Data.seq (List.toArray []) 0) (List.toArray []))) ::
  ((nat_lit 136), (PySem.Obj.mk (PySem.Value.type "tuple") (Option.none) (PySem.Data.seq (List.toArray [(PySem.Value.str (PySem.Str.ofString "self") 379), (PySem.Value.str (PySem.Str.ofString "kind") 380), (PySem.Value.str (PySem.Str.ofString "strength") 381), (PySem.Value.str (PySem.Str.ofString "delay") 382), (PySem.Value.str (PySem.Str.ofString "outs") 383), (PySem.Value.str (PySem.Str.ofString "ins") 384), (PySem.Value.str (PySem.Str.ofString "at") 385)]) 0) (List.toArray []))) ::
  ((nat_lit 137), (PySem.Obj.mk (PySem.Value.type "tuple") (Option.none) (PySem.Data.seq (List.toArray []) 0) (List.toArray []))) ::
  ((nat_lit 139), (PySem.Obj.mk (PySem.Value.type "code") (Option.none) (PySem.Data.fields (List.toArray [(PySem.Value.str (PySem.Str.ofString "__init__") 376), (PySem.Value.str (PySem.Str.ofString "GateDef.__init__") 377), (PySem.Value.str (PySem.Str.ofString "/claim/cut.py") 378), (PySem.Value.int 116 0), (PySem.Value.int 7 0), (PySem.Value.int 0 0), (PySem.Value.int 0 0), (PySem.Value.int 3 0), (PySem.Value.ref 134), (PySem.Value.bool Bool.true), (PySem.Value.int 181 0), (PySem.Value.ref 135), PySem.Value.none, (PySem.Value.ref 136), (PySem.Value.ref 137), (PySem.Value.ref 138), (PySem.Value.int 386 0), (PySem.Value.int 116 0), (PySem.Value.str (PySem.Str.ofString "/claim/cut.py") 387)])) (List.toArray []))) ::
  ((nat_lit 140), (PySem.Obj.mk (PySem.Value.type "function") (Option.none) (PySem.Data.func (PySem.FuncData.mk (PySem.Str.ofString "__init__") (PySem.Str.ofString "GateDef.__init__") (x36) (PySem.FuncBody.stmts x37) x38 3 [] PySem.Value.none PySem.Value.none PySem.Value.none (PySem.Value.str (PySem.Str.ofString "gateloom.design") 325) (Option.none) (PySem.Value.ref 139) PySem.Value.none 0)) (List.toArray []))) ::
  ((nat_lit 141), (PySem.Obj.mk (PySem.Value.type "tuple") (Option.none) (PySem.Data.seq (List.toArray [(PySem.Value.str (PySem.Str.ofString "at") 389), (PySem.Value.str (PySem.Str.ofString "delay") 390), (PySem.Value.str (PySem.Str.ofString "ins") 391), (PySem.Value.str (PySem.Str.ofString "kind") 392), (PySem.Value.str (PySem.Str.ofString "outs") 393), (PySem.Value.str (PySem.Str.ofString "strength") 394)]) 0) (List.toArray []))) ::
  ((nat_lit 142), (PySem.Obj.mk (PySem.Value.type "dict") (Option.none) (PySem.Data.dict (List.toArray [(PySem.DictEntry.mk (PySem.PyData.keyHash P (PySem.Str.ofString "__module__")) (PySem.Value.str (PySem.Str.ofString "__module__") 371) (PySem.Value.str (PySem.Str.ofString "gateloom.design") 325)), (PySem.DictEntry.mk (PySem.PyData.keyHash P (PySem.Str.ofString "__firstlineno__")) (PySem.Value.str (PySem.Str.ofString "__firstlineno__") 375) (PySem.Value.int 114 374)), (PySem.DictEntry.mk (PySem.PyData.keyHash P (PySem.Str.ofString "__init__")) (PySem.Value.str (PySem.Str.ofString "__init__") 388) (PySem.Value.ref 140)), (PySem.DictEntry.mk (PySem.PyData.keyHash P (PySem.Str.ofString "__static_attributes__")) (PySem.Value.str (PySem.Str.ofString "__static_attributes__") 395) (PySem.Value.ref 141)), (PySem.DictEntry.mk (PySem.PyData.keyHash P (PySem.Str.ofString "__dict__")) (PySem.Value.str (PySem.Str.ofString "__dict__") 397) (PySem.Value.ref 144)), (PySem.DictEntry.mk (PySem.PyData.keyHash P (PySem.Str.ofString "__weakref__")) (PySem.Value.str (PySem.Str.ofString "__weakref__") 399) (PySem.Value.ref 145)), (PySem.DictEntry.mk (PySem.PyData.keyHash P (PySem.Str.ofString "__doc__")) (PySem.Value.str (PySem.Str.ofString "__doc__") 400) PySem.Value.none)]) 4) (List.toArray []))) ::
  ((nat_lit 143), (PySem.Obj.mk (PySem.Value.type "type") (Option.none) (PySem.Data.cls (PySem.ClassData.mk (PySem.Str.ofString "GateDef") [(PySem.Value.type "object")] [(PySem.Value.ref 143), (PySem.Value.type "object")] 142 (PySem.Str.ofString "GateDef") Bool.true [] [] Bool.false (Option.none) Bool.false)) (List.toArray [(Option.none), (Option.none), (Option.some (PySem.Value.str (PySem.Str.ofString "GateDef") 364)), (Option.some (PySem.Value.str (PySem.Str.ofString "GateDef") 372)), (Option.some (PySem.Value.builtin "object.__new__")), (Option.some (PySem.Value.bool Bool.true))]))) ::
  ((nat_lit 144), (PySem.Obj.mk (PySem.Value.type "getset_descriptor") (Option.none) (PySem.Data.fields (List.toArray [(PySem.Value.str (PySem.Str.ofString "__dict__") 396), (PySem.Value.ref 143), (PySem.Value.builtin "function.__dict__"), (PySem.Value.builtin "function.__dict__#set")])) (List.toArray []))) ::
  ((nat_lit 145), (PySem.Obj.mk (PySem.Value.type "getset_descriptor") (Option.none) (PySem.Data.fields (List.toArray [(PySem.Value.str (PySem.Str.ofString "__weakref__") 398), (PySem.Value.ref 143), (PySem.Value.builtin "ExceptionGroup.__weakref__"), PySem.Value.none])) (List.toArray []))) ::
  ((nat_lit 155), (PySem.Obj.mk (PySem.Value.type "tuple") (Option.none) (PySem.Data.seq (List.toArray []) 0) (List.toArray []))) ::
  ((nat_lit 157), (PySem.Obj.mk (PySem.Value.type "tuple") (Option.none) (PySem.Data.seq (List.toArray [(PySem.Value.str (PySem.Str.ofString "self") 418), (PySem.Value.str (PySem.Str.ofString "primitive") 419), (PySem.Value.str (PySem.Str.ofString "delay") 420), (PySem.Value.str (PySem.Str.ofString "out") 421), (PySem.Value.str (PySem.Str.ofString "ins") 422), (PySem.Value.str (PySem.Str.ofString "at") 423)]) 0) (List.toArray []))) ::
  ((nat_lit 158), (PySem.Obj.mk (PySem.Value.type "tuple") (Option.none) (PySem.Data.seq (List.toArray []) 0) (List.toArray []))) ::
  ((nat_lit 160), (PySem.Obj.mk (PySem.Value.type "code") (Option.none) (PySem.Data.fields (List.toArray [(PySem.Value.str (PySem.Str.ofString "__init__") 415), (PySem.Value.str (PySem.Str.ofString "UdpDef.__init__") 416), (PySem.Value.str (PySem.Str.ofString "/claim/cut.py") 417), (PySem.Value.int 125 0), (PySem.Value.int 6 0), (PySem.Value.int 0 0), (PySem.Value.int 0 0), (PySem.Value.int 3 0), (PySem.Value.ref 155), (PySem.Value.bool Bool.true), (PySem.Value.int 181 0), (PySem.Value.ref 156), PySem.Value.none, (PySem.Value.ref 157), (PySem.Value.ref 158), (PySem.Value.ref 159), (PySem.Value.int 424 0), (PySem.Value.int 125 0), (PySem.Value.str (PySem.Str.ofString "/claim/cut.py") 425)])) (List.toArray []))) ::
  ((nat_lit 161), (PySem.Obj.mk (PySem.Value.type "function") (Option.none) (PySem.Data.func (PySem.FuncData.mk (PySem.Str.ofString "__init__") (PySem.Str.ofString "UdpDef.__init__") (x39) (PySem.FuncBody.stmts x40) x41 3 [] PySem.Value.none PySem.Value.none PySem.Value.none (PySem.Value.str (PySem.Str.ofString "gateloom.design") 325) (Option.none) (PySem.Value.ref 160) PySem.Value.none 0)) (List.toArray []))) ::
  ((nat_lit 162), (PySem.Obj.mk (PySem.Value.type "tuple") (Option.none) (PySem.Data.seq (List.toArray [(PySem.Value.str (PySem.Str.ofString "at") 427), (PySem.Value.str (PySem.Str.ofString "delay") 428), (PySem.Value.str (PySem.Str.ofString "ins") 429), (PySem.Value.str (PySem.Str.ofString "out") 430), (PySem.Value.str (PySem.Str.ofString "primitive") 431)]) 0) (List.toArray []))) ::
  ((nat_lit 163), (PySem.Obj.mk (PySem.Value.type "dict") (Option.none) (PySem.Data.dict (List.toArray [(PySem.DictEntry.mk (PySem.PyData.keyHash P (PySem.Str.ofString "__module__")) (PySem.Value.str (PySem.Str.ofString "__module__") 410) (PySem.Value.str (PySem.Str.ofString "gateloom.design") 325)), (PySem.DictEntry.mk (PySem.PyData.keyHash P (PySem.Str.ofString "__firstlineno__")) (PySem.Value.str (PySem.Str.ofString "__firstlineno__") 414) (PySem.Value.int 123 413)), (PySem.DictEntry.mk (PySem.PyData.keyHash P (PySem.Str.ofString "__init__")) (PySem.Value.str (PySem.Str.ofString "__init__") 426) (PySem.Value.ref 161)), (PySem.DictEntry.mk (PySem.PyData.keyHash P (PySem.Str.ofString "__static_attributes__")) (PySem.Value.str (PySem.Str.ofString "__static_attributes__") 432) (PySem.Value.ref 162)), (PySem.DictEntry.mk (PySem.PyData.keyHash P (PySem.Str.ofString "__dict__")) (PySem.Value.str (PySem.Str.ofString "__dict__") 434) (PySem.Value.ref 165)), (PySem.DictEntry.mk (PySem.PyData.keyHash P (PySem.Str.ofString "__weakref__")) (PySem.Value.str (PySem.Str.ofString "__weakref__") 436) (PySem.Value.ref 166)), (PySem.DictEntry.mk (PySem.PyData.keyHash P (PySem.Str.ofString "__doc__")) (PySem.Value.str (PySem.Str.ofString "__doc__") 437) PySem.Value.none)]) 4) (List.toArray []))) ::
  ((nat_lit 164), (PySem.Obj.mk (PySem.Value.type "type") (Option.none) (PySem.Data.cls (PySem.ClassData.mk (PySem.Str.ofString "UdpDef") [(PySem.Value.type "object")] [(PySem.Value.ref 164), (PySem.Value.type "object")] 163 (PySem.Str.ofString "UdpDef") Bool.true [] [] Bool.false (Option.none) Bool.false)) (List.toArray [(Option.none), (Option.none), (Option.some (PySem.Value.str (PySem.Str.ofString "UdpDef") 403)), (Option.some (PySem.Value.str (PySem.Str.ofString "UdpDef") 411)), (Option.some (PySem.Value.builtin "object.__new__")), (Option.some (PySem.Value.bool Bool.true))]))) ::
  ((nat_lit 165), (PySem.Obj.mk (PySem.Value.type "getset_descriptor") (Option.none) (PySem.Data.fields (List.toArray [(PySem.Value.str (PySem.Str.ofString "__dict__") 433), (PySem.Value.ref 164), (PySem.Value.builtin "function.__dict__"), (PySem.Value.builtin "function.__dict__#set")])) (List.toArray []))) ::
  ((nat_lit 166), (PySem.Obj.mk (PySem.Value.type "getset_descriptor") (Option.none) (PySem.Data.fields (List.toArray [(PySem.Value.str (PySem.Str.ofString "__weakref__") 435), (PySem.Value.ref 164), (PySem.Value.builtin "ExceptionGroup.__weakref__"), PySem.Value.none])) (List.toArray []))) ::
  ((nat_lit 176), (PySem.Obj.mk (PySem.Value.type "tuple") (Option.none) (PySem.Data.seq (List.toArray []) 0) (List.toArray []))) ::
  ((nat_lit 178), (PySem.Obj.mk (PySem.Value.type "tuple") (Option.none) (PySem.Data.seq (List.toArray [(PySem.Value.str (PySem.Str.ofString "self") 455)]) 0) (List.toArray []))) ::
  ((nat_lit 179), (PySem.Obj.mk (PySem.Value.type "tuple") (Option.none) (PySem.Data.seq (List.toArray []) 0) (List.toArray []))) ::
  ((nat_lit 181), (PySem.Obj.mk (PySem.Value.type "code") (Option.none) (PySem.Data.fields (List.toArray [(PySem.Value.str (PySem.Str.ofString "__init__") 452), (PySem.Value.str (PySem.Str.ofString "Design.__init__") 453), (PySem.Value.str (PySem.Str.ofString "/claim/cut.py") 454), (PySem.Value.int 133 0), (PySem.Value.int 1 0), (PySem.Value.int 0 0), (PySem.Value.int 0 0), (PySem.Value.int 3 0), (PySem.Value.ref 176), (PySem.Value.bool Bool.true), (PySem.Value.int 181 0), (PySem.Value.ref 177), PySem.Value.none, (PySem.Value.ref 178), (PySem.Value.ref 179), (PySem.Value.ref 180), (PySem.Value.int 456 0), (PySem.Value.int 133 0), (PySem.Value.str (PySem.Str.ofString "/claim/cut.py") 457)])) (List.toArray []))) ::
  ((nat_lit 182), (PySem.Obj.mk (PySem.Value.type "function") (Option.none) (PySem.Data.func (PySem.FuncData.mk (PySem.Str.ofString "__init__") (PySem.Str.ofString "Design.__init__") (x42) (PySem.FuncBody.stmts x43) x44 3 [] PySem.Value.none PySem.Value.none PySem.Value.none (PySem.Value.str (PySem.Str.ofString "gateloom.design") 325) (Option.none) (PySem.Value.ref 181) PySem.Value.none 0)) (List.toArray []))) ::
  ((nat_lit 183), (PySem.Obj.mk (PySem.Value.type "tuple") (Option.none) (PySem.Data.seq (List.toArray []) 0) (List.toArray []))) ::
  ((nat_lit 185), (PySem.Obj.mk (PySem.Value.type "tuple") (Option.none) (PySem.Data.seq (List.toArray [(PySem.Value.str (PySem.Str.ofString "self") 462), (PySem.Value.str (PySem.Str.ofString "path") 463), (PySem.Value.str (PySem.Str.ofString "kind") 464), (PySem.Value.str (PySem.Str.ofString "width") 465), (PySem.Value.str (PySem.Str.ofString "signed") 466), (PySem.Value.str (PySem.Str.ofString "msb") 467), (PySem.Value.str (PySem.Str.ofString "lsb") 468), (PySem.Value.str (PySem.Str.ofString "at") 469)]) 0) (List.toArray []))) ::
  ((nat_lit 186), (PySem.Obj.mk (PySem.Value.type "tuple") (Option.none) (PySem.Data.seq (List.toArray []) 0) (List.toArray []))) ::
  ((nat_lit 188), (PySem.Obj.mk (PySem.Value.type "code") (Option.none) (PySem.Data.fields (List.toArray [(PySem.Value.str (PySem.Str.ofString "add_signal") 459), (PySem.Value.str (PySem.Str.ofString "Design.add_signal") 460), (PySem.Value.str (PySem.Str.ofString "/claim/cut.py") 461), (PySem.Value.int 147 0), (PySem.Value.int 8 0), (PySem.Value.int 0 0), (PySem.Value.int 0 0), (PySem.Value.int 3 0), (PySem.Value.ref 183), (PySem.Value.bool Bool.true), (PySem.Value.int 181 0), (PySem.Value.ref 184), PySem.Value.none, (PySem.Value.ref 185), (PySem.Value.ref 186), (PySem.Value.ref 187), (PySem.Value.int 470 0), (PySem.Value.int 147 0), (PySem.Value.str (PySem.Str.ofString "/claim/cut.py") 471)])) (List.toArray []))) ::
  ((nat_lit 189), (PySem.Obj.mk (PySem.Value.type "function") (Option.none) (PySem.Data.func (PySem.FuncData.mk (PySem.Str.ofString "add_signal") (PySem.Str.ofString "Design.add_signal") (x45) (PySem.FuncBody.stmts x46) x47 3 [] PySem.Value.none PySem.Value.none PySem.Value.none (PySem.Value.str (PySem.Str.ofString "gateloom.design") 325) (Option.none) (PySem.Value.ref 188) PySem.Value.none 0)) (List.toArray []))) ::
  ((nat_lit 190), (PySem.Obj.mk (PySem.Value.type "tuple") (Option.none) (PySem.Data.seq (List.toArray []) 0) (List.toArray []))) ::
  ((nat_lit 192), (PySem.Obj.mk (PySem.Value.type "tuple") (Option.none) (PySem.Data.seq (List.toArray [(PySem.Value.str (PySem.Str.ofString "self") 476), (PySem.Value.str (PySem.Str.ofString "path") 477)]) 0) (List.toArray []))) ::
  ((nat_lit 193), (PySem.Obj.mk (PySem.Value.type "tuple") (Option.none) (PySem.Data.seq (List.toArray []) 0) (List.toArray []))) ::
  ((nat_lit 195), (PySem.Obj.mk (PySem.Value.type "code") (Option.none) (PySem.Data.fields (List.toArray [(PySem.Value.str (PySem.Str.ofString "add_scope") 473), (PySem.Value.str (PySem.Str.ofString "Design.add_scope") 474), (PySem.Value.str (PySem.Str.ofString "/claim/cut.py") 475), (PySem.Value.int 150 0), (PySem.Value.int 2 0), (PySem.Value.int 0 0), (PySem.Value.int 0 0), (PySem.Value.int 3 0), (PySem.Value.ref 190), (PySem.Value.bool Bool.true), (PySem.Value.int 181 0), (PySem.Value.ref 191), PySem.Value.none, (PySem.Value.ref 192), (PySem.Value.ref 193), (PySem.Value.ref 194), (PySem.Value.int 478 0), (PySem.Value.int 150 0), (PySem.Value.str (PySem.Str.ofString "/claim/cut.py") 479)])) (List.toArray []))) ::
  ((nat_lit 196), (PySem.Obj.mk (PySem.Value.type "function") (Option.none) (PySem.Data.func (PySem.FuncData.mk (PySem.Str.ofString "add_scope") (PySem.Str.ofString "Design.add_scope") (x48) (PySem.FuncBody.stmts x49) x50 3 [] PySem.Value.none PySem.Value.none PySem.Value.none (PySem.Value.str (PySem.Str.ofString "gateloom.design") 325) (Option.none) (PySem.Value.ref 195) PySem.Value.none 0)) (List.toArray []))) ::
  ((nat_lit 197), (PySem.Obj.mk (PySem.Value.type "tuple") (Option.none) (PySem.Data.seq (List.toArray []) 0) (List.toArray []))) ::
  ((nat_lit 199), (PySem.Obj.mk (PySem.Value.type "tuple") (Option.none) (PySem.Data.seq (List.toArray [(PySem.Value.str (PySem.Str.ofString "self") 484), (PySem.Value.str (PySem.Str.ofString "path") 485), (PySem.Value.str (PySem.Str.ofString "is_function") 486), (PySem.Value.str (PySem.Str.ofString "automatic") 487), (PySem.Value.str (PySem.Str.ofString "at") 488)]) 0) (List.toArray []))) ::
  ((nat_lit 200), (PySem.Obj.mk (PySem.Value.type "tuple") (Option.none) (PySem.Data.seq (List.toArray []) 0) (List.toArray []))) ::
  ((nat_lit 202), (PySem.Obj.mk (PySem.Value.type "code") (Option.none) (PySem.Data.fields (List.toArray [(PySem.Value.str (PySem.Str.ofString "add_routine") 481), (PySem.Value.str (PySem.Str.ofString "Design.add_routine") 482), (PySem.Value.str (PySem.Str.ofString "/claim/cut.py") 483), (PySem.Value.int 153 0), (PySem.Value.int 5 0), (PySem.Value.int 0 0), (PySem.Value.int 0 0), (PySem.Value.int 3 0), (PySem.Value.ref 197), (PySem.Value.bool Bool.true), (PySem.Value.int 181 0), (PySem.Value.ref 198), PySem.Value.none, (PySem.Value.ref 199), (PySem.Value.ref 200), (PySem.Value.ref 201), (PySem.Value.int 489 0), (PySem.Value.int 153 0), (PySem.Value.str (PySem.Str.ofString "/claim/cut.py") 490)])) (List.toArray []))) ::
  ((nat_lit 203), (PySem.Obj.mk (PySem.Value.type "function") (Option.none) (PySem.Data.func (PySem.FuncData.mk (PySem.Str.ofString "add_routine") (PySem.Str.ofString "Design.add_routine") (x51) (PySem.FuncBody.stmts x52) x53 3 [] PySem.Value.none PySem.Value.none PySem.Value.none (PySem.Value.str (PySem.Str.ofString "gateloom.design") 325) (Option.none) (PySem.Value.ref 202) PySem.Value.none 0)) (List.toArray []))) ::
  ((nat_lit 204), (PySem.Obj.mk (PySem.Value.type "tuple") (Option.none) (PySem.Data.seq (List.toArray []) 0) (List.toArray []))) ::
  ((nat_lit 206), (PySem.Obj.mk (PySem.Value.type "tuple") (Option.none) (PySem.Data.seq (List.toArray [(PySem.Value.str (PySem.Str.ofString "self") 495), (PySem.Value.str (PySem.Str.ofString "kind") 496), (PySem.Value.str (PySem.Str.ofString "body") 497), (PySem.Value.str (PySem.Str.ofString "path") 498), (PySem.Value.str (PySem.Str.ofString "at") 499)]) 0) (List.toArray []))) ::
  ((nat_lit 207), (PySem.Obj.mk (PySem.Value.type "tuple") (Option.none) (PySem.Data.seq (List.toArray []) 0) (List.toArray []))) ::
  ((nat_lit 209), (PySem.Obj.mk (PySem.Value.type "code") (Option.none) (PySem.Data.fields (List.toArray [(PySem.Value.str (PySem.Str.ofString "add_process") 492), (PySem.Value.str (PySem.Str.ofString "Design.add_process") 493), (PySem.Value.str (PySem.Str.ofString "/claim/cut.py") 494), (PySem.Value.int 156 0), (PySem.Value.int 5 0), (PySem.Value.int 0 0), (PySem.Value.int 0 0), (PySem.Value.int 3 0), (PySem.Value.ref 204), (PySem.Value.bool Bool.true), (PySem.Value.int 181 0), (PySem.Value.ref 205), PySem.Value.none, (PySem.Value.ref 206), (PySem.Value.ref 207), (PySem.Value.ref 208), (PySem.Value.int 500 0), (PySem.Value.int 156 0), (PySem.Value.str (PySem.Str.ofString "/claim/cut.py") 501)])) (List.toArray []))) ::
  ((nat_lit 210), (PySem.Obj.mk (PySem.Value.type "function") (Option.none) (PySem.Data.func (PySem.FuncData.mk (PySem.Str.ofString "add_process") (PySem.Str.ofString "Design.add_process") (x54) (PySem.FuncBody.stmts x55) x56 3 [] PySem.Value.none PySem.Value.none PySem.Value.none (PySem.Value.str (PySem.Str.ofString "gateloom.design") 325) (Option.none) (PySem.Value.ref 209) PySem.Value.none 0)) (List.toArray []))) ::
  ((nat_lit 211), (PySem.Obj.mk (PySem.Value.type "tuple") (Option.none) (PySem.Data.seq (List.toArray []) 0) (List.toArray []))) ::
  ((nat_lit 213), (PySem.Obj.mk (PySem.Value.type "tuple") (Option.none) (PySem.Data.seq (List.toArray [(PySem.Value.str (PySem.Str.ofString "self") 506), (PySem.Value.str (PySem.Str.ofString "path") 507)]) 0) (List.toArray []))) ::
  ((nat_lit 214), (PySem.Obj.mk (PySem.Value.type "tuple") (Option.none) (PySem.Data.seq (List.toArray []) 0) (List.toArray []))) ::
  ((nat_lit 216), (PySem.Obj.mk (PySem.Value.type "code") (Option.none) (PySem.Data.fields (List.toArray [(PySem.Value.str (PySem.Str.ofString "find") 503), (PySem.Value.str (PySem.Str.ofString "Design.find") 504), (PySem.Value.str (PySem.Str.ofString "/claim/cut.py") 505), (PySem.Value.int 159 0), (PySem.Value.int 2 0), (PySem.Value.int 0 0), (PySem.Value.int 0 0), (PySem.Value.int 3 0), (PySem.Value.ref 211), (PySem.Value.bool Bool.true), (PySem.Value.int 181 0), (PySem.Value.ref 212), PySem.Value.none, (PySem.Value.ref 213), (PySem.Value.ref 214), (PySem.Value.ref 215), (PySem.Value.int 508 0), (PySem.Value.int 159 0), (PySem.Value.str (PySem.Str.ofString "/claim/cut.py") 509)])) (List.toArray []))) ::
  ((nat_lit 217), (PySem.Obj.mk (PySem.Value.type "function") (Option.none) (PySem.Data.func (PySem.FuncData.mk (PySem.Str.ofString "find") (PySem.Str.ofString "Design.find") (x57) (PySem.FuncBody.stmts x58) x59 3 [] PySem.Value.none PySem.Value.none PySem.Value.none (PySem.Value.str (PySem.Str.ofString "gateloom.design") 325) (Option.none) (PySem.Value.ref 216) PySem.Value.none 0)) (List.toArray []))) ::
  ((nat_lit 218), (PySem.Obj.mk (PySem.Value.type "tuple") (Option.none) (PySem.Data.seq (List.toArray []) 0) (List.toArray []))) ::
  ((nat_lit 220), (PySem.Obj.mk (PySem.Value.type "tuple") (Option.none) (PySem.Data.seq (List.toArray [(PySem.Value.str (PySem.Str.ofString "self") 514), (PySem.Value.str (PySem.Str.ofString "n") 515)]) 0) (List.toArray []))) ::
  ((nat_lit 221), (PySem.Obj.mk (PySem.Value.type "tuple") (Option.none) (PySem.Data.seq (List.toArray []) 0) (List.toArray []))) ::
  ((nat_lit 223), (PySem.Obj.mk (PySem.Value.type "code") (Option.none) (PySem.Data.fields (List.toArray [(PySem.Value.str (PySem.Str.ofString "routine") 511), (PySem.Value.str (PySem.Str.ofString "Design.routine") 512), (PySem.Value.str (PySem.Str.ofString "/claim/cut.py") 513), (PySem.Value.int 162 0), (PySem.Value.int 2 0), (PySem.Value.int 0 0), (PySem.Value.int 0 0), (PySem.Value.int 3 0), (PySem.Value.ref 218), (PySem.Value.bool Bool.true), (PySem.Value.int 181 0), (PySem.Value.ref 219), PySem.Value.none, (PySem.Value.ref 220), (PySem.Value.ref 221), (PySem.Value.ref 222), (PySem.Value.int 516 0), (PySem.Value.int 162 0), (PySem.Value.str (PySem.Str.ofString "/claim/cut.py") 517)])) (List.toArray []))) ::
  ((nat_lit 224), (PySem.Obj.mk (PySem.Value.type "function") (Option.none) (PySem.Data.func (PySem.FuncData.mk (PySem.Str.ofString "routine") (PySem.Str.ofString "Design.routine") (x60) (PySem.FuncBody.stmts x61) x62 3 [] PySem.Value.none PySem.Value.none PySem.Value.none (PySem.Value.str (PySem.Str.ofString "gateloom.design") 325) (Option.none) (PySem.Value.ref 223) PySem.Value.none 0)) (List.toArray []))) ::
  ((nat_lit 225), (PySem.Obj.mk (PySem.Value.type "tuple") (Option.none) (PySem.Data.seq (List.toArray [(PySem.Value.str (PySem.Str.ofString "assigns") 519), (PySem.Value.str (PySem.Str.ofString "by_path") 520), (PySem.Value.str (PySem.Str.ofString "gates") 521), (PySem.Value.str (PySem.Str.ofString "maker") 522), (PySem.Value.str (PySem.Str.ofString "nesting") 523), (PySem.Value.str (PySem.Str.ofString "ports") 524), (PySem.Value.str (PySem.Str.ofString "processes") 525), (PySem.Value.str (PySem.Str.ofString "routines") 526), (PySem.Value.str (PySem.Str.ofString "scopes") 527), (PySem.Value.str (PySem.Str.ofString "signals") 528), (PySem.Value.str (PySem.Str.ofString "tops") 529), (PySem.Value.str (PySem.Str.ofString "udps") 530)]) 0) (List.toArray []))) ::
  ((nat_lit 226), (PySem.Obj.mk (PySem.Value.type "dict") (Option.none) (PySem.Data.dict (List.toArray [(PySem.DictEntry.mk (PySem.PyData.keyHash P (PySem.Str.ofString "__module__")) (PySem.Value.str (PySem.Str.ofString "__module__") 447) (PySem.Value.str (PySem.Str.ofString "gateloom.design") 325)), (PySem.DictEntry.mk (PySem.PyData.keyHash P (PySem.Str.ofString "__firstlineno__")) (PySem.Value.str (PySem.Str.ofString "__firstlineno__") 451) (PySem.Value.int 131 450)), (PySem.DictEntry.mk (PySem.PyData.keyHash P (PySem.Str.ofString "__init__")) (PySem.Value.str (PySem.Str.ofString "__init__") 458) (PySem.Value.ref 182)), (PySem.DictEntry.mk (PySem.PyData.keyHash P (PySem.Str.ofString "add_signal")) (PySem.Value.str (PySem.Str.ofString "add_signal") 472) (PySem.Value.ref 189)), (PySem.DictEntry.mk (PySem.PyData.keyHash P (PySem.Str.ofString "add_scope")) (PySem.Value.str (PySem.Str.ofString "add_scope") 480) (PySem.Value.ref 196)), (PySem.DictEntry.mk (PySem.PyData.keyHash P (PySem.Str.ofString "add_routine")) (PySem.Value.str (PySem.Str.ofString "add_routine") 491) (PySem.Value.ref 203)), (PySem.DictEntry.mk (PySem.PyData.keyHash P (PySem.Str.ofString "add_process")) (PySem.Value.str (PySem.Str.ofString "add_process") 502) (PySem.Value.ref 210)), (PySem.DictEntry.mk (PySem.PyData.keyHash P (PySem.Str.ofString "find")) (PySem.Value.str (PySem.Str.ofString "find") 510) (PySem.Value.ref 217)), (PySem.DictEntry.mk (PySem.PyData.keyHash P (PySem.Str.ofString "routine")) (PySem.Value.str (PySem.Str.ofString "routine") 518) (PySem.Value.ref 224)), (PySem.DictEntry.mk (PySem.PyData.keyHash P (PySem.Str.ofString "__static_attributes__")) (PySem.Value.str (PySem.Str.ofString "__static_attributes__") 531) (PySem.Value.ref 225)), (PySem.DictEntry.mk (PySem.PyData.keyHash P (PySem.Str.ofString "__dict__")) (PySem.Value.str (PySem.Str.ofString "__dict__") 533) (PySem.Value.ref 228)), (PySem.DictEntry.mk (PySem.PyData.keyHash P (PySem.Str.ofString "__weakref__")) (PySem.Value.str (PySem.Str.ofString "__weakref__") 535) (PySem.Value.ref 229)), (PySem.DictEntry.mk (PySem.PyData.keyHash P (PySem.Str.ofString "__doc__")) (PySem.Value.str (PySem.Str.ofString "__doc__") 536) PySem.Value.none)]) 4) (List.toArray []))) ::
  ((nat_lit 227), (PySem.Obj.mk (PySem.Value.type "type") (Option.none) (PySem.Data.cls (PySem.ClassData.mk (PySem.Str.ofString "Design") [(PySem.Value.type "object")] [(PySem.Value.ref 227), (PySem.Value.type "object")] 226 (PySem.Str.ofString "Design") Bool.true [] [] Bool.false (Option.none) Bool.false)) (List.toArray [(Option.none), (Option.none), (Option.some (PySem.Value.str (PySem.Str.ofString "Design") 440)), (Option.some (PySem.Value.str (PySem.Str.ofString "Design") 448)), (Option.some (PySem.Value.builtin "object.__new__")), (Option.some (PySem.Value.bool Bool.true))]))) ::
  ((nat_lit 228), (PySem.Obj.mk (PySem.Value.type "getset_descriptor") (Option.none) (PySem.Data.fields (List.toArray [(PySem.Value.str (PySem.Str.ofString "__dict__") 532), (PySem.Value.ref 227), (PySem.Value.builtin "function.__dict__"), (PySem.Value.builtin "function.__dict__#set")])) (List.toArray []))) ::
  ((nat_lit 229), (PySem.Obj.mk (PySem.Value.type "getset_descriptor") (Option.none) (PySem.Data.fields (List.toArray [(PySem.Value.str (PySem.Str.ofString "__weakref__") 534), (PySem.Value.ref 227), (PySem.Value.builtin "ExceptionGroup.__weakref__"), PySem.Value.none])) (List.toArray []))) ::
  ((nat_lit 239), (PySem.Obj.mk (PySem.Value.type "tuple") (Option.none) (PySem.Data.seq (List.toArray []) 0) (List.toArray []))) ::
  ((nat_lit 241), (PySem.Obj.mk (PySem.Value.type "tuple") (Option.none) (PySem.Data.seq (List.toArray [(PySem.Value.str (PySem.Str.ofString "self") 556), (PySem.Value.str (PySem.Str.ofString "name") 557), (PySem.Value.str (PySem.Str.ofString "at") 558), (PySem.Value.str (PySem.Str.ofString "output") 559), (PySem.Value.str (PySem.Str.ofString "inputs") 560), (PySem.Value.str (PySem.Str.ofString "sequential") 561), (PySem.Value.str (PySem.Str.ofString "init") 562), (PySem.Value.str (PySem.Str.ofString "rows") 563)]) 0) (List.toArray []))) ::
  ((nat_lit 242), (PySem.Obj.mk (PySem.Value.type "tuple") (Option.none) (PySem.Data.seq (List.toArray []) 0) (List.toArray []))) ::
  ((nat_lit 244), (PySem.Obj.mk (PySem.Value.type "code") (Option.none) (PySem.Data.fields (List.toArray [(PySem.Value.str (PySem.Str.ofString "__init__") 553), (PySem.Value.str (PySem.Str.ofString "Primitive.__init__") 554), (PySem.Value.str (PySem.Str.ofString "/claim/cut.py") 555), (PySem.Value.int 167 0), (PySem.Value.int 8 0), (PySem.Value.int 0 0), (PySem.Value.int 0 0), (PySem.Value.int 3 0), (PySem.Value.ref 239), (PySem.Value.bool Bool.true), (PySem.Value.int 181 0), (PySem.Value.ref 240), PySem.Value.none, (PySem.Value.ref 241), (PySem.Value.ref 242), (PySem.Value.ref 243), (PySem.Value.int 564 0), (PySem.Value.int 167 0), (PySem.Value.str (PySem.Str.ofString "/claim/cut.py") 565)])) (List.toArray []))) ::
  ((nat_lit 245), (PySem.Obj.mk (PySem.Value.type "function") (Option.none) (PySem.Data.func (PySem.FuncData.mk (PySem.Str.ofString "__init__") (PySem.Str.ofString "Primitive.__init__") (x63) (PySem.FuncBody.stmts x64) x65 3 [] PySem.Value.none PySem.Value.none PySem.Value.none (PySem.Value.str (PySem.Str.ofString "gateloom.udps") 539) (Option.none) (PySem.Value.ref 244) PySem.Value.none 0)) (List.toArray []))) ::
  ((nat_lit 246), (PySem.Obj.mk (PySem.Value.type "tuple") (Option.none) (PySem.Data.seq (List.toArray [(PySem.Value.str (PySem.Str.ofString "at") 567), (PySem.Value.str (PySem.Str.ofString "init") 568), (PySem.Value.str (PySem.Str.ofString "inputs") 569), (PySem.Value.str (PySem.Str.ofString "name") 570), (PySem.Value.str (PySem.Str.ofString "output") 571), (PySem.Value.str (PySem.Str.ofString "rows") 572), (PySem.Value.str (PySem.Str.ofString "sequential") 573)]) 0) (List.toArray []))) ::
  ((nat_lit 247), (PySem.Obj.mk (PySem.Value.type "dict") (Option.none) (PySem.Data.dict (List.toArray [(PySem.DictEntry.mk (PySem.PyData.keyHash P (PySem.Str.ofString "__module__")) (PySem.Value.str (PySem.Str.ofString "__module__") 548) (PySem.Value.str (PySem.Str.ofString "gateloom.udps") 539)), (PySem.DictEntry.mk (PySem.PyData.keyHash P (PySem.Str.ofString "__firstlineno__")) (PySem.Value.str (PySem.Str.ofString "__firstlineno__") 552) (PySem.Value.int 165 551)), (PySem.DictEntry.mk (PySem.PyData.keyHash P (PySem.Str.ofString "__init__")) (PySem.Value.str (PySem.Str.ofString "__init__") 566) (PySem.Value.ref 245)), (PySem.DictEntry.mk (PySem.PyData.keyHash P (PySem.Str.ofString "__static_attributes__")) (PySem.Value.str (PySem.Str.ofString "__static_attributes__") 574) (PySem.Value.ref 246)), (PySem.DictEntry.mk (PySem.PyData.keyHash P (PySem.Str.ofString "__dict__")) (PySem.Value.str (PySem.Str.ofString "__dict__") 576) (PySem.Value.ref 249)), (PySem.DictEntry.mk (PySem.PyData.keyHash P (PySem.Str.ofString "__weakref__")) (PySem.Value.str (PySem.Str.ofString "__weakref__") 578) (PySem.Value.ref 250)), (PySem.DictEntry.mk (PySem.PyData.keyHash P (PySem.Str.ofString "__doc__")) (PySem.Value.str (PySem.Str.ofString "__doc__") 579) PySem.Value.none)]) 4) (List.toArray []))) ::
  ((nat_lit 248), (PySem.Obj.mk (PySem.Value.type "type") (Option.none) (PySem.Data.cls (PySem.ClassData.mk (PySem.Str.ofString "Primitive") [(PySem.Value.type "object")] [(PySem.Value.ref 248), (PySem.Value.type "object")] 247 (PySem.Str.ofString "Primitive") Bool.true [] [] Bool.false (Option.none) Bool.false)) (List.toArray [(Option.none), (Option.none), (Option.some (PySem.Value.str (PySem.Str.ofString "Primitive") 541)), (Option.some (PySem.Value.str (PySem.Str.ofString "Primitive") 549)), (Option.some (PySem.Value.builtin "object.__new__")), (Option.some (PySem.Value.bool Bool.true))]))) ::
  ((nat_lit 249), (PySem.Obj.mk (PySem.Value.type "getset_descriptor") (Option.none) (PySem.Data.fields (List.toArray [(PySem.Value.str (PySem.Str.ofString "__dict__") 575), (PySem.Value.ref 248), (PySem.Value.builtin "function.__dict__"), (PySem.Value.builtin "function.__dict__#set")])) (List.toArray []))) ::
  ((nat_lit 250), (PySem.Obj.mk (PySem.Value.type "getset_descriptor") (Option.none) (PySem.Data.fields (List.toArray [(PySem.Value.str (PySem.Str.ofString "__weakref__") 577), (PySem.Value.ref 248), (PySem.Value.builtin "ExceptionGroup.__weakref__"), PySem.Value.none])) (List.toArray []))) ::
  ((nat_lit 253), (PySem.Obj.mk (PySem.Value.type "tuple") (Option.none) (PySem.Data.seq (List.toArray []) 0) (List.toArray []))) ::
  ((nat_lit 255), (PySem.Obj.mk (PySem.Value.type "tuple") (Option.none) (PySem.Data.seq (List.toArray [(PySem.Value.str (PySem.Str.ofString "script") 587), (PySem.Value.str (PySem.Str.ofString "ring") 588), (PySem.Value.str (PySem.Str.ofString "one") 589), (PySem.Value.str (PySem.Str.ofString "left") 590), (PySem.Value.str (PySem.Str.ofString "hop") 591)]) 0) (List.toArray []))) ::
  ((nat_lit 256), (PySem.Obj.mk (PySem.Value.type "tuple") (Option.none) (PySem.Data.seq (List.toArray []) 0) (List.toArray []))) ::
  ((nat_lit 258), (PySem.Obj.mk (PySem.Value.type "code") (Option.none) (PySem.Data.fields (List.toArray [(PySem.Value.str (PySem.Str.ofString "_law_keys") 584), (PySem.Value.str (PySem.Str.ofString "_law_keys") 585), (PySem.Value.str (PySem.Str.ofString "/claim/cut.py") 586), (PySem.Value.int 176 0), (PySem.Value.int 1 0), (PySem.Value.int 0 0), (PySem.Value.int 0 0), (PySem.Value.int 3 0), (PySem.Value.ref 253), (PySem.Value.bool Bool.true), (PySem.Value.int 181 0), (PySem.Value.ref 254), PySem.Value.none, (PySem.Value.ref 255), (PySem.Value.ref 256), (PySem.Value.ref 257), (PySem.Value.int 592 0), (PySem.Value.int 176 0), (PySem.Value.str (PySem.Str.ofString "/claim/cut.py") 593)])) (List.toArray []))) ::
  ((nat_lit 259), (PySem.Obj.mk (PySem.Value.type "function") (Option.none) (PySem.Data.func (PySem.FuncData.mk (PySem.Str.ofString "_law_keys") (PySem.Str.ofString "_law_keys") (x66) (PySem.FuncBody.stmts x67) x68 3 [] PySem.Value.none PySem.Value.none PySem.Value.none (PySem.Value.str (PySem.Str.ofString "law_pq0458_01") 582) (Option.none) (PySem.Value.ref 258) PySem.Value.none 0)) (List.toArray []))) ::
  ((nat_lit 260), (PySem.Obj.mk (PySem.Value.type "tuple") (Option.none) (PySem.Data.seq (List.toArray []) 0) (List.toArray []))) ::
  ((nat_lit 262), (PySem.Obj.mk (PySem.Value.type "tuple") (Option.none) (PySem.Data.seq (List.toArray [(PySem.Value.str (PySem.Str.ofString "ring") 598), (PySem.Value.str (PySem.Str.ofString "most") 599)]) 0) (List.toArray []))) ::
  ((nat_lit 263), (PySem.Obj.mk (PySem.Value.type "tuple") (Option.none) (PySem.Data.seq (List.toArray []) 0) (List.toArray []))) ::
  ((nat_lit 265), (PySem.Obj.mk (PySem.Value.type "code") (Option.none) (PySem.Data.fields (List.toArray [(PySem.Value.str (PySem.Str.ofString "_law_key") 595), (PySem.Value.str (PySem.Str.ofString "_law_key") 596), (PySem.Value.str (PySem.Str.ofString "/claim/cut.py") 597), (PySem.Value.int 186 0), (PySem.Value.int 2 0), (PySem.Value.int 0 0), (PySem.Value.int 0 0), (PySem.Value.int 3 0), (PySem.Value.ref 260), (PySem.Value.bool Bool.true), (PySem.Value.int 181 0), (PySem.Value.ref 261), PySem.Value.none, (PySem.Value.ref 262), (PySem.Value.ref 263), (PySem.Value.ref 264), (PySem.Value.int 600 0), (PySem.Value.int 186 0), (PySem.Value.str (PySem.Str.ofString "/claim/cut.py") 601)])) (List.toArray []))) ::
  ((nat_lit 266), (PySem.Obj.mk (PySem.Value.type "function") (Option.none) (PySem.Data.func (PySem.FuncData.mk (PySem.Str.ofString "_law_key") (PySem.Str.ofString "_law_key") (x69) (PySem.FuncBody.stmts x70) x71 3 [] PySem.Value.none PySem.Value.none PySem.Value.none (PySem.Value.str (PySem.Str.ofString "law_pq0458_01") 582) (Option.none) (PySem.Value.ref 265) PySem.Value.none 0)) (List.toArray []))) ::
  ((nat_lit 267), (PySem.Obj.mk (PySem.Value.type "tuple") (Option.none) (PySem.Data.seq (List.toArray []) 0) (List.toArray []))) ::
  ((nat_lit 269), (PySem.Obj.mk (PySem.Value.type "tuple") (Option.none) (PySem.Data.seq (List.toArray [(PySem.Value.str (PySem.Str.ofString "ring") 606), (PySem.Value.str (PySem.Str.ofString "met") 607), (PySem.Value.str (PySem.Str.ofString "sort") 608), (PySem.Value.str (PySem.Str.ofString "key") 609)]) 0) (List.toArray []))) ::
  ((nat_lit 270), (PySem.Obj.mk (PySem.Value.type "tuple") (Option.none) (PySem.Data.seq (List.toArray []) 0) (List.toArray []))) ::
  ((nat_lit 272), (PySem.Obj.mk (PySem.Value.type "code") (Option.none) (PySem.Data.fields (List.toArray [(PySem.Value.str (PySem.Str.ofString "_law_source") 603), (PySem.Value.str (PySem.Str.ofString "_law_source") 604), (PySem.Value.str (PySem.Str.ofString "/claim/cut.py") 605), (PySem.Value.int 188 0), (PySem.Value.int 2 0), (PySem.Value.int 0 0), (PySem.Value.int 0 0), (PySem.Value.int 3 0), (PySem.Value.ref 267), (PySem.Value.bool Bool.true), (PySem.Value.int 181 0), (PySem.Value.ref 268), PySem.Value.none, (PySem.Value.ref 269), (PySem.Value.ref 270), (PySem.Value.ref 271), (PySem.Value.int 610 0), (PySem.Value.int 188 0), (PySem.Value.str (PySem.Str.ofString "/claim/cut.py") 611)])) (List.toArray []))) ::
  ((nat_lit 273), (PySem.Obj.mk (PySem.Value.type "function") (Option.none) (PySem.Data.func (PySem.FuncData.mk (PySem.Str.ofString "_law_source") (PySem.Str.ofString "_law_source") (x72) (PySem.FuncBody.stmts x73) x74 3 [] PySem.Value.none PySem.Value.none PySem.Value.none (PySem.Value.str (PySem.Str.ofString "law_pq0458_01") 582) (Option.none) (PySem.Value.ref 272) PySem.Value.none 0)) (List.toArray []))) ::
  ((nat_lit 274), (PySem.Obj.mk (PySem.Value.type "tuple") (Option.none) (PySem.Data.seq (List.toArray []) 0) (List.toArray []))) ::
  ((nat_lit 276), (PySem.Obj.mk (PySem.Value.type "tuple") (Option.none) (PySem.Data.seq (List.toArray [(PySem.Value.str (PySem.Str.ofString "ring") 616), (PySem.Value.str (PySem.Str.ofString "met") 617), (PySem.Value.str (PySem.Str.ofString "sort") 618), (PySem.Value.str (PySem.Str.ofString "key") 619), (PySem.Value.str (PySem.Str.ofString "index") 620)]) 0) (List.toArray []))) ::
  ((nat_lit 277), (PySem.Obj.mk (PySem.Value.type "tuple") (Option.none) (PySem.Data.seq (List.toArray []) 0) (List.toArray []))) ::
  ((nat_lit 279), (PySem.Obj.mk (PySem.Value.type "code") (Option.none) (PySem.Data.fields (List.toArray [(PySem.Value.str (PySem.Str.ofString "_law_goal") 613), (PySem.Value.str (PySem.Str.ofString "_law_goal") 614), (PySem.Value.str (PySem.Str.ofString "/claim/cut.py") 615), (PySem.Value.int 199 0), (PySem.Value.int 2 0), (PySem.Value.int 0 0), (PySem.Value.int 0 0), (PySem.Value.int 3 0), (PySem.Value.ref 274), (PySem.Value.bool Bool.true), (PySem.Value.int 181 0), (PySem.Value.ref 275), PySem.Value.none, (PySem.Value.ref 276), (PySem.Value.ref 277), (PySem.Value.ref 278), (PySem.Value.int 621 0), (PySem.Value.int 199 0), (PySem.Value.str (PySem.Str.ofString "/claim/cut.py") 622)])) (List.toArray []))) ::
  ((nat_lit 280), (PySem.Obj.mk (PySem.Value.type "function") (Option.none) (PySem.Data.func (PySem.FuncData.mk (PySem.Str.ofString "_law_goal") (PySem.Str.ofString "_law_goal") (x75) (PySem.FuncBody.stmts x76) x77 3 [] PySem.Value.none PySem.Value.none PySem.Value.none (PySem.Value.str (PySem.Str.ofString "law_pq0458_01") 582) (Option.none) (PySem.Value.ref 279) PySem.Value.none 0)) (List.toArray []))) ::
  ((nat_lit 281), (PySem.Obj.mk (PySem.Value.type "tuple") (Option.none) (PySem.Data.seq (List.toArray []) 0) (List.toArray []))) ::
  ((nat_lit 284), (PySem.Obj.mk (PySem.Value.type "code") (Option.none) (PySem.Data.fields (List.toArray [(PySem.Value.str (PySem.Str.ofString "law") 624), (PySem.Value.str (PySem.Str.ofString "law") 625), (PySem.Value.str (PySem.Str.ofString "/claim/cut.py") 626), (PySem.Value.int 208 0), (PySem.Value.int 1 0), (PySem.Value.int 0 0), (PySem.Value.int 0 0), (PySem.Value.int 3 0), (PySem.Value.ref 281), (PySem.Value.bool Bool.true), (PySem.Value.int 181 0), (PySem.Value.ref 282), PySem.Value.none, PySem.Value.none, PySem.Value.none, (PySem.Value.ref 283), (PySem.Value.int 627 0), (PySem.Value.int 208 0), (PySem.Value.str (PySem.Str.ofString "/claim/cut.py") 628)])) (List.toArray []))) ::
  ((nat_lit 285), (PySem.Obj.mk (PySem.Value.type "function") (Option.none) (PySem.Data.func (PySem.FuncData.mk (PySem.Str.ofString "law") (PySem.Str.ofString "law") (x78) (PySem.FuncBody.stmts x79) x80 3 [] PySem.Value.none PySem.Value.none PySem.Value.none (PySem.Value.str (PySem.Str.ofString "law_pq0458_01") 582) (Option.none) (PySem.Value.ref 284) PySem.Value.none 0)) (List.toArray []))) :: [])
noncomputable def view0 : Program := { PySem.Challenge.pw_pq0458_01 with main := { PySem.Challenge.pw_pq0458_01.main with body := [sAt top 0, sAt top 2, sAt top 4, sAt top 5, sAt top 6, sAt top 7, sAt top 8, sAt top 10, sAt top 11, sAt top 12, sAt top 13, sAt top 15, sAt top 16, sAt top 17, sAt top 18, sAt top 20, sAt top 22, sAt top 23, sAt top 24, sAt top 25, sAt top 26] } }
noncomputable def hd.view_39 : Program := by
  apply (?key : (x : Program) → (h : x = view0 ∧ True) → Program)
  case h =>
    delta view0
    conv in sAt top 0 => whnf
    conv in sAt top 2 => whnf
    conv in sAt top 4 => whnf
    conv in sAt top 5 => whnf
    conv in sAt top 6 => whnf
    conv in sAt top 7 => whnf
    conv in sAt top 8 => whnf
    conv in sAt top 10 => whnf
    conv in sAt top 11 => whnf
    conv in sAt top 12 => whnf
    conv in sAt top 13 => whnf
    conv in sAt top 15 => whnf
    conv in sAt top 16 => whnf
    conv in sAt top 17 => whnf
    conv in sAt top 18 => whnf
    conv in sAt top 20 => whnf
    conv in sAt top 22 => whnf
    conv in sAt top 23 => whnf
    conv in sAt top 24 => whnf
    conv in sAt top 25 => whnf
    conv in sAt top 26 => whnf
    exact ⟨rfl, trivial⟩
  case key => exact fun x _ => x
noncomputable def hdAs : List Addr := [(nat_lit 2), (nat_lit 3), (nat_lit 15), (nat_lit 17), (nat_lit 18), (nat_lit 20), (nat_lit 21), (nat_lit 22), (nat_lit 24), (nat_lit 25), (nat_lit 27), (nat_lit 28), (nat_lit 29), (nat_lit 31), (nat_lit 32), (nat_lit 34), (nat_lit 35), (nat_lit 36), (nat_lit 38), (nat_lit 39), (nat_lit 41), (nat_lit 42), (nat_lit 43), (nat_lit 45), (nat_lit 46), (nat_lit 48), (nat_lit 49), (nat_lit 50), (nat_lit 52), (nat_lit 53), (nat_lit 55), (nat_lit 56), (nat_lit 57), (nat_lit 59), (nat_lit 60), (nat_lit 62), (nat_lit 63), (nat_lit 71), (nat_lit 73), (nat_lit 74), (nat_lit 76), (nat_lit 77), (nat_lit 78), (nat_lit 79), (nat_lit 80), (nat_lit 81), (nat_lit 82), (nat_lit 85), (nat_lit 87), (nat_lit 88), (nat_lit 90), (nat_lit 91), (nat_lit 92), (nat_lit 94), (nat_lit 95), (nat_lit 97), (nat_lit 98), (nat_lit 99), (nat_lit 101), (nat_lit 102), (nat_lit 104), (nat_lit 105), (nat_lit 113), (nat_lit 115), (nat_lit 116), (nat_lit 118), (nat_lit 119), (nat_lit 120), (nat_lit 121), (nat_lit 122), (nat_lit 123), (nat_lit 124), (nat_lit 134), (nat_lit 136), (nat_lit 137), (nat_lit 139), (nat_lit 140), (nat_lit 141), (nat_lit 142), (nat_lit 143), (nat_lit 144), (nat_lit 145), (nat_lit 155), (nat_lit 157), (nat_lit 158), (nat_lit 160), (nat_lit 161), (nat_lit 162), (nat_lit 163), (nat_lit 164), (nat_lit 165), (nat_lit 166), (nat_lit 176), (nat_lit 178), (nat_lit 179), (nat_lit 181), (nat_lit 182), (nat_lit 183), (nat_lit 185), (nat_lit 186), (nat_lit 188), (nat_lit 189), (nat_lit 190), (nat_lit 192), (nat_lit 193), (nat_lit 195), (nat_lit 196), (nat_lit 197), (nat_lit 199), (nat_lit 200), (nat_lit 202), (nat_lit 203), (nat_lit 204), (nat_lit 206), (nat_lit 207), (nat_lit 209), (nat_lit 210), (nat_lit 211), (nat_lit 213), (nat_lit 214), (nat_lit 216), (nat_lit 217), (nat_lit 218), (nat_lit 220), (nat_lit 221), (nat_lit 223), (nat_lit 224), (nat_lit 225), (nat_lit 226), (nat_lit 227), (nat_lit 228), (nat_lit 229), (nat_lit 239), (nat_lit 241), (nat_lit 242), (nat_lit 244), (nat_lit 245), (nat_lit 246), (nat_lit 247), (nat_lit 248), (nat_lit 249), (nat_lit 250), (nat_lit 253), (nat_lit 255), (nat_lit 256), (nat_lit 258), (nat_lit 259), (nat_lit 260), (nat_lit 262), (nat_lit 263), (nat_lit 265), (nat_lit 266), (nat_lit 267), (nat_lit 269), (nat_lit 270), (nat_lit 272), (nat_lit 273), (nat_lit 274), (nat_lit 276), (nat_lit 277), (nat_lit 279), (nat_lit 280), (nat_lit 281), (nat_lit 284), (nat_lit 285)]
noncomputable def lk (l : Frag) (i : Nat) : Obj := @List.rec (Addr × Obj) (fun _ => Obj) default (fun p _ ih => @Bool.rec (fun _ => Obj) ih p.2 (Nat.beq p.1 i)) l
noncomputable def bt (f : Nat → Obj) (n : Nat) (k : Nat) : Nat → Nat → BT := @Nat.rec (fun _ => Nat → Nat → BT) (fun _ _ => .nil) (fun _ ih a b => @Bool.rec (fun _ => BT) .nil (.node (f b) (ih (Nat.mul 2 a) (Nat.add a b)) (ih (Nat.mul 2 a) (Nat.add (Nat.mul 2 a) b))) (Nat.blt b n)) k
abbrev S9 := PySem.Str.ofString
noncomputable def rest (P : Params) : Frag := [(0, boot_o_0 P), (1, boot_o_1 P), (4, boot_o_4 P), (5, boot_o_5 P), (6, boot_o_6 P), (7, boot_o_7 P), (8, boot_o_8 P), (9, boot_o_9 P), (10, boot_o_10 P),
  (11, (Obj.mk (Value.type "tuple") (Option.none) (Data.seq (List.toArray []) 0) (List.toArray []))),
  (12, (Obj.mk Value.none (Option.none) (Data.fields (List.toArray [(Value.int 1 0), (Value.int 0 0), (Value.ref 20), (Value.int 5 0), (Value.int 0 0), (Value.ref 27), (Value.int 10 0), (Value.int 0 0), (Value.ref 34), (Value.int 29 0), (Value.int 0 0), (Value.ref 41), (Value.int 38 0), (Value.int 0 0), (Value.ref 48), (Value.int 44 0), (Value.int 0 0), (Value.ref 55), (Value.int 52 0), (Value.int 0 0), (Value.ref 62), (Value.int 59 0), (Value.int 0 0), (Value.ref 69), (Value.int 72 0), (Value.int 0 0), (Value.ref 90), (Value.int 86 0), (Value.int 0 0), (Value.ref 97), (Value.int 92 0), (Value.int 0 0), (Value.ref 104), (Value.int 106 0), (Value.int 0 0), (Value.ref 111), (Value.int 114 0), (Value.int 0 0), (Value.ref 132), (Value.int 123 0), (Value.int 0 0), (Value.ref 153), (Value.int 131 0), (Value.int 0 0), (Value.ref 174), (Value.int 165 0), (Value.int 0 0), (Value.ref 237), (Value.int 176 0), (Value.int 0 0), (Value.ref 258), (Value.int 186 0), (Value.int 0 0), (Value.ref 265), (Value.int 188 0), (Value.int 0 0), (Value.ref 272), (Value.int 199 0), (Value.int 0 0), (Value.ref 279), (Value.int 208 0), (Value.int 0 0), (Value.ref 284)])) (List.toArray []))),
  (13, (Obj.mk (Value.type "code") (Option.none) (Data.fields (List.toArray [(Value.str (S9 "<module>") 182), (Value.str (S9 "<module>") 183), (Value.str (S9 "/claim/cut.py") 184), (Value.int 1 0), (Value.int 0 0), (Value.int 0 0), (Value.int 0 0), (Value.int 0 0), (Value.ref 11), (Value.bool Bool.false), (Value.int 181 0), (Value.ref 12), Value.none, Value.none, Value.none, Value.none, (Value.int 185 0), (Value.int 1 0), (Value.str (S9 "/claim/cut.py") 186)])) (List.toArray []))),
  (14, (Obj.mk (Value.type "frame") (Option.none) Data.plain (List.toArray [(Option.some (Value.ref 13)), (Option.some (Value.ref 3)), (Option.some (Value.ref 3)), (Option.none), (Option.some (Value.str (S9 "__main__") 164)), (Option.none), (Option.some (Value.ref 0))]))),
  (16, (Obj.mk Value.none (Option.none) (Data.fields (List.toArray [])) (List.toArray []))),
  (19, (Obj.mk Value.none (Option.none) (Data.func (FuncData.mk (S9 "_wall") (S9 "_wall") ((sArgs (sAt top 0))) (FuncBody.stmts (sBody (sAt top 0))) (sScope (sAt top 0)) 0 [] Value.none Value.none Value.none Value.none (Option.none) Value.none Value.none 0)) (List.toArray []))),
  (23, (Obj.mk Value.none (Option.none) (Data.fields (List.toArray [])) (List.toArray []))),
  (26, (Obj.mk Value.none (Option.none) (Data.func (FuncData.mk (S9 "default_strength") (S9 "default_strength") ((sArgs (sAt top 2))) (FuncBody.stmts (sBody (sAt top 2))) (sScope (sAt top 2)) 0 [] Value.none Value.none Value.none Value.none (Option.none) Value.none Value.none 0)) (List.toArray []))),
  (30, (Obj.mk Value.none (Option.none) (Data.fields (List.toArray [])) (List.toArray []))),
  (33, (Obj.mk Value.none (Option.none) (Data.func (FuncData.mk (S9 "children") (S9 "children") ((sArgs (sAt top 4))) (FuncBody.stmts (sBody (sAt top 4))) (sScope (sAt top 4)) 0 [] Value.none Value.none Value.none Value.none (Option.none) Value.none Value.none 0)) (List.toArray []))),
  (37, (Obj.mk Value.none (Option.none) (Data.fields (List.toArray [])) (List.toArray []))),
  (40, (Obj.mk Value.none (Option.none) (Data.func (FuncData.mk (S9 "subexpressions") (S9 "subexpressions") ((sArgs (sAt top 5))) (FuncBody.stmts (sBody (sAt top 5))) (sScope (sAt top 5)) 0 [] Value.none Value.none Value.none Value.none (Option.none) Value.none Value.none 0)) (List.toArray []))),
  (44, (Obj.mk Value.none (Option.none) (Data.fields (List.toArray [])) (List.toArray []))),
  (47, (Obj.mk Value.none (Option.none) (Data.func (FuncData.mk (S9 "expr_reads") (S9 "expr_reads") ((sArgs (sAt top 6))) (FuncBody.stmts (sBody (sAt top 6))) (sScope (sAt top 6)) 0 [] Value.none Value.none Value.none Value.none (Option.none) Value.none Value.none 0)) (List.toArray []))),
  (51, (Obj.mk Value.none (Option.none) (Data.fields (List.toArray [])) (List.toArray []))),
  (54, (Obj.mk Value.none (Option.none) (Data.func (FuncData.mk (S9 "target_indexes") (S9 "target_indexes") ((sArgs (sAt top 7))) (FuncBody.stmts (sBody (sAt top 7))) (sScope (sAt top 7)) 0 [] Value.none Value.none Value.none Value.none (Option.none) Value.none Value.none 0)) (List.toArray []))),
  (58, (Obj.mk Value.none (Option.none) (Data.fields (List.toArray [])) (List.toArray []))),
  (61, (Obj.mk Value.none (Option.none) (Data.func (FuncData.mk (S9 "target_reads") (S9 "target_reads") ((sArgs (sAt top 8))) (FuncBody.stmts (sBody (sAt top 8))) (sScope (sAt top 8)) 0 [] Value.none Value.none Value.none Value.none (Option.none) Value.none Value.none 0)) (List.toArray []))),
  (64, (Obj.mk (Value.type "tuple") (Option.none) (Data.seq (List.toArray []) 0) (List.toArray []))),
  (65, (Obj.mk (Value.type "builtin_function_or_method") (Option.none) (Data.fields (List.toArray [(Value.builtin "type.__prepare__"), (Value.type "type")])) (List.toArray []))),
  (66, (Obj.mk (Value.type "dict") (Option.none) (Data.dict (List.toArray [(DictEntry.mk (PyData.keyHash P (S9 "__module__")) (Value.str (S9 "__module__") 261) (Value.str (S9 "gateloom.netkernel") 252)), (DictEntry.mk (PyData.keyHash P (S9 "__qualname__")) (Value.str (S9 "__qualname__") 263) (Value.str (S9 "Element") 262)), (DictEntry.mk (PyData.keyHash P (S9 "__firstlineno__")) (Value.str (S9 "__firstlineno__") 265) (Value.int 59 264)), (DictEntry.mk (PyData.keyHash P (S9 "__init__")) (Value.str (S9 "__init__") 276) (Value.ref 77)), (DictEntry.mk (PyData.keyHash P (S9 "__static_attributes__")) (Value.str (S9 "__static_attributes__") 287) (Value.ref 78))]) 5) (List.toArray []))),
  (67, (Obj.mk (Value.type "tuple") (Option.none) (Data.seq (List.toArray []) 0) (List.toArray []))),
  (68, (Obj.mk Value.none (Option.none) (Data.fields (List.toArray [(Value.int 61 0), (Value.int 4 0), (Value.ref 76)])) (List.toArray []))),
  (69, (Obj.mk (Value.type "code") (Option.none) (Data.fields (List.toArray [(Value.str (S9 "Element") 256), (Value.str (S9 "Element") 257), (Value.str (S9 "/claim/cut.py") 258), (Value.int 59 0), (Value.int 0 0), (Value.int 0 0), (Value.int 0 0), (Value.int 0 0), (Value.ref 67), (Value.bool Bool.false), (Value.int 181 0), (Value.ref 68), Value.none, Value.none, Value.none, Value.none, (Value.int 259 0), (Value.int 59 0), (Value.str (S9 "/claim/cut.py") 260)])) (List.toArray []))),
  (70, (Obj.mk (Value.type "frame") (Option.none) Data.plain (List.toArray [(Option.some (Value.ref 69)), (Option.some (Value.ref 3)), (Option.some (Value.ref 66)), (Option.none), (Option.some (Value.str (S9 "gateloom.netkernel") 252)), (Option.none), (Option.some (Value.ref 0))]))),
  (72, (Obj.mk Value.none (Option.none) (Data.fields (List.toArray [])) (List.toArray []))),
  (75, (Obj.mk Value.none (Option.none) (Data.func (FuncData.mk (S9 "__init__") (S9 "Element.__init__") ((sArgs (sAt (sBody (sAt top 10)) 0))) (FuncBody.stmts (sBody (sAt (sBody (sAt top 10)) 0))) (sScope (sAt (sBody (sAt top 10)) 0)) 0 [] Value.none Value.none Value.none Value.none (Option.none) Value.none Value.none 0)) (List.toArray []))),
  (83, (Obj.mk (Value.type "super") (Option.none) (Data.fields (List.toArray [(Value.ref 80), (Value.ref 80), (Value.ref 80)])) (List.toArray []))),
  (84, (Obj.mk (Value.type "builtin_function_or_method") (Option.none) (Data.fields (List.toArray [(Value.builtin "object.__init_subclass__"), (Value.ref 80)])) (List.toArray []))),
  (86, (Obj.mk Value.none (Option.none) (Data.fields (List.toArray [])) (List.toArray []))),
  (89, (Obj.mk Value.none (Option.none) (Data.func (FuncData.mk (S9 "make_elements") (S9 "make_elements") ((sArgs (sAt top 11))) (FuncBody.stmts (sBody (sAt top 11))) (sScope (sAt top 11)) 0 [] Value.none Value.none Value.none Value.none (Option.none) Value.none Value.none 0)) (List.toArray []))),
  (93, (Obj.mk Value.none (Option.none) (Data.fields (List.toArray [])) (List.toArray []))),
  (96, (Obj.mk Value.none (Option.none) (Data.func (FuncData.mk (S9 "element_targets") (S9 "element_targets") ((sArgs (sAt top 12))) (FuncBody.stmts (sBody (sAt top 12))) (sScope (sAt top 12)) 0 [] Value.none Value.none Value.none Value.none (Option.none) Value.none Value.none 0)) (List.toArray []))),
  (100, (Obj.mk Value.none (Option.none) (Data.fields (List.toArray [])) (List.toArray []))),
  (103, (Obj.mk Value.none (Option.none) (Data.func (FuncData.mk (S9 "element_reads") (S9 "element_reads") ((sArgs (sAt top 13))) (FuncBody.stmts (sBody (sAt top 13))) (sScope (sAt top 13)) 0 [] Value.none Value.none Value.none Value.none (Option.none) Value.none Value.none 0)) (List.toArray []))),
  (106, (Obj.mk (Value.type "tuple") (Option.none) (Data.seq (List.toArray []) 0) (List.toArray []))),
  (107, (Obj.mk (Value.type "builtin_function_or_method") (Option.none) (Data.fields (List.toArray [(Value.builtin "type.__prepare__"), (Value.type "type")])) (List.toArray []))),
  (108, (Obj.mk (Value.type "dict") (Option.none) (Data.dict (List.toArray [(DictEntry.mk (PyData.keyHash P (S9 "__module__")) (Value.str (S9 "__module__") 334) (Value.str (S9 "gateloom.design") 325)), (DictEntry.mk (PyData.keyHash P (S9 "__qualname__")) (Value.str (S9 "__qualname__") 336) (Value.str (S9 "AssignDef") 335)), (DictEntry.mk (PyData.keyHash P (S9 "__firstlineno__")) (Value.str (S9 "__firstlineno__") 338) (Value.int 106 337)), (DictEntry.mk (PyData.keyHash P (S9 "__init__")) (Value.str (S9 "__init__") 350) (Value.ref 119)), (DictEntry.mk (PyData.keyHash P (S9 "__static_attributes__")) (Value.str (S9 "__static_attributes__") 356) (Value.ref 120))]) 5) (List.toArray []))),
  (109, (Obj.mk (Value.type "tuple") (Option.none) (Data.seq (List.toArray []) 0) (List.toArray []))),
  (110, (Obj.mk Value.none (Option.none) (Data.fields (List.toArray [(Value.int 108 0), (Value.int 4 0), (Value.ref 118)])) (List.toArray []))),
  (111, (Obj.mk (Value.type "code") (Option.none) (Data.fields (List.toArray [(Value.str (S9 "AssignDef") 329), (Value.str (S9 "AssignDef") 330), (Value.str (S9 "/claim/cut.py") 331), (Value.int 106 0), (Value.int 0 0), (Value.int 0 0), (Value.int 0 0), (Value.int 0 0), (Value.ref 109), (Value.bool Bool.false), (Value.int 181 0), (Value.ref 110), Value.none, Value.none, Value.none, Value.none, (Value.int 332 0), (Value.int 106 0), (Value.str (S9 "/claim/cut.py") 333)])) (List.toArray []))),
  (112, (Obj.mk (Value.type "frame") (Option.none) Data.plain (List.toArray [(Option.some (Value.ref 111)), (Option.some (Value.ref 3)), (Option.some (Value.ref 108)), (Option.none), (Option.some (Value.str (S9 "gateloom.design") 325)), (Option.none), (Option.some (Value.ref 0))]))),
  (114, (Obj.mk Value.none (Option.none) (Data.fields (List.toArray [])) (List.toArray []))),
  (117, (Obj.mk Value.none (Option.none) (Data.func (FuncData.mk (S9 "__init__") (S9 "AssignDef.__init__") ((sArgs (sAt (sBody (sAt top 15)) 0))) (FuncBody.stmts (sBody (sAt (sBody (sAt top 15)) 0))) (sScope (sAt (sBody (sAt top 15)) 0)) 0 [] Value.none Value.none Value.none Value.none (Option.none) Value.none Value.none 0)) (List.toArray []))),
  (125, (Obj.mk (Value.type "super") (Option.none) (Data.fields (List.toArray [(Value.ref 122), (Value.ref 122), (Value.ref 122)])) (List.toArray []))),
  (126, (Obj.mk (Value.type "builtin_function_or_method") (Option.none) (Data.fields (List.toArray [(Value.builtin "object.__init_subclass__"), (Value.ref 122)])) (List.toArray []))),
  (127, (Obj.mk (Value.type "tuple") (Option.none) (Data.seq (List.toArray []) 0) (List.toArray []))),
  (128, (Obj.mk (Value.type "builtin_function_or_method") (Option.none) (Data.fields (List.toArray [(Value.builtin "type.__prepare__"), (Value.type "type")])) (List.toArray []))),
  (129, (Obj.mk (Value.type "dict") (Option.none) (Data.dict (List.toArray [(DictEntry.mk (PyData.keyHash P (S9 "__module__")) (Value.str (S9 "__module__") 371) (Value.str (S9 "gateloom.design") 325)), (DictEntry.mk (PyData.keyHash P (S9 "__qualname__")) (Value.str (S9 "__qualname__") 373) (Value.str (S9 "GateDef") 372)), (DictEntry.mk (PyData.keyHash P (S9 "__firstlineno__")) (Value.str (S9 "__firstlineno__") 375) (Value.int 114 374)), (DictEntry.mk (PyData.keyHash P (S9 "__init__")) (Value.str (S9 "__init__") 388) (Value.ref 140)), (DictEntry.mk (PyData.keyHash P (S9 "__static_attributes__")) (Value.str (S9 "__static_attributes__") 395) (Value.ref 141))]) 5) (List.toArray []))),
  (130, (Obj.mk (Value.type "tuple") (Option.none) (Data.seq (List.toArray []) 0) (List.toArray []))),
  (131, (Obj.mk Value.none (Option.none) (Data.fields (List.toArray [(Value.int 116 0), (Value.int 4 0), (Value.ref 139)])) (List.toArray []))),
  (132, (Obj.mk (Value.type "code") (Option.none) (Data.fields (List.toArray [(Value.str (S9 "GateDef") 366), (Value.str (S9 "GateDef") 367), (Value.str (S9 "/claim/cut.py") 368), (Value.int 114 0), (Value.int 0 0), (Value.int 0 0), (Value.int 0 0), (Value.int 0 0), (Value.ref 130), (Value.bool Bool.false), (Value.int 181 0), (Value.ref 131), Value.none, Value.none, Value.none, Value.none, (Value.int 369 0), (Value.int 114 0), (Value.str (S9 "/claim/cut.py") 370)])) (List.toArray []))),
  (133, (Obj.mk (Value.type "frame") (Option.none) Data.plain (List.toArray [(Option.some (Value.ref 132)), (Option.some (Value.ref 3)), (Option.some (Value.ref 129)), (Option.none), (Option.some (Value.str (S9 "gateloom.design") 325)), (Option.none), (Option.some (Value.ref 0))]))),
  (135, (Obj.mk Value.none (Option.none) (Data.fields (List.toArray [])) (List.toArray []))),
  (138, (Obj.mk Value.none (Option.none) (Data.func (FuncData.mk (S9 "__init__") (S9 "GateDef.__init__") ((sArgs (sAt (sBody (sAt top 16)) 0))) (FuncBody.stmts (sBody (sAt (sBody (sAt top 16)) 0))) (sScope (sAt (sBody (sAt top 16)) 0)) 0 [] Value.none Value.none Value.none Value.none (Option.none) Value.none Value.none 0)) (List.toArray []))),
  (146, (Obj.mk (Value.type "super") (Option.none) (Data.fields (List.toArray [(Value.ref 143), (Value.ref 143), (Value.ref 143)])) (List.toArray []))),
  (147, (Obj.mk (Value.type "builtin_function_or_method") (Option.none) (Data.fields (List.toArray [(Value.builtin "object.__init_subclass__"), (Value.ref 143)])) (List.toArray []))),
  (148, (Obj.mk (Value.type "tuple") (Option.none) (Data.seq (List.toArray []) 0) (List.toArray []))),
  (149, (Obj.mk (Value.type "builtin_function_or_method") (Option.none) (Data.fields (List.toArray [(Value.builtin "type.__prepare__"), (Value.type "type")])) (List.toArray []))),
  (150, (Obj.mk (Value.type "dict") (Option.none) (Data.dict (List.toArray [(DictEntry.mk (PyData.keyHash P (S9 "__module__")) (Value.str (S9 "__module__") 410) (Value.str (S9 "gateloom.design") 325)), (DictEntry.mk (PyData.keyHash P (S9 "__qualname__")) (Value.str (S9 "__qualname__") 412) (Value.str (S9 "UdpDef") 411)), (DictEntry.mk (PyData.keyHash P (S9 "__firstlineno__")) (Value.str (S9 "__firstlineno__") 414) (Value.int 123 413)), (DictEntry.mk (PyData.keyHash P (S9 "__init__")) (Value.str (S9 "__init__") 426) (Value.ref 161)), (DictEntry.mk (PyData.keyHash P (S9 "__static_attributes__")) (Value.str (S9 "__static_attributes__") 432) (Value.ref 162))]) 5) (List.toArray []))),
  (151, (Obj.mk (Value.type "tuple") (Option.none) (Data.seq (List.toArray []) 0) (List.toArray []))),
  (152, (Obj.mk Value.none (Option.none) (Data.fields (List.toArray [(Value.int 125 0), (Value.int 4 0), (Value.ref 160)])) (List.toArray []))),
  (153, (Obj.mk (Value.type "code") (Option.none) (Data.fields (List.toArray [(Value.str (S9 "UdpDef") 405), (Value.str (S9 "UdpDef") 406), (Value.str (S9 "/claim/cut.py") 407), (Value.int 123 0), (Value.int 0 0), (Value.int 0 0), (Value.int 0 0), (Value.int 0 0), (Value.ref 151), (Value.bool Bool.false), (Value.int 181 0), (Value.ref 152), Value.none, Value.none, Value.none, Value.none, (Value.int 408 0), (Value.int 123 0), (Value.str (S9 "/claim/cut.py") 409)])) (List.toArray []))),
  (154, (Obj.mk (Value.type "frame") (Option.none) Data.plain (List.toArray [(Option.some (Value.ref 153)), (Option.some (Value.ref 3)), (Option.some (Value.ref 150)), (Option.none), (Option.some (Value.str (S9 "gateloom.design") 325)), (Option.none), (Option.some (Value.ref 0))]))),
  (156, (Obj.mk Value.none (Option.none) (Data.fields (List.toArray [])) (List.toArray []))),
  (159, (Obj.mk Value.none (Option.none) (Data.func (FuncData.mk (S9 "__init__") (S9 "UdpDef.__init__") ((sArgs (sAt (sBody (sAt top 17)) 0))) (FuncBody.stmts (sBody (sAt (sBody (sAt top 17)) 0))) (sScope (sAt (sBody (sAt top 17)) 0)) 0 [] Value.none Value.none Value.none Value.none (Option.none) Value.none Value.none 0)) (List.toArray []))),
  (167, (Obj.mk (Value.type "super") (Option.none) (Data.fields (List.toArray [(Value.ref 164), (Value.ref 164), (Value.ref 164)])) (List.toArray []))),
  (168, (Obj.mk (Value.type "builtin_function_or_method") (Option.none) (Data.fields (List.toArray [(Value.builtin "object.__init_subclass__"), (Value.ref 164)])) (List.toArray []))),
  (169, (Obj.mk (Value.type "tuple") (Option.none) (Data.seq (List.toArray []) 0) (List.toArray []))),
  (170, (Obj.mk (Value.type "builtin_function_or_method") (Option.none) (Data.fields (List.toArray [(Value.builtin "type.__prepare__"), (Value.type "type")])) (List.toArray []))),
  (171, (Obj.mk (Value.type "dict") (Option.none) (Data.dict (List.toArray [(DictEntry.mk (PyData.keyHash P (S9 "__module__")) (Value.str (S9 "__module__") 447) (Value.str (S9 "gateloom.design") 325)), (DictEntry.mk (PyData.keyHash P (S9 "__qualname__")) (Value.str (S9 "__qualname__") 449) (Value.str (S9 "Design") 448)), (DictEntry.mk (PyData.keyHash P (S9 "__firstlineno__")) (Value.str (S9 "__firstlineno__") 451) (Value.int 131 450)), (DictEntry.mk (PyData.keyHash P (S9 "__init__")) (Value.str (S9 "__init__") 458) (Value.ref 182)), (DictEntry.mk (PyData.keyHash P (S9 "add_signal")) (Value.str (S9 "add_signal") 472) (Value.ref 189)), (DictEntry.mk (PyData.keyHash P (S9 "add_scope")) (Value.str (S9 "add_scope") 480) (Value.ref 196)), (DictEntry.mk (PyData.keyHash P (S9 "add_routine")) (Value.str (S9 "add_routine") 491) (Value.ref 203)), (DictEntry.mk (PyData.keyHash P (S9 "add_process")) (Value.str (S9 "add_process") 502) (Value.ref 210)), (DictEntry.mk (PyData.keyHash P (S9 "find")) (Value.str (S9 "find") 510) (Value.ref 217)), (DictEntry.mk (PyData.keyHash P (S9 "routine")) (Value.str (S9 "routine") 518) (Value.ref 224)), (DictEntry.mk (PyData.keyHash P (S9 "__static_attributes__")) (Value.str (S9 "__static_attributes__") 531) (Value.ref 225))]) 11) (List.toArray []))),
  (172, (Obj.mk (Value.type "tuple") (Option.none) (Data.seq (List.toArray []) 0) (List.toArray []))),
  (173, (Obj.mk Value.none (Option.none) (Data.fields (List.toArray [(Value.int 133 0), (Value.int 4 0), (Value.ref 181), (Value.int 147 0), (Value.int 4 0), (Value.ref 188), (Value.int 150 0), (Value.int 4 0), (Value.ref 195), (Value.int 153 0), (Value.int 4 0), (Value.ref 202), (Value.int 156 0), (Value.int 4 0), (Value.ref 209), (Value.int 159 0), (Value.int 4 0), (Value.ref 216), (Value.int 162 0), (Value.int 4 0), (Value.ref 223)])) (List.toArray []))),
  (174, (Obj.mk (Value.type "code") (Option.none) (Data.fields (List.toArray [(Value.str (S9 "Design") 442), (Value.str (S9 "Design") 443), (Value.str (S9 "/claim/cut.py") 444), (Value.int 131 0), (Value.int 0 0), (Value.int 0 0), (Value.int 0 0), (Value.int 0 0), (Value.ref 172), (Value.bool Bool.false), (Value.int 181 0), (Value.ref 173), Value.none, Value.none, Value.none, Value.none, (Value.int 445 0), (Value.int 131 0), (Value.str (S9 "/claim/cut.py") 446)])) (List.toArray []))),
  (175, (Obj.mk (Value.type "frame") (Option.none) Data.plain (List.toArray [(Option.some (Value.ref 174)), (Option.some (Value.ref 3)), (Option.some (Value.ref 171)), (Option.none), (Option.some (Value.str (S9 "gateloom.design") 325)), (Option.none), (Option.some (Value.ref 0))]))),
  (177, (Obj.mk Value.none (Option.none) (Data.fields (List.toArray [])) (List.toArray []))),
  (180, (Obj.mk Value.none (Option.none) (Data.func (FuncData.mk (S9 "__init__") (S9 "Design.__init__") ((sArgs (sAt (sBody (sAt top 18)) 0))) (FuncBody.stmts (sBody (sAt (sBody (sAt top 18)) 0))) (sScope (sAt (sBody (sAt top 18)) 0)) 0 [] Value.none Value.none Value.none Value.none (Option.none) Value.none Value.none 0)) (List.toArray []))),
  (184, (Obj.mk Value.none (Option.none) (Data.fields (List.toArray [])) (List.toArray []))),
  (187, (Obj.mk Value.none (Option.none) (Data.func (FuncData.mk (S9 "add_signal") (S9 "Design.add_signal") ((sArgs (sAt (sBody (sAt top 18)) 1))) (FuncBody.stmts (sBody (sAt (sBody (sAt top 18)) 1))) (sScope (sAt (sBody (sAt top 18)) 1)) 0 [] Value.none Value.none Value.none Value.none (Option.none) Value.none Value.none 0)) (List.toArray []))),
  (191, (Obj.mk Value.none (Option.none) (Data.fields (List.toArray [])) (List.toArray []))),
  (194, (Obj.mk Value.none (Option.none) (Data.func (FuncData.mk (S9 "add_scope") (S9 "Design.add_scope") ((sArgs (sAt (sBody (sAt top 18)) 2))) (FuncBody.stmts (sBody (sAt (sBody (sAt top 18)) 2))) (sScope (sAt (sBody (sAt top 18)) 2)) 0 [] Value.none Value.none Value.none Value.none (Option.none) Value.none Value.none 0)) (List.toArray []))),
  (198, (Obj.mk Value.none (Option.none) (Data.fields (List.toArray [])) (List.toArray []))),
  (201, (Obj.mk Value.none (Option.none) (Data.func (FuncData.mk (S9 "add_routine") (S9 "Design.add_routine") ((sArgs (sAt (sBody (sAt top 18)) 3))) (FuncBody.stmts (sBody (sAt (sBody (sAt top 18)) 3))) (sScope (sAt (sBody (sAt top 18)) 3)) 0 [] Value.none Value.none Value.none Value.none (Option.none) Value.none Value.none 0)) (List.toArray []))),
  (205, (Obj.mk Value.none (Option.none) (Data.fields (List.toArray [])) (List.toArray []))),
  (208, (Obj.mk Value.none (Option.none) (Data.func (FuncData.mk (S9 "add_process") (S9 "Design.add_process") ((sArgs (sAt (sBody (sAt top 18)) 4))) (FuncBody.stmts (sBody (sAt (sBody (sAt top 18)) 4))) (sScope (sAt (sBody (sAt top 18)) 4)) 0 [] Value.none Value.none Value.none Value.none (Option.none) Value.none Value.none 0)) (List.toArray []))),
  (212, (Obj.mk Value.none (Option.none) (Data.fields (List.toArray [])) (List.toArray []))),
  (215, (Obj.mk Value.none (Option.none) (Data.func (FuncData.mk (S9 "find") (S9 "Design.find") ((sArgs (sAt (sBody (sAt top 18)) 5))) (FuncBody.stmts (sBody (sAt (sBody (sAt top 18)) 5))) (sScope (sAt (sBody (sAt top 18)) 5)) 0 [] Value.none Value.none Value.none Value.none (Option.none) Value.none Value.none 0)) (List.toArray []))),
  (219, (Obj.mk Value.none (Option.none) (Data.fields (List.toArray [])) (List.toArray []))),
  (222, (Obj.mk Value.none (Option.none) (Data.func (FuncData.mk (S9 "routine") (S9 "Design.routine") ((sArgs (sAt (sBody (sAt top 18)) 6))) (FuncBody.stmts (sBody (sAt (sBody (sAt top 18)) 6))) (sScope (sAt (sBody (sAt top 18)) 6)) 0 [] Value.none Value.none Value.none Value.none (Option.none) Value.none Value.none 0)) (List.toArray []))),
  (230, (Obj.mk (Value.type "super") (Option.none) (Data.fields (List.toArray [(Value.ref 227), (Value.ref 227), (Value.ref 227)])) (List.toArray []))),
  (231, (Obj.mk (Value.type "builtin_function_or_method") (Option.none) (Data.fields (List.toArray [(Value.builtin "object.__init_subclass__"), (Value.ref 227)])) (List.toArray []))),
  (232, (Obj.mk (Value.type "tuple") (Option.none) (Data.seq (List.toArray []) 0) (List.toArray []))),
  (233, (Obj.mk (Value.type "builtin_function_or_method") (Option.none) (Data.fields (List.toArray [(Value.builtin "type.__prepare__"), (Value.type "type")])) (List.toArray []))),
  (234, (Obj.mk (Value.type "dict") (Option.none) (Data.dict (List.toArray [(DictEntry.mk (PyData.keyHash P (S9 "__module__")) (Value.str (S9 "__module__") 548) (Value.str (S9 "gateloom.udps") 539)), (DictEntry.mk (PyData.keyHash P (S9 "__qualname__")) (Value.str (S9 "__qualname__") 550) (Value.str (S9 "Primitive") 549)), (DictEntry.mk (PyData.keyHash P (S9 "__firstlineno__")) (Value.str (S9 "__firstlineno__") 552) (Value.int 165 551)), (DictEntry.mk (PyData.keyHash P (S9 "__init__")) (Value.str (S9 "__init__") 566) (Value.ref 245)), (DictEntry.mk (PyData.keyHash P (S9 "__static_attributes__")) (Value.str (S9 "__static_attributes__") 574) (Value.ref 246))]) 5) (List.toArray []))),
  (235, (Obj.mk (Value.type "tuple") (Option.none) (Data.seq (List.toArray []) 0) (List.toArray []))),
  (236, (Obj.mk Value.none (Option.none) (Data.fields (List.toArray [(Value.int 167 0), (Value.int 4 0), (Value.ref 244)])) (List.toArray []))),
  (237, (Obj.mk (Value.type "code") (Option.none) (Data.fields (List.toArray [(Value.str (S9 "Primitive") 543), (Value.str (S9 "Primitive") 544), (Value.str (S9 "/claim/cut.py") 545), (Value.int 165 0), (Value.int 0 0), (Value.int 0 0), (Value.int 0 0), (Value.int 0 0), (Value.ref 235), (Value.bool Bool.false), (Value.int 181 0), (Value.ref 236), Value.none, Value.none, Value.none, Value.none, (Value.int 546 0), (Value.int 165 0), (Value.str (S9 "/claim/cut.py") 547)])) (List.toArray []))),
  (238, (Obj.mk (Value.type "frame") (Option.none) Data.plain (List.toArray [(Option.some (Value.ref 237)), (Option.some (Value.ref 3)), (Option.some (Value.ref 234)), (Option.none), (Option.some (Value.str (S9 "gateloom.udps") 539)), (Option.none), (Option.some (Value.ref 0))]))),
  (240, (Obj.mk Value.none (Option.none) (Data.fields (List.toArray [])) (List.toArray []))),
  (243, (Obj.mk Value.none (Option.none) (Data.func (FuncData.mk (S9 "__init__") (S9 "Primitive.__init__") ((sArgs (sAt (sBody (sAt top 20)) 0))) (FuncBody.stmts (sBody (sAt (sBody (sAt top 20)) 0))) (sScope (sAt (sBody (sAt top 20)) 0)) 0 [] Value.none Value.none Value.none Value.none (Option.none) Value.none Value.none 0)) (List.toArray []))),
  (251, (Obj.mk (Value.type "super") (Option.none) (Data.fields (List.toArray [(Value.ref 248), (Value.ref 248), (Value.ref 248)])) (List.toArray []))),
  (252, (Obj.mk (Value.type "builtin_function_or_method") (Option.none) (Data.fields (List.toArray [(Value.builtin "object.__init_subclass__"), (Value.ref 248)])) (List.toArray []))),
  (254, (Obj.mk Value.none (Option.none) (Data.fields (List.toArray [])) (List.toArray []))),
  (257, (Obj.mk Value.none (Option.none) (Data.func (FuncData.mk (S9 "_law_keys") (S9 "_law_keys") ((sArgs (sAt top 22))) (FuncBody.stmts (sBody (sAt top 22))) (sScope (sAt top 22)) 0 [] Value.none Value.none Value.none Value.none (Option.none) Value.none Value.none 0)) (List.toArray []))),
  (261, (Obj.mk Value.none (Option.none) (Data.fields (List.toArray [])) (List.toArray []))),
  (264, (Obj.mk Value.none (Option.none) (Data.func (FuncData.mk (S9 "_law_key") (S9 "_law_key") ((sArgs (sAt top 23))) (FuncBody.stmts (sBody (sAt top 23))) (sScope (sAt top 23)) 0 [] Value.none Value.none Value.none Value.none (Option.none) Value.none Value.none 0)) (List.toArray []))),
  (268, (Obj.mk Value.none (Option.none) (Data.fields (List.toArray [])) (List.toArray []))),
  (271, (Obj.mk Value.none (Option.none) (Data.func (FuncData.mk (S9 "_law_source") (S9 "_law_source") ((sArgs (sAt top 24))) (FuncBody.stmts (sBody (sAt top 24))) (sScope (sAt top 24)) 0 [] Value.none Value.none Value.none Value.none (Option.none) Value.none Value.none 0)) (List.toArray []))),
  (275, (Obj.mk Value.none (Option.none) (Data.fields (List.toArray [])) (List.toArray []))),
  (278, (Obj.mk Value.none (Option.none) (Data.func (FuncData.mk (S9 "_law_goal") (S9 "_law_goal") ((sArgs (sAt top 25))) (FuncBody.stmts (sBody (sAt top 25))) (sScope (sAt top 25)) 0 [] Value.none Value.none Value.none Value.none (Option.none) Value.none Value.none 0)) (List.toArray []))),
  (282, (Obj.mk Value.none (Option.none) (Data.fields (List.toArray [])) (List.toArray []))),
  (283, (Obj.mk Value.none (Option.none) (Data.func (FuncData.mk (S9 "law") (S9 "law") ((sArgs (sAt top 26))) (FuncBody.stmts (sBody (sAt top 26))) (sScope (sAt top 26)) 0 [] Value.none Value.none Value.none Value.none (Option.none) Value.none Value.none 0)) (List.toArray [])))]
noncomputable def all9 (P : Params) : Frag := hd.heap_39 P ++ rest P
noncomputable def o12 (P : Params) : Obj := (Obj.mk Value.none (Option.none) (Data.fields (List.toArray [])) (List.toArray []))
noncomputable def h46 (P : Params) : Heap := ⟨⟨[boot_o_0 P, boot_o_1 P, boot_o_2 P, boot_o_3 P, boot_o_4 P, boot_o_5 P, boot_o_6 P, boot_o_7 P, boot_o_8 P, boot_o_9 P, boot_o_10 P, lk (rest P) 11, o12 P, lk (rest P) 13, lk (rest P) 14]⟩, {}⟩
noncomputable def t47 (P : Params) : BT := (fun f : Nat → Obj => .node (f 0) (.node (f 1) (.node (f 3) (.node (f 7) .nil .nil) (.node (f 11) .nil .nil)) (.node (f 5) (.node (f 9) .nil .nil) (.node (f 13) .nil .nil))) (.node (f 2) (.node (f 4) (.node (f 8) .nil .nil) (.node (f 12) .nil .nil)) (.node (f 6) (.node (f 10) .nil .nil) (.node (f 14) .nil .nil)))) (lk ((3, boot_o_3 P) :: (12, o12 P) :: all9 P))
noncomputable def t166 (P : Params) : BT := (fun f : Nat → Obj => .node (f 0) (.node (f 1) (.node (f 3) (.node (f 7) (.node (f 15) (.node (f 31) (.node (f 63) .nil .nil) (.node (f 95) .nil .nil)) (.node (f 47) (.node (f 79) .nil .nil) (.node (f 111) .nil .nil))) (.node (f 23) (.node (f 39) (.node (f 71) .nil .nil) (.node (f 103) .nil .nil)) (.node (f 55) (.node (f 87) .nil .nil) (.node (f 119) .nil .nil)))) (.node (f 11) (.node (f 19) (.node (f 35) (.node (f 67) .nil .nil) (.node (f 99) .nil .nil)) (.node (f 51) (.node (f 83) .nil .nil) (.node (f 115) .nil .nil))) (.node (f 27) (.node (f 43) (.node (f 75) .nil .nil) (.node (f 107) .nil .nil)) (.node (f 59) (.node (f 91) .nil .nil) (.node (f 123) .nil .nil))))) (.node (f 5) (.node (f 9) (.node (f 17) (.node (f 33) (.node (f 65) .nil .nil) (.node (f 97) .nil .nil)) (.node (f 49) (.node (f 81) .nil .nil) (.node (f 113) .nil .nil))) (.node (f 25) (.node (f 41) (.node (f 73) .nil .nil) (.node (f 105) .nil .nil)) (.node (f 57) (.node (f 89) .nil .nil) (.node (f 121) .nil .nil)))) (.node (f 13) (.node (f 21) (.node (f 37) (.node (f 69) .nil .nil) (.node (f 101) .nil .nil)) (.node (f 53) (.node (f 85) .nil .nil) (.node (f 117) .nil .nil))) (.node (f 29) (.node (f 45) (.node (f 77) .nil .nil) (.node (f 109) .nil .nil)) (.node (f 61) (.node (f 93) .nil .nil) (.node (f 125) .nil .nil)))))) (.node (f 2) (.node (f 4) (.node (f 8) (.node (f 16) (.node (f 32) (.node (f 64) .nil .nil) (.node (f 96) .nil .nil)) (.node (f 48) (.node (f 80) .nil .nil) (.node (f 112) .nil .nil))) (.node (f 24) (.node (f 40) (.node (f 72) .nil .nil) (.node (f 104) .nil .nil)) (.node (f 56) (.node (f 88) .nil .nil) (.node (f 120) .nil .nil)))) (.node (f 12) (.node (f 20) (.node (f 36) (.node (f 68) .nil .nil) (.node (f 100) .nil .nil)) (.node (f 52) (.node (f 84) .nil .nil) (.node (f 116) .nil .nil))) (.node (f 28) (.node (f 44) (.node (f 76) .nil .nil) (.node (f 108) .nil .nil)) (.node (f 60) (.node (f 92) .nil .nil) (.node (f 124) .nil .nil))))) (.node (f 6) (.node (f 10) (.node (f 18) (.node (f 34) (.node (f 66) .nil .nil) (.node (f 98) .nil .nil)) (.node (f 50) (.node (f 82) .nil .nil) (.node (f 114) .nil .nil))) (.node (f 26) (.node (f 42) (.node (f 74) .nil .nil) (.node (f 106) .nil .nil)) (.node (f 58) (.node (f 90) .nil .nil) (.node (f 122) .nil .nil)))) (.node (f 14) (.node (f 22) (.node (f 38) (.node (f 70) .nil .nil) (.node (f 102) .nil .nil)) (.node (f 54) (.node (f 86) .nil .nil) (.node (f 118) .nil .nil))) (.node (f 30) (.node (f 46) (.node (f 78) .nil .nil) (.node (f 110) .nil .nil)) (.node (f 62) (.node (f 94) .nil .nil) (.node (f 126) .nil .nil))))))) (lk ((3, (Obj.mk (Value.type "dict") (Option.none) (Data.dict (List.toArray [(DictEntry.mk (PyData.keyHash P (S9 "__name__")) (Value.str (S9 "__name__") 165) (Value.str (S9 "gateloom.design") 325)), (DictEntry.mk (PyData.keyHash P (S9 "__doc__")) (Value.str (S9 "__doc__") 166) Value.none), (DictEntry.mk (PyData.keyHash P (S9 "__package__")) (Value.str (S9 "__package__") 167) Value.none), (DictEntry.mk (PyData.keyHash P (S9 "__loader__")) (Value.str (S9 "__loader__") 168) (Value.builtin "__main__.__loader__#opaque")), (DictEntry.mk (PyData.keyHash P (S9 "__spec__")) (Value.str (S9 "__spec__") 169) Value.none), (DictEntry.mk (PyData.keyHash P (S9 "__annotations__")) (Value.str (S9 "__annotations__") 170) (Value.ref 6)), (DictEntry.mk (PyData.keyHash P (S9 "__builtins__")) (Value.str (S9 "__builtins__") 171) (Value.ref 4)), (DictEntry.mk (PyData.keyHash P (S9 "__file__")) (Value.str (S9 "__file__") 173) (Value.str (S9 "/claim/cut.py") 172)), (DictEntry.mk (PyData.keyHash P (S9 "__cached__")) (Value.str (S9 "__cached__") 174) Value.none), (DictEntry.mk (PyData.keyHash P (S9 "_wall")) (Value.str (S9 "_wall") 193) (Value.ref 21)), (DictEntry.mk (PyData.keyHash P (S9 "default_strength")) (Value.str (S9 "default_strength") 202) (Value.ref 28)), (DictEntry.mk (PyData.keyHash P (S9 "children")) (Value.str (S9 "children") 212) (Value.ref 35)), (DictEntry.mk (PyData.keyHash P (S9 "subexpressions")) (Value.str (S9 "subexpressions") 223) (Value.ref 42)), (DictEntry.mk (PyData.keyHash P (S9 "expr_reads")) (Value.str (S9 "expr_reads") 232) (Value.ref 49)), (DictEntry.mk (PyData.keyHash P (S9 "target_indexes")) (Value.str (S9 "target_indexes") 241) (Value.ref 56)), (DictEntry.mk (PyData.keyHash P (S9 "target_reads")) (Value.str (S9 "target_reads") 251) (Value.ref 63)), (DictEntry.mk (PyData.keyHash P (S9 "Element")) (Value.str (S9 "Element") 294) (Value.ref 80)), (DictEntry.mk (PyData.keyHash P (S9 "make_elements")) (Value.str (S9 "make_elements") 305) (Value.ref 91)), (DictEntry.mk (PyData.keyHash P (S9 "element_targets")) (Value.str (S9 "element_targets") 312) (Value.ref 98)), (DictEntry.mk (PyData.keyHash P (S9 "element_reads")) (Value.str (S9 "element_reads") 324) (Value.ref 105)), (DictEntry.mk (PyData.keyHash P (S9 "AssignDef")) (Value.str (S9 "AssignDef") 363) (Value.ref 122))]) 21) (List.toArray []))) ::
  (12, (Obj.mk Value.none (Option.none) (Data.fields (List.toArray [(Value.int 1 0), (Value.int 0 0), (Value.ref 20), (Value.int 5 0), (Value.int 0 0), (Value.ref 27), (Value.int 10 0), (Value.int 0 0), (Value.ref 34), (Value.int 29 0), (Value.int 0 0), (Value.ref 41), (Value.int 38 0), (Value.int 0 0), (Value.ref 48), (Value.int 44 0), (Value.int 0 0), (Value.ref 55), (Value.int 52 0), (Value.int 0 0), (Value.ref 62), (Value.int 59 0), (Value.int 0 0), (Value.ref 69), (Value.int 72 0), (Value.int 0 0), (Value.ref 90), (Value.int 86 0), (Value.int 0 0), (Value.ref 97), (Value.int 92 0), (Value.int 0 0), (Value.ref 104), (Value.int 106 0), (Value.int 0 0), (Value.ref 111)])) (List.toArray []))) ::
  all9 P))
noncomputable def t277 (P : Params) : BT := (fun f : Nat → Obj => .node (f 0) (.node (f 1) (.node (f 3) (.node (f 7) (.node (f 15) (.node (f 31) (.node (f 63) (.node (f 127) .nil .nil) (.node (f 191) .nil .nil)) (.node (f 95) (.node (f 159) .nil .nil) (.node (f 223) .nil .nil))) (.node (f 47) (.node (f 79) (.node (f 143) .nil .nil) (.node (f 207) .nil .nil)) (.node (f 111) (.node (f 175) .nil .nil) .nil))) (.node (f 23) (.node (f 39) (.node (f 71) (.node (f 135) .nil .nil) (.node (f 199) .nil .nil)) (.node (f 103) (.node (f 167) .nil .nil) (.node (f 231) .nil .nil))) (.node (f 55) (.node (f 87) (.node (f 151) .nil .nil) (.node (f 215) .nil .nil)) (.node (f 119) (.node (f 183) .nil .nil) .nil)))) (.node (f 11) (.node (f 19) (.node (f 35) (.node (f 67) (.node (f 131) .nil .nil) (.node (f 195) .nil .nil)) (.node (f 99) (.node (f 163) .nil .nil) (.node (f 227) .nil .nil))) (.node (f 51) (.node (f 83) (.node (f 147) .nil .nil) (.node (f 211) .nil .nil)) (.node (f 115) (.node (f 179) .nil .nil) .nil))) (.node (f 27) (.node (f 43) (.node (f 75) (.node (f 139) .nil .nil) (.node (f 203) .nil .nil)) (.node (f 107) (.node (f 171) .nil .nil) .nil)) (.node (f 59) (.node (f 91) (.node (f 155) .nil .nil) (.node (f 219) .nil .nil)) (.node (f 123) (.node (f 187) .nil .nil) .nil))))) (.node (f 5) (.node (f 9) (.node (f 17) (.node (f 33) (.node (f 65) (.node (f 129) .nil .nil) (.node (f 193) .nil .nil)) (.node (f 97) (.node (f 161) .nil .nil) (.node (f 225) .nil .nil))) (.node (f 49) (.node (f 81) (.node (f 145) .nil .nil) (.node (f 209) .nil .nil)) (.node (f 113) (.node (f 177) .nil .nil) .nil))) (.node (f 25) (.node (f 41) (.node (f 73) (.node (f 137) .nil .nil) (.node (f 201) .nil .nil)) (.node (f 105) (.node (f 169) .nil .nil) .nil)) (.node (f 57) (.node (f 89) (.node (f 153) .nil .nil) (.node (f 217) .nil .nil)) (.node (f 121) (.node (f 185) .nil .nil) .nil)))) (.node (f 13) (.node (f 21) (.node (f 37) (.node (f 69) (.node (f 133) .nil .nil) (.node (f 197) .nil .nil)) (.node (f 101) (.node (f 165) .nil .nil) (.node (f 229) .nil .nil))) (.node (f 53) (.node (f 85) (.node (f 149) .nil .nil) (.node (f 213) .nil .nil)) (.node (f 117) (.node (f 181) .nil .nil) .nil))) (.node (f 29) (.node (f 45) (.node (f 77) (.node (f 141) .nil .nil) (.node (f 205) .nil .nil)) (.node (f 109) (.node (f 173) .nil .nil) .nil)) (.node (f 61) (.node (f 93) (.node (f 157) .nil .nil) (.node (f 221) .nil .nil)) (.node (f 125) (.node (f 189) .nil .nil) .nil)))))) (.node (f 2) (.node (f 4) (.node (f 8) (.node (f 16) (.node (f 32) (.node (f 64) (.node (f 128) .nil .nil) (.node (f 192) .nil .nil)) (.node (f 96) (.node (f 160) .nil .nil) (.node (f 224) .nil .nil))) (.node (f 48) (.node (f 80) (.node (f 144) .nil .nil) (.node (f 208) .nil .nil)) (.node (f 112) (.node (f 176) .nil .nil) .nil))) (.node (f 24) (.node (f 40) (.node (f 72) (.node (f 136) .nil .nil) (.node (f 200) .nil .nil)) (.node (f 104) (.node (f 168) .nil .nil) .nil)) (.node (f 56) (.node (f 88) (.node (f 152) .nil .nil) (.node (f 216) .nil .nil)) (.node (f 120) (.node (f 184) .nil .nil) .nil)))) (.node (f 12) (.node (f 20) (.node (f 36) (.node (f 68) (.node (f 132) .nil .nil) (.node (f 196) .nil .nil)) (.node (f 100) (.node (f 164) .nil .nil) (.node (f 228) .nil .nil))) (.node (f 52) (.node (f 84) (.node (f 148) .nil .nil) (.node (f 212) .nil .nil)) (.node (f 116) (.node (f 180) .nil .nil) .nil))) (.node (f 28) (.node (f 44) (.node (f 76) (.node (f 140) .nil .nil) (.node (f 204) .nil .nil)) (.node (f 108) (.node (f 172) .nil .nil) .nil)) (.node (f 60) (.node (f 92) (.node (f 156) .nil .nil) (.node (f 220) .nil .nil)) (.node (f 124) (.node (f 188) .nil .nil) .nil))))) (.node (f 6) (.node (f 10) (.node (f 18) (.node (f 34) (.node (f 66) (.node (f 130) .nil .nil) (.node (f 194) .nil .nil)) (.node (f 98) (.node (f 162) .nil .nil) (.node (f 226) .nil .nil))) (.node (f 50) (.node (f 82) (.node (f 146) .nil .nil) (.node (f 210) .nil .nil)) (.node (f 114) (.node (f 178) .nil .nil) .nil))) (.node (f 26) (.node (f 42) (.node (f 74) (.node (f 138) .nil .nil) (.node (f 202) .nil .nil)) (.node (f 106) (.node (f 170) .nil .nil) .nil)) (.node (f 58) (.node (f 90) (.node (f 154) .nil .nil) (.node (f 218) .nil .nil)) (.node (f 122) (.node (f 186) .nil .nil) .nil)))) (.node (f 14) (.node (f 22) (.node (f 38) (.node (f 70) (.node (f 134) .nil .nil) (.node (f 198) .nil .nil)) (.node (f 102) (.node (f 166) .nil .nil) (.node (f 230) .nil .nil))) (.node (f 54) (.node (f 86) (.node (f 150) .nil .nil) (.node (f 214) .nil .nil)) (.node (f 118) (.node (f 182) .nil .nil) .nil))) (.node (f 30) (.node (f 46) (.node (f 78) (.node (f 142) .nil .nil) (.node (f 206) .nil .nil)) (.node (f 110) (.node (f 174) .nil .nil) .nil)) (.node (f 62) (.node (f 94) (.node (f 158) .nil .nil) (.node (f 222) .nil .nil)) (.node (f 126) (.node (f 190) .nil .nil) .nil))))))) (lk ((3, (Obj.mk (Value.type "dict") (Option.none) (Data.dict (List.toArray [(DictEntry.mk (PyData.keyHash P (S9 "__name__")) (Value.str (S9 "__name__") 165) (Value.str (S9 "gateloom.design") 325)), (DictEntry.mk (PyData.keyHash P (S9 "__doc__")) (Value.str (S9 "__doc__") 166) Value.none), (DictEntry.mk (PyData.keyHash P (S9 "__package__")) (Value.str (S9 "__package__") 167) Value.none), (DictEntry.mk (PyData.keyHash P (S9 "__loader__")) (Value.str (S9 "__loader__") 168) (Value.builtin "__main__.__loader__#opaque")), (DictEntry.mk (PyData.keyHash P (S9 "__spec__")) (Value.str (S9 "__spec__") 169) Value.none), (DictEntry.mk (PyData.keyHash P (S9 "__annotations__")) (Value.str (S9 "__annotations__") 170) (Value.ref 6)), (DictEntry.mk (PyData.keyHash P (S9 "__builtins__")) (Value.str (S9 "__builtins__") 171) (Value.ref 4)), (DictEntry.mk (PyData.keyHash P (S9 "__file__")) (Value.str (S9 "__file__") 173) (Value.str (S9 "/claim/cut.py") 172)), (DictEntry.mk (PyData.keyHash P (S9 "__cached__")) (Value.str (S9 "__cached__") 174) Value.none), (DictEntry.mk (PyData.keyHash P (S9 "_wall")) (Value.str (S9 "_wall") 193) (Value.ref 21)), (DictEntry.mk (PyData.keyHash P (S9 "default_strength")) (Value.str (S9 "default_strength") 202) (Value.ref 28)), (DictEntry.mk (PyData.keyHash P (S9 "children")) (Value.str (S9 "children") 212) (Value.ref 35)), (DictEntry.mk (PyData.keyHash P (S9 "subexpressions")) (Value.str (S9 "subexpressions") 223) (Value.ref 42)), (DictEntry.mk (PyData.keyHash P (S9 "expr_reads")) (Value.str (S9 "expr_reads") 232) (Value.ref 49)), (DictEntry.mk (PyData.keyHash P (S9 "target_indexes")) (Value.str (S9 "target_indexes") 241) (Value.ref 56)), (DictEntry.mk (PyData.keyHash P (S9 "target_reads")) (Value.str (S9 "target_reads") 251) (Value.ref 63)), (DictEntry.mk (PyData.keyHash P (S9 "Element")) (Value.str (S9 "Element") 294) (Value.ref 80)), (DictEntry.mk (PyData.keyHash P (S9 "make_elements")) (Value.str (S9 "make_elements") 305) (Value.ref 91)), (DictEntry.mk (PyData.keyHash P (S9 "element_targets")) (Value.str (S9 "element_targets") 312) (Value.ref 98)), (DictEntry.mk (PyData.keyHash P (S9 "element_reads")) (Value.str (S9 "element_reads") 324) (Value.ref 105)), (DictEntry.mk (PyData.keyHash P (S9 "AssignDef")) (Value.str (S9 "AssignDef") 363) (Value.ref 122)), (DictEntry.mk (PyData.keyHash P (S9 "GateDef")) (Value.str (S9 "GateDef") 402) (Value.ref 143)), (DictEntry.mk (PyData.keyHash P (S9 "UdpDef")) (Value.str (S9 "UdpDef") 439) (Value.ref 164)), (DictEntry.mk (PyData.keyHash P (S9 "Design")) (Value.str (S9 "Design") 538) (Value.ref 227))]) 24) (List.toArray []))) ::
  (12, (Obj.mk Value.none (Option.none) (Data.fields (List.toArray [(Value.int 1 0), (Value.int 0 0), (Value.ref 20), (Value.int 5 0), (Value.int 0 0), (Value.ref 27), (Value.int 10 0), (Value.int 0 0), (Value.ref 34), (Value.int 29 0), (Value.int 0 0), (Value.ref 41), (Value.int 38 0), (Value.int 0 0), (Value.ref 48), (Value.int 44 0), (Value.int 0 0), (Value.ref 55), (Value.int 52 0), (Value.int 0 0), (Value.ref 62), (Value.int 59 0), (Value.int 0 0), (Value.ref 69), (Value.int 72 0), (Value.int 0 0), (Value.ref 90), (Value.int 86 0), (Value.int 0 0), (Value.ref 97), (Value.int 92 0), (Value.int 0 0), (Value.ref 104), (Value.int 106 0), (Value.int 0 0), (Value.ref 111), (Value.int 114 0), (Value.int 0 0), (Value.ref 132), (Value.int 123 0), (Value.int 0 0), (Value.ref 153), (Value.int 131 0), (Value.int 0 0), (Value.ref 174)])) (List.toArray []))) ::
  all9 P))
noncomputable def t335 (P : Params) : BT := (fun f : Nat → Obj => .node (f 0) (.node (f 1) (.node (f 3) (.node (f 7) (.node (f 15) (.node (f 31) (.node (f 63) (.node (f 127) (.node (f 255) .nil .nil) .nil) (.node (f 191) .nil .nil)) (.node (f 95) (.node (f 159) .nil .nil) (.node (f 223) .nil .nil))) (.node (f 47) (.node (f 79) (.node (f 143) (.node (f 271) .nil .nil) .nil) (.node (f 207) .nil .nil)) (.node (f 111) (.node (f 175) .nil .nil) (.node (f 239) .nil .nil)))) (.node (f 23) (.node (f 39) (.node (f 71) (.node (f 135) (.node (f 263) .nil .nil) .nil) (.node (f 199) .nil .nil)) (.node (f 103) (.node (f 167) .nil .nil) (.node (f 231) .nil .nil))) (.node (f 55) (.node (f 87) (.node (f 151) (.node (f 279) .nil .nil) .nil) (.node (f 215) .nil .nil)) (.node (f 119) (.node (f 183) .nil .nil) (.node (f 247) .nil .nil))))) (.node (f 11) (.node (f 19) (.node (f 35) (.node (f 67) (.node (f 131) (.node (f 259) .nil .nil) .nil) (.node (f 195) .nil .nil)) (.node (f 99) (.node (f 163) .nil .nil) (.node (f 227) .nil .nil))) (.node (f 51) (.node (f 83) (.node (f 147) (.node (f 275) .nil .nil) .nil) (.node (f 211) .nil .nil)) (.node (f 115) (.node (f 179) .nil .nil) (.node (f 243) .nil .nil)))) (.node (f 27) (.node (f 43) (.node (f 75) (.node (f 139) (.node (f 267) .nil .nil) .nil) (.node (f 203) .nil .nil)) (.node (f 107) (.node (f 171) .nil .nil) (.node (f 235) .nil .nil))) (.node (f 59) (.node (f 91) (.node (f 155) (.node (f 283) .nil .nil) .nil) (.node (f 219) .nil .nil)) (.node (f 123) (.node (f 187) .nil .nil) (.node (f 251) .nil .nil)))))) (.node (f 5) (.node (f 9) (.node (f 17) (.node (f 33) (.node (f 65) (.node (f 129) (.node (f 257) .nil .nil) .nil) (.node (f 193) .nil .nil)) (.node (f 97) (.node (f 161) .nil .nil) (.node (f 225) .nil .nil))) (.node (f 49) (.node (f 81) (.node (f 145) (.node (f 273) .nil .nil) .nil) (.node (f 209) .nil .nil)) (.node (f 113) (.node (f 177) .nil .nil) (.node (f 241) .nil .nil)))) (.node (f 25) (.node (f 41) (.node (f 73) (.node (f 137) (.node (f 265) .nil .nil) .nil) (.node (f 201) .nil .nil)) (.node (f 105) (.node (f 169) .nil .nil) (.node (f 233) .nil .nil))) (.node (f 57) (.node (f 89) (.node (f 153) (.node (f 281) .nil .nil) .nil) (.node (f 217) .nil .nil)) (.node (f 121) (.node (f 185) .nil .nil) (.node (f 249) .nil .nil))))) (.node (f 13) (.node (f 21) (.node (f 37) (.node (f 69) (.node (f 133) (.node (f 261) .nil .nil) .nil) (.node (f 197) .nil .nil)) (.node (f 101) (.node (f 165) .nil .nil) (.node (f 229) .nil .nil))) (.node (f 53) (.node (f 85) (.node (f 149) (.node (f 277) .nil .nil) .nil) (.node (f 213) .nil .nil)) (.node (f 117) (.node (f 181) .nil .nil) (.node (f 245) .nil .nil)))) (.node (f 29) (.node (f 45) (.node (f 77) (.node (f 141) (.node (f 269) .nil .nil) .nil) (.node (f 205) .nil .nil)) (.node (f 109) (.node (f 173) .nil .nil) (.node (f 237) .nil .nil))) (.node (f 61) (.node (f 93) (.node (f 157) (.node (f 285) .nil .nil) .nil) (.node (f 221) .nil .nil)) (.node (f 125) (.node (f 189) .nil .nil) (.node (f 253) .nil .nil))))))) (.node (f 2) (.node (f 4) (.node (f 8) (.node (f 16) (.node (f 32) (.node (f 64) (.node (f 128) (.node (f 256) .nil .nil) .nil) (.node (f 192) .nil .nil)) (.node (f 96) (.node (f 160) .nil .nil) (.node (f 224) .nil .nil))) (.node (f 48) (.node (f 80) (.node (f 144) (.node (f 272) .nil .nil) .nil) (.node (f 208) .nil .nil)) (.node (f 112) (.node (f 176) .nil .nil) (.node (f 240) .nil .nil)))) (.node (f 24) (.node (f 40) (.node (f 72) (.node (f 136) (.node (f 264) .nil .nil) .nil) (.node (f 200) .nil .nil)) (.node (f 104) (.node (f 168) .nil .nil) (.node (f 232) .nil .nil))) (.node (f 56) (.node (f 88) (.node (f 152) (.node (f 280) .nil .nil) .nil) (.node (f 216) .nil .nil)) (.node (f 120) (.node (f 184) .nil .nil) (.node (f 248) .nil .nil))))) (.node (f 12) (.node (f 20) (.node (f 36) (.node (f 68) (.node (f 132) (.node (f 260) .nil .nil) .nil) (.node (f 196) .nil .nil)) (.node (f 100) (.node (f 164) .nil .nil) (.node (f 228) .nil .nil))) (.node (f 52) (.node (f 84) (.node (f 148) (.node (f 276) .nil .nil) .nil) (.node (f 212) .nil .nil)) (.node (f 116) (.node (f 180) .nil .nil) (.node (f 244) .nil .nil)))) (.node (f 28) (.node (f 44) (.node (f 76) (.node (f 140) (.node (f 268) .nil .nil) .nil) (.node (f 204) .nil .nil)) (.node (f 108) (.node (f 172) .nil .nil) (.node (f 236) .nil .nil))) (.node (f 60) (.node (f 92) (.node (f 156) (.node (f 284) .nil .nil) .nil) (.node (f 220) .nil .nil)) (.node (f 124) (.node (f 188) .nil .nil) (.node (f 252) .nil .nil)))))) (.node (f 6) (.node (f 10) (.node (f 18) (.node (f 34) (.node (f 66) (.node (f 130) (.node (f 258) .nil .nil) .nil) (.node (f 194) .nil .nil)) (.node (f 98) (.node (f 162) .nil .nil) (.node (f 226) .nil .nil))) (.node (f 50) (.node (f 82) (.node (f 146) (.node (f 274) .nil .nil) .nil) (.node (f 210) .nil .nil)) (.node (f 114) (.node (f 178) .nil .nil) (.node (f 242) .nil .nil)))) (.node (f 26) (.node (f 42) (.node (f 74) (.node (f 138) (.node (f 266) .nil .nil) .nil) (.node (f 202) .nil .nil)) (.node (f 106) (.node (f 170) .nil .nil) (.node (f 234) .nil .nil))) (.node (f 58) (.node (f 90) (.node (f 154) (.node (f 282) .nil .nil) .nil) (.node (f 218) .nil .nil)) (.node (f 122) (.node (f 186) .nil .nil) (.node (f 250) .nil .nil))))) (.node (f 14) (.node (f 22) (.node (f 38) (.node (f 70) (.node (f 134) (.node (f 262) .nil .nil) .nil) (.node (f 198) .nil .nil)) (.node (f 102) (.node (f 166) .nil .nil) (.node (f 230) .nil .nil))) (.node (f 54) (.node (f 86) (.node (f 150) (.node (f 278) .nil .nil) .nil) (.node (f 214) .nil .nil)) (.node (f 118) (.node (f 182) .nil .nil) (.node (f 246) .nil .nil)))) (.node (f 30) (.node (f 46) (.node (f 78) (.node (f 142) (.node (f 270) .nil .nil) .nil) (.node (f 206) .nil .nil)) (.node (f 110) (.node (f 174) .nil .nil) (.node (f 238) .nil .nil))) (.node (f 62) (.node (f 94) (.node (f 158) .nil .nil) (.node (f 222) .nil .nil)) (.node (f 126) (.node (f 190) .nil .nil) (.node (f 254) .nil .nil)))))))) (lk (all9 P))
abbrev PP : Program := PySem.Challenge.pw_pq0458_01
abbrev q0 : Pos := ⟨0, 0, 0, 0⟩
noncomputable def env9 : Env := { scope := PP.main.scope, locals := mainNs, globals := mainNs, cells := [], code := .ref 13, frame := some 14 }
noncomputable abbrev c9 : Code := .body (behindTheImports PP) env9
abbrev sT (t : BT) (n k : Nat) (os : OsState) : SharedT := ⟨t, n, {}, ⟨[]⟩, {}, k, os⟩
noncomputable def h9 (P : Params) : Heap := (fun f : Nat → Obj => ⟨⟨[f 0, f 1, f 2, f 3, f 4, f 5, f 6, f 7, f 8, f 9, f 10, f 11, f 12, f 13, f 14, f 15, f 16, f 17, f 18, f 19, f 20, f 21, f 22, f 23, f 24, f 25, f 26, f 27, f 28, f 29, f 30, f 31, f 32, f 33, f 34, f 35, f 36, f 37, f 38, f 39, f 40, f 41, f 42, f 43, f 44, f 45, f 46, f 47, f 48, f 49, f 50, f 51, f 52, f 53, f 54, f 55, f 56, f 57, f 58, f 59, f 60, f 61, f 62, f 63, f 64, f 65, f 66, f 67, f 68, f 69, f 70, f 71, f 72, f 73, f 74, f 75, f 76, f 77, f 78, f 79, f 80, f 81, f 82, f 83, f 84, f 85, f 86, f 87, f 88, f 89, f 90, f 91, f 92, f 93, f 94, f 95, f 96, f 97, f 98, f 99, f 100, f 101, f 102, f 103, f 104, f 105, f 106, f 107, f 108, f 109, f 110, f 111, f 112, f 113, f 114, f 115, f 116, f 117, f 118, f 119, f 120, f 121, f 122, f 123, f 124, f 125, f 126, f 127, f 128, f 129, f 130, f 131, f 132, f 133, f 134, f 135, f 136, f 137, f 138, f 139, f 140, f 141, f 142, f 143, f 144, f 145, f 146, f 147, f 148, f 149, f 150, f 151, f 152, f 153, f 154, f 155, f 156, f 157, f 158, f 159, f 160, f 161, f 162, f 163, f 164, f 165, f 166, f 167, f 168, f 169, f 170, f 171, f 172, f 173, f 174, f 175, f 176, f 177, f 178, f 179, f 180, f 181, f 182, f 183, f 184, f 185, f 186, f 187, f 188, f 189, f 190, f 191, f 192, f 193, f 194, f 195, f 196, f 197, f 198, f 199, f 200, f 201, f 202, f 203, f 204, f 205, f 206, f 207, f 208, f 209, f 210, f 211, f 212, f 213, f 214, f 215, f 216, f 217, f 218, f 219, f 220, f 221, f 222, f 223, f 224, f 225, f 226, f 227, f 228, f 229, f 230, f 231, f 232, f 233, f 234, f 235, f 236, f 237, f 238, f 239, f 240, f 241, f 242, f 243, f 244, f 245, f 246, f 247, f 248, f 249, f 250, f 251, f 252, f 253, f 254, f 255, f 256, f 257, f 258, f 259, f 260, f 261, f 262, f 263, f 264, f 265, f 266, f 267, f 268, f 269, f 270, f 271, f 272, f 273, f 274, f 275, f 276, f 277, f 278, f 279, f 280, f 281, f 282, f 283, f 284, f 285]⟩, {}⟩) (lk (all9 P))
theorem p_pre (w : World) : (fun os => topGo treeTable PP w 11 (some (.ref 6)) 12 ⟨boot_heap w.params, ⟨[]⟩, boot_drawn, boot_toks, os⟩ (topStub PP)) = fun os => some (⟨h46 w.params, ⟨[]⟩, {}, 187, os⟩, ⟨denote treeTable c9, c9, q0, [topFrame q0]⟩) := by kernel_rfl
theorem p_block (w : World) : (fun os => segRun treeTable PP w 11 (some (.ref 6)) 1 1 ⟨h46 w.params, ⟨[]⟩, {}, 187, os⟩ (blockOf (behindTheImports PP) env9 c9 q0 [topFrame q0])) = fun os => some (.next, (sT (t47 w.params) 15 187 os).abs, c9, q0) := by kernel_rfl
theorem p_seg0 (w : World) : (fun os => segRunT treeTable PP w 11 (some (.ref 6)) 1 815 (sT (t47 w.params) 15 187 os) (piecesOf ((behindTheImports PP).take 16) env9 c9 q0 [topFrame q0])) = fun os => some (.next, sT (t166 w.params) 127 364 os, c9, ⟨106, 0, 113, 20⟩) := by kernel_rfl
theorem p_seg1 (w : World) : (fun os => segRunT treeTable PP w 11 (some (.ref 6)) 1 902 (sT (t166 w.params) 127 364 os) (piecesOf (((behindTheImports PP).drop 16).take 3) env9 c9 ⟨106, 0, 113, 20⟩ [topFrame q0])) = fun os => some (.next, sT (t277 w.params) 232 539 os, c9, ⟨131, 0, 163, 16⟩) := by kernel_rfl
theorem p_seg2 (w : World) : (fun os => segRunT treeTable PP w 11 (some (.ref 6)) 1 409 (sT (t277 w.params) 232 539 os) (piecesOf ((behindTheImports PP).drop 19) env9 c9 ⟨131, 0, 163, 16⟩ [topFrame q0])) = fun os => some (.next, sT (t335 w.params) 286 630 os, c9, ⟨208, 0, 248, 15⟩) := by kernel_rfl
theorem p_fin (w : World) : (fun os => topRun treeTable PP w 11 (some (.ref 6)) 2 (sT (t335 w.params) 286 630 os).abs ⟨doneF .next, c9, ⟨208, 0, 248, 15⟩, [topFrame q0]⟩) = fun os => some ⟨h9 w.params, ⟨[]⟩, {}, 630, os⟩ := by kernel_rfl
theorem p_cells : behindTheImports PP = ((behindTheImports PP).take 16) ++ ((((behindTheImports PP).drop 16).take 3) ++ (((behindTheImports PP).drop 19) ++ [])) := by kernel_rfl
theorem p_run (w : World) (os : OsState) : topRun treeTable PP w 11 (some (.ref 6)) (12 + (1 + (815 + (902 + (409 + 2))))) ⟨boot_heap w.params, ⟨[]⟩, boot_drawn, boot_toks, os⟩ (topStub PP) = some ⟨h9 w.params, ⟨[]⟩, {}, 630, os⟩ :=
  go_top (congrFun (p_pre w) os) (piece_block (congrFun (p_block w) os) (p_cells ▸ piece_app (segRun_of (congrFun (p_seg0 w) os)) (piece_app (segRun_of (congrFun (p_seg1 w) os)) (piece_app (segRun_of (congrFun (p_seg2 w) os)) (piece_nil (congrFun (p_fin w) os))))))
theorem p_open : ∀ w : World, (fencedOpening treeTable PP w 4356).map (fun s => (s.heap, s.gens, s.drawn, s.toks)) = some (boot_heap w.params, Array.mk [], boot_drawn, boot_toks) :=
  boot_open (by kernel_rfl) (by decide) (fun s => by kernel_rfl)
theorem p_size : ∀ w : World, ((boot_heap w.params).isNs mainGlobals && (Array.mk [] : Array GenState).size == 0, (boot_heap w.params).objs.size, (boot_heap w.params).nsMap mainGlobals "__annotations__") = (true, 11, some (Value.ref 6)) := fun w => by kernel_rfl
theorem p_look1 (w : World) : (fun os => (staticsOk (importedModules PP.main.body) (boot_heap w.params) (h9 w.params) && namesBound PP (h9 w.params) && gensDone ⟨h9 w.params, ⟨[]⟩, {}, 630, os⟩ && laidKept (boot_heap w.params) (h9 w.params))) = fun _ => true := by kernel_rfl
theorem p_look2 (w : World) : (fun os => openSeen hd.view_39 [] (importedModules PP.main.body) (fun s => xlAt hd.view_39 [] s && recOk [] s) true ⟨h9 w.params, ⟨[]⟩, {}, 630, os⟩) = fun _ => openGood hd.view_39 [] := by kernel_rfl
theorem p_look3 (w : World) : (fun os => (kHook hd.heap_39 hdAs (fun _ => by kernel_rfl)).obs ⟨h9 w.params, ⟨[]⟩, {}, 630, os⟩) = fun _ => (kHook hd.heap_39 hdAs (fun _ => by kernel_rfl)).val w := by kernel_rfl
theorem hd_left : LeftO PP hd.view_39 [] (fun s => xlAt hd.view_39 [] s && recOk [] s) (kHook hd.heap_39 hdAs (fun _ => by kernel_rfl)).obs (kHook hd.heap_39 hdAs (fun _ => by kernel_rfl)).val 4356 :=
  LeftO.of_pieces (H₀ := boot_heap) (H₁ := h9) (gs₀ := ⟨[]⟩) (gs₁ := ⟨[]⟩) (d₀ := boot_drawn) (d₁ := {}) (k₀ := boot_toks) (k₁ := 630) (m₀ := 11) (ann := some (.ref 6)) p_open p_size p_run (by decide) fun w => funext fun os => looks_pair (congrFun (p_look1 w) os) (looks_pair (congrFun (p_look2 w) os) (congrFun (p_look3 w) os))
theorem law_said : PySem.Challenge.rw_pq0458_01.wellSaid = true := by
  unfold OpenLaw.wellSaid OpenRow.wellSaid OpenRow.partSaid looksOpen
  repeat' (with_reducible refine look_both ?_ ?_)
  all_goals decide +kernel
theorem hd_ok : (chainsOk hd.view_39 && opensWell PySem.Challenge.rw_pq0458_01.row.prog && (frees PySem.Challenge.rw_pq0458_01.row.toRowW && PySem.Challenge.rw_pq0458_01.row.within.isEmpty)) = true := by decide +kernel
theorem hd_of {d : DefRec} {kwd : List (PySem.Str × PySem.Expr)} (hdef : defOf hd.view_39 PySem.Challenge.rw_pq0458_01.row.name = some (d, kwd)) (hp : PySem.Challenge.rw_pq0458_01.row.prog.theDef PySem.Challenge.rw_pq0458_01.row.name = some (d.params, d.body, d.scope)) (hk : kwWritten? d.params.kwonlyargs d.params.kw_defaults = some kwd)
    (call : WalkO hd.view_39 [] (XL hd.view_39 []) (kHook hd.heap_39 hdAs (fun _ => by kernel_rfl)).says PySem.Challenge.rw_pq0458_01.row.toRowW d kwd fun f vs => PySem.call f vs) : PySem.Challenge.rw_pq0458_01.Holds := by
  refine holds_law law_said fun said => ?_
  refine holds_open (q := hd.view_39) (loose := []) (Xt := fun s => xlAt hd.view_39 [] s && recOk [] s) (XP := XL hd.view_39 []) (Yf := (kHook hd.heap_39 hdAs (fun _ => by kernel_rfl)).obs) (Ya := (kHook hd.heap_39 hdAs (fun _ => by kernel_rfl)).val) (YP := (kHook hd.heap_39 hdAs (fun _ => by kernel_rfl)).says) (N := 4356) hd_left (Hook.of _) (Hook.keeps _) (fun s e => xl_of s (Bool.and_eq_true_iff.mp e).1) XL.keeps hdef hp hk (fun s e => recFacts_of (Bool.and_eq_true_iff.mp e).2) (by rfl) said hd_ok ⟨rfl, rfl, rfl, rfl, rfl, by decide +kernel⟩ ?hw call
  w_witness2
variable {w : World} {mean : ExcName → Option Value} {mg mb : Str → Option Value}
/-- a call of a def of the text, from any frame -/
def Tell (w : World) (mean : ExcName → Option Value) (mg mb : Str → Option Value) (f : Addr) (args : List Value) (news : List (Addr × Obj)) (need : Nat)
    (Post : Value → List (Addr × Obj) → Prop) : Prop :=
  ∀ (dp un : Nat) (gd : Option (List Code)) (cn : Str) (cs : Scope) (a : Addr) (ccd : Value) (cl : List (Str × Addr)) (outer : List Env) (A₀ : Around) (base h₀ : Heap) (L : Addr) (m : Str → Option Value) (s : Shared) (Q E : Value → Shared → Prop),
    Below A₀ base outer h₀ → Fr h₀ L s.heap m → (hd.heap_39 w.params).In h₀ → News h₀ L s.heap news → Top hd.view_39 (looseW hd.view_39 []) mean mg mb h₀ → cs.kind = .function →
    dp + need < recursionLimit → un + 8 * need + 100 < cLine →
    (∀ v news' h' tk', Fr h₀ L h' m → News h₀ L h' news' → Post v news' → Q v { s with heap := h', toks := tk' }) →
    wpAny (model PySem.Challenge.rw_pq0458_01.row.prog w) (ktrTop dp un gd cn cs L a ccd cl outer) (call (.ref f) args) Q E s
theorem ne_ints_b {prog : Program} {w : World} {A : Around} {E : Value → Shared → Prop} {s : Shared} {a b : Addr} {xs ys : List Value} {ns ms : List Int} {Q : Value → Shared → Prop} (r : Bool)
    (ha : s.heap.IsList a xs.toArray) (hb : s.heap.IsList b ys.toArray) (hi : IntsAre xs ns) (hj : IntsAre ys ms) (hu : A.units + 64 < cLine) (hr : (!decide (ns = ms)) = r) (h : Q (.bool r) s) :
    wpAny (model prog w) A (compareOp .NotEq (.ref a) (.ref b)) Q E s := by subst hr; exact ke_ne_ints ha hb hi hj hu h
theorem pop0_K {prog : Program} {w : World} {A : Around} {E : Value → Shared → Prop} {s : Shared} {h₀ : Heap} {L D : Addr} {m : Str → Option Value} {news news' : List (Addr × Obj)} {n : Nat} {u : Tok} {q : List Value} {y : Value} {Q : Value → Shared → Prop}
    (F : Fr h₀ L s.heap m) (N : News h₀ L s.heap news) (U : Upd D (listOf (List.toArray (y :: q)) n) (listOf (List.toArray q) (n + 1)) news news')
    (hz : (y :: q).length ≤ sizeLine) (h : ∀ h', Fr h₀ L h' m → News h₀ L h' news' → Q y { s with heap := h' }) : wpAny (model prog w) A (call (.builtin "list.pop") [.ref D, .int 0 u]) Q E s :=
  kl_popAt (its := List.toArray (y :: q)) (p := []) (q := q) (k := 0) F N rfl (by simp [seqIndex?]) rfl U hz h
def RingOk (vs : List Value) : Prop := ∃ rs, IntsAre vs rs ∧ rs.length ≤ 80
def Fresh (made old : List (Addr × Obj)) : Prop := ∀ p ∈ made, ∀ q ∈ old, @LT.lt Nat _ q.1 p.1
def PostF (ins tail : List (Addr × Obj)) (Post : Value → List (Addr × Obj) → List (Addr × Obj) → Prop) (v : Value) (news' : List (Addr × Obj)) : Prop :=
  ∃ outs made, news' = outs ++ (made ++ tail) ∧ Fresh made (ins ++ tail) ∧ Post v outs made
inductive Del (e : Addr × Obj) : List (Addr × Obj) → List (Addr × Obj) → Prop
  | head {l : List (Addr × Obj)} : Del e (e :: l) l
  | tail {p : Addr × Obj} {l l' : List (Addr × Obj)} : Del e l l' → Del e (p :: l) (p :: l')
inductive Dels : List (Addr × Obj) → List (Addr × Obj) → List (Addr × Obj) → Prop
  | nil {c : List (Addr × Obj)} : Dels [] c c
  | cons {e : Addr × Obj} {ins c c1 r : List (Addr × Obj)} : Del e c c1 → Dels ins c1 r → Dels (e :: ins) c r
inductive Pre : List (Addr × Obj) → List (Addr × Obj) → List (Addr × Obj) → Prop
  | nil {t : List (Addr × Obj)} : Pre t [] t
  | cons {p : Addr × Obj} {l r t : List (Addr × Obj)} : Pre l r t → Pre (p :: l) (p :: r) t
theorem Del.mem {e p : Addr × Obj} {c c' : List (Addr × Obj)} (h : Del e c c') : p ∈ c ↔ p = e ∨ p ∈ c' := by
  induction h with
  | head => simp
  | tail _ ih => simp only [List.mem_cons, ih]; constructor <;> (intro h; rcases h with h | h | h <;> simp [h])
theorem Dels.mem {p : Addr × Obj} {ins c r : List (Addr × Obj)} (h : Dels ins c r) : p ∈ c ↔ p ∈ ins ∨ p ∈ r := by
  induction h with
  | nil => simp
  | cons d _ ih => rw [d.mem, ih]; simp only [List.mem_cons, or_assoc]
theorem Pre.eq {l r t : List (Addr × Obj)} (h : Pre l r t) : l = r ++ t := by
  induction h with
  | nil => rfl
  | cons _ ih => rw [ih]; rfl
theorem Tell.useF {w : World} {mean : ExcName → Option Value} {mg mb : Str → Option Value} {f : Addr} {args : List Value} {ins cur c1 lits tail : List (Addr × Obj)} {adr : List Addr} {need : Nat} {Post : Value → List (Addr × Obj) → List (Addr × Obj) → Prop}
    {dp un : Nat} {gd : Option (List Code)} {cn : Str} {cs : Scope} {a : Addr} {ccd : Value} {cl : List (Str × Addr)} {outer : List Env} {A₀ : Around} {base h₀ : Heap} {L : Addr} {m : Str → Option Value} {s : Shared} {Q E : Value → Shared → Prop}
    (T : Tell w mean mg mb f args (ins ++ (lits ++ tail)) need (PostF ins (lits ++ tail) Post))
    (B : Below A₀ base outer h₀) (F : Fr h₀ L s.heap m) (X : (hd.heap_39 w.params).In h₀) (N : News h₀ L s.heap cur) (hD : Dels ins cur c1) (hP : Pre c1 lits tail) (hO : OwnOff tail adr) (hA : ∀ b ∈ adr, b ∈ cur.map (·.1))
    (hT : Top hd.view_39 (looseW hd.view_39 []) mean mg mb h₀) (hk : cs.kind = .function) (hd : dp + need < recursionLimit) (hu : un + 8 * need + 100 < cLine)
    (ret : ∀ v outs made h' tk', Fr h₀ L h' m → News h₀ L h' (outs ++ (lits ++ (made ++ tail))) → OwnOff (made ++ tail) adr → Fresh made cur → Post v outs made → Q v { s with heap := h', toks := tk' }) :
    wpAny (model PySem.Challenge.rw_pq0458_01.row.prog w) (ktrTop dp un gd cn cs L a ccd cl outer) (call (.ref f) args) Q E s := by
  have hc := hP.eq
  subst hc
  refine T dp un gd cn cs a ccd cl outer A₀ base h₀ L m s Q E B F X (fun p hp => N p (hD.mem.mpr (List.mem_append.mp hp))) hT hk hd hu ?_
  rintro v news' h' tk' F' N' ⟨outs, made, rfl, hf, hpost⟩
  have hf' : Fresh made cur := fun p hp q hq => hf p hp q (List.mem_append.mpr (hD.mem.mp hq))
  refine ret v outs made h' tk' F' (fun p hp => N' p ?_) ?_ hf' hpost
  · simp only [List.mem_append] at hp ⊢
    rcases hp with h | h | h | h <;> simp [h]
  · intro p hp b hb
    rcases List.mem_append.mp hp with h | h
    · obtain ⟨q, hq, rfl⟩ := List.mem_map.mp (hA b hb)
      exact Nat.ne_of_gt (hf' p h q hq)
    · exact hO p h b hb
theorem key_tellF {w : World} {mean : ExcName → Option Value} {mg mb : Str → Option Value} {ring : Addr} {n : Nat} {tail : List (Addr × Obj)} {most : Int} {t : Tok} {vs : List Value}
    (k : Tell w mean mg mb 266 [.ref ring, .int most t] ((ring, listOf (List.toArray vs) n) :: tail) 1
      (fun v news' => ∃ k t' vs' n', v = .int k t' ∧ 0 ≤ k ∧ k < most ∧ RingOk vs' ∧ news' = (ring, listOf (List.toArray vs') n') :: tail)) :
    Tell w mean mg mb 266 [.ref ring, .int most t] ([(ring, listOf (List.toArray vs) n)] ++ tail) 1
      (PostF [(ring, listOf (List.toArray vs) n)] tail fun v outs made => ∃ k t' vs' n', v = .int k t' ∧ 0 ≤ k ∧ k < most ∧ RingOk vs' ∧ outs = [(ring, listOf (List.toArray vs') n')] ∧ made = []) := by
  intro dp un gd cn cs a ccd cl outer A₀ base h₀ L m s Q E B F X N T hk hd hu hret
  refine k dp un gd cn cs a ccd cl outer A₀ base h₀ L m s Q E B F X N T hk hd hu ?_
  rintro v news' h' tk' F' N' ⟨k, t', vs', n', h1, h2, h3, h4, rfl⟩
  exact hret _ _ h' tk' F' N' ⟨[(ring, listOf (List.toArray vs') n')], [], rfl, (fun p hp => nomatch hp), k, t', vs', n', h1, h2, h3, h4, rfl, rfl⟩
abbrev tupO (vs : List Value) : Obj := { cls := .type "tuple", data := .seq vs.toArray }
inductive Src where
  | const (c : Int)
  | sig (k : Int)
  | un (k : Int)
  | bin (s : Src) (k : Int)
noncomputable def Src.keys : Src → List Int
  | .const _ => []
  | .sig k => [k]
  | .un k => [k]
  | .bin s k => k :: s.keys
inductive SrcIn (led : List (Addr × Obj)) : Value → Src → Prop
  | const {a : Addr} {c : Int} {t0 t1 t2 t3 : Tok} : (a, tupO [.str (Str.ofString "const") t0, .int 1 t1, .int c t2, .int 0 t3]) ∈ led → SrcIn led (.ref a) (.const c)
  | sig {a : Addr} {k : Int} {t0 t1 t2 : Tok} : (a, tupO [.str (Str.ofString "sig") t0, .int 1 t1, .int k t2]) ∈ led → SrcIn led (.ref a) (.sig k)
  | un {a : Addr} {b : Value} {k : Int} {t0 t1 t2 : Tok} : (a, tupO [.str (Str.ofString "un") t0, .int 1 t1, .str (Str.ofString "~") t2, b]) ∈ led → SrcIn led b (.sig k) → SrcIn led (.ref a) (.un k)
  | bin {a : Addr} {b c : Value} {S : Src} {k : Int} {t0 t1 t2 : Tok} : (a, tupO [.str (Str.ofString "bin") t0, .int 1 t1, .str (Str.ofString "&") t2, b, c, .bool false]) ∈ led → SrcIn led b S → SrcIn led c (.sig k) → SrcIn led (.ref a) (.bin S k)
theorem SrcIn.mono {led led' : List (Addr × Obj)} {v : Value} {S : Src} (h : SrcIn led v S) (hs : ∀ p ∈ led, p ∈ led') : SrcIn led' v S := by
  induction h with
  | const m => exact .const (hs _ m)
  | sig m => exact .sig (hs _ m)
  | un m _ ih => exact .un (hs _ m) ih
  | bin m _ _ ih1 ih2 => exact .bin (hs _ m) ih1 ih2
section
open PySem.Spec PyProof.V PySem.Calls
def Apart (l : List Addr) : Prop := l.Pairwise (fun a b => @Ne Nat a b)
inductive Two (a b : Addr) : List Addr → Prop
  | here {l : List Addr} : b ∈ l → Two a b (a :: l)
  | tail {c : Addr} {l : List Addr} : Two a b l → Two a b (c :: l)
theorem Apart.ne {a b : Addr} {l : List Addr} (h : Apart l) (t : Two a b l) : @Ne Nat a b := by
  induction t with
  | here m => exact (List.pairwise_cons.mp h).1 _ m
  | tail _ ih => exact ih (List.pairwise_cons.mp h).2
theorem ne_lt {a b : Addr} {o : Obj} {l : List (Addr × Obj)} (h : AllLt a l) (m : (b, o) ∈ l) : @Ne Nat b a := Nat.ne_of_lt (tb_ltOf h _ m)
theorem ne_gt {a b : Addr} {o : Obj} {l : List (Addr × Obj)} (h : AllLt a l) (m : (b, o) ∈ l) : @Ne Nat a b := Nat.ne_of_gt (tb_ltOf h _ m)
theorem ne_lt2 {d a b : Addr} {o : Obj} {l : List (Addr × Obj)} (h2 : @LT.lt Nat _ d a) (h : AllLt d l) (m : (b, o) ∈ l) : @Ne Nat b a := Nat.ne_of_lt (Nat.lt_trans (tb_ltOf h _ m) h2)
theorem ne_gt2 {d a b : Addr} {o : Obj} {l : List (Addr × Obj)} (h2 : @LT.lt Nat _ d a) (h : AllLt d l) (m : (b, o) ∈ l) : @Ne Nat a b := Nat.ne_of_gt (Nat.lt_trans (tb_ltOf h _ m) h2)
theorem kall_sub {a : Addr} {T l : List (Addr × Obj)} (h : AllLt a l) (hs : ∀ p ∈ T, p ∈ l) : ∀ p ∈ T, p.1 ≠ a := fun p hp => Nat.ne_of_lt (tb_ltOf h p (hs p hp))
theorem kall_sub2 {d a : Addr} {T l : List (Addr × Obj)} (h2 : @LT.lt Nat _ d a) (h : AllLt d l) (hs : ∀ p ∈ T, p ∈ l) : ∀ p ∈ T, p.1 ≠ a := fun p hp => Nat.ne_of_lt (Nat.lt_trans (tb_ltOf h p (hs p hp)) h2)
theorem kall_made {b : Addr} {o : Obj} {made cur : List (Addr × Obj)} (h : Fresh made cur) (m : (b, o) ∈ cur) : ∀ p ∈ made, p.1 ≠ b := fun p hp => Nat.ne_of_gt (h p hp _ m)
theorem kall_app {b : Addr} {s t : List (Addr × Obj)} (h : ∀ p ∈ s, p.1 ≠ b) (h' : ∀ p ∈ t, p.1 ≠ b) : ∀ p ∈ s ++ t, p.1 ≠ b := fun p hp => (List.mem_append.mp hp).elim (h p) (h' p)
theorem mem_key {a : Addr} {o : Obj} {cur : List (Addr × Obj)} (h : (a, o) ∈ cur) : a ∈ cur.map (·.1) := List.mem_map_of_mem (f := fun p : Addr × Obj => p.1) h
theorem lt_of_mem {a b : Addr} {o : Obj} {l : List (Addr × Obj)} (h : AllLt a l) (m : (b, o) ∈ l) : @LT.lt Nat _ b a := tb_ltOf h _ m
theorem lt_of_mem2 {d a b : Addr} {o : Obj} {l : List (Addr × Obj)} (h2 : @LT.lt Nat _ d a) (h : AllLt d l) (m : (b, o) ∈ l) : @LT.lt Nat _ b a := Nat.lt_trans (tb_ltOf h _ m) h2
theorem sub_app {T a b : List (Addr × Obj)} {p : Addr × Obj} : p ∈ b → p ∈ a ++ b := fun h => List.mem_append_right _ h
theorem Apart.nil : Apart [] := List.Pairwise.nil
theorem Apart.cons {a : Addr} {l : List Addr} (h : ∀ b ∈ l, @Ne Nat a b) (t : Apart l) : Apart (a :: l) := List.pairwise_cons.mpr ⟨h, t⟩
theorem apart_off {I : Addr} {l : List (Addr × Obj)} {adr : List Addr} (h : ∀ q ∈ l, q.1 ≠ I) (hs : ∀ b ∈ adr, b ∈ l.map (·.1)) : ∀ b ∈ adr, @Ne Nat I b := fun b hb e => by
  obtain ⟨q, hq, e2⟩ := List.mem_map.mp (hs b hb)
  exact h q hq (e2.trans e.symm)
theorem own_cons {a : Addr} {o : Obj} {T : List (Addr × Obj)} {adr : List Addr} (h : ∀ b ∈ adr, @Ne Nat a b) (t : OwnOff T adr) : OwnOff ((a, o) :: T) adr := fun p hp b hb => by
  rcases List.mem_cons.mp hp with rfl | hp
  · exact h b hb
  · exact t p hp b hb
theorem own_new {a : Addr} {l : List (Addr × Obj)} {adr : List Addr} (h : AllLt a l) (hs : ∀ b ∈ adr, b ∈ l.map (·.1)) : ∀ b ∈ adr, @Ne Nat a b := fun b hb => by
  obtain ⟨q, hq, rfl⟩ := List.mem_map.mp (hs b hb)
  exact Nat.ne_of_gt (tb_ltOf h q hq)
theorem own_new2 {d a : Addr} {l : List (Addr × Obj)} {adr : List Addr} (h2 : @LT.lt Nat _ d a) (h : AllLt d l) (hs : ∀ b ∈ adr, b ∈ l.map (·.1)) : ∀ b ∈ adr, @Ne Nat a b := fun b hb => by
  obtain ⟨q, hq, rfl⟩ := List.mem_map.mp (hs b hb)
  exact Nat.ne_of_gt (Nat.lt_trans (tb_ltOf h q hq) h2)
theorem lt_sub {a : Addr} {T l : List (Addr × Obj)} (h : AllLt a l) (hs : ∀ p ∈ T, p ∈ l) : ∀ p ∈ T, p.1 < a := fun p hp => tb_ltOf h p (hs p hp)
theorem off3_1 {I C D b : Addr} {o : Obj} {l : List (Addr × Obj)} (h : LCg.Off3 I C D l) (m : (b, o) ∈ l) : @Ne Nat b I := (h.mem _ m).1
theorem off3_2 {I C D b : Addr} {o : Obj} {l : List (Addr × Obj)} (h : LCg.Off3 I C D l) (m : (b, o) ∈ l) : @Ne Nat b C := (h.mem _ m).2.1
theorem off3_3 {I C D b : Addr} {o : Obj} {l : List (Addr × Obj)} (h : LCg.Off3 I C D l) (m : (b, o) ∈ l) : @Ne Nat b D := (h.mem _ m).2.2
theorem off1_mem {D : Addr} : ∀ {l : List (Addr × Obj)}, LCg.Off1 D l → ∀ p ∈ l, p.1 ≠ D
  | [], _, _, h => nomatch h
  | _ :: _, x, p, h => by
    rcases List.mem_cons.mp h with rfl | h
    · exact x.1
    · exact off1_mem x.2 p h
theorem off1_1 {D b : Addr} {o : Obj} {l : List (Addr × Obj)} (h : LCg.Off1 D l) (m : (b, o) ∈ l) : @Ne Nat b D := off1_mem h _ m
theorem kall_off1 {D : Addr} {T l : List (Addr × Obj)} (h : LCg.Off1 D l) (hs : ∀ p ∈ T, p ∈ l) : ∀ p ∈ T, p.1 ≠ D := fun p hp => off1_mem h p (hs p hp)
theorem kall_off3_1 {I C D : Addr} {T l : List (Addr × Obj)} (h : LCg.Off3 I C D l) (hs : ∀ p ∈ T, p ∈ l) : ∀ p ∈ T, p.1 ≠ I := fun p hp => (h.mem p (hs p hp)).1
theorem kall_off3_2 {I C D : Addr} {T l : List (Addr × Obj)} (h : LCg.Off3 I C D l) (hs : ∀ p ∈ T, p ∈ l) : ∀ p ∈ T, p.1 ≠ C := fun p hp => (h.mem p (hs p hp)).2.1
theorem kall_off3_3 {I C D : Addr} {T l : List (Addr × Obj)} (h : LCg.Off3 I C D l) (hs : ∀ p ∈ T, p ∈ l) : ∀ p ∈ T, p.1 ≠ D := fun p hp => (h.mem p (hs p hp)).2.2
theorem own_off1 {D : Addr} {l : List (Addr × Obj)} {adr : List Addr} (h : LCg.Off1 D l) (hs : ∀ b ∈ adr, b ∈ l.map (·.1)) : ∀ b ∈ adr, @Ne Nat D b := fun b hb => by
  obtain ⟨q, hq, rfl⟩ := List.mem_map.mp (hs b hb)
  exact Ne.symm (off1_mem h q hq)
theorem own_wider {T : List (Addr × Obj)} {adr : List Addr} {a : Addr} (h : OwnOff T adr) (h2 : ∀ p ∈ T, p.1 ≠ a) : OwnOff T (a :: adr) := fun p hp b hb => by
  rcases List.mem_cons.mp hb with rfl | hb
  · exact h2 p hp
  · exact h p hp b hb
theorem own_less {T : List (Addr × Obj)} {adr : List Addr} {a : Addr} (h : OwnOff T (a :: adr)) : OwnOff T adr := fun p hp b hb => h p hp b (.tail _ hb)
theorem all_cons {p : Addr × Obj} {l : List (Addr × Obj)} {a : Addr} (h : @Ne Nat p.1 a) (t : ∀ q ∈ l, q.1 ≠ a) : ∀ q ∈ p :: l, q.1 ≠ a := List.forall_mem_cons.mpr ⟨h, t⟩
theorem adr_cons {b : Addr} {o : Obj} {l : List Addr} {cur : List (Addr × Obj)} (h : (b, o) ∈ cur) (t : ∀ c ∈ l, c ∈ cur.map (·.1)) : ∀ c ∈ b :: l, c ∈ cur.map (·.1) := List.forall_mem_cons.mpr ⟨mem_key h, t⟩
theorem ap_cons {a b : Addr} {l : List Addr} (h : @Ne Nat a b) (t : ∀ c ∈ l, @Ne Nat a c) : ∀ c ∈ b :: l, @Ne Nat a c := List.forall_mem_cons.mpr ⟨h, t⟩
theorem sub_cons {p : Addr × Obj} {l cur : List (Addr × Obj)} (h : p ∈ cur) (t : ∀ q ∈ l, q ∈ cur) : ∀ q ∈ p :: l, q ∈ cur := List.forall_mem_cons.mpr ⟨h, t⟩
theorem off_nil {tail : List (Addr × Obj)} : OwnOff tail [] := fun _ _ _ hb => nomatch hb
end
theorem room_le {X n : Nat} (j : Nat) (h : n < recursionLimit) (e : X + j = n) : X < recursionLimit := by omega
theorem units_le {X n : Nat} (j : Nat) (h : n < cLine) (e : X + j = n) : X < cLine := by omega
local macro_rules | `(tactic| ktr_room) => `(tactic| k_dflt (first | exact Nat.le_of_ble_eq_true rfl | (refine' room_le 0 ?rh ?re; (case rh => assumption); (case re => exact rfl)) | (refine' room_le 1 ?rh ?re; (case rh => assumption); (case re => exact rfl)) | (refine' room_le 2 ?rh ?re; (case rh => assumption); (case re => exact rfl)) | (refine' room_le 3 ?rh ?re; (case rh => assumption); (case re => exact rfl)) | (refine' room_le 4 ?rh ?re; (case rh => assumption); (case re => exact rfl)) | (refine' room_le 5 ?rh ?re; (case rh => assumption); (case re => exact rfl)) | fail "room"))
local macro_rules | `(tactic| ktr_units) => `(tactic| k_dflt (first | exact Nat.le_of_ble_eq_true rfl | (refine' units_le 0 ?uh ?ue; (case uh => assumption); (case ue => exact rfl)) | (refine' units_le 8 ?uh ?ue; (case uh => assumption); (case ue => exact rfl)) | (refine' units_le 16 ?uh ?ue; (case uh => assumption); (case ue => exact rfl)) | (refine' units_le 24 ?uh ?ue; (case uh => assumption); (case ue => exact rfl)) | (refine' units_le 32 ?uh ?ue; (case uh => assumption); (case ue => exact rfl)) | (refine' units_le 40 ?uh ?ue; (case uh => assumption); (case ue => exact rfl)) | fail "units"))
local macro_rules | `(tactic| walk_at "compareOp NotEq ref ref") => `(tactic| (k_here; k_dflt (first
  | refine ne_ints_b true (by is_list) (by is_list) (by first | assumption | exact .nil) (by first | assumption | exact .nil) (by ktr_units) (by first | rfl | (simp; done)) ?_
  | refine ne_ints_b false (by is_list) (by is_list) (by first | assumption | exact .nil) (by first | assumption | exact .nil) (by ktr_units) (by first | rfl | (simp; done)) ?_)))
local macro_rules | `(tactic| walk_at "call builtin:list.pop") => `(tactic| (k_here; k_dflt (refine' pop0_K ?F ?N ?U ?z ?_; (case F => k_asm); (case N => k_asm); (case U => k_upd); (case z => assumption)); intro h' F' N'))
local macro_rules | `(tactic| ktn_no "m:two") => `(tactic| first | (refine Two.here ?_; ktn_no "m:mm") | (refine Two.tail ?_; ktn_no "m:two"))
local macro_rules | `(tactic| ktn_no "m:mm") => `(tactic| first | exact List.Mem.head _ | (refine List.Mem.tail _ ?_; ktn_no "m:mm"))
local macro_rules | `(tactic| ktn_no "m:sb") => `(tactic| first | assumption | (refine List.Mem.tail _ ?_; ktn_no "m:sb") | (refine List.mem_append_right _ ?_; ktn_no "m:sb") | (refine List.mem_append_left _ ?_; ktn_no "m:sb"))
local macro_rules | `(tactic| ktn_no "m:sbt") => `(tactic| (intro p9 h9; ktn_no "m:sb"))
local macro_rules | `(tactic| k_lt $h:ident) => `(tactic| (replace $h := allLt_of $h))
local macro_rules | `(tactic| ktn_no "m:h") => `(tactic| with_reducible assumption)
local macro_rules | `(tactic| ktn_no "m:ne") => `(tactic| first | ktn_no "m:h" | exact ne_lt (by ktn_no "m:h") (by ktn_no "m:mm") | exact Apart.ne (by ktn_no "m:h") (by ktn_no "m:two") | exact ne_lt2 (by ktn_no "m:h") (by ktn_no "m:h") (by ktn_no "m:mm") | exact off1_1 (by ktn_no "m:h") (by ktn_no "m:mm") | exact off3_1 (by ktn_no "m:h") (by ktn_no "m:mm") | exact off3_2 (by ktn_no "m:h") (by ktn_no "m:mm") | exact off3_3 (by ktn_no "m:h") (by ktn_no "m:mm"))
local macro_rules | `(tactic| k_ne) => `(tactic| (refine neN ?_; (try dsimp only); first | ktn_no "m:ne" | (refine Ne.symm ?_; ktn_no "m:ne") | omega))
local macro_rules | `(tactic| k_all) => `(tactic| first | ktn_no "m:h" | exact List.forall_mem_nil _ | (refine' all_cons ?a ?b; (case a => k_ne); (case b => k_all)) | exact OwnOff.ne (by ktn_no "m:h") (by k_memK) | exact kall_sub (by ktn_no "m:h") (by ktn_no "m:sbt") | exact kall_made (by ktn_no "m:h") (by ktn_no "m:mm") | (refine' kall_app ?a ?b <;> k_all) | exact kall_off1 (by ktn_no "m:h") (by ktn_no "m:sbt") | exact kall_off3_1 (by ktn_no "m:h") (by ktn_no "m:sbt") | exact kall_off3_2 (by ktn_no "m:h") (by ktn_no "m:sbt") | exact kall_off3_3 (by ktn_no "m:h") (by ktn_no "m:sbt") | exact kall_sub2 (by ktn_no "m:h") (by ktn_no "m:h") (by ktn_no "m:sbt"))
local macro_rules | `(tactic| ktn_no "m:adr") => `(tactic| first | exact List.forall_mem_nil _ | (refine' adr_cons ?a ?b; (case a => ktn_no "m:mm"); (case b => ktn_no "m:adr")))
local macro_rules | `(tactic| ktn_no "m:lt1") => `(tactic| (refine ltN ?_; (try dsimp only); first | with_reducible assumption | exact lt_of_mem (by with_reducible assumption) (by ktn_no "m:mm") | exact lt_of_mem2 (by with_reducible assumption) (by with_reducible assumption) (by ktn_no "m:mm") | omega))
local macro_rules | `(tactic| ktn_no "m:lt") => `(tactic| first | assumption | exact List.forall_mem_nil _ | (refine' List.forall_mem_cons.mpr ⟨?a, ?b⟩; (case a => ktn_no "m:lt1"); (case b => ktn_no "m:lt")) | exact lt_sub (by with_reducible assumption) (by ktn_no "m:sbt") | exact tb_ltOf (by tbn_find) | exact allLt_right (by tbn_find) | exact allLt_right2 (by tbn_find) | exact allLt_right3 (by tbn_find))
local macro_rules | `(tactic| ktn_no "m:les") => `(tactic| first | exact List.forall_mem_nil _ | (refine' List.forall_mem_cons.mpr ⟨?a, ?b⟩; (case a => ((try dsimp only); first | exact Nat.le_refl _ | (refine Nat.le_of_lt ?_; ktn_no "m:lt1"))); (case b => ktn_no "m:les")))
theorem key_tell {ring : Addr} {n : Nat} {rest : List (Addr × Obj)} {most : Int} {t : Tok} {vs : List Value} (hoff : ∀ p ∈ rest, p.1 ≠ ring) (hm : 0 < most) (hr : RingOk vs) :
    Tell w mean mg mb 266 [.ref ring, .int most t] ((ring, listOf (List.toArray vs) n) :: rest) 1
      (fun v news' => ∃ k t' vs' n', v = .int k t' ∧ 0 ≤ k ∧ k < most ∧ RingOk vs' ∧ news' = (ring, listOf (List.toArray vs') n') :: rest) := by
  unfold Tell
  k_fill
  intro dp un gd cn cs a ccd cl outer A₀ base h₀ L m s Q E B F X N T hk hd hu hret
  obtain ⟨rs, hi, hl⟩ := hr
  cases hi with
  | nil =>
    refine wpAny_call ?_
    k_dflt ktr_enter
    have hi : IntsAre [] [] := .nil
    k_steps
    exact hret _ _ _ _ (by assumption) (fun p hp => by rename News _ _ _ _ => N9; exact N9 p (.tail _ hp)) ⟨0, _, [], n, rfl, by omega, hm, ⟨[], .nil, by simp⟩, rfl⟩
  | cons r t0 hi =>
    rename_i vs rs
    have hi' : IntsAre (.int r t0 :: vs) (r :: rs) := .cons r t0 hi
    have hz : (Value.int r t0 :: vs).length ≤ sizeLine := by have := hi'.length; rw [sizeLine_eq]; omega
    have hz' : most ≠ 0 := by omega
    refine wpAny_call ?_
    k_dflt ktr_enter
    k_steps

    exact hret _ _ _ _ (by assumption) (fun p hp => by rename News _ _ _ _ => N9; exact N9 p (.tail _ hp)) ⟨r.fmod most, _, vs, n + 1, rfl, Int.fmod_nonneg_of_pos r hm, Int.fmod_lt_of_pos r hm, ⟨rs, hi, by simp at hl; omega⟩, rfl⟩
theorem Fresh.nil {old : List (Addr × Obj)} : Fresh [] old := fun _ hp => nomatch hp
theorem Fresh.cons {x : Addr × Obj} {made old : List (Addr × Obj)} (h : ∀ q ∈ old, @LT.lt Nat _ q.1 x.1) (hm : Fresh made old) : Fresh (x :: made) old := fun p hp => by
  rcases List.mem_cons.mp hp with rfl | hp
  · exact h
  · exact hm p hp
theorem Fresh.append {a b old : List (Addr × Obj)} (ha : Fresh a old) (hb : Fresh b old) : Fresh (a ++ b) old := fun p hp =>
  (List.mem_append.mp hp).elim (ha p) (hb p)
theorem Fresh.of {made old old' : List (Addr × Obj)} (h : Fresh made old) (hs : ∀ a ∈ old'.map (·.1), a ∈ old.map (·.1)) : Fresh made old' := fun p hp q hq => by
  obtain ⟨r, hr, e⟩ := List.mem_map.mp (hs q.1 (List.mem_map_of_mem hq))
  rw [← e]
  exact h p hp r hr
theorem PostF.fin {ins tail cur c1 outs made : List (Addr × Obj)} {Post : Value → List (Addr × Obj) → List (Addr × Obj) → Prop} {h₀ h' : Heap} {L : Addr} {m : Str → Option Value} {s : Shared} {tk' : Nat} {Q : Value → Shared → Prop} {v : Value}
    (hret : ∀ v news' h' tk', Fr h₀ L h' m → News h₀ L h' news' → PostF ins tail Post v news' → Q v { s with heap := h', toks := tk' })
    (F : Fr h₀ L h' m) (N : News h₀ L h' cur) (hD : Dels outs cur c1) (hP : ∀ p, p ∈ c1 ↔ p ∈ made ∨ p ∈ tail) (hf : Fresh made (ins ++ tail)) (hp : Post v outs made) : Q v { s with heap := h', toks := tk' } :=
  hret v (outs ++ (made ++ tail)) h' tk' F (fun p hp => N p (hD.mem.mpr (by simp only [List.mem_append] at hp; rw [hP]; exact hp))) ⟨outs, made, rfl, hf, hp⟩
theorem Pre.mem {l r t : List (Addr × Obj)} (h : Pre l r t) (p : Addr × Obj) : p ∈ l ↔ p ∈ r ∨ p ∈ t := by rw [h.eq]; exact List.mem_append
theorem ints_push {ms : List Value} {ks : List Int} (h : IntsAre ms ks) (k : Int) (t : Tok) : IntsAre (ms ++ [.int k t]) (ks ++ [k]) := h.append (.cons k t .nil)
theorem append_L {prog : Program} {w : World} {A : Around} {E : Value → Shared → Prop} {s : Shared} {h₀ : Heap} {L D : Addr} {m : Str → Option Value} {news news' : List (Addr × Obj)} {xs : List Value} {n : Nat} {x : Value} {Q : Value → Shared → Prop} (F : Fr h₀ L s.heap m) (N : News h₀ L s.heap news)
    (U : Upd D (listOf (List.toArray xs) n) (listOf (List.toArray (xs ++ [x])) (n + 1)) news news')
    (hsz : (List.toArray xs).size ≤ sizeLine) (h : ∀ h', Fr h₀ L h' m → News h₀ L h' news' → Q .none { s with heap := h' }) : wpAny (model prog w) A (call (.builtin "list.append") [.ref D, x]) Q E s := by
  have e : (List.toArray xs).push x = List.toArray (xs ++ [x]) := by simp
  rw [← e] at U
  exact append_K F N U h hsz
def Bd (S : Src) : Prop := ∀ k ∈ S.keys, 0 ≤ k ∧ k < 6
def SrcPost (ring met : Addr) (ks : List Int) (d : Nat) (v : Value) (outs made : List (Addr × Obj)) : Prop :=
  ∃ S vs' n' ms' nm', RingOk vs' ∧ outs = [(ring, listOf (List.toArray vs') n'), (met, listOf (List.toArray ms') nm')] ∧ IntsAre ms' (ks ++ S.keys) ∧ SrcIn made v S ∧ S.keys.length ≤ d + 1 ∧ Bd S
def SrcTell (w : World) (mean : ExcName → Option Value) (mg mb : Str → Option Value) (d : Nat) : Prop :=
  ∀ {ring met : Addr} {n nm : Nat} {tail : List (Addr × Obj)} {vs ms : List Value} {ks : List Int}, @Ne Nat ring met → (∀ p ∈ tail, p.1 ≠ ring) → (∀ p ∈ tail, p.1 ≠ met) → RingOk vs → IntsAre ms ks → ks.length + d ≤ 1000 → 6 - ks.length ≤ d →
    Tell w mean mg mb 273 [.ref ring, .ref met] ([(ring, listOf (List.toArray vs) n), (met, listOf (List.toArray ms) nm)] ++ tail) (d + 2)
      (PostF [(ring, listOf (List.toArray vs) n), (met, listOf (List.toArray ms) nm)] tail (SrcPost ring met ks d))
theorem off2 {tail : List (Addr × Obj)} {a b : Addr} (h1 : ∀ p ∈ tail, p.1 ≠ a) (h2 : ∀ p ∈ tail, p.1 ≠ b) : OwnOff tail [a, b] := by
  intro p hp c hc
  simp only [List.mem_cons, List.not_mem_nil, or_false] at hc
  rcases hc with rfl | rfl
  · exact h1 p hp
  · exact h2 p hp
theorem Pre.memA {l r a t : List (Addr × Obj)} (h : Pre l r (a ++ t)) (p : Addr × Obj) : p ∈ l ↔ p ∈ r ++ a ∨ p ∈ t := by rw [h.eq]; simp only [List.mem_append, or_assoc]
theorem Pre.memB {l r a b t : List (Addr × Obj)} (h : Pre l r (a ++ (b ++ t))) (p : Addr × Obj) : p ∈ l ↔ p ∈ r ++ (a ++ b) ∨ p ∈ t := by rw [h.eq]; simp only [List.mem_append, or_assoc]
theorem Pre.memC {l r a b c t : List (Addr × Obj)} (h : Pre l r (a ++ (b ++ (c ++ t)))) (p : Addr × Obj) : p ∈ l ↔ p ∈ r ++ (a ++ (b ++ c)) ∨ p ∈ t := by rw [h.eq]; simp only [List.mem_append, or_assoc]
theorem SrcIn.app {a b : List (Addr × Obj)} {v : Value} {S : Src} (h : SrcIn b v S) : SrcIn (a ++ b) v S := h.mono fun _ hp => List.mem_append.mpr (.inr hp)
theorem SrcIn.appL {a b : List (Addr × Obj)} {v : Value} {S : Src} (h : SrcIn a v S) : SrcIn (a ++ b) v S := h.mono fun _ hp => List.mem_append.mpr (.inl hp)
theorem Bd.bin {S : Src} {k : Int} (h : Bd S) (h0 : 0 ≤ k) (h1 : k < 6) : Bd (.bin S k) := by
  intro j hj
  rcases List.mem_cons.mp hj with rfl | hj
  · exact ⟨h0, h1⟩
  · exact h j hj
theorem allLt_right {d : Addr} {a t : List (Addr × Obj)} (h : AllLt d (a ++ t)) : ∀ q ∈ t, @LT.lt Nat _ q.1 d := fun q hq => tb_ltOf h q (List.mem_append.mpr (.inr hq))
theorem allLt_right2 {d : Addr} {a b t : List (Addr × Obj)} (h : AllLt d (a ++ (b ++ t))) : ∀ q ∈ t, @LT.lt Nat _ q.1 d := fun q hq => allLt_right h q (List.mem_append.mpr (.inr hq))
theorem allLt_right3 {d : Addr} {a b c t : List (Addr × Obj)} (h : AllLt d (a ++ (b ++ (c ++ t)))) : ∀ q ∈ t, @LT.lt Nat _ q.1 d := fun q hq => allLt_right2 h q (List.mem_append.mpr (.inr hq))
local macro_rules | `(tactic| ktn_no "m:del") => `(tactic| first | exact Del.head | (refine' Del.tail ?c; (case c => ktn_no "m:del")))
local macro_rules | `(tactic| ktn_no "m:dels") => `(tactic| first | exact Dels.nil | (refine' Dels.cons ?a ?b; (case a => ktn_no "m:del"); (case b => ktn_no "m:dels")))
local macro_rules | `(tactic| ktn_no "m:pre") => `(tactic| first | (refine' Pre.cons ?c; (case c => ktn_no "m:pre")) | exact Pre.nil)
local macro_rules | `(tactic| ktn_no "m:off") => `(tactic| ((try dsimp only [List.cons_append, List.nil_append]); k_all))
local macro_rules | `(tactic| ktn_no "m:side") => `(tactic| ((case B => k_asm); (case F => k_asm); (case X => k_asm); (case N => k_asm); (case D => ktn_no "m:dels"); (case P => ktn_no "m:pre"); (case O => first | assumption | exact off_nil); (case A => ktn_no "m:adr"); (case T => k_asm); (case K => first | exact rfl | assumption); (case d => ktr_room); (case u => ktr_units)))
local macro_rules | `(tactic| walk_at "call ref") => `(tactic| (k_here; k_dflt ( (with_reducible show wpAny _ _ (call (Value.ref 266) _) _ _ _); (refine' Tell.useF (key_tellF (key_tell ?hf ?hm ?hr)) ?B ?F ?X ?N ?D ?P ?O ?A ?T ?K ?d ?u ?_); ktn_no "m:side"; (case hf => ktn_no "m:off"); (case hm => decide); (case hr => assumption)); intro v9 outs9 made9 h' tk' F' N' O' L' P'; (k_dflt obtain ⟨k', t', vs', n', e1, hk0, hk1, hro, e2, e3⟩ := P'); subst e1 e2 e3; (try dsimp only [List.cons_append, List.nil_append] at N' O'); (try k_sweep); (try dsimp only); (try k_fold)))
local macro_rules | `(tactic| ktn_no "m:fresh") => `(tactic| ((try dsimp only [List.cons_append, List.nil_append]); first | exact Fresh.nil | (refine' Fresh.cons ?a ?b; (case a => ktn_no "m:lt"); (case b => ktn_no "m:fresh")) | (refine' Fresh.append ?a ?b; (case a => ktn_no "m:fresh"); (case b => ktn_no "m:fresh")) | (refine' Fresh.of ?a ?b; (case a => assumption); (case b => (intro a9 h9; simp only [List.map_cons, List.map_append, List.mem_cons, List.mem_append] at h9 ⊢; grind)))))
local macro_rules | `(tactic| ktn_no "m:end") => `(tactic| ((case zF => (with_reducible assumption)); (case zN => (with_reducible assumption)); (case zD => ktn_no "m:dels"); (case zP => first | (refine' Pre.mem ?zq; (case zq => ktn_no "m:pre")) | (refine' Pre.memA ?zq; (case zq => ktn_no "m:pre")) | (refine' Pre.memB ?zq; (case zq => ktn_no "m:pre")) | (refine' Pre.memC ?zq; (case zq => ktn_no "m:pre"))); (case zf => ktn_no "m:fresh")))
local macro_rules | `(tactic| walk_at "call builtin:list.append") => `(tactic| (k_here; k_dflt (show wpAny _ _ (call (Value.builtin _) [Value.ref _, _]) _ _ _); k_dflt (refine' append_L ?k1 ?k2 ?k3 ?z ?_; (case k1 => k_asm); (case k2 => k_asm); (case k3 => k_upd); (case z => first | size_fits | (simp only [List.size_toArray]; rw [sizeLine_eq]; omega)); k_whole); intro h' F' N'; (try k_sweep)))
local macro_rules | `(tactic| ktn_no "m:ints") => `(tactic| first | assumption | exact ints_push (by assumption) _ _ | exact .nil)
local macro_rules | `(tactic| ktn_no "m:len") => `(tactic| first | omega | (simp only [List.length_append, List.length_cons, List.length_nil] at *; omega))
local macro_rules | `(tactic| walk_at "call ref") => `(tactic| (k_here; k_dflt ((with_reducible show wpAny _ _ (call (Value.ref 273) _) _ _ _); (rename SrcTell _ _ _ _ _ => I9); (refine' Tell.useF (I9 ?h1 ?h2 ?h3 ?h4 ?h5 ?h6 ?h7) ?B ?F ?X ?N ?D ?P ?O ?A ?T ?K ?d ?u ?_); ktn_no "m:side"; (case h1 => (first | assumption | exact Ne.symm (by assumption) | (refine neN ?_; omega))); (case h2 => ktn_no "m:off"); (case h3 => ktn_no "m:off"); (case h4 => assumption); (case h5 => ktn_no "m:ints"); (case h6 => ktn_no "m:len"); (case h7 => ktn_no "m:len")); intro v9 outs9 made9 h' tk' F' N' O' L' P'; (k_dflt obtain ⟨S', vs', n', ms', nm', hro, e1, hms', hS', hSl', hSb'⟩ := P'); subst e1; (try dsimp only [List.cons_append, List.nil_append] at N' O'); (try k_sweep); (try dsimp only); (try k_fold)))
theorem src_tell (d : Nat) : SrcTell w mean mg mb d := by
  induction d with
  | zero =>
    intro ring met n nm tail vs ms ks hrm ho1 ho2 hr hms hl hd6
    unfold Tell
    k_fill
    intro dp un gd cn cs a ccd cl outer A₀ base h₀ L m s Q E B F X N T hk hd hu hret
    dsimp only [List.cons_append, List.nil_append] at N
    have O : OwnOff tail [ring, met] := off2 ho1 ho2
    refine wpAny_call ?_
    k_dflt ktr_enter
    k_steps
    · refine' PostF.fin (outs := [(ring, _), (met, _)]) hret ?zF ?zN ?zD ?zP ?zf ?_
      ktn_no "m:end"
      exact ⟨.const 1, _, _, _, _, by assumption, rfl, by simpa [Src.keys] using hms, .const (.head _), by simp [Src.keys], by simp [Bd, Src.keys]⟩
    · refine' PostF.fin (outs := [(ring, _), (met, _)]) hret ?zF ?zN ?zD ?zP ?zf ?_
      ktn_no "m:end"
      exact ⟨.sig _, _, _, _, _, by assumption, rfl, by simpa [Src.keys] using ints_push hms _ _, .sig (.head _), by simp [Src.keys], by simp [Bd, Src.keys]; omega⟩
    · refine' PostF.fin (outs := [(ring, _), (met, _)]) hret ?zF ?zN ?zD ?zP ?zf ?_
      ktn_no "m:end"
      exact ⟨.un _, _, _, _, _, by assumption, rfl, by simpa [Src.keys] using ints_push hms _ _, .un (.head _) (.sig (.tail _ (.head _))), by simp [Src.keys], by simp [Bd, Src.keys]; omega⟩
    · refine' PostF.fin (outs := [(ring, _), (met, _)]) hret ?zF ?zN ?zD ?zP ?zf ?_
      ktn_no "m:end"
      exact ⟨.bin (.const 0) _, _, _, _, _, by assumption, rfl, by simpa [Src.keys] using ints_push hms _ _, .bin (.head _) (.const (.tail _ (.tail _ (.head _)))) (.sig (.tail _ (.head _))), by simp [Src.keys], by simp [Bd, Src.keys]; omega⟩
  | succ d ih =>
    intro ring met n nm tail vs ms ks hrm ho1 ho2 hr hms hl hd6
    unfold Tell
    intro dp un gd cn cs a ccd cl outer A₀ base h₀ L m s Q E B F X N T hk hd hu hret
    dsimp only [List.cons_append, List.nil_append] at N
    have O : OwnOff tail [ring, met] := off2 ho1 ho2
    refine wpAny_call ?_
    k_dflt ktr_enter
    k_steps
    · refine' PostF.fin (outs := [(ring, _), (met, _)]) hret ?zF ?zN ?zD ?zP ?zf ?_
      ktn_no "m:end"
      exact ⟨.const 1, _, _, _, _, by assumption, rfl, by simpa [Src.keys] using hms, .const (.head _), by simp [Src.keys], by simp [Bd, Src.keys]⟩
    · refine' PostF.fin (outs := [(ring, _), (met, _)]) hret ?zF ?zN ?zD ?zP ?zf ?_
      ktn_no "m:end"
      exact ⟨.sig _, _, _, _, _, by assumption, rfl, by simpa [Src.keys] using ints_push hms _ _, .sig (.head _), by simp [Src.keys], by simp [Bd, Src.keys]; omega⟩
    · refine' PostF.fin (outs := [(ring, _), (met, _)]) hret ?zF ?zN ?zD ?zP ?zf ?_
      ktn_no "m:end"
      exact ⟨.un _, _, _, _, _, by assumption, rfl, by simpa [Src.keys] using ints_push hms _ _, .un (.head _) (.sig (.tail _ (.head _))), by simp [Src.keys], by simp [Bd, Src.keys]; omega⟩
    · refine' PostF.fin (outs := [(ring, _), (met, _)]) hret ?zF ?zN ?zD ?zP ?zf ?_
      ktn_no "m:end"
      rename SrcIn _ _ _ => hS
      rename Bd _ => hB
      rename IntsAre _ (_ ++ Src.keys _) => hI
      rename List.length (Src.keys _) ≤ _ => hL
      exact ⟨.bin _ _, _, _, _, _, by assumption, rfl, by simpa [Src.keys] using hI, .bin (.head _) (SrcIn.app (a := [_, _]) hS) (.sig (.tail _ (.head _))), by simp [Src.keys]; omega, Bd.bin hB (by assumption) (by assumption)⟩
    · refine' PostF.fin (outs := [(ring, _), (met, _)]) hret ?zF ?zN ?zD ?zP ?zf ?_
      ktn_no "m:end"
      exact ⟨.bin (.const 0) _, _, _, _, _, by assumption, rfl, by simpa [Src.keys] using ints_push hms _ _, .bin (.head _) (.const (.tail _ (.tail _ (.head _)))) (.sig (.tail _ (.head _))), by simp [Src.keys], by simp [Bd, Src.keys]; omega⟩
inductive Gl where
  | at0 (k : Int)
  | pick (k : Int) (s : Src)
  | two (k : Int) (s : Src)
noncomputable def Gl.srcs : Gl → List Src
  | .at0 _ => []
  | .pick _ s => [s]
  | .two _ s => [s]
noncomputable def Gl.keys : Gl → List Int
  | .at0 _ => []
  | .pick _ s => s.keys
  | .two _ s => s.keys
def AtIn (led : List (Addr × Obj)) (v : Value) : Prop := ∃ a t0 t1, v = .ref a ∧ (a, tupO [.str (Str.ofString "at") t0, .int 0 t1]) ∈ led
inductive GlIn (led : List (Addr × Obj)) : Value → Gl → Prop
  | at0 {a b c d : Addr} {k : Int} {t0 t1 t2 t3 t4 t5 t6 : Tok} : (a, tupO [.str (Str.ofString "lv") t0, .int 1 t1, .ref b]) ∈ led → (b, tupO [.ref c]) ∈ led → (c, tupO [.str (Str.ofString "sig") t2, .int 1 t3, .int k t4, .none, .ref d]) ∈ led → (d, tupO [.str (Str.ofString "at") t5, .int 0 t6]) ∈ led →
      GlIn led (.ref a) (.at0 k)
  | pick {a b c d : Addr} {v : Value} {S : Src} {k : Int} {t0 t1 t2 t3 t4 t5 t6 t7 : Tok} : (a, tupO [.str (Str.ofString "lv") t0, .int 1 t1, .ref b]) ∈ led → (b, tupO [.ref c]) ∈ led → (c, tupO [.str (Str.ofString "sig") t2, .int 1 t3, .int k t4, .none, .ref d]) ∈ led →
      (d, tupO [.str (Str.ofString "pick") t5, v, .bool false, .int 0 t6, .int 1 t7]) ∈ led → SrcIn led v S → GlIn led (.ref a) (.pick k S)
  | two {a b c c2 d d2 i : Addr} {v : Value} {S : Src} {k : Int} {t0 t1 t2 t3 t4 t5 t6 t7 t8 t9 t10 t11 : Tok} : (a, tupO [.str (Str.ofString "lv") t0, .int 2 t1, .ref b]) ∈ led → (b, tupO [.ref c, .ref c2]) ∈ led → (c, tupO [.str (Str.ofString "sig") t2, .int 1 t3, .int k t4, .ref i, .ref d]) ∈ led →
      (i, tupO [v, .bool false]) ∈ led → (d, tupO [.str (Str.ofString "at") t5, .int 0 t6]) ∈ led → (c2, tupO [.str (Str.ofString "sig") t7, .int 1 t8, .int (5 - k) t9, .none, .ref d2]) ∈ led → (d2, tupO [.str (Str.ofString "at") t10, .int 0 t11]) ∈ led → SrcIn led v S → GlIn led (.ref a) (.two k S)
theorem GlIn.mono {led led' : List (Addr × Obj)} {v : Value} {G : Gl} (h : GlIn led v G) (hs : ∀ p ∈ led, p ∈ led') : GlIn led' v G := by
  cases h with
  | at0 m1 m2 m3 m4 => exact .at0 (hs _ m1) (hs _ m2) (hs _ m3) (hs _ m4)
  | pick m1 m2 m3 m4 h => exact .pick (hs _ m1) (hs _ m2) (hs _ m3) (hs _ m4) (h.mono hs)
  | two m1 m2 m3 m4 m5 m6 m7 h => exact .two (hs _ m1) (hs _ m2) (hs _ m3) (hs _ m4) (hs _ m5) (hs _ m6) (hs _ m7) (h.mono hs)
theorem GlIn.app {a b : List (Addr × Obj)} {v : Value} {G : Gl} (h : GlIn b v G) : GlIn (a ++ b) v G := h.mono fun _ hp => List.mem_append.mpr (.inr hp)
theorem GlIn.appL {a b : List (Addr × Obj)} {v : Value} {G : Gl} (h : GlIn a v G) : GlIn (a ++ b) v G := h.mono fun _ hp => List.mem_append.mpr (.inl hp)
def BdK (ks : List Int) : Prop := ∀ k ∈ ks, 0 ≤ k ∧ k < 6
def GlPost (ring met : Addr) (ks : List Int) (v : Value) (outs made : List (Addr × Obj)) : Prop :=
  ∃ G vs' n' ms' nm', RingOk vs' ∧ outs = [(ring, listOf (List.toArray vs') n'), (met, listOf (List.toArray ms') nm')] ∧ IntsAre ms' (ks ++ G.keys) ∧ GlIn made v G ∧ G.keys.length ≤ 7 ∧ BdK G.keys
local macro_rules | `(tactic| ktn_no "m:mem") => `(tactic| first | exact List.Mem.head _ | (refine' List.Mem.tail _ ?zm; (case zm => ktn_no "m:mem")) | assumption)
theorem goal_tell {ring met : Addr} {n nm : Nat} {tail : List (Addr × Obj)} {vs ms : List Value} {ks : List Int} (hrm : @Ne Nat ring met) (ho1 : ∀ p ∈ tail, p.1 ≠ ring) (ho2 : ∀ p ∈ tail, p.1 ≠ met) (hr : RingOk vs) (hms : IntsAre ms ks) (hl : ks.length ≤ 900) :
    Tell w mean mg mb 280 [.ref ring, .ref met] ([(ring, listOf (List.toArray vs) n), (met, listOf (List.toArray ms) nm)] ++ tail) 10
      (PostF [(ring, listOf (List.toArray vs) n), (met, listOf (List.toArray ms) nm)] tail (GlPost ring met ks)) := by
  have I : SrcTell w mean mg mb 6 := src_tell 6
  unfold Tell
  k_fill
  intro dp un gd cn cs a ccd cl outer A₀ base h₀ L m s Q E B F X N T hk hd hu hret
  dsimp only [List.cons_append, List.nil_append] at N
  have O : OwnOff tail [ring, met] := off2 ho1 ho2
  refine wpAny_call ?_
  k_dflt ktr_enter
  k_steps
  · refine' PostF.fin (outs := [(ring, _), (met, _)]) hret ?zF ?zN ?zD ?zP ?zf ?_
    ktn_no "m:end"
    exact ⟨.at0 _, _, _, _, _, by assumption, rfl, by simpa [Gl.keys] using hms, .at0 (by ktn_no "m:mem") (by ktn_no "m:mem") (by ktn_no "m:mem") (by ktn_no "m:mem"), by simp [Gl.keys], by simp [BdK, Gl.keys]⟩
  · refine' PostF.fin (outs := [(ring, _), (met, _)]) hret ?zF ?zN ?zD ?zP ?zf ?_
    ktn_no "m:end"
    rename SrcIn _ _ _ => hS
    exact ⟨.pick _ _, _, _, _, _, by assumption, rfl, by assumption, .pick (by ktn_no "m:mem") (by ktn_no "m:mem") (by ktn_no "m:mem") (by ktn_no "m:mem") (SrcIn.app (a := [_, _, _, _]) hS), by assumption, by assumption⟩
  · refine' PostF.fin (outs := [(ring, _), (met, _)]) hret ?zF ?zN ?zD ?zP ?zf ?_
    ktn_no "m:end"
    rename SrcIn _ _ _ => hS
    exact ⟨.two _ _, _, _, _, _, by assumption, rfl, by assumption, .two (by ktn_no "m:mem") (by ktn_no "m:mem") (by ktn_no "m:mem") (by ktn_no "m:mem") (by ktn_no "m:mem") (by ktn_no "m:mem") (by ktn_no "m:mem") (SrcIn.app (a := [_, _, _, _, _, _, _]) hS), by assumption, by assumption⟩
section
open PySem.Spec PyProof.V PySem.Calls
def LpEnd (h₀ : Heap) (L : Addr) (J : (Str → Option Value) → List (Addr × Obj) → Prop) (I : Addr) (io : Obj) (s₁ s₂ : Shared) : Prop :=
  ∃ h' tk m' nx, s₂ = { s₁ with heap := h', toks := tk } ∧ Fr h₀ L h' m' ∧ News h₀ L h' ((I, io) :: nx) ∧ (∀ q ∈ nx, q.1 ≠ I) ∧ J m' nx
def LpPost (h₀ : Heap) (L : Addr) (J : (Str → Option Value) → List (Addr × Obj) → Prop) (I : Addr) (io : Obj) (s₁ : Shared) (Q : Flow → Shared → Prop) (f : Flow) (s₂ : Shared) : Prop :=
  match f with
  | .ret v => Q (.ret v) s₂
  | .brk => Q .next s₂
  | _ => LpEnd h₀ L J I io s₁ s₂
theorem LpEnd.intro {h₀ : Heap} {L : Addr} {J : (Str → Option Value) → List (Addr × Obj) → Prop} {I : Addr} {io : Obj} {s₁ : Shared} {h' : Heap} {tk : Nat} {m' : Str → Option Value} {cur nx : List (Addr × Obj)}
    (F : Fr h₀ L h' m') (N : News h₀ L h' cur) (hs : ∀ p ∈ (I, io) :: nx, p ∈ cur) (ho : ∀ q ∈ nx, q.1 ≠ I) (hJ : J m' nx) : LpEnd h₀ L J I io s₁ { s₁ with heap := h', toks := tk } :=
  ⟨h', tk, m', nx, rfl, F, fun p hp => N p (hs p hp), ho, hJ⟩
/-- a loop over what lies in the ledger (or below it): the iterator I is the loop's own -/
theorem loop_any {prog : Program} {w : World} {A : Around} {E : Value → Shared → Prop} {s : Shared} {env : Env} {h₀ : Heap} {x : Str} {body : List Stmt} {Q : Flow → Shared → Prop} {I l : Addr} {lo : Obj} {fp : List Addr} {n : Nat} {P : Nat → Value → Prop} {St : Nat → Heap → Prop}
    {m₀ : Str → Option Value} {news : List (Addr × Obj)} (J : Nat → (Str → Option Value) → List (Addr × Obj) → Prop)
    (W : Walks prog w A I fp [I] n P St) (hfp : ∀ b ∈ fp, b = I ∨ b = l) (hI0 : h₀.get? I = none) (hIL : env.locals ≠ I) (hlL : env.locals ≠ l) (hob : ∀ i h, St i h → ∃ o, h.get? I = some o) (hIf : I ∈ fp)
    (hl : l = I ∨ (∃ o, h₀.get? l = some o) ∨ ∀ i m nx, J i m nx → (l, lo) ∈ nx)
    (hst : St 0 s.heap) (F : Fr h₀ env.locals s.heap m₀) (N : News h₀ env.locals s.heap news) (hnI : ∀ p ∈ news, p.1 ≠ I) (hj : J 0 m₀ news)
    (turn : ∀ i v m₁ nx h tk io, i < n → P i v → (∀ q ∈ nx, q.1 ≠ I) → J i m₁ nx → Fr h₀ env.locals h (fun y => if y = x then some v else m₁ y) → News h₀ env.locals h ((I, io) :: nx) →
      wpAny (model prog w) A (execs body env) (LpPost h₀ env.locals (J (i + 1)) I io { s with heap := h, toks := tk } Q) E { s with heap := h, toks := tk })
    (done : ∀ m₁ nx h tk, J n m₁ nx → Fr h₀ env.locals h m₁ → News h₀ env.locals h nx → Q .next { s with heap := h, toks := tk }) :
    LoopAtV prog w A h₀ env x body Q E (.ref I) s := by
  refine ⟨I, fp, [I], n, P, St, m₀, news, J, rfl, W, ?_, ?_, ?_, hst, F, N, hj, ?_, ?_⟩
  · intro hm
    rcases hfp _ hm with e | e
    · exact hIL e
    · exact hlL e
  · intro b hb
    rw [List.mem_singleton.mp hb]; exact hI0
  · intro p hp hq
    exact hnI p hp (List.mem_singleton.mp hq)
  · rintro i v m₁ nx s₁ own ⟨hh', tk', rfl⟩ hin hP hJ hoff hown _ hmem hst' F₁ N₁
    obtain ⟨io, hio⟩ := hob _ _ hst'
    have hIo : (I, io) ∈ own := hmem I hIf hI0 io hio
    have N₂ : News h₀ env.locals hh' ((I, io) :: nx) := fun p hp => by
      rcases List.mem_cons.mp hp with rfl | hp
      · exact N₁ _ (List.mem_append_left _ hIo)
      · exact N₁ _ (List.mem_append_right _ hp)
    refine wpAny_mono (turn i v m₁ nx hh' tk' io hin hP (fun q hq e => hoff q hq (by rw [e]; exact List.mem_singleton.mpr rfl)) hJ F₁ N₂) (fun f s₂ p => ?_) fun _ _ e => e
    have fin : LpEnd h₀ env.locals (J (i + 1)) I io { s with heap := hh', toks := tk' } s₂ → LoopStepU h₀ env.locals [I] own (J (i + 1)) { s with heap := hh', toks := tk' } .next s₂ := by
      rintro ⟨h', tk, m', nx', e, F', N', ho, hm⟩
      refine ⟨rfl, h', tk, m', nx', e, F', fun p hp => ?_, fun p hp hq => ho p hp (List.mem_singleton.mp hq), hm⟩
      rcases List.mem_append.mp hp with hp | hp
      · have h3 := N₁ p (List.mem_append_left _ hp)
        have hfp' : p.1 = I ∨ p.1 = l := hfp p.1 (hown p hp)
        rcases hfp' with e1 | e1
        · have e2 : p = (I, io) := by
            have h4 := h3.1
            rw [e1, hio] at h4
            exact Prod.ext e1 (Option.some.inj h4).symm
          rw [e2]
          exact N' _ (.head _)
        · rcases hl with elI | ⟨o, ho0⟩ | hl
          · have e3 : p.1 = I := e1.trans elI
            have e2 : p = (I, io) := by
              have h4 := h3.1
              rw [e3, hio] at h4
              exact Prod.ext e3 (Option.some.inj h4).symm
            rw [e2]
            exact N' _ (.head _)
          · have h5 := h3.2.2
            rw [e1, ho0] at h5
            cases h5
          · have a1 := hl _ _ _ hJ
            have a2 := hl _ _ _ hm
            have e2 : p = (l, lo) := by
              have h4 := h3.1
              have h6 := (N₁ _ (List.mem_append_right _ a1)).1
              rw [e1, h6] at h4
              exact Prod.ext e1 (Option.some.inj h4).symm
            rw [e2]
            exact N' _ (.tail _ a2)
      · exact N' _ (.tail _ hp)
    cases f with
    | ret v => exact .ret p
    | brk => exact .brk p
    | next => exact .next (fin p)
    | cont => exact .cont (fin p)
  · rintro h' tk m' news' F' N' _ hJ
    exact done m' news' h' tk hJ F' N'
theorem loop_list {prog : Program} {w : World} {A : Around} {E : Value → Shared → Prop} {s : Shared} {env : Env} {h₀ : Heap} {x : Str} {body : List Stmt} {Q : Flow → Shared → Prop} {l : Addr} {items : List Value} {k : Nat}
    {m₀ : Str → Option Value} {cur news : List (Addr × Obj)} (J : Nat → (Str → Option Value) → List (Addr × Obj) → Prop)
    (hh : A.handled = none) (F : Fr h₀ env.locals s.heap m₀) (N0 : News h₀ env.locals s.heap cur) (hs : ∀ p ∈ news, p ∈ cur) (hlm : (l, listOf (List.toArray items) k) ∈ cur)
    (hl : ∀ i m nx, J i m nx → (l, listOf (List.toArray items) k) ∈ nx) (hj : J 0 m₀ news)
    (turn : ∀ i v m₁ nx h tk I io, items[i]? = some v → (∀ q ∈ nx, q.1 ≠ I) → J i m₁ nx → Fr h₀ env.locals h (fun y => if y = x then some v else m₁ y) → News h₀ env.locals h ((I, io) :: nx) →
      wpAny (model prog w) A (execs body env) (LpPost h₀ env.locals (J (i + 1)) I io { s with heap := h, toks := tk } Q) E { s with heap := h, toks := tk })
    (done : ∀ m₁ nx h tk, J items.length m₁ nx → Fr h₀ env.locals h m₁ → News h₀ env.locals h nx → Q .next { s with heap := h, toks := tk }) :
    wpAny (model prog w) A (pyIter (.ref l)) (fun it s₂ => LoopAtV prog w A h₀ env x body Q E it s₂) E s := by
  have N : News h₀ env.locals s.heap news := fun p hp => N0 p (hs p hp)
  have hls : s.heap.IsList l (List.toArray items) := ⟨_, (N0 _ hlm).1, rfl, _, rfl⟩
  have hlt : l < s.heap.objs.size := Heap.lt_size (N0 _ hlm).1
  have hne : l ≠ s.heap.objs.size := Nat.ne_of_lt hlt
  refine wpAny_pyIter_list hls ?_
  have W := Walks.list (prog := prog) (w := w) hh s.heap.objs.size l hne (List.toArray items)
  have hlen : (List.toArray items).size = items.length := by simp
  rw [hlen] at W
  refine loop_any (l := l) J W (by intro b hb; simpa using hb) (next_is_new F) (fun e => absurd F.ns.lt (e ▸ Nat.lt_irrefl _)) (fun e => (N0 _ hlm).2.1 e.symm) (fun i h st => ?_) (.head _) (.inr (.inr hl))
    ⟨⟨_, Heap.get?_push_size _ rfl, rfl, rfl⟩, hls.at fun o e => Heap.get?_push_of_some _ e⟩ (F.push _) (fun p hp => ⟨Heap.get?_push_of_some _ (N p hp).1, (N p hp).2⟩) (fun p hp e => absurd (Heap.lt_size (N p hp).1) (e ▸ Nat.lt_irrefl _)) hj ?_ ?_
  · obtain ⟨o, ho, _⟩ := st.1
    exact ⟨o, ho⟩
  · intro i v m₁ nx h tk io hin hP hoff hJ F₁ N₁
    exact turn i v m₁ nx h tk _ io (by simpa using hP) hoff hJ F₁ N₁
  · exact done
theorem loop_tup {prog : Program} {w : World} {A : Around} {E : Value → Shared → Prop} {s : Shared} {env : Env} {h₀ : Heap} {x : Str} {body : List Stmt} {Q : Flow → Shared → Prop} {l : Addr} {items : List Value}
    {m₀ : Str → Option Value} {cur news : List (Addr × Obj)} (J : Nat → (Str → Option Value) → List (Addr × Obj) → Prop)
    (hh : A.handled = none) (F : Fr h₀ env.locals s.heap m₀) (N0 : News h₀ env.locals s.heap cur) (hs : ∀ p ∈ news, p ∈ cur) (hlm : (l, tupO items) ∈ cur)
    (hl : ∀ i m nx, J i m nx → (l, tupO items) ∈ nx) (hj : J 0 m₀ news)
    (turn : ∀ i v m₁ nx h tk I io, items[i]? = some v → (∀ q ∈ nx, q.1 ≠ I) → J i m₁ nx → Fr h₀ env.locals h (fun y => if y = x then some v else m₁ y) → News h₀ env.locals h ((I, io) :: nx) →
      wpAny (model prog w) A (execs body env) (LpPost h₀ env.locals (J (i + 1)) I io { s with heap := h, toks := tk } Q) E { s with heap := h, toks := tk })
    (done : ∀ m₁ nx h tk, J items.length m₁ nx → Fr h₀ env.locals h m₁ → News h₀ env.locals h nx → Q .next { s with heap := h, toks := tk }) :
    wpAny (model prog w) A (pyIter (.ref l)) (fun it s₂ => LoopAtV prog w A h₀ env x body Q E it s₂) E s := by
  have N : News h₀ env.locals s.heap news := fun p hp => N0 p (hs p hp)
  have hls : s.heap.IsTuple l (List.toArray items) := ⟨_, (N0 _ hlm).1, rfl, _, rfl⟩
  have hlt : l < s.heap.objs.size := Heap.lt_size (N0 _ hlm).1
  have hne : l ≠ s.heap.objs.size := Nat.ne_of_lt hlt
  refine wpAny_pyIter_tuple hls ?_
  have W := Walks.tuple (prog := prog) (w := w) hh s.heap.objs.size l hne (List.toArray items)
  have hlen : (List.toArray items).size = items.length := by simp
  rw [hlen] at W
  refine loop_any (l := l) J W (by intro b hb; simpa using hb) (next_is_new F) (fun e => absurd F.ns.lt (e ▸ Nat.lt_irrefl _)) (fun e => (N0 _ hlm).2.1 e.symm) (fun i h st => ?_) (.head _) (.inr (.inr hl))
    ⟨⟨_, Heap.get?_push_size _ rfl, rfl, rfl⟩, hls.at fun o e => Heap.get?_push_of_some _ e⟩ (F.push _) (fun p hp => ⟨Heap.get?_push_of_some _ (N p hp).1, (N p hp).2⟩) (fun p hp e => absurd (Heap.lt_size (N p hp).1) (e ▸ Nat.lt_irrefl _)) hj ?_ ?_
  · obtain ⟨o, ho, _⟩ := st.1
    exact ⟨o, ho⟩
  · intro i v m₁ nx h tk io hin hP hoff hJ F₁ N₁
    exact turn i v m₁ nx h tk _ io (by simpa using hP) hoff hJ F₁ N₁
  · exact done
theorem loop_range {prog : Program} {w : World} {A : Around} {E : Value → Shared → Prop} {s : Shared} {env : Env} {h₀ : Heap} {x : Str} {body : List Stmt} {Q : Flow → Shared → Prop} {r : Addr} {a₀ b₀ : Int} {t₀ u₀ v₀ : Tok} {n : Nat}
    {m₀ : Str → Option Value} {cur news : List (Addr × Obj)} (J : Nat → (Str → Option Value) → List (Addr × Obj) → Prop)
    (hh : A.handled = none) (hr : IsRange s.heap r a₀ b₀ 1 t₀ u₀ v₀) (hsmall : Builtin.Range.small a₀ b₀ 1 = true) (hn : Builtin.Range.rangeSize a₀ b₀ 1 = (n : Int)) (F : Fr h₀ env.locals s.heap m₀) (N0 : News h₀ env.locals s.heap cur) (hs : ∀ p ∈ news, p ∈ cur) (hj : J 0 m₀ news)
    (turn : ∀ i t m₁ nx h tk I io, i < n → (∀ q ∈ nx, q.1 ≠ I) → J i m₁ nx → Fr h₀ env.locals h (fun y => if y = x then some (.int (a₀ + (i : Int)) t) else m₁ y) → News h₀ env.locals h ((I, io) :: nx) →
      wpAny (model prog w) A (execs body env) (LpPost h₀ env.locals (J (i + 1)) I io { s with heap := h, toks := tk } Q) E { s with heap := h, toks := tk })
    (done : ∀ m₁ nx h tk, J n m₁ nx → Fr h₀ env.locals h m₁ → News h₀ env.locals h nx → Q .next { s with heap := h, toks := tk }) :
    wpAny (model prog w) A (pyIter (.ref r)) (fun it s₂ => LoopAtV prog w A h₀ env x body Q E it s₂) E s := by
  have N : News h₀ env.locals s.heap news := fun p hp => N0 p (hs p hp)
  refine wpAny_pyIter_range hr hsmall ?_
  have W := Walks.range (prog := prog) (w := w) hh s.heap.objs.size a₀ 1 n
  have hI : s.heap.objs.size ∈ [s.heap.objs.size] := .head _
  refine loop_any (l := s.heap.objs.size) (lo := default) J W (by intro b hb; exact .inl (List.mem_singleton.mp hb)) (next_is_new F) (fun e => absurd F.ns.lt (e ▸ Nat.lt_irrefl _)) (fun e => absurd F.ns.lt (e ▸ Nat.lt_irrefl _)) (fun i h st => ⟨_, st⟩) hI (.inl rfl)
    (by show IsRangeIter _ _ _ _ _; rw [hn]; simpa using Heap.get?_push_size _ rfl) (F.push _) (fun p hp => ⟨Heap.get?_push_of_some _ (N p hp).1, (N p hp).2⟩) (fun p hp e => absurd (Heap.lt_size (N p hp).1) (e ▸ Nat.lt_irrefl _)) hj ?_ ?_
  · rintro i v m₁ nx h tk io hin ⟨t, rfl⟩ hoff hJ F₁ N₁
    have e1 : a₀ + (i : Int) * 1 = a₀ + (i : Int) := by omega
    rw [e1] at F₁
    exact turn i t m₁ nx h tk _ io hin hoff hJ F₁ N₁
  · exact done
def Keep (x : Str) (ys : List Str) (m₀ m : Str → Option Value) : Prop := ∀ z, z ≠ x → ys.contains z = false → m z = m₀ z
theorem Keep.map {x : Str} {ys : List Str} {m₀ m : Str → Option Value} (h : Keep x ys m₀ m) (v : Option Value) :
    (fun y => if y = x then v else m y) = fun y => if y = x then v else if ys.contains y then m y else m₀ y := by
  funext y
  by_cases h1 : y = x
  · simp [h1]
  · simp only [if_neg h1]
    cases h2 : ys.contains y with
    | true => simp
    | false => simp only [Bool.false_eq_true, if_false]; exact h y h1 h2
theorem Keep.map' {x : Str} {ys : List Str} {m₀ m : Str → Option Value} (h : Keep x ys m₀ m) : (fun y => if y = x then m y else if ys.contains y then m y else m₀ y) = m := by
  funext y
  by_cases h1 : y = x
  · simp [h1]
  · simp only [if_neg h1]
    cases h2 : ys.contains y with
    | true => simp
    | false => simp only [Bool.false_eq_true, if_false]; exact (h y h1 h2).symm
theorem keep_base {x : Str} {ys : List Str} {m₀ : Str → Option Value} : Keep x ys m₀ m₀ := fun _ _ _ => rfl
theorem loop_listS {prog : Program} {w : World} {A : Around} {E : Value → Shared → Prop} {s : Shared} {env : Env} {h₀ : Heap} {x : Str} {body : List Stmt} {Q : Flow → Shared → Prop} {l : Addr} {items : List Value} {k : Nat}
    {m₀ : Str → Option Value} {cur news : List (Addr × Obj)} (ys : List Str) (J : Nat → List (Addr × Obj) → Prop)
    (hh : A.handled = none) (F : Fr h₀ env.locals s.heap m₀) (N0 : News h₀ env.locals s.heap cur) (hs : ∀ p ∈ news, p ∈ cur) (hlm : (l, listOf (List.toArray items) k) ∈ cur)
    (hl : ∀ i nx, J i nx → (l, listOf (List.toArray items) k) ∈ nx) (hj : J 0 news)
    (turn : ∀ i v (u : Str → Option Value) nx h tk I io, items[i]? = some v → (∀ q ∈ nx, q.1 ≠ I) → J i nx → Fr h₀ env.locals h (fun y => if y = x then some v else if ys.contains y then u y else m₀ y) → News h₀ env.locals h ((I, io) :: nx) →
      wpAny (model prog w) A (execs body env) (LpPost h₀ env.locals (fun m nx => Keep x ys m₀ m ∧ J (i + 1) nx) I io { s with heap := h, toks := tk } Q) E { s with heap := h, toks := tk })
    (done : ∀ (u : Str → Option Value) nx h tk, J items.length nx → Fr h₀ env.locals h (fun y => if y = x then u y else if ys.contains y then u y else m₀ y) → News h₀ env.locals h nx → Q .next { s with heap := h, toks := tk }) :
    wpAny (model prog w) A (pyIter (.ref l)) (fun it s₂ => LoopAtV prog w A h₀ env x body Q E it s₂) E s :=
  loop_list (fun i m nx => Keep x ys m₀ m ∧ J i nx) hh F N0 hs hlm (fun i m nx h => hl i nx h.2) ⟨keep_base, hj⟩
    (fun i v m₁ nx h tk I io hv hoff hJ F₁ N₁ => turn i v m₁ nx h tk I io hv hoff hJ.2 (by rw [← hJ.1.map]; exact F₁) N₁)
    (fun m₁ nx h tk hJ F₁ N₁ => done m₁ nx h tk hJ.2 (by rw [hJ.1.map']; exact F₁) N₁)
theorem loop_tupS {prog : Program} {w : World} {A : Around} {E : Value → Shared → Prop} {s : Shared} {env : Env} {h₀ : Heap} {x : Str} {body : List Stmt} {Q : Flow → Shared → Prop} {l : Addr} {items : List Value}
    {m₀ : Str → Option Value} {cur news : List (Addr × Obj)} (ys : List Str) (J : Nat → List (Addr × Obj) → Prop)
    (hh : A.handled = none) (F : Fr h₀ env.locals s.heap m₀) (N0 : News h₀ env.locals s.heap cur) (hs : ∀ p ∈ news, p ∈ cur) (hlm : (l, tupO items) ∈ cur)
    (hl : ∀ i nx, J i nx → (l, tupO items) ∈ nx) (hj : J 0 news)
    (turn : ∀ i v (u : Str → Option Value) nx h tk I io, items[i]? = some v → (∀ q ∈ nx, q.1 ≠ I) → J i nx → Fr h₀ env.locals h (fun y => if y = x then some v else if ys.contains y then u y else m₀ y) → News h₀ env.locals h ((I, io) :: nx) →
      wpAny (model prog w) A (execs body env) (LpPost h₀ env.locals (fun m nx => Keep x ys m₀ m ∧ J (i + 1) nx) I io { s with heap := h, toks := tk } Q) E { s with heap := h, toks := tk })
    (done : ∀ (u : Str → Option Value) nx h tk, J items.length nx → Fr h₀ env.locals h (fun y => if y = x then u y else if ys.contains y then u y else m₀ y) → News h₀ env.locals h nx → Q .next { s with heap := h, toks := tk }) :
    wpAny (model prog w) A (pyIter (.ref l)) (fun it s₂ => LoopAtV prog w A h₀ env x body Q E it s₂) E s :=
  loop_tup (fun i m nx => Keep x ys m₀ m ∧ J i nx) hh F N0 hs hlm (fun i m nx h => hl i nx h.2) ⟨keep_base, hj⟩
    (fun i v m₁ nx h tk I io hv hoff hJ F₁ N₁ => turn i v m₁ nx h tk I io hv hoff hJ.2 (by rw [← hJ.1.map]; exact F₁) N₁)
    (fun m₁ nx h tk hJ F₁ N₁ => done m₁ nx h tk hJ.2 (by rw [hJ.1.map']; exact F₁) N₁)
theorem loop_rangeS {prog : Program} {w : World} {A : Around} {E : Value → Shared → Prop} {s : Shared} {env : Env} {h₀ : Heap} {x : Str} {body : List Stmt} {Q : Flow → Shared → Prop} {r : Addr} {a₀ b₀ : Int} {t₀ u₀ v₀ : Tok} {n : Nat}
    {m₀ : Str → Option Value} {cur news : List (Addr × Obj)} (ys : List Str) (J : Nat → List (Addr × Obj) → Prop)
    (hh : A.handled = none) (hr : IsRange s.heap r a₀ b₀ 1 t₀ u₀ v₀) (hsmall : Builtin.Range.small a₀ b₀ 1 = true) (hn : Builtin.Range.rangeSize a₀ b₀ 1 = (n : Int)) (F : Fr h₀ env.locals s.heap m₀) (N0 : News h₀ env.locals s.heap cur) (hs : ∀ p ∈ news, p ∈ cur) (hj : J 0 news)
    (turn : ∀ i t (u : Str → Option Value) nx h tk I io, i < n → (∀ q ∈ nx, q.1 ≠ I) → J i nx → Fr h₀ env.locals h (fun y => if y = x then some (.int (a₀ + (i : Int)) t) else if ys.contains y then u y else m₀ y) → News h₀ env.locals h ((I, io) :: nx) →
      wpAny (model prog w) A (execs body env) (LpPost h₀ env.locals (fun m nx => Keep x ys m₀ m ∧ J (i + 1) nx) I io { s with heap := h, toks := tk } Q) E { s with heap := h, toks := tk })
    (done : ∀ (u : Str → Option Value) nx h tk, J n nx → Fr h₀ env.locals h (fun y => if y = x then u y else if ys.contains y then u y else m₀ y) → News h₀ env.locals h nx → Q .next { s with heap := h, toks := tk }) :
    wpAny (model prog w) A (pyIter (.ref r)) (fun it s₂ => LoopAtV prog w A h₀ env x body Q E it s₂) E s :=
  loop_range (fun i m nx => Keep x ys m₀ m ∧ J i nx) hh hr hsmall hn F N0 hs ⟨keep_base, hj⟩
    (fun i t m₁ nx h tk I io hv hoff hJ F₁ N₁ => turn i t m₁ nx h tk I io hv hoff hJ.2 (by rw [← hJ.1.map]; exact F₁) N₁)
    (fun m₁ nx h tk hJ F₁ N₁ => done m₁ nx h tk hJ.2 (by rw [hJ.1.map']; exact F₁) N₁)
theorem map_c {x c : Str} {m m₀ : Str → Option Value} {cv : Value} (h1 : m c = some cv) (h2 : ∀ z, z ≠ x → z ≠ c → m z = m₀ z) (v : Option Value) :
    (fun y => if y = x then v else m y) = fun y => if y = x then v else if y = c then some cv else m₀ y := by
  funext y
  by_cases hx : y = x
  · simp [hx]
  · by_cases hc : y = c
    · subst hc; simp [hx, h1]
    · simp [hx, hc, h2 y hx hc]
theorem map_c' {x c : Str} {m m₀ : Str → Option Value} {cv : Value} (h1 : m c = some cv) (h2 : ∀ z, z ≠ x → z ≠ c → m z = m₀ z) :
    m = fun y => if y = x then m x else if y = c then some cv else m₀ y := by
  rw [← map_c h1 h2 (m x)]
  funext y
  by_cases hx : y = x
  · simp [hx]
  · simp [hx]
theorem ints_at {vs : List Value} {ns : List Int} (h : IntsAre vs ns) {i : Nat} {v : Value} (hv : vs[i]? = some v) : ∃ k t, v = .int k t := by
  obtain ⟨n, t, rfl, _⟩ := h.at i v hv
  exact ⟨n, t, rfl⟩
theorem loop_rangeC {prog : Program} {w : World} {A : Around} {E : Value → Shared → Prop} {s : Shared} {env : Env} {h₀ : Heap} {x : Str} {body : List Stmt} {Q : Flow → Shared → Prop} {r : Addr} {a₀ b₀ : Int} {t₀ u₀ v₀ : Tok} {n : Nat} {cv₀ : Value}
    {m₀ : Str → Option Value} {cur news : List (Addr × Obj)} (c : Str) (J : Nat → Value → List (Addr × Obj) → Prop)
    (hh : A.handled = none) (hr : IsRange s.heap r a₀ b₀ 1 t₀ u₀ v₀) (hsmall : Builtin.Range.small a₀ b₀ 1 = true) (hn : Builtin.Range.rangeSize a₀ b₀ 1 = (n : Int)) (F : Fr h₀ env.locals s.heap m₀) (N0 : News h₀ env.locals s.heap cur) (hs : ∀ p ∈ news, p ∈ cur) (hc : m₀ c = some cv₀) (hj : J 0 cv₀ news)
    (turn : ∀ i t cv nx h tk I io, i < n → (∀ q ∈ nx, q.1 ≠ I) → J i cv nx → Fr h₀ env.locals h (fun y => if y = x then some (.int (a₀ + (i : Int)) t) else if y = c then some cv else m₀ y) → News h₀ env.locals h ((I, io) :: nx) →
      wpAny (model prog w) A (execs body env) (LpPost h₀ env.locals (fun m nx => ∃ cv, m c = some cv ∧ (∀ z, z ≠ x → z ≠ c → m z = m₀ z) ∧ J (i + 1) cv nx) I io { s with heap := h, toks := tk } Q) E { s with heap := h, toks := tk })
    (done : ∀ (u : Str → Option Value) cv nx h tk, J n cv nx → Fr h₀ env.locals h (fun y => if y = x then u y else if y = c then some cv else m₀ y) → News h₀ env.locals h nx → Q .next { s with heap := h, toks := tk }) :
    wpAny (model prog w) A (pyIter (.ref r)) (fun it s₂ => LoopAtV prog w A h₀ env x body Q E it s₂) E s :=
  loop_range (fun i m nx => ∃ cv, m c = some cv ∧ (∀ z, z ≠ x → z ≠ c → m z = m₀ z) ∧ J i cv nx) hh hr hsmall hn F N0 hs ⟨cv₀, hc, fun _ _ _ => rfl, hj⟩
    (fun i t m₁ nx h tk I io hv hoff hJ F₁ N₁ => by
      obtain ⟨cv, h1, h2, h3⟩ := hJ
      exact turn i t cv nx h tk I io hv hoff h3 (by rw [← map_c h1 h2]; exact F₁) N₁)
    (fun m₁ nx h tk hJ F₁ N₁ => by
      obtain ⟨cv, h1, h2, h3⟩ := hJ
      refine done m₁ cv nx h tk h3 ?_ N₁
      have e := map_c' h1 h2
      have e2 : (fun y => if y = x then m₁ y else if y = c then some cv else m₀ y) = fun y => if y = x then m₁ x else if y = c then some cv else m₀ y := by
        funext y; by_cases hy : y = x
        · simp [hy]
        · simp [hy]
      rw [e2, ← e]; exact F₁)
theorem off_same {I : Addr} {a b : List (Addr × Obj)} (h : ∀ q ∈ a, q.1 ≠ I) (e : b.map (·.1) = a.map (·.1)) : ∀ q ∈ b, q.1 ≠ I := fun q hq => by
  have h1 : q.1 ∈ a.map (·.1) := by rw [← e]; exact List.mem_map_of_mem hq
  obtain ⟨r, hr, e2⟩ := List.mem_map.mp h1
  rw [← e2]; exact h r hr
end
local macro_rules | `(tactic| walk_at "exec For") => `(tactic| (k_here; (rename Fr _ _ _ _ => lF'); (with_unfolding_all refine' For_invVF lF' ?k1 ?k2 ?_; (case k1 => exact rfl); (case k2 => exact rfl); k_whole)))
local macro_rules | `(tactic| walk_at "LpPost") => `(tactic| (dsimp only [LpPost]))
local macro_rules | `(tactic| ktn_no "m:tm") => `(tactic| first | assumption | solve_by_elim (maxDepth := 4) only [*] | (refine' List.Mem.tail _ ?zt; (case zt => ktn_no "m:tm")) | (refine' List.mem_append.mpr (Or.inr ?zt); (case zt => ktn_no "m:tm")) | (refine' List.mem_append.mpr (Or.inl ?zt); (case zt => ktn_no "m:tm")))
local macro_rules | `(tactic| ktn_no "m:sub") => `(tactic| first | exact List.forall_mem_nil _ | (refine' sub_cons ?a ?b; (case a => ktn_no "m:mem"); (case b => ktn_no "m:sub")) | (intro p9 h9; first | ktn_no "m:sb" | ktn_no "m:tm"))
section
open PySem.Spec PyProof.V PySem.Calls
theorem Keep.set {x k : Str} {ys : List Str} {m₀ m : Str → Option Value} {v : Option Value} (hk : ys.contains k = true) (h : Keep x ys m₀ m) : Keep x ys m₀ (fun y => if y = k then v else m y) := fun z h1 h2 => by
  have h3 : z ≠ k := fun e => by rw [e, hk] at h2; cases h2
  simp only [if_neg h3]
  exact h z h1 h2
theorem Keep.base2 {x : Str} {ys : List Str} {m₀ u : Str → Option Value} {v : Option Value} : Keep x ys m₀ (fun y => if y = x then v else if ys.contains y then u y else m₀ y) := fun z h1 h2 => by
  simp only [if_neg h1, h2, Bool.false_eq_true, if_false]
end
local macro_rules | `(tactic| ktn_no "m:keep") => `(tactic| first | exact Keep.base2 | (refine Keep.set rfl ?_; ktn_no "m:keep") | (intro z9 h9 k9; (try simp only [List.contains_cons, List.contains_nil, Bool.or_false, Bool.or_eq_false_iff, beq_eq_false_iff_ne, ne_eq] at k9); (simp [h9, k9]; done)))
local macro_rules | `(tactic| ktn_no "m:ni") => `(tactic| (fail_if_success ((try dsimp only); first | (with_reducible show wpAny _ _ (pyIter (Value.ref _)) _ _ _) | (with_reducible show wpAny _ _ (exec (Stmt.While _ _ _ _) _) _ _ _))))
local macro_rules | `(tactic| ktn_no "m:steps") => `(tactic| repeat' (first | (k_unfold; (try dsimp only)) | (k_end; wrow_close) | (ktn_no "m:ni"; first | walk1 | (dsimp only; walk1)) | (leave1; walk_say "STEP leave1"; try dsimp only) | fail "no step"))
theorem keys_tell {l : Addr} {vs : List Value} {ns : List Int} {tail : List (Addr × Obj)} (hi : IntsAre vs ns) (hlen : ns.length ≤ 63)
    (dp un : Nat) (gd : Option (List Code)) (cn : Str) (cs : Scope) (a : Addr) (ccd : Value) (cl : List (Str × Addr)) (outer : List Env) (A₀ : Around) (base h₀ : Heap) (L : Addr) (m : Str → Option Value) (s : Shared) (Q E : Value → Shared → Prop)
    (B : Below A₀ base outer h₀) (F : Fr h₀ L s.heap m) (X : (hd.heap_39 w.params).In h₀) (N : News h₀ L s.heap tail) (T : Top hd.view_39 (looseW hd.view_39 []) mean mg mb h₀) (hk : cs.kind = .function)
    (hl : h₀.IsList l vs.toArray) (hd : dp + 1 < recursionLimit) (hu : un + 200 < cLine)
    (hret : ∀ r ws n' h' tk', Fr h₀ L h' m → News h₀ L h' ((r, listOf (List.toArray ws) n') :: tail) → (∀ p ∈ tail, @LT.lt Nat _ p.1 r) → RingOk ws → Q (.ref r) { s with heap := h', toks := tk' }) :
    wpAny (model PySem.Challenge.rw_pq0458_01.row.prog w) (ktrTop dp un gd cn cs L a ccd cl outer) (call (.ref 259) [.ref l]) Q E s := by
  revert X
  k_fill
  intro X
  refine wpAny_call ?_
  k_dflt ktr_enter
  rename Fr h₀ L _ _ => FG9
  have hl' := hl.at (fun o e => FG9.keep l o e)
  ktn_no "m:steps"
  rename IntsAre _ (List.take 40 ns) => hI
  rename News _ _ _ _ => N9
  rename Fr _ _ _ _ => F9
  rename AllLt _ tail => lt0
  replace lt0 := tb_ltOf lt0
  have hlt : (List.take 40 ns).length ≤ 63 := by rw [List.length_take]; omega
  generalize List.take 40 ns = ns' at hI hlt
  rename_i ring _ _ sl items _ _ _ lsl
  refine' loop_listS (l := sl) (items := items) (k := 0) (news := (ring, listOf (List.toArray []) 0) :: (sl, listOf (List.toArray items) 0) :: tail) [Str.ofString "left", Str.ofString "hop"]
    (fun i nx => ∃ ws rs n, nx = (ring, listOf (List.toArray ws) n) :: (sl, listOf (List.toArray items) 0) :: tail ∧ IntsAre ws rs ∧ rs.length ≤ 9 * i) rfl F9 N9 (by ktn_no "m:sub") (by ktn_no "m:mem") ?_ ⟨[], [], 0, rfl, .nil, by simp⟩ ?_ ?_
  · rintro i nx ⟨ws, rs, n, rfl, _, _⟩
    ktn_no "m:mem"
  · rintro i v u nx h tk I io hv hoff ⟨ws, rs, n, rfl, hws, hrs⟩ F1 N1
    obtain ⟨k, t, rfl⟩ := ints_at hI hv
    clear F9 N9
    dsimp only [envOf] at F1 N1
    try k_fold
    ktn_no "m:steps"
    all_goals (
      rename Fr _ _ _ _ => F2
      rename News _ _ _ _ => N2
      refine' loop_rangeC (n := 9) (news := (ring, listOf (List.toArray ws) n) :: (I, io) :: (sl, listOf (List.toArray items) 0) :: tail) (Str.ofString "left")
        (fun j cv nx => ∃ ws' rs' n' k' t', cv = .int k' t' ∧ nx = (ring, listOf (List.toArray ws') n') :: (I, io) :: (sl, listOf (List.toArray items) 0) :: tail ∧ IntsAre ws' rs' ∧ rs'.length ≤ 9 * i + j) rfl (by assumption) rfl rfl F2 N2 (by ktn_no "m:sub") (by rfl) ⟨ws, rs, n, _, _, rfl, rfl, hws, by omega⟩ ?_ ?_)
    · rintro j t' cv nx h tk I' io' hj hoff' ⟨ws', rs', n', k', t'', rfl, rfl, hws', hrs'⟩ F3 N3
      clear F2 N2
      dsimp only [envOf] at F3 N3
      have hz : ws'.length ≤ 1000 := by have := hws'.length; have := hI.length; have := (List.getElem?_eq_some_iff.mp hv).1; omega
      have o1 : ∀ p ∈ tail, p.1 ≠ ring := fun p hp => Nat.ne_of_lt (lt0 p hp)
      have o2 := hoff _ (.head _)
      have o3 := hoff' _ (.head _)
      have o2' : @Ne Nat ring I := o2
      have o3' : @Ne Nat ring I' := o3
      try k_fold
      ktn_no "m:steps"
      · refine' LpEnd.intro (nx := (ring, listOf (List.toArray _) _) :: (sl, listOf (List.toArray items) 0) :: tail) (by k_asm) (by k_asm) ?hs0 ?ho0 ?hj0
        (case hs0 => ktn_no "m:sub")
        (case ho0 => exact off_same hoff rfl)
        exact ⟨by ktn_no "m:keep", _, _, _, rfl, ints_push hws' _ _, by simp only [List.length_append, List.length_cons, List.length_nil]; omega⟩
      · refine' LpEnd.intro (nx := (ring, listOf (List.toArray _) _) :: (I, io) :: (sl, listOf (List.toArray items) 0) :: tail) (by k_asm) (by k_asm) ?hs1 ?ho1 ?hj1
        (case hs1 => ktn_no "m:sub")
        (case ho1 => exact off_same hoff' rfl)
        exact ⟨_, rfl, by (intro z h1 h2; simp only [h1, h2, if_false]), _, _, _, _, _, rfl, rfl, ints_push hws' _ _, by simp only [List.length_append, List.length_cons, List.length_nil]; omega⟩
    · rintro u cv nx h tk ⟨ws', rs', n', k', t'', rfl, rfl, hws', hrs'⟩ F3 N3
      clear F2 N2
      dsimp only [envOf] at F3 N3
      ktn_no "m:steps"
      · refine' LpEnd.intro (nx := (ring, listOf (List.toArray _) _) :: (sl, listOf (List.toArray items) 0) :: tail) (by k_asm) (by k_asm) ?hs2 ?ho2 ?hj2
        (case hs2 => ktn_no "m:sub")
        (case ho2 => exact off_same hoff rfl)
        exact ⟨by ktn_no "m:keep", _, _, _, rfl, hws', by omega⟩
    · rintro j t' cv nx h tk I' io' hj hoff' ⟨ws', rs', n', k', t'', rfl, rfl, hws', hrs'⟩ F3 N3
      clear F2 N2
      dsimp only [envOf] at F3 N3
      have hz : ws'.length ≤ 1000 := by have := hws'.length; have := hI.length; have := (List.getElem?_eq_some_iff.mp hv).1; omega
      have o1 : ∀ p ∈ tail, p.1 ≠ ring := fun p hp => Nat.ne_of_lt (lt0 p hp)
      have o2 := hoff _ (.head _)
      have o3 := hoff' _ (.head _)
      have o2' : @Ne Nat ring I := o2
      have o3' : @Ne Nat ring I' := o3
      try k_fold
      ktn_no "m:steps"
      · refine' LpEnd.intro (nx := (ring, listOf (List.toArray _) _) :: (sl, listOf (List.toArray items) 0) :: tail) (by k_asm) (by k_asm) ?hs3 ?ho3 ?hj3
        (case hs3 => ktn_no "m:sub")
        (case ho3 => exact off_same hoff rfl)
        exact ⟨by ktn_no "m:keep", _, _, _, rfl, ints_push hws' _ _, by simp only [List.length_append, List.length_cons, List.length_nil]; omega⟩
      · refine' LpEnd.intro (nx := (ring, listOf (List.toArray _) _) :: (I, io) :: (sl, listOf (List.toArray items) 0) :: tail) (by k_asm) (by k_asm) ?hs4 ?ho4 ?hj4
        (case hs4 => ktn_no "m:sub")
        (case ho4 => exact off_same hoff' rfl)
        exact ⟨_, rfl, by (intro z h1 h2; simp only [h1, h2, if_false]), _, _, _, _, _, rfl, rfl, ints_push hws' _ _, by simp only [List.length_append, List.length_cons, List.length_nil]; omega⟩
    · rintro u cv nx h tk ⟨ws', rs', n', k', t'', rfl, rfl, hws', hrs'⟩ F3 N3
      clear F2 N2
      dsimp only [envOf] at F3 N3
      ktn_no "m:steps"
      · refine' LpEnd.intro (nx := (ring, listOf (List.toArray _) _) :: (sl, listOf (List.toArray items) 0) :: tail) (by k_asm) (by k_asm) ?hs5 ?ho5 ?hj5
        (case hs5 => ktn_no "m:sub")
        (case ho5 => exact off_same hoff rfl)
        exact ⟨by ktn_no "m:keep", _, _, _, rfl, hws', by omega⟩
  · rintro u nx h tk ⟨ws, rs, n, rfl, hws, hrs⟩ F1 N1
    clear F9 N9
    dsimp only [envOf] at F1 N1
    have hz : rs.length ≤ 1000 := by have := hI.length; omega
    ktn_no "m:steps"
    rename IntsAre _ (List.take _ _) => hI2
    rename _ ∧ AllLt _ tail => l2
    rename ring < _ ∧ _ => l3
    refine hret _ _ 0 _ _ (by with_reducible assumption) (fun p hp => ?_) ?_ ⟨_, hI2, by rw [List.length_take]; omega⟩
    · rename News h₀ _ _ _ => N5
      rcases List.mem_cons.mp hp with rfl | hp
      · exact N5 _ (.head _)
      · exact N5 _ (.tail _ (.tail _ (.tail _ hp)))
    · exact lt_sub (by with_reducible assumption) (by ktn_no "m:sbt")
section
open PySem.Spec PyProof.V PySem.Calls
section
open PySem.Calls PySem.Spec PyProof.V
theorem slot_rev_next : Slot "reversed" "__next__" "reversed.__next__" :=
  .of (owner := "reversed") (n := "__next__") (by rw [typeLookup_type, builtinLookup_eq_fast]; kernel_rfl) (by decide +kernel) (by decide +kernel) (by decide +kernel)
    (by first | exact .inl (by decide +kernel) | exact .inr (by decide +kernel)) (by rw [isSubtype_type]; kernel_rfl)
theorem entry_rev_next : entryFor table "reversed.__next__" = some Builtin.«reversed.__next__» := entryFor_of_tree (by kernel_rfl)
theorem args_rev_next (a : Value) : argsOk "reversed.__next__" ⟨[a], []⟩ := by
  unfold argsOk; kernel_rfl
theorem slot_rev_iter : Slot "reversed" "__iter__" "reversed.__iter__" :=
  .of (owner := "reversed") (n := "__iter__") (by rw [typeLookup_type, builtinLookup_eq_fast]; kernel_rfl) (by decide +kernel) (by decide +kernel) (by decide +kernel)
    (by first | exact .inl (by decide +kernel) | exact .inr (by decide +kernel)) (by rw [isSubtype_type]; kernel_rfl)
theorem entry_rev_iter : entryFor table "reversed.__iter__" = some Builtin.«dict_keyiterator.__iter__» :=
  entryFor_alias (id' := "dict_keyiterator.__iter__") (by kernel_rfl) (by first | rfl | decide +kernel | (unfold String.splitOn; simp +decide [String.splitOnAux])) (by decide +kernel) (by kernel_rfl)
theorem args_rev_iter (a : Value) : argsOk "reversed.__iter__" ⟨[a], []⟩ := by
  unfold argsOk; kernel_rfl
theorem tup_no_reversed : typeLookup (.type "tuple") "__reversed__" = pure none := by rw [typeLookup_type, builtinLookup_eq_fast]; kernel_rfl
theorem tup_getitem : typeLookup (.type "tuple") "__getitem__" = pure (some (.builtin "tuple.__getitem__")) := by rw [typeLookup_type, builtinLookup_eq_fast]; kernel_rfl
theorem sub_tup_dict : isSubtype (.type "tuple") (.type "dict") = pure false := by rw [isSubtype_type]; kernel_rfl
abbrev revTupO (l : Addr) (i : Int) : Obj := { cls := .type "reversed", data := .fields #[.ref l, rawInt i] }
def IsRevTup (h : Heap) (a l : Addr) (i : Int) : Prop := ∃ o, h.get? a = some o ∧ o.cls = .type "reversed" ∧ o.data = .fields #[.ref l, rawInt i]
theorem IsRevTup.typeIs {s : Shared} {a l : Addr} {i : Int} (x : IsRevTup s.heap a l i) : s.TypeIs (.ref a) "reversed" := let ⟨o, ho, hc, _⟩ := x; ⟨o, ho, hc⟩
theorem IsRevTup.at {h h' : Heap} {a l : Addr} {i : Int} (x : IsRevTup h a l i) (e : ∀ o, h.get? a = some o → h'.get? a = some o) : IsRevTup h' a l i := let ⟨o, ho, r⟩ := x; ⟨o, e _ ho, r⟩
variable {prog : Program} {w : World} {A : Around} {E : Value → Shared → Prop} {s : Shared}
theorem code_rev_new {l : Addr} {items : Array Value} {Q₁ : Value → Shared → Prop} (ht : IsTup s.heap l items) (hsz : (items.size : Int) < 2 ^ 63)
    (h : ∀ tk, Q₁ (.ref s.heap.objs.size) { s with heap := s.heap.push (revTupO l ((items.size : Int) - 1)), toks := tk }) :
    codeAny (model prog w) A (.call (.builtin "reversed.__new__") ⟨[.type "reversed", .ref l], []⟩) (wants Q₁ E) s := by
  refine codeAny_of_tree ?_
  show wpAny _ A.in1 (do checkBuiltinCall "reversed.__new__" ⟨[.type "reversed", .ref l], []⟩; again (.builtin "reversed.__new__" ⟨[.type "reversed", .ref l], []⟩)) _ _ s
  refine wpAny_bind (wpAny_of_eq (PySem.F.newCall_reversed_1 _) (wpAny_pure ⟨plainId_quiet PySem.F.plain_reversed_new _, codeAny_builtin PySem.F.entry_reversed_new ?_⟩))
  rw [Around.under_plainId PySem.F.plain_reversed_new _]
  unfold Builtin.«reversed.__new__»
  refine wpAny_bind (wpAny_of_eq (newClass_reversed _) ?_)
  try dsimp only
  refine wpAny_bind (wpAny_of_eq (a := ()) (by first | rfl | kernel_rfl) ?_)
  refine wpAny_bind (wpAny_of_eq (a := ()) (by first | rfl | kernel_rfl) ?_)
  try dsimp only
  refine wpAny_bind (wpAny_specialOf ht.typeIs tup_no_reversed ?_)
  try dsimp only
  refine wpAny_bind ?_
  refine wpAny_bind (m := isInstance (.ref l) (.type "dict")) (wpAny_isInstance ht.typeIs sub_tup_dict ?_)
  simp only [Bool.false_eq_true, if_false]
  refine wpAny_bind (m := specialOf (.ref l) "__getitem__") (wpAny_specialOf ht.typeIs tup_getitem ?_)
  dsimp only
  rw [if_pos (by decide)]
  refine wpAny_pure ?_
  simp only [Bool.not_true, Bool.false_eq_true, if_false]
  refine wpAny_bind (PyProof.Rows.len_tuple ht hsz ?_)
  refine wpAny_bind (wpAny_of_eq (a := some (items.size : Int)) (by first | rfl | kernel_rfl) ?_)
  dsimp only
  refine wpAny_bind ?_
  unfold Builtin.SmallTypes.newRecord
  refine wpAny_newObj_type ?_ (by size_fits)
  exact wpAny_pure (h _)
theorem called_rev : TypeCalled "reversed" "reversed.__new__" "object.__init__" where
  notType := by decide +kernel
  canCreate := PySem.F.create_reversed
  mro := ⟨_, _, PySem.F.mro_reversed⟩
  made := PySem.F.made_reversed
  plain := PySem.F.plain_reversed_new
  sub := PySem.F.sub_reversed_self
  init := .of (owner := "object") (n := "__init__") (by rw [typeLookup_type, builtinLookup_eq_fast]; kernel_rfl) (by decide +kernel) (by decide +kernel) (by decide +kernel)
    (by first | exact .inl (by decide +kernel) | exact .inr (by decide +kernel)) (by rw [isSubtype_type]; kernel_rfl)
theorem rev_init_args (a b : Value) : argsOk "object.__init__" ⟨[a, b], []⟩ := by unfold argsOk; kernel_rfl
theorem call_rev_tup {l : Addr} {items : Array Value} {Q : Value → Shared → Prop} (ht : IsTup s.heap l items) (hsz : (items.size : Int) < 2 ^ 63)
    (h : ∀ tk, Q (.ref s.heap.objs.size) { s with heap := s.heap.push (revTupO l ((items.size : Int) - 1)), toks := tk }) : wpAny (model prog w) A (call (.type "reversed") [.ref l]) Q E s := by
  refine callType_codes (Q₁ := fun obj s₁ => obj = .ref s.heap.objs.size ∧ ∃ tk, s₁ = { s with heap := s.heap.push (revTupO l ((items.size : Int) - 1)), toks := tk }) called_rev (PySem.F.typeCall_reversed_1 _) F.entry_object_init
    (code_rev_new ht hsz fun tk => ⟨rfl, tk, rfl⟩) ?_
  rintro obj s₁ ⟨rfl, tk, rfl⟩
  have hT : Shared.TypeIs { s with heap := s.heap.push (revTupO l ((items.size : Int) - 1)), toks := tk } (.ref s.heap.objs.size) "reversed" := ⟨_, Heap.get?_push_size _ rfl, rfl⟩
  refine ⟨hT, rev_init_args _ _, ?_⟩
  exact (object_init_meets (self := .ref s.heap.objs.size) (rest := [.ref l]) called_rev.init.lookup called_rev.made (by decide)) prog w A.in1 (wants (fun r s₂ => r = .none ∧ Q (.ref s.heap.objs.size) s₂) E) _ ⟨hT, rfl, h tk⟩
theorem rev_item {it l : Addr} {i : Nat} {items : Array Value} {x : Value} {Q : Option Value → Shared → Prop} (hit : IsRevTup s.heap it l (i : Int)) (ht : IsTup s.heap l items) (hx : items[i]? = some x) (hi : (i : Int) < 2 ^ 63)
    (hQ : ∀ h' tk, IsRevTup h' it l ((i : Int) - 1) → Heap.SameBut it s.heap h' → Q (some x) { s with heap := h', toks := tk }) : wpAny (model prog w) A (pyNext (.ref it)) Q E s := by
  obtain ⟨o, ho, hc, hd⟩ := id hit
  have hlt : i < items.size := (Array.getElem?_eq_some_iff.mp hx).1
  unfold pyNext
  refine wpAny_bind (wpAny_attempt (wpAny_callSpecial?_slot (name := Str.ofString "__next__") hit.typeIs slot_rev_next
    (wpAny_call_entry slot_rev_next hit.typeIs entry_rev_next ?_ (args_rev_next _))))
  unfold Builtin.«reversed.__next__»
  refine wpAny_bind (wpAny_of_eq (a := (Value.ref it, [])) rfl ?_)
  try dsimp only
  refine wpAny_bind (wpAny_field ho hd (x := .ref l) rfl ?_)
  refine wpAny_bind (wpAny_field ho hd (x := rawInt (i : Int)) rfl ?_)
  show wpAny _ _ (if (i : Int) < 0 then _ else _) _ _ s
  rw [if_neg (by omega)]
  refine wpAny_bind (wpAny_specialOf ht.typeIs tup_getitem ?_)
  simp only [Option.isNone_some, Bool.false_eq_true, if_false]
  refine wpAny_bind ?_
  refine wpAny_bind (wpAny_fresh (wpAny_pure ?_))
  refine wpAny_bind (wpAny_attempt (PyProof.Rows.getItem_tuple (j := i) (x := x) ht (by omega) hi (by simp [seqIndex?]; omega) hx ?_))
  dsimp only
  refine wpAny_bind (wpAny_field ho hd (x := rawInt (i : Int)) rfl ?_)
  dsimp only [rawInt]
  refine wpAny_bind (wpAny_setField ho hd (by simp) ?_)
  refine wpAny_pure ⟨x, rfl, wpAny_pure (hQ _ _ ?_ (Heap.SameBut.update ..))⟩
  exact ⟨_, Heap.get?_update_self _ ho (Obj.isFreed_of_fields (Obj.data_mapFields hd _)), (Obj.cls_mapFields ..).trans hc, by
    rw [Obj.data_mapFields hd]; simp [rawInt]⟩
theorem rev_end {it l : Addr} {Q : Option Value → Shared → Prop} (hh : A.handled = none) (hit : IsRevTup s.heap it l (-1))
    (hQ : ∀ h', Heap.ExtBut it s.heap h' → Q none { s with heap := h' }) : wpAny (model prog w) A (pyNext (.ref it)) Q E s := by
  obtain ⟨o, ho, hc, hd⟩ := id hit
  unfold pyNext
  refine wpAny_bind (wpAny_attempt (wpAny_callSpecial?_slot (name := Str.ofString "__next__") hit.typeIs slot_rev_next
    (wpAny_call_entry slot_rev_next hit.typeIs entry_rev_next ?_ (args_rev_next _))))
  unfold Builtin.«reversed.__next__»
  refine wpAny_bind (wpAny_of_eq (a := (Value.ref it, [])) rfl ?_)
  try dsimp only
  refine wpAny_bind (wpAny_field ho hd (x := .ref l) rfl ?_)
  refine wpAny_bind (wpAny_field ho hd (x := rawInt (-1)) rfl ?_)
  show wpAny _ _ (if (-1 : Int) < 0 then _ else _) _ _ s
  rw [if_pos (by decide)]
  refine wpAny_bind (wpAny_rule ?_)
  refine wpAny_bind ?_
  refine wpAny_bind (m := setField (.ref it) 1 (rawInt (-1))) (wpAny_setField ho hd (by simp) ?_)
  refine wpAny_setField (vs := #[.ref l, rawInt (-1)]) (Heap.get?_update_self _ ho (Obj.isFreed_of_fields (Obj.data_mapFields hd _))) (by rw [Obj.data_mapFields hd]; simp) (by simp) ?_
  refine wpAny_bind ?_
  unfold Builtin.SmallTypes.stopIteration
  refine wpAny_bind ?_
  simp only [newExc, newTuple]
  refine wpAny_bind (wpAny_newObj_type ?_ (by size_fits))
  refine wpAny_bind (m := firstArgMember _ _) (wpAny_of_eq (a := Value.none) (by first | rfl | (simp only [firstArgMember]; rfl)) ?_)
  refine wpAny_newObj_type ?_ (by size_fits)
  simp only [raiseNew]
  refine wpAny_bind (wpAny_handled ?_)
  first | rw [show A.in1.handled = none from hh] | rw [hh]
  refine wpAny_bind (wpAny_pure (wpAny_throw ?_))
  refine wpAny_bind (wpAny_isInstance (T := "StopIteration") (b := true) ⟨_, Heap.get?_push_size _ rfl, rfl⟩ isSubtype_stop ?_)
  exact wpAny_pure (hQ _ (((((Heap.SameBut.update ..).extBut).trans (Heap.SameBut.update ..).extBut).push _).push _))
theorem walks_rev (hh : A.handled = none) (I l : Addr) (hne : l ≠ I) (items : Array Value) (hsz : (items.size : Int) < 2 ^ 63) :
    Walks prog w A I [I, l] [I] items.size (fun i v => items[items.size - 1 - i]? = some v) (fun i h => i ≤ items.size ∧ IsRevTup h I l ((items.size : Int) - 1 - (i : Int)) ∧ IsTup h l items) where
  sub := fun b hb => by simp at hb; simp [hb]
  frame := fun _ _ _ x hk => ⟨x.1, x.2.1.at fun o e => hk I (by simp) o e, let ⟨o, ho, r⟩ := x.2.2; ⟨o, hk l (by simp) o ho, r⟩⟩
  item := fun i s Q E hi x hQ => by
    have e : (items.size : Int) - 1 - (i : Int) = ((items.size - 1 - i : Nat) : Int) := by omega
    have hit := x.2.1
    rw [e] at hit
    have hx : items[items.size - 1 - i]? = some (items[items.size - 1 - i]'(by omega)) := Array.getElem?_eq_getElem (by omega)
    refine rev_item hit x.2.2 hx (by omega) fun h' tk hit' hs' => ?_
    have e2 : ((items.size - 1 - i : Nat) : Int) - 1 = (items.size : Int) - 1 - ((i + 1 : Nat) : Int) := by omega
    rw [e2] at hit'
    exact hQ _ h' tk hx ⟨hi, hit', let ⟨o, ho, r⟩ := x.2.2; ⟨o, (hs'.2 l hne).trans ho, r⟩⟩ fun b o hb eo => hs'.extBut b o (fun h => hb (by simp [h])) eo
  done := fun s Q E x hQ => by
    have e : (items.size : Int) - 1 - (items.size : Int) = -1 := by omega
    have hit := x.2.1
    rw [e] at hit
    exact rev_end hh hit fun h' he' => hQ h' s.toks fun b o hb eo => he' b o (fun h => hb (by simp [h])) eo
  self := fun _ s _ _ x hQ => by
    refine wpAny_pyIter_slot x.2.1.typeIs slot_rev_iter (wpAny_call_entry slot_rev_iter x.2.1.typeIs entry_rev_iter ?_ (args_rev_iter _))
    show wpAny _ _ (ret (.ref _)) _ _ s
    exact wpAny_pure ⟨_, rfl, "reversed", _, x.2.1.typeIs, slot_rev_next.lookup, hQ⟩
end
theorem loop_revS {prog : Program} {w : World} {A : Around} {E : Value → Shared → Prop} {s : Shared} {env : Env} {h₀ : Heap} {x : Str} {body : List Stmt} {Q : Flow → Shared → Prop} {r l : Addr} {items : List Value} {k : Int}
    {m₀ : Str → Option Value} {cur news : List (Addr × Obj)} (ys : List Str) (J : Nat → List (Addr × Obj) → Prop)
    (hh : A.handled = none) (F : Fr h₀ env.locals s.heap m₀) (N0 : News h₀ env.locals s.heap cur) (hs : ∀ p ∈ news, p ∈ cur) (hrm : (r, revTupO l k) ∈ cur) (hlm : (l, tupO items) ∈ cur) (hk : k = ((List.toArray items).size : Int) - 1) (hsz : items.length ≤ 1000) (hne : l ≠ r)
    (hnr : ∀ p ∈ news, p.1 ≠ r) (hl : ∀ i nx, J i nx → (l, tupO items) ∈ nx) (hj : J 0 news)
    (turn : ∀ i v (u : Str → Option Value) nx h tk I io, i < items.length → items[items.length - 1 - i]? = some v → (∀ q ∈ nx, q.1 ≠ I) → J i nx → Fr h₀ env.locals h (fun y => if y = x then some v else if ys.contains y then u y else m₀ y) → News h₀ env.locals h ((I, io) :: nx) →
      wpAny (model prog w) A (execs body env) (LpPost h₀ env.locals (fun m nx => Keep x ys m₀ m ∧ J (i + 1) nx) I io { s with heap := h, toks := tk } Q) E { s with heap := h, toks := tk })
    (done : ∀ (u : Str → Option Value) nx h tk, J items.length nx → Fr h₀ env.locals h (fun y => if y = x then u y else if ys.contains y then u y else m₀ y) → News h₀ env.locals h nx → Q .next { s with heap := h, toks := tk }) :
    wpAny (model prog w) A (pyIter (.ref r)) (fun it s₂ => LoopAtV prog w A h₀ env x body Q E it s₂) E s := by
  have N : News h₀ env.locals s.heap news := fun p hp => N0 p (hs p hp)
  have ht : IsTup s.heap l (List.toArray items) := ⟨_, (N0 _ hlm).1, rfl, _, rfl⟩
  have hlen : (List.toArray items).size = items.length := by simp
  have hir : IsRevTup s.heap r l (((List.toArray items).size : Int) - 1 - ((0 : Nat) : Int)) := ⟨_, (N0 _ hrm).1, rfl, by rw [hk]; simp⟩
  have W := walks_rev (prog := prog) (w := w) hh r l hne (List.toArray items) (by rw [hlen]; omega)
  rw [hlen] at W hir
  refine W.self 0 s _ _ ⟨Nat.zero_le _, hir, ht⟩ ?_
  refine loop_any (l := l) (fun i m nx => Keep x ys m₀ m ∧ J i nx) W (by intro b hb; simpa using hb) (N0 _ hrm).2.2 (fun e => (N0 _ hrm).2.1 e.symm) (fun e => (N0 _ hlm).2.1 e.symm) (fun i h st => ?_) (.head _) (.inr (.inr fun i m nx h => hl i nx h.2))
    ⟨Nat.zero_le _, hir, ht⟩ F N hnr ⟨keep_base, hj⟩ ?_ ?_
  · obtain ⟨o, ho, _⟩ := st.2.1
    exact ⟨o, ho⟩
  · intro i v m₁ nx h tk io hin hP hoff hJ F₁ N₁
    exact turn i v m₁ nx h tk _ io hin (by simpa using hP) hoff hJ.2 (by rw [← hJ.1.map]; exact F₁) N₁
  · exact fun m₁ nx h tk hJ F₁ N₁ => done m₁ nx h tk hJ.2 (by rw [hJ.1.map']; exact F₁) N₁
theorem rev_tup_K {prog : Program} {w : World} {A : Around} {E : Value → Shared → Prop} {s : Shared} {h₀ : Heap} {L l : Addr} {m : Str → Option Value} {items : List Value} {news : List (Addr × Obj)} {Q : Value → Shared → Prop}
    (F : Fr h₀ L s.heap m) (N : News h₀ L s.heap news) (hm : (l, tupO items) ∈ news) (hsz : items.length ≤ 1000)
    (h : ∀ D h' tk, Fr h₀ L h' m → News h₀ L h' ((D, revTupO l (((List.toArray items).size : Int) - 1)) :: news) → (∀ p ∈ news, p.1 < D) → Q (.ref D) { s with heap := h', toks := tk }) : wpAny (model prog w) A (call (.type "reversed") [.ref l]) Q E s :=
  call_rev_tup (items := List.toArray items) ⟨_, (N _ hm).1, rfl, _, rfl⟩ (by simp; omega) fun tk => h _ _ tk (F.push _) (N.push F _) fun p hp => Heap.lt_size (N p hp).1
inductive SrcsIn (led : List (Addr × Obj)) : List Value → List Src → Prop
  | nil : SrcsIn led [] []
  | cons {v : Value} {S : Src} {vs : List Value} {Ss : List Src} : SrcIn led v S → SrcsIn led vs Ss → SrcsIn led (v :: vs) (S :: Ss)
theorem SrcsIn.mono {led led' : List (Addr × Obj)} {vs : List Value} {Ss : List Src} (h : SrcsIn led vs Ss) (hs : ∀ p ∈ led, p ∈ led') : SrcsIn led' vs Ss := by
  induction h with
  | nil => exact .nil
  | cons a _ ih => exact .cons (a.mono hs) ih
theorem SrcsIn.append {led : List (Addr × Obj)} {vs ws : List Value} {Ss Ts : List Src} (h : SrcsIn led vs Ss) (h2 : SrcsIn led ws Ts) : SrcsIn led (vs ++ ws) (Ss ++ Ts) := by
  induction h with
  | nil => exact h2
  | cons a _ ih => exact .cons a ih
theorem SrcsIn.reverse {led : List (Addr × Obj)} {vs : List Value} {Ss : List Src} (h : SrcsIn led vs Ss) : SrcsIn led vs.reverse Ss.reverse := by
  induction h with
  | nil => exact .nil
  | cons a _ ih => simp only [List.reverse_cons]; exact ih.append (.cons a .nil)
theorem SrcsIn.length {led : List (Addr × Obj)} {vs : List Value} {Ss : List Src} (h : SrcsIn led vs Ss) : vs.length = Ss.length := by
  induction h with
  | nil => rfl
  | cons _ _ ih => simp [ih]
theorem SrcsIn.at {led : List (Addr × Obj)} {vs : List Value} {Ss : List Src} (h : SrcsIn led vs Ss) : ∀ {i : Nat} {v : Value}, vs[i]? = some v → ∃ S, Ss[i]? = some S ∧ SrcIn led v S := by
  induction h with
  | nil => intro i v h; simp at h
  | cons a _ ih =>
    intro i v h
    cases i with
    | zero => simp at h; subst h; exact ⟨_, rfl, a⟩
    | succ i => simpa using ih (by simpa using h)
theorem SrcsIn.snoc {led : List (Addr × Obj)} {p : List Value} {y : Value} {Ss : List Src} (h : SrcsIn led (p ++ [y]) Ss) : ∃ Ps S, Ss = Ps ++ [S] ∧ SrcsIn led p Ps ∧ SrcIn led y S := by
  have hr := h.reverse
  simp only [List.reverse_append, List.reverse_cons, List.reverse_nil, List.nil_append, List.cons_append] at hr
  generalize hq : Ss.reverse = T at hr
  cases hr with
  | cons a b =>
    rename_i S Ts
    refine ⟨Ts.reverse, S, ?_, by simpa using b.reverse, a⟩
    have := congrArg List.reverse hq
    simpa using this
noncomputable def Src.kids : Src → List Src
  | .const _ => []
  | .sig _ => []
  | .un k => [.sig k]
  | .bin s k => [s, .sig k]
noncomputable def Src.own : Src → List Int
  | .sig k => [k]
  | _ => []
noncomputable def Src.size : Src → Nat
  | .const _ => 1
  | .sig _ => 1
  | .un _ => 2
  | .bin s _ => s.size + 2
def KidsPost (tail : List (Addr × Obj)) (S : Src) (v : Value) (outs made : List (Addr × Obj)) : Prop :=
  ∃ t items, v = .ref t ∧ outs = [] ∧ made = [(t, tupO items)] ∧ SrcsIn tail items S.kids ∧ items.length ≤ 2
end
theorem kids_tell {v : Value} {S : Src} {T0 tail : List (Addr × Obj)} (hS : SrcIn T0 v S) (hT : ∀ p ∈ T0, p ∈ tail) :
    Tell w mean mg mb 35 [v] ([] ++ tail) 1 (PostF [] tail (KidsPost T0 S)) := by
  unfold Tell
  k_fill
  cases hS
  all_goals (
    rename _ ∈ T0 => hm
    replace hm := hT _ hm
    intro dp un gd cn cs a ccd cl outer A₀ base h₀ L m s Q E B F X N T hk hd hu hret
    dsimp only [List.nil_append] at N
    refine wpAny_call ?_
    k_dflt ktr_enter
    ktn_no "m:steps")
  · refine' PostF.fin (outs := []) hret ?zF ?zN ?zD ?zP ?zf ?_
    ktn_no "m:end"
    exact ⟨_, [], rfl, rfl, rfl, .nil, by simp⟩
  · refine' PostF.fin (outs := []) hret ?zF ?zN ?zD ?zP ?zf ?_
    ktn_no "m:end"
    exact ⟨_, [], rfl, rfl, rfl, .nil, by simp⟩
  · refine' PostF.fin (outs := []) hret ?zF ?zN ?zD ?zP ?zf ?_
    ktn_no "m:end"
    exact ⟨_, [_], rfl, rfl, rfl, .cons (by assumption) .nil, by simp⟩
  · refine' PostF.fin (outs := []) hret ?zF ?zN ?zD ?zP ?zf ?_
    ktn_no "m:end"
    exact ⟨_, [_, _], rfl, rfl, rfl, .cons (by assumption) (.cons (by assumption) .nil), by simp⟩
def SubPost (tail : List (Addr × Obj)) (S : Src) (v : Value) (outs made : List (Addr × Obj)) : Prop :=
  ∃ r vs Ss n, v = .ref r ∧ outs = [] ∧ made = [(r, listOf (List.toArray vs) n)] ∧ SrcsIn tail vs Ss ∧ vs.length ≤ S.size ∧ (Ss.flatMap Src.own).Perm S.keys
theorem popL_K {prog : Program} {w : World} {A : Around} {E : Value → Shared → Prop} {s : Shared} {h₀ : Heap} {L D : Addr} {m : Str → Option Value} {news news' : List (Addr × Obj)} {n : Nat} {q : List Value} {y : Value} {Q : Value → Shared → Prop}
    (F : Fr h₀ L s.heap m) (N : News h₀ L s.heap news) (U : Upd D (listOf (List.toArray (q ++ [y])) n) (listOf (List.toArray q) (n + 1)) news news')
    (hz : (q ++ [y]).length ≤ sizeLine) (h : ∀ h', Fr h₀ L h' m → News h₀ L h' news' → Q y { s with heap := h' }) : wpAny (model prog w) A (call (.builtin "list.pop") [.ref D]) Q E s :=
  kl_pop (its := List.toArray (q ++ [y])) (p := q) (y := y) F N (kpa_last y q) U hz h
noncomputable def sizes (Ss : List Src) : Nat := (Ss.map Src.size).sum
theorem sizes_append (a b : List Src) : sizes (a ++ b) = sizes a + sizes b := by simp [sizes]
theorem sizes_reverse (a : List Src) : sizes a.reverse = sizes a := by simp [sizes, List.sum_reverse]
theorem sizes_kids (S : Src) : sizes S.kids + 1 = S.size := by
  cases S <;> simp [sizes, Src.kids, Src.size]
theorem src_pos (S : Src) : 1 ≤ S.size := by cases S <;> simp [Src.size]
theorem length_sizes : ∀ Ss : List Src, Ss.length ≤ sizes Ss
  | [] => Nat.le_refl _
  | S :: r => by
    have h1 := length_sizes r
    have h2 := src_pos S
    show r.length + 1 ≤ (Src.size S :: r.map Src.size).sum
    rw [List.sum_cons]
    have : sizes r = (r.map Src.size).sum := rfl
    omega
theorem keys_kids (S : Src) : (S.own ++ S.kids.flatMap Src.keys).Perm S.keys := by
  cases S with
  | const c => simp [Src.own, Src.kids, Src.keys]
  | sig k => simp [Src.own, Src.kids, Src.keys]
  | un k => simp [Src.own, Src.kids, Src.keys]
  | bin s k =>
    simp only [Src.own, Src.kids, Src.keys, List.flatMap_cons, List.flatMap_nil, List.nil_append, List.append_nil]
    exact List.perm_append_singleton k s.keys
theorem flatMap_perm {α β : Type} (f : α → List β) {a b : List α} (h : a.Perm b) : (a.flatMap f).Perm (b.flatMap f) := h.flatMap_right f
def KeepW (ys : List Str) (m₀ m : Str → Option Value) : Prop := ∀ z, ys.contains z = false → m z = m₀ z
theorem KeepW.map {ys : List Str} {m₀ m : Str → Option Value} (h : KeepW ys m₀ m) : (fun y => if ys.contains y then m y else m₀ y) = m := by
  funext y
  cases h2 : ys.contains y with
  | true => simp
  | false => simp only [Bool.false_eq_true, if_false]; exact (h y h2).symm
theorem while_S {prog : Program} {w : World} {A : Around} {E : Value → Shared → Prop} {Q : Flow → Shared → Prop} {s : Shared} {env : Env} {h₀ : Heap} {L : Addr} {test : Expr} {body : List Stmt} {pos : Pos} {m₀ : Str → Option Value} {cur news : List (Addr × Obj)} (ys : List Str) (J : Nat → List (Addr × Obj) → Prop) {n₀ : Nat}
    (F : Fr h₀ L s.heap m₀) (N : News h₀ L s.heap cur) (hs : ∀ p ∈ news, p ∈ cur) (hJ : J n₀ news)
    (turn : ∀ n (u : Str → Option Value) nx h tk, J n nx → Fr h₀ L h (fun y => if ys.contains y then u y else m₀ y) → News h₀ L h nx →
      wpAny (model prog w) A (isTrue test env (eval test env)) (fun b s₂ =>
        if b = true then wpAny (model prog w) A (execs body env) (WhileStep2 h₀ L s (fun n m nx => KeepW ys m₀ m ∧ J n nx) Q n) E s₂ else Q .next s₂) E { s with heap := h, toks := tk })
    (hE : PassesOwn (model prog w) A env E := by passes_own) :
    wpAny (model prog w) A (exec (.While test body [] pos) env) Q E s :=
  While_inv2 (fun n m nx => KeepW ys m₀ m ∧ J n nx) F (fun p hp => N p (hs p hp)) ⟨fun _ _ => rfl, hJ⟩
    (fun n m nx h tk F₁ N₁ hJ₁ => turn n m nx h tk hJ₁.2 (by rw [hJ₁.1.map]; exact F₁) N₁) hE
theorem WhileStep2.intro {h₀ : Heap} {L : Addr} {s : Shared} {J : Nat → (Str → Option Value) → List (Addr × Obj) → Prop} {Q : Flow → Shared → Prop} {n n' tk : Nat} {h' : Heap} {m' : Str → Option Value} {cur nx : List (Addr × Obj)}
    (F : Fr h₀ L h' m') (N : News h₀ L h' cur) (hs : ∀ p ∈ nx, p ∈ cur) (hn : n' < n) (hJ : J n' m' nx) : WhileStep2 h₀ L s J Q n .next { s with heap := h', toks := tk } :=
  ⟨h', tk, m', nx, n', rfl, F, fun p hp => N p (hs p hp), hn, hJ⟩
theorem truthy_list_K {prog : Program} {w : World} {A : Around} {E : Value → Shared → Prop} {s : Shared} {h₀ : Heap} {L l : Addr} {items : List Value} {k : Nat} {news : List (Addr × Obj)} {Q : Bool → Shared → Prop} (b : Bool)
    (N : News h₀ L s.heap news) (hm : (l, listOf (List.toArray items) k) ∈ news) (hz : items.length ≤ 100000) (hb : (!(List.toArray items).isEmpty) = b) (h : ∀ tk, Q b { s with toks := tk }) : wpAny (model prog w) A (truthy (.ref l)) Q E s := by
  have hl : s.heap.IsList l (List.toArray items) := ⟨_, (N _ hm).1, rfl, _, rfl⟩
  subst hb
  exact wpAny_truthy_list hl (by simp; omega) (h (s.toks + 1 + 1))
theorem perm_step {Fs Ps : List Src} {Y : Src} {K : List Int} (h : (Fs.flatMap Src.own ++ (Ps ++ [Y]).flatMap Src.keys).Perm K) : ((Fs ++ [Y]).flatMap Src.own ++ (Ps ++ Y.kids.reverse).flatMap Src.keys).Perm K := by
  refine .trans ?_ h
  rw [List.perm_iff_count]
  intro a
  have h1 := (keys_kids Y).count_eq a
  have h2 := (flatMap_perm Src.keys (List.reverse_perm Y.kids)).count_eq a
  simp only [List.flatMap_append, List.flatMap_cons, List.flatMap_nil, List.append_nil, List.count_append] at h1 ⊢
  omega
theorem take_step {items p : List Value} {i : Nat} {v : Value} (hi : i < items.length) (hv : items[items.length - 1 - i]? = some v) : p ++ items.reverse.take i ++ [v] = p ++ items.reverse.take (i + 1) := by
  rw [List.take_add_one, List.getElem?_reverse hi, hv, List.append_assoc]; rfl
local macro_rules | `(tactic| walk_at "call type:reversed") => `(tactic| (k_here; (with_reducible show wpAny _ _ (call (Value.type _) [Value.ref _]) _ _ _); k_dflt (refine' rev_tup_K ?F ?N ?M ?Z ?_; (case F => k_asm); (case N => k_asm); (case M => ktn_no "m:mem"); (case Z => omega)); intro D' h' tk' F' N' l1; (try k_lt l1); (try k_sweep)))
local macro_rules | `(tactic| walk_at "call builtin:list.pop") => `(tactic| (k_here; (try dsimp only); (with_reducible show wpAny _ _ (call (Value.builtin _) [Value.ref _]) _ _ _); k_dflt (refine' popL_K ?F ?N ?U ?z ?_; (case F => k_asm); (case N => k_asm); (case U => k_upd); (case z => assumption)); intro h' F' N'))
local macro_rules | `(tactic| walk_at "call ref") => `(tactic| (k_here; k_dflt ((with_reducible show wpAny _ _ (call (Value.ref 35) _) _ _ _); (refine' Tell.useF (kids_tell ?h1 ?h2) ?B ?F ?X ?N ?D ?P ?O ?A ?T ?K ?d ?u ?_); ktn_no "m:side"; (case h1 => assumption); (case h2 => ktn_no "m:subt")); intro v9 outs9 made9 h' tk' F' N' O' L' P'; (k_dflt obtain ⟨t', items', e0, e1, e2, hK', hKz'⟩ := P'); subst e0 e1 e2; (try dsimp only [List.cons_append, List.nil_append] at N' O'); (try k_sweep); (try dsimp only); (try k_fold)))
local macro_rules | `(tactic| ktn_no "m:subt") => `(tactic| (intro p9 h9; ktn_no "m:tm"))
local macro_rules | `(tactic| walk_at "truthy ref") => `(tactic| (k_here; k_dflt (first | (refine' truthy_list_K false ?N ?M ?Z ?B ?_; (case N => k_asm); (case M => ktn_no "m:mem"); (case Z => first | assumption | (simp only [List.length_cons, List.length_nil, List.length_append] at *; omega)); (case B => first | rfl | (simp; done))) | (refine' truthy_list_K true ?N ?M ?Z ?B ?_; (case N => k_asm); (case M => ktn_no "m:mem"); (case Z => first | assumption | (simp only [List.length_cons, List.length_nil, List.length_append] at *; omega)); (case B => first | rfl | (simp; done)))); intro tk'; (try k_fold)))
theorem sub_tell {v : Value} {S : Src} {T0 tail : List (Addr × Obj)} (hS : SrcIn T0 v S) (hT0 : ∀ p ∈ T0, p ∈ tail) (hsz : S.size ≤ 500) :
    Tell w mean mg mb 42 [v] ([] ++ tail) 2 (PostF [] tail (SubPost T0 S)) := by
  unfold Tell
  k_fill
  intro dp un gd cn cs a ccd cl outer A₀ base h₀ L m s Q E B F X N T hk hd hu hret
  dsimp only [List.nil_append] at N
  refine wpAny_call ?_
  k_dflt ktr_enter
  ktn_no "m:steps"
  rename News _ _ _ _ => N9
  rename Fr _ _ _ _ => F9
  rename_i found _ lf _ _ stk _ ls _
  replace lf := tb_ltOf lf
  simp only [AllLt, and_true] at ls
  have O : OwnOff tail [found, stk] := off2 (fun p hp => Nat.ne_of_lt (lf p hp)) (fun p hp => Nat.ne_of_lt (tb_ltOf ls.2 p hp))
  have hne : @Ne Nat found stk := Nat.ne_of_lt ls.1
  refine while_S (n₀ := S.size) (news := (found, listOf (List.toArray []) 0) :: (stk, listOf (List.toArray [v]) 0) :: tail) [Str.ofString "node", Str.ofString "part"]
    (fun n nx => ∃ fs nf st ns Fs Ts, nx = (found, listOf (List.toArray fs) nf) :: (stk, listOf (List.toArray st) ns) :: tail ∧ SrcsIn T0 fs Fs ∧ SrcsIn T0 st Ts ∧ n = sizes Ts ∧ fs.length + sizes Ts = S.size ∧ (Fs.flatMap Src.own ++ Ts.flatMap Src.keys).Perm S.keys) F9 N9 (by ktn_no "m:sub")
    ⟨[], 0, [v], 0, [], [S], rfl, .nil, .cons hS .nil, by simp [sizes], by simp [sizes], by simp⟩ ?_
  rintro n u nx h tk ⟨fs, nf, st, ns, Fs, Ts, rfl, hF, hT, rfl, hsum, hperm⟩ F1 N1
  have hlt := length_sizes Ts
  have hlt2 := hT.length
  clear F9 N9
  rcases List.eq_nil_or_concat st with rfl | ⟨p, y, rfl⟩
  · cases hT
    ktn_no "m:steps"
    rename News h₀ _ _ _ => N5
    refine PostF.fin (outs := []) (cur := (found, _) :: tail) (c1 := (found, _) :: tail) (made := [(found, _)]) hret (by k_asm) (fun p hp => N5 p ((by ktn_no "m:sub" : ∀ p ∈ (found, _) :: tail, p ∈ _) p hp)) Dels.nil (fun p => by simp) ?_ ⟨found, fs, Fs, nf, rfl, rfl, rfl, hF, by omega, by simpa using hperm⟩
    exact Fresh.cons (fun q hq => lf q hq) Fresh.nil
  · simp only [List.concat_eq_append] at *
    obtain ⟨Ps, Y, rfl, hP, hY⟩ := hT.snoc
    have hz : (p ++ [y]).length ≤ sizeLine := by rw [sizeLine_eq]; omega
    have hYs := sizes_kids Y
    have hPs := sizes_append Ps [Y]
    have hY1 : sizes [Y] = Y.size := by simp [sizes]
    ktn_no "m:steps"
    rename_i t' items hK hKz O9 hL D' _ _ F9 N9 l1
    simp only [AllLt, and_true] at l1
    have ht' : @LT.lt Nat _ stk t' := hL _ (.head _) _ (.tail _ (.head _))
    have ht2 : @LT.lt Nat _ found t' := hL _ (.head _) _ (.head _)
    have lt : ∀ q ∈ tail, @LT.lt Nat _ q.1 t' := fun q hq => hL _ (.head _) q (.tail _ (.tail _ hq))
    refine loop_revS (r := D') (l := t') (items := items) (news := (found, listOf (List.toArray (fs ++ [y])) (nf + 1)) :: (stk, listOf (List.toArray p) (ns + 1)) :: (t', tupO items) :: tail) []
      (fun i nx => ∃ ns', nx = (found, listOf (List.toArray (fs ++ [y])) (nf + 1)) :: (stk, listOf (List.toArray (p ++ items.reverse.take i)) ns') :: (t', tupO items) :: tail) rfl F9 N9 (by ktn_no "m:sub") (by ktn_no "m:mem") (by ktn_no "m:mem") rfl (by omega) (Nat.ne_of_lt l1.2.2.1) ?_ ?_ ⟨ns + 1, by simp⟩ ?_ ?_
    · intro q hq
      simp only [List.mem_cons] at hq
      rcases hq with rfl | rfl | rfl | hq
      · exact Nat.ne_of_lt l1.1
      · exact Nat.ne_of_lt l1.2.1
      · exact Nat.ne_of_lt l1.2.2.1
      · exact Nat.ne_of_lt (tb_ltOf l1.2.2.2 q hq)
    · rintro i nx ⟨ns', rfl⟩
      ktn_no "m:mem"
    · rintro i v2 u2 nx h2 tk2 I io hi hv hoff ⟨ns', rfl⟩ F2 N2
      clear F9 N9
      dsimp only [envOf] at F2 N2
      have o1 := hoff _ (.head _)
      have o2 := hoff _ (.tail _ (.head _))
      have o3 := hoff _ (.tail _ (.tail _ (.head _)))
      have o1' : @Ne Nat found I := o1
      have o2' : @Ne Nat stk I := o2
      have o3' : @Ne Nat t' I := o3
      have hz2 : (p ++ items.reverse.take i).length ≤ 1000 := by
        rw [List.length_append, List.length_take]
        rw [List.length_append] at hlt2
        omega
      try k_fold
      ktn_no "m:steps"
      rename News _ _ _ _ => N7
      rw [take_step hi hv] at N7
      refine' LpEnd.intro (nx := (found, listOf (List.toArray (fs ++ [y])) (nf + 1)) :: (stk, listOf (List.toArray (p ++ items.reverse.take (i + 1))) _) :: (t', tupO items) :: tail) (by k_asm) N7 ?hs1 ?ho1 ?hj1
      (case hs1 => ktn_no "m:sub")
      (case ho1 => exact off_same hoff rfl)
      exact ⟨by ktn_no "m:keep", _, rfl⟩
    · rintro u2 nx h2 tk2 ⟨ns', rfl⟩ F2 N2
      clear F9 N9
      dsimp only [envOf] at F2 N2
      ktn_no "m:steps"
      have e1 : (items.reverse.take items.length) = items.reverse := List.take_of_length_le (by simp)
      rw [e1] at N2
      refine' WhileStep2.intro (n' := sizes (Ps ++ Y.kids.reverse)) (nx := (found, listOf (List.toArray (fs ++ [y])) (nf + 1)) :: (stk, listOf (List.toArray (p ++ items.reverse)) ns') :: tail) F2 N2 ?hs2 ?hn2 ?hj2
      (case hs2 => ktn_no "m:sub")
      (case hn2 => (rw [sizes_append, sizes_reverse]; omega))
      refine ⟨by (intro z hz9; (simp only [List.contains_cons, List.contains_nil, Bool.or_false, Bool.or_eq_false_iff, beq_eq_false_iff_ne, ne_eq] at hz9); (simp [hz9]; done)), _, _, _, _, Fs ++ [Y], Ps ++ Y.kids.reverse, rfl, hF.append (.cons hY .nil), hP.append hK.reverse, rfl, ?_, perm_step hperm⟩
      rw [sizes_append, sizes_reverse, List.length_append]
      simp only [List.length_cons, List.length_nil]
      omega
section
open PySem.Calls PySem.Spec PyProof.V
abbrev PRG : Program := PySem.Challenge.rw_pq0458_01.row.prog
def KD (w : World) (od : Obj) (ks : List Int) : Prop := ∃ kvs D, od.IsDictOf (intKind PySem.Challenge.rw_pq0458_01.row.prog w) kvs ∧ FlatPairs PyData.int kvs D ∧ kvs.map (·.1) = ks
noncomputable def addKey (ks : List Int) (k : Int) : List Int := if k ∈ ks then ks else ks ++ [k]
theorem addKey_mem {ks : List Int} {k j : Int} : j ∈ addKey ks k ↔ j ∈ ks ∨ j = k := by
  unfold addKey
  split
  · rename_i h; constructor
    · exact .inl
    · rintro (h1 | rfl)
      · exact h1
      · exact h
  · simp
theorem addKey_nodup {ks : List Int} (h : ks.Nodup) (k : Int) : (addKey ks k).Nodup := by
  unfold addKey
  split
  · exact h
  · rename_i hk
    rw [List.nodup_append]
    refine ⟨h, by simp, fun a ha b hb => ?_⟩
    rw [List.mem_singleton.mp hb]
    exact fun e => hk (e ▸ ha)
theorem stored_keys (kvs : List (Int × Value)) (k : Int) (v : Value) : (stored kvs k v).map (·.1) = addKey (kvs.map (·.1)) k := by
  unfold stored addKey
  have e : (kvs.any fun kv => decide (kv.1 = k)) = decide (k ∈ kvs.map (·.1)) := by
    rw [Bool.eq_iff_iff]
    simp only [List.any_eq_true, decide_eq_true_eq, List.mem_map]
  rw [e]
  by_cases h : k ∈ kvs.map (·.1)
  · simp only [h, decide_true, if_true, List.map_map]
    refine List.map_congr_left fun p _ => ?_
    simp only [Function.comp]
    split <;> rfl
  · simp only [h, decide_false, Bool.false_eq_true, if_false, List.map_append, List.map_cons, List.map_nil]
theorem setInt_K {w : World} {A : Around} {E : Value → Shared → Prop} {s : Shared} {h₀ : Heap} {L d : Addr} {m : Str → Option Value} {news : List (Addr × Obj)} {g : Obj → List (Addr × Obj)} {od : Obj} {ks : List Int} {k : Int} {t : Tok} {Q : Unit → Shared → Prop}
    (F : Fr h₀ L s.heap m) (N : News h₀ L s.heap news) (U : UpdF d od news g) (hd : KD w od ks) (hz : ks.length ≤ 1000)
    (h : ∀ h' od', Fr h₀ L h' m → News h₀ L h' (g od') → KD w od' (addKey ks k) → Q () { s with heap := h', toks := s.toks + 1 }) :
    wpAny (model PySem.Challenge.rw_pq0458_01.row.prog w) A (setItem (.ref d) (.int k t) (.bool true)) Q E s := by
  obtain ⟨kvs, D, h1, h2, rfl⟩ := hd
  refine setItem_K (knd := intKind _ w) (k := k) (dv := .bool true) (fun a b => rfl) (by simp [intKind, Value.isInt]) (Flat.bool true) F N U h1 h2 (fun h' o' F' N' h1' h2' => h h' o' F' N' ⟨_, _, h1', h2', stored_keys kvs k _⟩) ?_
  rw [List.length_map] at hz
  rw [h2.length, sizeLine_eq]
  omega
noncomputable def srt (ks : List Int) : List Int := [0, 1, 2, 3, 4, 5].filter (fun k => decide (k ∈ ks))
theorem srt_mem {ks : List Int} (hb : BdK ks) {k : Int} : k ∈ srt ks ↔ k ∈ ks := by
  unfold srt
  rw [List.mem_filter]
  simp only [List.mem_cons, List.not_mem_nil, or_false, decide_eq_true_eq]
  constructor
  · exact fun h => h.2
  · intro h
    have := hb k h
    exact ⟨by omega, h⟩
theorem srt_congr {a b : List Int} (h : ∀ k, k ∈ a ↔ k ∈ b) : srt a = srt b := by
  unfold srt
  congr 1
  funext k
  simp only [h k]
theorem srt_le (ks : List Int) : (srt ks).length ≤ 6 := by
  unfold srt
  exact Nat.le_trans (List.length_filter_le _ _) (by decide)
theorem srt_bd (ks : List Int) : BdK (srt ks) := by
  intro k hk
  unfold srt at hk
  have := (List.mem_filter.mp hk).1
  simp only [List.mem_cons, List.not_mem_nil, or_false] at this
  omega
theorem srt_uniq {ns ks : List Int} (hp : ns.Perm ks) (hn : ks.Nodup) (hb : BdK ks) (ho : ns.Pairwise (fun x y => x ≤ y)) : ns = srt ks := by
  have h1 : (srt ks).Nodup := List.Pairwise.filter _ (by decide : ([0, 1, 2, 3, 4, 5] : List Int).Nodup)
  have h2 : (srt ks).Perm ks := (List.perm_ext_iff_of_nodup h1 hn).mpr fun a => srt_mem hb
  exact lks_uniq (hp.trans h2.symm) ho (List.Pairwise.filter _ (by decide))
theorem bdk_congr {a b : List Int} (h : ∀ k, k ∈ a ↔ k ∈ b) (hb : BdK b) : BdK a := fun k hk => hb k ((h k).mp hk)
theorem nodup_le6 {ks : List Int} (hn : ks.Nodup) (hb : BdK ks) : ks.length ≤ 6 := by
  have h1 : (srt ks).Nodup := List.Pairwise.filter _ (by decide : ([0, 1, 2, 3, 4, 5] : List Int).Nodup)
  have h2 : (srt ks).Perm ks := (List.perm_ext_iff_of_nodup h1 hn).mpr fun a => srt_mem hb
  rw [← h2.length_eq]; exact srt_le ks
theorem ints_of_at : ∀ {vs : List Value} {ns : List Int}, vs.length = ns.length → (∀ (j : Nat) (v : Value), vs[j]? = some v → ∃ (k : Int) (t : Tok), ns[j]? = some k ∧ v = Value.int k t) → IntsAre vs ns
  | [], [], _, _ => .nil
  | [], _ :: _, hl, _ => by simp at hl
  | _ :: _, [], hl, _ => by simp at hl
  | v :: vs, n :: ns, hl, h => by
    obtain ⟨k, t, h1, rfl⟩ := h 0 v rfl
    simp at h1
    subst h1
    exact .cons n t (ints_of_at (by simpa using hl) fun j u hu => by simpa using h (j + 1) u (by simpa using hu))
theorem sortedKD {w : World} {A : Around} {E : Value → Shared → Prop} {s : Shared} {h₀ : Heap} {L d : Addr} {m : Str → Option Value} {news : List (Addr × Obj)} {od : Obj} {ks : List Int} {Q : Value → Shared → Prop}
    (hh : A.handled = none) (F : Fr h₀ L s.heap m) (N : News h₀ L s.heap news) (hm : (d, od) ∈ news) (lo : (d == sysModules) = false) (hd : KD w od ks) (hn : ks.Nodup) (hb : BdK ks)
    (h : ∀ B vs c h' tk, Fr h₀ L h' m → News h₀ L h' ((B, listOf (List.toArray vs) c) :: news) → (∀ q ∈ news, q.1 < B) → IntsAre vs (srt ks) → Q (.ref B) { s with heap := h', toks := tk }) :
    wpAny (model PySem.Challenge.rw_pq0458_01.row.prog w) A (call (.builtin "sorted") [.ref d]) Q E s := by
  obtain ⟨kvs, D, h1, h2, rfl⟩ := hd
  have h6 := nodup_le6 hn hb
  rw [List.length_map] at h6
  have hT : TabAt (intKind PySem.Challenge.rw_pq0458_01.row.prog w) PyData.int s.heap d D := ⟨lo, kvs, Heap.dictOf_iff.mpr ⟨od, (N _ hm).1, h1⟩, h2⟩
  obtain ⟨lo', kvs', hD, hf⟩ := id hT
  obtain ⟨ep, hat⟩ := (Heap.dictOf_iff.mpr ⟨od, (N _ hm).1, h1⟩ : Heap.DictOf (intKind PySem.Challenge.rw_pq0458_01.row.prog w) s.heap d kvs).dictAt
  refine kdu_sorted (kdl_dict (knd := intKind _ w) (kvs := kvs) (ep := ep) lo) hh F N hat (by rw [sizeLine_eq]; omega) fun B h' tk vs F' N' l1 hl hv => ?_
  have hI : IntsAre vs (kvs.map (·.1)) := by
    refine ints_of_at (by rw [hl, List.length_map]) fun j v hj => ?_
    obtain ⟨k, x, e1, e2⟩ := hv j v hj
    obtain ⟨t, rfl⟩ := Value.isInt_shape e2
    exact ⟨k, t, by rw [List.getElem?_map, e1]; rfl, rfl⟩
  refine ksk_lsort (its := List.toArray vs) (n := 0) (news' := fun o => (B, o) :: news) F' N' (fun o => .head fun p hp => Nat.ne_of_lt (l1 p hp)) (by simp) hI (by rw [List.length_map]; omega) fun vs' ns' c h'' F'' N'' hi' _ hp' ho' _ => ?_
  have e := srt_uniq hp' hn hb ho'
  subst e
  exact h B vs' c h'' tk F'' N'' l1 hi'
def ReadsPost (ks : List Int) (v : Value) (outs made : List (Addr × Obj)) : Prop :=
  ∃ r vs n, v = .ref r ∧ outs = [] ∧ made = [(r, listOf (List.toArray vs) n)] ∧ IntsAre vs (srt ks)
theorem kd_nil {w : World} {od : Obj} (h1 : od.IsDictOf (intKind PySem.Challenge.rw_pq0458_01.row.prog w) []) : KD w od [] := ⟨[], [], h1, .nil, rfl⟩
theorem flat_take {Ss : List Src} {i : Nat} {S : Src} (h : Ss[i]? = some S) : (Ss.take (i + 1)).flatMap Src.own = (Ss.take i).flatMap Src.own ++ S.own := by
  rw [List.take_add_one, h]; simp
theorem off1 {tail : List (Addr × Obj)} {a : Addr} (h1 : ∀ p ∈ tail, p.1 ≠ a) : OwnOff tail [a] := by
  intro p hp c hc
  rw [List.mem_singleton.mp hc]
  exact h1 p hp
end
local macro_rules | `(tactic| walk_at "call ref") => `(tactic| (k_here; k_dflt ((with_reducible show wpAny _ _ (call (Value.ref 42) _) _ _ _); (refine' Tell.useF (sub_tell ?h1 ?h2 ?h3) ?B ?F ?X ?N ?D ?P ?O ?A ?T ?K ?d ?u ?_); ktn_no "m:side"; (case h1 => assumption); (case h2 => ktn_no "m:subt"); (case h3 => assumption)); intro v9 outs9 made9 h' tk' F' N' O' L' P'; (k_dflt obtain ⟨r', vs', Ss', n', e0, e1, e2, hSs', hSz', hPm'⟩ := P'); subst e0 e1 e2; (try dsimp only [List.cons_append, List.nil_append] at N' O'); (try k_sweep); (try dsimp only); (try k_fold)))
local macro_rules | `(tactic| walk_at "setItem ref int") => `(tactic| (k_here; k_dflt (refine' setInt_K ?F ?N ?U ?D ?Z ?_; (case F => k_asm); (case N => k_asm); (case U => k_updF); (case D => assumption); (case Z => omega)); intro h' od' F' N' kd'; (try dsimp only at N'); (try k_sweep)))
local macro_rules | `(tactic| walk_at "call builtin:sorted") => `(tactic| (k_here; (with_reducible show wpAny _ _ (call (Value.builtin _) [Value.ref _]) _ _ _); k_dflt (refine' sortedKD ?H ?F ?N ?M ?O ?D ?U ?B ?_; (case H => exact rfl); (case F => k_asm); (case N => k_asm); (case M => ktn_no "m:mem"); (case O => assumption); (case D => assumption); (case U => assumption); (case B => assumption)); intro D' vs' c' h' tk' F' N' l1 hI'; (try k_lt l1); (try k_sweep)))
local macro_rules | `(tactic| k_mem) => `(tactic| first | exact List.Mem.head _ | (refine' List.Mem.tail _ ?_; k_mem) | assumption)
theorem reads_tell {v : Value} {S : Src} {T0 tail : List (Addr × Obj)} (hS : SrcIn T0 v S) (hT0 : ∀ p ∈ T0, p ∈ tail) (hsz : S.size ≤ 500) (hB : Bd S) :
    Tell w mean mg mb 49 [v] ([] ++ tail) 3 (PostF [] tail (ReadsPost S.keys)) := by
  unfold Tell
  k_fill
  intro dp un gd cn cs a ccd cl outer A₀ base h₀ L m s Q E B F X N T hk hd hu hret
  dsimp only [List.nil_append] at N
  refine wpAny_call ?_
  k_dflt ktr_enter
  ktn_no "m:steps"
  rename_i keys _ od lo _ _ hi _ lk _ _ _ F9 sl vs Ss n hSs hSz hPm _ hL N9
  replace lk := tb_ltOf lk
  have l2 : @LT.lt Nat _ keys sl := hL _ (.head _) _ (.head _)
  have hmemP : ∀ k, k ∈ Ss.flatMap Src.own ↔ k ∈ S.keys := fun k => hPm.mem_iff
  refine loop_listS (l := sl) (items := vs) (k := n) (news := (keys, od) :: (sl, listOf (List.toArray vs) n) :: tail) []
    (fun i nx => ∃ od' ks, nx = (keys, od') :: (sl, listOf (List.toArray vs) n) :: tail ∧ KD w od' ks ∧ ks.Nodup ∧ ∀ k, k ∈ ks ↔ k ∈ (Ss.take i).flatMap Src.own) rfl F9 N9 (by ktn_no "m:sub") (by ktn_no "m:mem") ?_ ⟨od, [], rfl, kd_nil hi, .nil, by simp⟩ ?_ ?_
  · rintro i nx ⟨od', ks, rfl, _⟩
    ktn_no "m:mem"
  · rintro i v2 u nx h tk I io hv hoff ⟨od', ks, rfl, hkd, hnd, hmem⟩ F1 N1
    obtain ⟨Y, hY, hYin⟩ := hSs.at hv
    have hft := flat_take hY
    clear F9 N9
    dsimp only [envOf] at F1 N1
    have o1 := hoff _ (.head _)
    have o2 := hoff _ (.tail _ (.head _))
    have o1' : @Ne Nat keys I := o1
    have o2' : @Ne Nat sl I := o2
    have o3 : ∀ p ∈ tail, p.1 ≠ keys := fun p hp => Nat.ne_of_lt (lk p hp)
    have hbk : BdK ks := fun k hk => hB k ((hmemP k).mp (by
      have h1 := (hmem k).mp hk
      rw [List.mem_flatMap] at h1 ⊢
      obtain ⟨a, ha, hk⟩ := h1
      exact ⟨a, List.mem_of_mem_take ha, hk⟩))
    have hz := nodup_le6 hnd hbk
    cases hYin
    all_goals (
      rename _ ∈ T0 => hm
      replace hm := hT0 _ hm
      try k_fold
      ktn_no "m:steps")
    · refine' LpEnd.intro (nx := (keys, od') :: (sl, listOf (List.toArray vs) n) :: tail) (by k_asm) (by k_asm) ?hs1 ?ho1 ?hj1
      (case hs1 => ktn_no "m:sub")
      (case ho1 => exact off_same hoff rfl)
      exact ⟨by ktn_no "m:keep", od', ks, rfl, hkd, hnd, fun k => by rw [hft]; simpa [Src.own] using hmem k⟩
    · rename KD w _ (addKey ks _) => kd2
      refine' LpEnd.intro (nx := (keys, _) :: (sl, listOf (List.toArray vs) n) :: tail) (by k_asm) (by k_asm) ?hs2 ?ho2 ?hj2
      (case hs2 => ktn_no "m:sub")
      (case ho2 => exact off_same hoff rfl)
      exact ⟨by ktn_no "m:keep", _, _, rfl, kd2, addKey_nodup hnd _, fun k => by rw [addKey_mem, hft, hmem k]; simp [Src.own]⟩
    · refine' LpEnd.intro (nx := (keys, od') :: (sl, listOf (List.toArray vs) n) :: tail) (by k_asm) (by k_asm) ?hs3 ?ho3 ?hj3
      (case hs3 => ktn_no "m:sub")
      (case ho3 => exact off_same hoff rfl)
      exact ⟨by ktn_no "m:keep", od', ks, rfl, hkd, hnd, fun k => by rw [hft]; simpa [Src.own] using hmem k⟩
    · refine' LpEnd.intro (nx := (keys, od') :: (sl, listOf (List.toArray vs) n) :: tail) (by k_asm) (by k_asm) ?hs4 ?ho4 ?hj4
      (case hs4 => ktn_no "m:sub")
      (case ho4 => exact off_same hoff rfl)
      exact ⟨by ktn_no "m:keep", od', ks, rfl, hkd, hnd, fun k => by rw [hft]; simpa [Src.own] using hmem k⟩
  · rintro u nx h tk ⟨od', ks, rfl, hkd, hnd, hmem⟩ F1 N1
    clear F9 N9
    dsimp only [envOf] at F1 N1
    rw [List.take_of_length_le (Nat.le_of_eq hSs.length.symm)] at hmem
    have hmemS : ∀ k, k ∈ ks ↔ k ∈ S.keys := fun k => (hmem k).trans (hmemP k)
    have hbk : BdK ks := bdk_congr hmemS hB
    ktn_no "m:steps"

    rename_i D vs2 c _ _ _ N5 hI l5 _ kN _ _
    simp only [AllLt, and_true] at l5
    refine PostF.fin (outs := []) (cur := (D, listOf (List.toArray vs2) c) :: tail) (c1 := (D, listOf (List.toArray vs2) c) :: tail) (made := [(D, listOf (List.toArray vs2) c)]) hret (by k_asm) (fun p hp => kN p ((by ktn_no "m:sub" : ∀ p ∈ (D, listOf (List.toArray vs2) c) :: tail, p ∈ _) p hp)) Dels.nil (fun p => by simp) ?_ ⟨D, vs2, c, rfl, rfl, rfl, by rw [← srt_congr hmemS]; exact hI⟩
    exact Fresh.cons (tb_ltOf l5.2.2) Fresh.nil
def IdxPost (T0 : List (Addr × Obj)) (G : Gl) (v : Value) (outs made : List (Addr × Obj)) : Prop :=
  ∃ r vs n, v = .ref r ∧ outs = [] ∧ made = [(r, listOf (List.toArray vs) n)] ∧ SrcsIn T0 vs G.srcs
local macro_rules | `(tactic| walk_at "call ref") => `(tactic| (k_here; k_dflt ((with_reducible show wpAny _ _ (call (Value.ref 49) _) _ _ _); (refine' Tell.useF (reads_tell ?h1 ?h2 ?h3 ?h4) ?B ?F ?X ?N ?D ?P ?O ?A ?T ?K ?d ?u ?_); ktn_no "m:side"; (case h1 => assumption); (case h2 => ktn_no "m:subt"); (case h3 => assumption); (case h4 => assumption)); intro v9 outs9 made9 h' tk' F' N' O' L' P'; (k_dflt obtain ⟨r', vs', n', e0, e1, e2, hI'⟩ := P'); subst e0 e1 e2; (try dsimp only [List.cons_append, List.nil_append] at N' O'); (try k_sweep); (try dsimp only); (try k_fold)))
theorem idx_tell {v : Value} {G : Gl} {T0 tail : List (Addr × Obj)} (hG : GlIn T0 v G) (hT0 : ∀ p ∈ T0, p ∈ tail) :
    Tell w mean mg mb 56 [v] ([] ++ tail) 1 (PostF [] tail (IdxPost T0 G)) := by
  unfold Tell
  k_fill
  intro dp un gd cn cs a ccd cl outer A₀ base h₀ L m s Q E B F X N T hk hd hu hret
  dsimp only [List.nil_append] at N
  cases hG with
  | at0 m1 m2 m3 m4 =>
    replace m1 := hT0 _ m1
    replace m2 := hT0 _ m2
    replace m3 := hT0 _ m3
    replace m4 := hT0 _ m4
    refine wpAny_call ?_
    k_dflt ktr_enter
    ktn_no "m:steps"
    rename Fr _ _ _ _ => F9
    rename News _ _ _ _ => N9
    rename_i found _ lf _
    replace lf := tb_ltOf lf
    have lf' : ∀ p ∈ tail, p.1 ≠ found := fun p hp => Nat.ne_of_lt (lf p hp)
    refine loop_tupS (items := [.ref _]) (news := (found, listOf (List.toArray []) 0) :: tail) []
      (fun i nx => ∃ n, nx = (found, listOf (List.toArray ([])) n) :: tail) rfl F9 N9 (by ktn_no "m:sub") (by ktn_no "m:mem") ?_ ⟨0, rfl⟩ ?_ ?_
    · rintro i nx ⟨n, rfl⟩
      ktn_no "m:mem"
    · rintro i v2 u nx h tk I io hv hoff ⟨n, rfl⟩ F1 N1
      clear F9 N9
      dsimp only [envOf] at F1 N1
      have o1 : @Ne Nat found I := hoff _ (.head _)
      cases i with
      | succ i => simp at hv
      | zero =>
      simp only [List.getElem?_cons_zero, Option.some.injEq] at hv
      subst hv
      try k_fold
      ktn_no "m:steps"
      refine' LpEnd.intro (nx := (found, listOf (List.toArray ([])) _) :: tail) (by k_asm) (by k_asm) ?hs1 ?ho1 ?hj1
      (case hs1 => ktn_no "m:sub")
      (case ho1 => exact off_same hoff rfl)
      exact ⟨by ktn_no "m:keep", _, rfl⟩
    · rintro u nx h tk ⟨n, rfl⟩ F1 N1
      clear F9 N9
      dsimp only [envOf] at F1 N1
      ktn_no "m:steps"
      rename News h₀ _ _ _ => N5
      refine PostF.fin (outs := []) (cur := (found, listOf (List.toArray ([])) n) :: tail) (c1 := (found, listOf (List.toArray ([])) n) :: tail) (made := [(found, listOf (List.toArray ([])) n)]) hret (by k_asm) N5 Dels.nil (fun p => by simp) (Fresh.cons lf Fresh.nil) ⟨found, [], n, rfl, rfl, rfl, .nil⟩
  | @pick _ _ _ _ sv _ _ _ _ _ _ _ _ _ _ m1 m2 m3 m4 hS =>
    replace m1 := hT0 _ m1
    replace m2 := hT0 _ m2
    replace m3 := hT0 _ m3
    replace m4 := hT0 _ m4
    refine wpAny_call ?_
    k_dflt ktr_enter
    ktn_no "m:steps"
    rename Fr _ _ _ _ => F9
    rename News _ _ _ _ => N9
    rename_i found _ lf _
    replace lf := tb_ltOf lf
    have lf' : ∀ p ∈ tail, p.1 ≠ found := fun p hp => Nat.ne_of_lt (lf p hp)
    refine loop_tupS (items := [.ref _]) (news := (found, listOf (List.toArray []) 0) :: tail) []
      (fun i nx => ∃ n, nx = (found, listOf (List.toArray (if i = 0 then [] else [sv])) n) :: tail) rfl F9 N9 (by ktn_no "m:sub") (by ktn_no "m:mem") ?_ ⟨0, rfl⟩ ?_ ?_
    · rintro i nx ⟨n, rfl⟩
      ktn_no "m:mem"
    · rintro i v2 u nx h tk I io hv hoff ⟨n, rfl⟩ F1 N1
      clear F9 N9
      dsimp only [envOf] at F1 N1
      have o1 : @Ne Nat found I := hoff _ (.head _)
      cases i with
      | succ i => simp at hv
      | zero =>
      simp only [List.getElem?_cons_zero, Option.some.injEq] at hv
      subst hv
      try k_fold
      ktn_no "m:steps"
      refine' LpEnd.intro (nx := (found, listOf (List.toArray ([sv])) _) :: tail) (by k_asm) (by k_asm) ?hs2 ?ho2 ?hj2
      (case hs2 => ktn_no "m:sub")
      (case ho2 => exact off_same hoff rfl)
      exact ⟨by ktn_no "m:keep", _, rfl⟩
    · rintro u nx h tk ⟨n, rfl⟩ F1 N1
      clear F9 N9
      dsimp only [envOf] at F1 N1
      ktn_no "m:steps"
      rename News h₀ _ _ _ => N5
      refine PostF.fin (outs := []) (cur := (found, listOf (List.toArray ([sv])) n) :: tail) (c1 := (found, listOf (List.toArray ([sv])) n) :: tail) (made := [(found, listOf (List.toArray ([sv])) n)]) hret (by k_asm) N5 Dels.nil (fun p => by simp) (Fresh.cons lf Fresh.nil) ⟨found, [sv], n, rfl, rfl, rfl, .cons hS .nil⟩
  | @two _ _ _ _ _ _ _ sv _ _ _ _ _ _ _ _ _ _ _ _ _ _ m1 m2 m3 m4 m5 m6 m7 hS =>
    replace m1 := hT0 _ m1
    replace m2 := hT0 _ m2
    replace m3 := hT0 _ m3
    replace m4 := hT0 _ m4
    replace m5 := hT0 _ m5
    replace m6 := hT0 _ m6
    replace m7 := hT0 _ m7
    refine wpAny_call ?_
    k_dflt ktr_enter
    ktn_no "m:steps"
    rename Fr _ _ _ _ => F9
    rename News _ _ _ _ => N9
    rename_i found _ lf _
    replace lf := tb_ltOf lf
    have lf' : ∀ p ∈ tail, p.1 ≠ found := fun p hp => Nat.ne_of_lt (lf p hp)
    refine loop_tupS (items := [.ref _, .ref _]) (news := (found, listOf (List.toArray []) 0) :: tail) []
      (fun i nx => ∃ n, nx = (found, listOf (List.toArray (if i = 0 then [] else [sv])) n) :: tail) rfl F9 N9 (by ktn_no "m:sub") (by ktn_no "m:mem") ?_ ⟨0, rfl⟩ ?_ ?_
    · rintro i nx ⟨n, rfl⟩
      ktn_no "m:mem"
    · rintro i v2 u nx h tk I io hv hoff ⟨n, rfl⟩ F1 N1
      clear F9 N9
      dsimp only [envOf] at F1 N1
      have o1 : @Ne Nat found I := hoff _ (.head _)
      match i, hv, N1 with
      | 0, hv, N1 =>
        simp only [List.getElem?_cons_zero, Option.some.injEq] at hv
        subst hv
        try k_fold
        ktn_no "m:steps"
        refine' LpEnd.intro (nx := (found, listOf (List.toArray ([sv])) _) :: tail) (by k_asm) (by k_asm) ?hs3 ?ho3 ?hj3
        (case hs3 => ktn_no "m:sub")
        (case ho3 => exact off_same hoff rfl)
        exact ⟨by ktn_no "m:keep", _, rfl⟩
      | 1, hv, N1 =>
        simp only [List.getElem?_cons_zero, List.getElem?_cons_succ, Option.some.injEq] at hv
        subst hv
        try k_fold
        ktn_no "m:steps"
        refine' LpEnd.intro (nx := (found, listOf (List.toArray ([sv])) _) :: tail) (by k_asm) (by k_asm) ?hs4 ?ho4 ?hj4
        (case hs4 => ktn_no "m:sub")
        (case ho4 => exact off_same hoff rfl)
        exact ⟨by ktn_no "m:keep", _, rfl⟩
      | i + 2, hv, N1 => simp at hv
    · rintro u nx h tk ⟨n, rfl⟩ F1 N1
      clear F9 N9
      dsimp only [envOf] at F1 N1
      ktn_no "m:steps"
      rename News h₀ _ _ _ => N5
      refine PostF.fin (outs := []) (cur := (found, listOf (List.toArray ([sv])) n) :: tail) (c1 := (found, listOf (List.toArray ([sv])) n) :: tail) (made := [(found, listOf (List.toArray ([sv])) n)]) hret (by k_asm) N5 Dels.nil (fun p => by simp) (Fresh.cons lf Fresh.nil) ⟨found, [sv], n, rfl, rfl, rfl, .cons hS .nil⟩
local macro_rules | `(tactic| walk_at "call ref") => `(tactic| (k_here; k_dflt ((with_reducible show wpAny _ _ (call (Value.ref 56) _) _ _ _); (refine' Tell.useF (idx_tell ?h1 ?h2) ?B ?F ?X ?N ?D ?P ?O ?A ?T ?K ?d ?u ?_); ktn_no "m:side"; (case h1 => assumption); (case h2 => ktn_no "m:subt")); intro v9 outs9 made9 h' tk' F' N' O' L' P'; (k_dflt obtain ⟨r', vs', n', e0, e1, e2, hI'⟩ := P'); subst e0 e1 e2; (try dsimp only [List.cons_append, List.nil_append] at N' O'); (try k_sweep); (try dsimp only); (try k_fold)))
theorem gl_keys (G : Gl) : G.keys = G.srcs.flatMap Src.keys := by cases G <;> simp [Gl.keys, Gl.srcs]
def Small (Ss : List Src) : Prop := ∀ S ∈ Ss, S.size ≤ 500 ∧ Bd S
theorem flat_keys {Ss : List Src} {i : Nat} {S : Src} (h : Ss[i]? = some S) : (Ss.take (i + 1)).flatMap Src.keys = (Ss.take i).flatMap Src.keys ++ S.keys := by
  rw [List.take_add_one, h]; simp
theorem take_mem_flat {Ss : List Src} {i : Nat} {k : Int} (h : k ∈ (Ss.take i).flatMap Src.keys) : k ∈ Ss.flatMap Src.keys := by
  rw [List.mem_flatMap] at h ⊢
  obtain ⟨a, ha, hk⟩ := h
  exact ⟨a, List.mem_of_mem_take ha, hk⟩
theorem small_bdk {Ss : List Src} (h : Small Ss) : BdK (Ss.flatMap Src.keys) := by
  intro k hk
  rw [List.mem_flatMap] at hk
  obtain ⟨S, hS, hk⟩ := hk
  exact (h S hS).2 k hk
theorem ints_get {vs : List Value} {ns : List Int} (h : IntsAre vs ns) {i : Nat} {v : Value} (hv : vs[i]? = some v) : ∃ k t, v = Value.int k t ∧ ns[i]? = some k := h.at i v hv
theorem take_get {ns : List Int} {i : Nat} {k j : Int} (h : ns[i]? = some k) : j ∈ ns.take (i + 1) ↔ j ∈ ns.take i ∨ j = k := by
  rw [List.take_add_one, h]; simp
theorem mem_of_get {ns : List Int} {i : Nat} {k : Int} (h : ns[i]? = some k) : k ∈ ns := List.mem_of_getElem? h
theorem bdk_add {ks : List Int} (h : BdK ks) {k : Int} (hk : 0 ≤ k ∧ k < 6) : BdK (addKey ks k) := by
  intro j hj
  rcases addKey_mem.mp hj with h1 | rfl
  · exact h j h1
  · exact hk
theorem treads_tell {v : Value} {G : Gl} {T0 tail : List (Addr × Obj)} (hG : GlIn T0 v G) (hT0 : ∀ p ∈ T0, p ∈ tail) (hsm : Small G.srcs) :
    Tell w mean mg mb 63 [v] ([] ++ tail) 4 (PostF [] tail (ReadsPost G.keys)) := by
  unfold Tell
  k_fill
  intro dp un gd cn cs a ccd cl outer A₀ base h₀ L m s Q E B F X N T hk hd hu hret
  dsimp only [List.nil_append] at N
  refine wpAny_call ?_
  k_dflt ktr_enter
  ktn_no "m:steps"
  rename_i keys _ od lo _ _ hi _ lk _ _ _ F9 sl vs n hSs _ hL N9
  replace lk := tb_ltOf lk
  have l2 : @LT.lt Nat _ keys sl := hL _ (.head _) _ (.head _)
  have hGk := gl_keys G
  have hbG := small_bdk hsm
  have o3 : ∀ p ∈ tail, p.1 ≠ keys := fun p hp => Nat.ne_of_lt (lk p hp)
  refine loop_listS (l := sl) (items := vs) (k := n) (news := (keys, od) :: (sl, listOf (List.toArray vs) n) :: tail) [Str.ofString "key"]
    (fun i nx => ∃ od' ks, nx = (keys, od') :: (sl, listOf (List.toArray vs) n) :: tail ∧ KD w od' ks ∧ ks.Nodup ∧ ∀ k, k ∈ ks ↔ k ∈ (G.srcs.take i).flatMap Src.keys) rfl F9 N9 (by ktn_no "m:sub") (by ktn_no "m:mem") ?_ ⟨od, [], rfl, kd_nil hi, .nil, by simp⟩ ?_ ?_
  · rintro i nx ⟨od', ks, rfl, _⟩
    ktn_no "m:mem"
  · rintro i v2 u nx h tk I io hv hoff ⟨od1, ks, rfl, hkd, hnd, hmem⟩ F1 N1
    obtain ⟨Y, hY, hYin⟩ := hSs.at hv
    have hft := flat_keys hY
    have hYm := hsm Y (List.mem_of_getElem? hY)
    have hY1 := hYm.1
    have hY2 := hYm.2
    clear F9 N9
    dsimp only [envOf] at F1 N1
    have o1 : @Ne Nat keys I := hoff _ (.head _)
    have o2 : @Ne Nat sl I := hoff _ (.tail _ (.head _))
    try k_fold
    ktn_no "m:steps"
    rename_i F2 r vr nr hIr _ hLr N2
    have lr : @LT.lt Nat _ keys r := hLr _ (.head _) _ (.tail _ (.head _))
    have hbk : BdK ks := fun k hk => hbG k (take_mem_flat ((hmem k).mp hk))
    refine loop_listS (l := r) (items := vr) (k := nr) (news := (keys, od1) :: (I, io) :: (sl, listOf (List.toArray vs) n) :: (r, listOf (List.toArray vr) nr) :: tail) []
      (fun j nx => ∃ od2 ks2, nx = (keys, od2) :: (I, io) :: (sl, listOf (List.toArray vs) n) :: (r, listOf (List.toArray vr) nr) :: tail ∧ KD w od2 ks2 ∧ ks2.Nodup ∧ ∀ k, k ∈ ks2 ↔ k ∈ ks ∨ k ∈ (srt Y.keys).take j) rfl F2 N2 (by ktn_no "m:sub") (by ktn_no "m:mem") ?_ ⟨od1, ks, rfl, hkd, hnd, by simp⟩ ?_ ?_
    · rintro j nx ⟨od2, ks2, rfl, _⟩
      ktn_no "m:mem"
    · rintro j v3 u3 nx h3 tk3 I3 io3 hv3 hoff3 ⟨od2, ks2, rfl, hkd2, hnd2, hmem2⟩ F3 N3
      obtain ⟨kk, tt, rfl, hkk⟩ := ints_get hIr hv3
      clear F2 N2
      dsimp only [envOf] at F3 N3
      have p1 : @Ne Nat keys I3 := hoff3 _ (.head _)
      have hbk2 : BdK ks2 := by
        intro k hk
        rcases (hmem2 k).mp hk with h1 | h1
        · exact hbk k h1
        · exact srt_bd _ k (List.mem_of_mem_take h1)
      have hz := nodup_le6 hnd2 hbk2
      try k_fold
      ktn_no "m:steps"
      rename KD w _ (addKey ks2 _) => kd3
      refine' LpEnd.intro (nx := (keys, _) :: (I, io) :: (sl, listOf (List.toArray vs) n) :: (r, listOf (List.toArray vr) nr) :: tail) (by k_asm) (by k_asm) ?hs5 ?ho5 ?hj5
      (case hs5 => ktn_no "m:sub")
      (case ho5 => exact off_same hoff3 rfl)
      exact ⟨by ktn_no "m:keep", _, _, rfl, kd3, addKey_nodup hnd2 _, fun k => by rw [addKey_mem, hmem2 k, take_get hkk, or_assoc]⟩
    · rintro u3 nx h3 tk3 ⟨od2, ks2, rfl, hkd2, hnd2, hmem2⟩ F3 N3
      clear F2 N2
      dsimp only [envOf] at F3 N3
      rw [List.take_of_length_le (Nat.le_of_eq hIr.length.symm)] at hmem2
      have hmem3 : ∀ k, k ∈ ks2 ↔ k ∈ ks ∨ k ∈ Y.keys := fun k => by rw [hmem2 k, srt_mem hY2]
      ktn_no "m:steps"
      refine' LpEnd.intro (nx := (keys, od2) :: (sl, listOf (List.toArray vs) n) :: tail) (by k_asm) (by k_asm) ?hs9 ?ho9 ?hj9
      (case hs9 => ktn_no "m:sub")
      (case ho9 => exact off_same hoff rfl)
      exact ⟨by ktn_no "m:keep", od2, ks2, rfl, hkd2, hnd2, fun k => by rw [hmem3 k, hft, List.mem_append, hmem k]⟩
  · rintro u nx h tk ⟨od', ks, rfl, hkd, hnd, hmem⟩ F1 N1
    clear F9 N9
    dsimp only [envOf] at F1 N1
    rw [List.take_of_length_le (Nat.le_of_eq hSs.length.symm), ← hGk] at hmem
    have hbk : BdK ks := bdk_congr hmem (hGk ▸ hbG)
    ktn_no "m:steps"
    rename_i D vs2 c _ _ _ N5 hI l5 _ kN _ _
    simp only [AllLt, and_true] at l5
    refine PostF.fin (outs := []) (cur := (D, listOf (List.toArray vs2) c) :: tail) (c1 := (D, listOf (List.toArray vs2) c) :: tail) (made := [(D, listOf (List.toArray vs2) c)]) hret (by k_asm) (fun p hp => kN p ((by ktn_no "m:sub" : ∀ p ∈ (D, listOf (List.toArray vs2) c) :: tail, p ∈ _) p hp)) Dels.nil (fun p => by simp) ?_ ⟨D, vs2, c, rfl, rfl, rfl, by rw [← srt_congr hmem]; exact hI⟩
    exact Fresh.cons (tb_ltOf l5.2.2) Fresh.nil
abbrev en (w : World) (n : String) (t : Tok) (v : Value) : DictEntry := { hash := PyData.keyHash w.params (Str.ofString n), key := .str (Str.ofString n) t, val := v }
structure Spec0 where
  kind : Nat
  at' : Int
  st : Option (Int × Int)
  pull : Bool
  goals : List Gl
  srcs : List Src
  init : Int
noncomputable def Spec0.eff (I : Spec0) : Int × Int := match I.st with
  | some p => p
  | none => if I.pull then (5, 5) else (6, 6)
noncomputable def Spec0.keys (I : Spec0) : List Int := I.srcs.flatMap Src.keys ++ I.goals.flatMap Gl.keys
noncomputable def Spec0.name (I : Spec0) : Str := if I.kind = 0 then Str.ofString "assign" else if I.kind = 1 then Str.ofString "gate" else Str.ofString "udp"
def StIn (led : List (Addr × Obj)) (v : Value) (p : Int × Int) : Prop := ∃ s t0 t1, v = .ref s ∧ (s, tupO [.int p.1 t0, .int p.2 t1]) ∈ led
inductive OStIn (led : List (Addr × Obj)) : Value → Option (Int × Int) → Prop
  | none : OStIn led .none none
  | some {s : Addr} {a b : Int} {t0 t1 : Tok} : (s, tupO [.int a t0, .int b t1]) ∈ led → OStIn led (.ref s) (some (a, b))
inductive GlsIn (led : List (Addr × Obj)) : List Value → List Gl → Prop
  | nil : GlsIn led [] []
  | cons {v : Value} {S : Gl} {vs : List Value} {Ss : List Gl} : GlIn led v S → GlsIn led vs Ss → GlsIn led (v :: vs) (S :: Ss)
theorem GlsIn.mono {led led' : List (Addr × Obj)} {vs : List Value} {Ss : List Gl} (h : GlsIn led vs Ss) (hs : ∀ p ∈ led, p ∈ led') : GlsIn led' vs Ss := by
  induction h with
  | nil => exact .nil
  | cons a _ ih => exact .cons (a.mono hs) ih
theorem GlsIn.length {led : List (Addr × Obj)} {vs : List Value} {Ss : List Gl} (h : GlsIn led vs Ss) : vs.length = Ss.length := by
  induction h with
  | nil => rfl
  | cons _ _ ih => simp [ih]
theorem GlsIn.append {led : List (Addr × Obj)} {vs ws : List Value} {Ss Ts : List Gl} (h : GlsIn led vs Ss) (h2 : GlsIn led ws Ts) : GlsIn led (vs ++ ws) (Ss ++ Ts) := by
  induction h with
  | nil => exact h2
  | cons a _ ih => exact .cons a ih
theorem GlsIn.at {led : List (Addr × Obj)} {vs : List Value} {Ss : List Gl} (h : GlsIn led vs Ss) : ∀ {i : Nat} {v : Value}, vs[i]? = some v → ∃ S, Ss[i]? = some S ∧ GlIn led v S := by
  induction h with
  | nil => intro i v h; simp at h
  | cons a _ ih =>
    intro i v h
    cases i with
    | zero => simp at h; subst h; exact ⟨_, rfl, a⟩
    | succ i => simpa using ih (by simpa using h)
/-- an item of the design at x, its targets' values gvs -/
inductive ItemIn (w : World) (led : List (Addr × Obj)) : Addr → Spec0 → List Value → Prop
  | asg {x dx ta sa : Addr} {n : Nat} {stv : Value} {at' : Int} {st : Option (Int × Int)} {G : Gl} {S : Src} {init : Int} {t0 t1 t2 t3 t4 t5 : Tok} : (x, instObj 122 dx) ∈ led →
      (dx, dictOf [en w "target" t0 (.ref ta), en w "value" t1 (.ref sa), en w "strength" t2 stv, en w "delay" t3 .none, en w "at" t4 (.int at' t5)] n) ∈ led →
      GlIn led (.ref ta) G → SrcIn led (.ref sa) S → OStIn led stv st → ItemIn w led x ⟨0, at', st, false, [G], [S], init⟩ [.ref ta]
  | gate {x dx oa ia : Addr} {n : Nat} {stv : Value} {at' : Int} {k : String} {st : Option (Int × Int)} {gvs svs : List Value} {Gs : List Gl} {Ss : List Src} {init : Int} {t0 t1 t2 t3 t4 t5 t6 t7 : Tok} : (x, instObj 143 dx) ∈ led →
      (dx, dictOf [en w "kind" t0 (.str (Str.ofString k) t6), en w "strength" t1 stv, en w "delay" t2 .none, en w "outs" t3 (.ref oa), en w "ins" t4 (.ref ia), en w "at" t5 (.int at' t7)] n) ∈ led →
      k ∈ ["and", "pullup", "buf", "pulldown"] → (oa, tupO gvs) ∈ led → (ia, tupO svs) ∈ led → gvs.length ≤ 100 → svs.length ≤ 100 →
      GlsIn led gvs Gs → SrcsIn led svs Ss → OStIn led stv st → ItemIn w led x ⟨1, at', st, k == "pullup" || k == "pulldown", Gs, Ss, init⟩ gvs
  | udp {x dx pa pd ga ia : Addr} {n np : Nat} {at' : Int} {svs : List Value} {G : Gl} {Ss : List Src} {init : Int} {t0 t1 t2 t3 t4 t5 : Tok} {p0 p1 p2 p3 p4 p5 p6 p7 : Tok} {v0 v1 v2 v3 v4 v6 : Value} : (x, instObj 164 dx) ∈ led →
      (dx, dictOf [en w "primitive" t0 (.ref pa), en w "delay" t1 .none, en w "out" t2 (.ref ga), en w "ins" t3 (.ref ia), en w "at" t4 (.int at' t5)] n) ∈ led →
      (pa, instObj 248 pd) ∈ led → (pd, dictOf [en w "name" p0 v0, en w "at" p1 v1, en w "output" p2 v2, en w "inputs" p3 v3, en w "sequential" p4 v4, en w "init" p5 (.int init p7), en w "rows" p6 v6] np) ∈ led →
      (ia, tupO svs) ∈ led → svs.length ≤ 100 →
      GlIn led (.ref ga) G → SrcsIn led svs Ss → ItemIn w led x ⟨2, at', none, false, [G], Ss, init⟩ [.ref ga]
noncomputable def Spec0.state (I : Spec0) : Int := if I.kind = 2 then I.init else 3
noncomputable def Spec0.inputs (I : Spec0) : List Int := if I.kind = 2 then List.replicate I.srcs.length 3 else []
/-- an element of the result: its number i, its item at x -/
inductive ElIn (w : World) (led : List (Addr × Obj)) : Value → Nat → Addr → Spec0 → Prop
  | mk {el de x inp : Addr} {i ne ni : Nat} {I : Spec0} {stv : Value} {ivs : List Value} {t0 t1 t2 t3 t4 t5 t6 t7 t8 t9 q0 q1 q2 q3 : Tok} : (el, instObj 80 de) ∈ led →
      (de, dictOf [en w "number" t0 (.int i q0), en w "kind" t1 (.str I.name q1), en w "definition" t2 (.ref x), en w "strength" t3 stv, en w "pairs" t4 .none, en w "pending" t5 .none, en w "stamp" t6 (.int 0 q2), en w "due" t7 (.bool false), en w "state" t8 (.int I.state q3), en w "inputs" t9 (.ref inp)] ne) ∈ led →
      StIn led stv I.eff → (inp, listOf (List.toArray ivs) ni) ∈ led → IntsAre ivs I.inputs → ElIn w led (.ref el) i x I
theorem OStIn.mono {led led' : List (Addr × Obj)} {v : Value} {p : Option (Int × Int)} (h : OStIn led v p) (hs : ∀ p ∈ led, p ∈ led') : OStIn led' v p := by
  cases h with
  | none => exact .none
  | some m => exact .some (hs _ m)
theorem StIn.mono {led led' : List (Addr × Obj)} {v : Value} {p : Int × Int} (h : StIn led v p) (hs : ∀ p ∈ led, p ∈ led') : StIn led' v p := by
  obtain ⟨s, t0, t1, e, m⟩ := h
  exact ⟨s, t0, t1, e, hs _ m⟩
theorem ItemIn.mono {w : World} {led led' : List (Addr × Obj)} {x : Addr} {I : Spec0} {gvs : List Value} (h : ItemIn w led x I gvs) (hs : ∀ p ∈ led, p ∈ led') : ItemIn w led' x I gvs := by
  cases h with
  | asg m1 m2 h1 h2 h3 => exact .asg (hs _ m1) (hs _ m2) (h1.mono hs) (h2.mono hs) (h3.mono hs)
  | gate m1 m2 k m3 m4 l1 l2 h1 h2 h3 => exact .gate (hs _ m1) (hs _ m2) k (hs _ m3) (hs _ m4) l1 l2 (h1.mono hs) (h2.mono hs) (h3.mono hs)
  | udp m1 m2 m3 m4 m5 l h1 h2 => exact .udp (hs _ m1) (hs _ m2) (hs _ m3) (hs _ m4) (hs _ m5) l (h1.mono hs) (h2.mono hs)
theorem ElIn.mono {w : World} {led led' : List (Addr × Obj)} {v : Value} {i : Nat} {x : Addr} {I : Spec0} (h : ElIn w led v i x I) (hs : ∀ p ∈ led, p ∈ led') : ElIn w led' v i x I := by
  cases h with
  | mk m1 m2 h1 m3 hI => exact .mk (hs _ m1) (hs _ m2) (h1.mono hs) (hs _ m3) hI
def TgtPost (gvs : List Value) (v : Value) (outs made : List (Addr × Obj)) : Prop :=
  outs = [] ∧ ((∃ r n, v = .ref r ∧ made = [(r, listOf (List.toArray gvs) n)]) ∨ (∃ r, v = .ref r ∧ made = []))
def TgtsPost (T0 : List (Addr × Obj)) (gvs : List Value) (v : Value) (outs made : List (Addr × Obj)) : Prop :=
  outs = [] ∧ ∃ r, v = .ref r ∧ (((r, tupO gvs) ∈ T0 ∧ made = []) ∨ ∃ n, made = [(r, listOf (List.toArray gvs) n)])
theorem tgts_tell {el x : Addr} {i : Nat} {I : Spec0} {gvs : List Value} {T0 tail : List (Addr × Obj)} (hE : ElIn w T0 (.ref el) i x I) (hI : ItemIn w T0 x I gvs) (hT0 : ∀ p ∈ T0, p ∈ tail) :
    Tell w mean mg mb 98 [.ref el] ([] ++ tail) 1 (PostF [] tail (TgtsPost T0 gvs)) := by
  unfold Tell
  k_fill
  intro dp un gd cn cs a ccd cl outer A₀ base h₀ L m s Q E B F X N T hk hd hu hret
  dsimp only [List.nil_append] at N
  cases hE with
  | mk e1 e2 h1 e3 hIn =>
  replace e1 := hT0 _ e1
  replace e2 := hT0 _ e2
  cases hI with
  | asg m1 m2 h1 h2 h3 =>
    replace m1 := hT0 _ m1
    replace m2 := hT0 _ m2
    rw [show Spec0.name _ = Str.ofString "assign" from rfl] at e2
    refine wpAny_call ?_
    k_dflt ktr_enter
    ktn_no "m:steps"
    refine' PostF.fin (outs := []) hret ?zF ?zN ?zD ?zP ?zf ?_
    ktn_no "m:end"
    exact ⟨rfl, _, rfl, .inr ⟨_, rfl⟩⟩
  | gate m1 m2 k m3 m4 l1 l2 h1 h2 h3 =>
    have m3' := m3
    replace m1 := hT0 _ m1
    replace m2 := hT0 _ m2
    replace m3 := hT0 _ m3
    rw [show Spec0.name _ = Str.ofString "gate" from rfl] at e2
    refine wpAny_call ?_
    k_dflt ktr_enter
    ktn_no "m:steps"
    refine' PostF.fin (outs := []) (made := []) hret ?zF ?zN ?zD ?zP ?zf ?_
    ktn_no "m:end"
    exact ⟨rfl, _, rfl, .inl ⟨m3', rfl⟩⟩
  | udp m1 m2 m3 m4 m5 l h1 h2 =>
    replace m1 := hT0 _ m1
    replace m2 := hT0 _ m2
    rw [show Spec0.name _ = Str.ofString "udp" from rfl] at e2
    refine wpAny_call ?_
    k_dflt ktr_enter
    ktn_no "m:steps"
    refine' PostF.fin (outs := []) hret ?zF ?zN ?zD ?zP ?zf ?_
    ktn_no "m:end"
    exact ⟨rfl, _, rfl, .inr ⟨_, rfl⟩⟩
local macro_rules | `(tactic| ktn_no "m:nh") => `(tactic| (fail_if_success ((try dsimp only); first | (with_reducible show wpAny _ _ (compareOp CmpOp.NotEq (Value.ref _) (Value.ref _)) _ _ _) | (with_reducible show wpAny _ _ (eval (Expr.ListComp _ [Comprehension.mk _ _ [_] _] _ _) _) _ _ _) | (with_reducible show wpAny _ _ (compareOp CmpOp.In (Value.int _ _) (Value.ref _)) _ _ _) | (with_reducible show wpAny _ _ (call (Value.ref _) _ _) _ _ _) | (with_reducible show wpAny _ _ (eval (Expr.IfExp _ _ _ _) _) _ _ _) | (with_reducible show wpAny _ _ (pyIter (Value.ref _)) _ _ _) | (with_reducible show wpAny _ _ (exec (Stmt.While _ _ _ _) _) _ _ _) | (with_reducible show LCg.CompSrc _ _ _ _ _ _ _ _ _ _ _ _ _ _) | (with_reducible show LCt.CompSrcT _ _ _ _ _ _ _ _ _ _ _ _ _ _ _) | (with_reducible show LCg.CompEnd _ _ _ _ _ _ _ _ _ _ _ _ _ _))))
local macro_rules | `(tactic| ktn_no "m:one") => `(tactic| (first | (k_unfold; (try dsimp only)) | (ktn_no "m:nh"; first | (k_end; wrow_close) | walk1 | (dsimp only; walk1)) | (leave1; walk_say "STEP leave1"; try dsimp only) | fail "no step"))
local macro_rules | `(tactic| ktn_no "m:w") => `(tactic| repeat' (ktn_no "m:one"))
def Spec0.Ok (I : Spec0) : Prop := Small I.srcs ∧ (∀ G ∈ I.goals, Small G.srcs) ∧ I.srcs.length ≤ 100 ∧ I.goals.length ≤ 100
theorem flat_gl {Ss : List Gl} {i : Nat} {S : Gl} (h : Ss[i]? = some S) : (Ss.take (i + 1)).flatMap Gl.keys = (Ss.take i).flatMap Gl.keys ++ S.keys := by
  rw [List.take_add_one, h]; simp
theorem gl_bdk {G : Gl} (h : Small G.srcs) : BdK G.keys := by rw [gl_keys]; exact small_bdk h
theorem gls_bdk {Gs : List Gl} (h : ∀ G ∈ Gs, Small G.srcs) : BdK (Gs.flatMap Gl.keys) := by
  intro k hk
  rw [List.mem_flatMap] at hk
  obtain ⟨S, hS, hk⟩ := hk
  exact gl_bdk (h S hS) k hk
theorem nil_bdk : BdK [] := fun _ h => nomatch h
local macro_rules | `(tactic| walk_at "call ref") => `(tactic| (k_here; k_dflt ((with_reducible show wpAny _ _ (call (Value.ref 63) _) _ _ _); (refine' Tell.useF (treads_tell ?h1 ?h2 ?h3) ?B ?F ?X ?N ?D ?P ?O ?A ?T ?K ?d ?u ?_); ktn_no "m:side"; (case h1 => assumption); (case h2 => ktn_no "m:subt"); (case h3 => assumption)); intro v9 outs9 made9 h' tk' F' N' O' L' P'; (k_dflt obtain ⟨r', vs', n', e0, e1, e2, hI'⟩ := P'); subst e0 e1 e2; (try dsimp only [List.cons_append, List.nil_append] at N' O'); (try k_sweep); (try dsimp only); (try k_fold)))
local macro_rules | `(tactic| ktn_no "m:in") => `(tactic| (refine' code_def ?k1 ?k2 ?k3 ?k4 ?k5 ?kA ?kF ?kK ?k6 ?k7 ?k8 ?k9 ?kB ?_ ?c2 ?c3 ?c4 ?c5; (case kA => exact rfl); (case kF => exact rfl); (case kK => first | exact rfl | assumption); (case k1 => k_asm); (case k2 => k_asm); (case k3 => k_asm); (case k4 => k_asm); (case k5 => k_asm); (case k6 => k_is); (case k7 => k_is); (case k8 => ktr_room); (case k9 => exact BindsTo.of_eq rfl); (case c5 => decide); (case kB => exact locs rfl); (case c2 => exact rfl); (case c3 => exact rfl); (case c4 => exact rfl); k_whole; intro g' L' h' FG' F' N' B' X' T'; (try dsimp only); (try k_fold)))
local macro_rules | `(tactic| walk_at "call ref") => `(tactic| (k_here; k_dflt ((with_reducible show wpAny _ _ (call (Value.ref 28) _) _ _ _); (refine wpAny_call ?_; ktn_no "m:in"))))
section
open PySem.Spec PyProof.V PySem.Calls
def SeqIn (led : List (Addr × Obj)) (v : Value) (gvs : List Value) : Prop := ∃ r, v = .ref r ∧ ((r, tupO gvs) ∈ led ∨ ∃ n, (r, listOf (List.toArray gvs) n) ∈ led)
theorem tgts_seq {T0 : List (Addr × Obj)} {gvs : List Value} {v : Value} {outs made : List (Addr × Obj)} (h : TgtsPost T0 gvs v outs made) : outs = [] ∧ ∃ r, v = .ref r ∧ SeqIn (made ++ T0) (.ref r) gvs := by
  obtain ⟨e, r, rfl, h⟩ := h
  refine ⟨e, r, rfl, r, rfl, ?_⟩
  rcases h with ⟨h, rfl⟩ | ⟨n, rfl⟩
  · exact .inl h
  · exact .inr ⟨n, .head _⟩
theorem tgts_call {w : World} {mean : ExcName → Option Value} {mg mb : Str → Option Value} {dp un : Nat} {gd : Option (List Code)} {cn : Str} {cs : Scope} {a : Addr} {ccd : Value} {cl : List (Str × Addr)} {outer : List Env} {A₀ : Around} {base h₀ : Heap} {L : Addr} {m : Str → Option Value} {s : Shared} {Q E : Value → Shared → Prop} {cur lits tail : List (Addr × Obj)} {adr : List Addr} {el x : Addr} {i : Nat} {I : Spec0} {gvs : List Value} (B : Below A₀ base outer h₀) (F : Fr h₀ L s.heap m) (X : (hd.heap_39 w.params).In h₀) (N : News h₀ L s.heap cur) (hP : Pre cur lits tail) (hO : OwnOff tail adr) (hA : ∀ b ∈ adr, b ∈ cur.map (·.1)) (hE : ElIn w tail (.ref el) i x I) (hI : ItemIn w tail x I gvs) (hT : Top hd.view_39 (looseW hd.view_39 []) mean mg mb h₀) (hk : cs.kind = .function) (hd : dp + 1 < recursionLimit) (hu : un + 8 * 1 + 100 < cLine)
    (ret : ∀ r T' h' tk', Fr h₀ L h' m → News h₀ L h' (lits ++ T') → (∀ p ∈ tail, p ∈ T') → OwnOff T' adr → SeqIn T' (.ref r) gvs → Q (.ref r) { s with heap := h', toks := tk' }) : wpAny (model PySem.Challenge.rw_pq0458_01.row.prog w) (ktrTop dp un gd cn cs L a ccd cl outer) (call (.ref 98) [.ref el]) Q E s := by
  refine Tell.useF (tgts_tell (T0 := tail) hE hI fun p hp => List.mem_append_right _ hp) B F X N Dels.nil hP hO hA hT hk hd hu ?_
  rintro v outs made h' tk' F' N' O' L' hq
  obtain ⟨rfl, r, rfl, hs⟩ := tgts_seq hq
  exact ret r (made ++ tail) h' tk' F' N' (fun p hp => List.mem_append_right _ hp) O' hs
end
theorem own_one {T : List (Addr × Obj)} {b : Addr} (h : ∀ p ∈ T, p.1 ≠ b) : OwnOff T [b] := fun p hp c hc => by
  rw [List.mem_singleton.mp hc]; exact h p hp
def MidPost (h₀ : Heap) (L : Addr) (y : Str) (m : Str → Option Value) (s : Shared) (k0 : Addr) (ko : Obj) (tail T0 : List (Addr × Obj)) (Ss : List Src) (f : Flow) (s' : Shared) : Prop :=
  f = .next ∧ ∃ h' tk sv svs made, s' = { s with heap := h', toks := tk } ∧ Fr h₀ L h' (fun z => if z = y then some (.ref sv) else m z) ∧ News h₀ L h' ((k0, ko) :: (made ++ tail)) ∧ (∀ p ∈ made, p.1 ≠ k0) ∧ SrcsIn T0 svs Ss ∧ SeqIn (made ++ tail) (.ref sv) svs
theorem mid_new {h₀ h' : Heap} {L sl k0 : Addr} {y : Str} {m : Str → Option Value} {s : Shared} {ko : Obj} {tail T0 : List (Addr × Obj)} {Ss : List Src} {sa : Value} {tk : Nat}
    (hS : SrcsIn T0 [sa] Ss) (F : Fr h₀ L h' (fun z => if z = y then some (.ref sl) else m z)) (N : News h₀ L h' ((sl, listOf #[sa] 0) :: (k0, ko) :: tail)) (hn : @Ne Nat sl k0) : MidPost h₀ L y m s k0 ko tail T0 Ss .next { s with heap := h', toks := tk } :=
  ⟨rfl, h', tk, sl, [sa], [(sl, listOf #[sa] 0)], rfl, F, fun p hp => N p (by simp only [List.mem_cons, List.mem_append, List.not_mem_nil, or_false] at hp ⊢; rcases hp with h | h | h <;> simp [h]), fun p hp => by rw [List.mem_singleton.mp hp]; exact hn, hS, sl, rfl, .inr ⟨0, .head _⟩⟩
theorem mid_old {h₀ h' : Heap} {L sl k0 : Addr} {y : Str} {m : Str → Option Value} {s : Shared} {ko : Obj} {tail T0 : List (Addr × Obj)} {Ss : List Src} {svs : List Value} {tk : Nat}
    (hS : SrcsIn T0 svs Ss) (hq : (sl, tupO svs) ∈ tail) (F : Fr h₀ L h' (fun z => if z = y then some (.ref sl) else m z)) (N : News h₀ L h' ((k0, ko) :: tail)) : MidPost h₀ L y m s k0 ko tail T0 Ss .next { s with heap := h', toks := tk } :=
  ⟨rfl, h', tk, sl, svs, [], rfl, F, N, (fun _ h => nomatch h), hS, sl, rfl, .inl hq⟩
theorem mid_join {M : Model} {A : Around} {e : Sem Flow} {E : Value → Shared → Prop} {Q : Flow → Shared → Prop} {h₀ : Heap} {L : Addr} {m : Str → Option Value} {s : Shared} {k0 : Addr} {ko : Obj} {tail T0 : List (Addr × Obj)} {Ss : List Src} (y : Str) (F : Fr h₀ L s.heap m) (N : News h₀ L s.heap ((k0, ko) :: tail)) (hk : ∀ p ∈ tail, p.1 ≠ k0)
    (h : wpAny M A e (MidPost h₀ L y m s k0 ko tail T0 Ss) E s)
    (k : ∀ sv svs T1 h' tk, Fr h₀ L h' (fun z => if z = y then some (.ref sv) else m z) → News h₀ L h' ((k0, ko) :: T1) → (∀ p ∈ tail, p ∈ T1) → OwnOff T1 [k0] → SrcsIn T0 svs Ss → SeqIn T1 (.ref sv) svs → Q .next { s with heap := h', toks := tk }) : wpAny M A e Q E s := by
  refine wpAny_mono h (fun f s' hq => ?_) fun _ _ x => x
  obtain ⟨rfl, h', tk, sv, svs, made, rfl, F, N, ho, hS, hq⟩ := hq
  refine k sv svs (made ++ tail) h' tk F N (fun p hp => List.mem_append_right _ hp) (own_one fun p hp => ?_) hS hq
  rcases List.mem_append.mp hp with h | h
  · exact ho p h
  · exact hk p h
theorem loop_seqS {prog : Program} {w : World} {A : Around} {E : Value → Shared → Prop} {s : Shared} {env : Env} {h₀ : Heap} {x : Str} {body : List Stmt} {Q : Flow → Shared → Prop} {l : Addr} {items : List Value}
    {m₀ : Str → Option Value} {T1 cur : List (Addr × Obj)} (ys : List Str) (J : Nat → List (Addr × Obj) → Prop) (hsq : SeqIn T1 (.ref l) items)
    (hh : A.handled = none) (F : Fr h₀ env.locals s.heap m₀) (N0 : News h₀ env.locals s.heap cur) (hT : ∀ p ∈ T1, p ∈ cur)
    (hl : ∀ i nx, J i nx → ∀ p ∈ T1, p ∈ nx) (hj : J 0 cur)
    (turn : ∀ i v (u : Str → Option Value) nx h tk I io, items[i]? = some v → (∀ q ∈ nx, q.1 ≠ I) → J i nx → Fr h₀ env.locals h (fun y => if y = x then some v else if ys.contains y then u y else m₀ y) → News h₀ env.locals h ((I, io) :: nx) →
      wpAny (model prog w) A (execs body env) (LpPost h₀ env.locals (fun m nx => Keep x ys m₀ m ∧ J (i + 1) nx) I io { s with heap := h, toks := tk } Q) E { s with heap := h, toks := tk })
    (done : ∀ (u : Str → Option Value) nx h tk, J items.length nx → Fr h₀ env.locals h (fun y => if y = x then u y else if ys.contains y then u y else m₀ y) → News h₀ env.locals h nx → Q .next { s with heap := h, toks := tk }) :
    wpAny (model prog w) A (pyIter (.ref l)) (fun it s₂ => LoopAtV prog w A h₀ env x body Q E it s₂) E s := by
  obtain ⟨r, e, hq⟩ := hsq
  cases e
  rcases hq with hq | ⟨n, hq⟩
  · exact loop_tupS ys J hh F N0 (fun _ h => h) (hT _ hq) (fun i nx h => hl i nx h _ hq) hj turn done
  · exact loop_listS ys J hh F N0 (fun _ h => h) (hT _ hq) (fun i nx h => hl i nx h _ hq) hj turn done
theorem item_gls {w : World} {T0 : List (Addr × Obj)} {x : Addr} {I : Spec0} {gvs : List Value} (hI : ItemIn w T0 x I gvs) : GlsIn T0 gvs I.goals := by
  cases hI with
  | asg m1 m2 h1 h2 h3 => exact .cons h1 .nil
  | gate m1 m2 k m3 m4 l1 l2 h1 h2 h3 => exact h1
  | udp m1 m2 m3 m4 m5 l h1 h2 => exact .cons h1 .nil
theorem elreads_tell {el x : Addr} {i : Nat} {I : Spec0} {gvs : List Value} {T0 tail : List (Addr × Obj)} (hE : ElIn w T0 (.ref el) i x I) (hI : ItemIn w T0 x I gvs) (hT0 : ∀ p ∈ T0, p ∈ tail) (hOk : I.Ok) :
    Tell w mean mg mb 105 [.ref el] ([] ++ tail) 6 (PostF [] tail (ReadsPost I.keys)) := by
  unfold Tell
  k_fill
  intro dp un gd cn cs a ccd cl outer A₀ base h₀ L m s Q E B F X N T hk hd hu hret
  dsimp only [List.nil_append] at N
  obtain ⟨hsS, hsG, hlS, hlG⟩ := hOk
  have hGs := item_gls hI
  refine wpAny_call ?_
  k_dflt ktr_enter
  iterate 6 (ktn_no "m:one")
  rename_i keys _ od lo _ _ hi _ lk _ F9 N9
  replace lk := tb_ltOf lk
  refine mid_join (T0 := T0) (Ss := I.srcs) (Str.ofString "sources") F9 N9 (fun p hp => Nat.ne_of_lt (lk p hp)) ?mid ?_
  case mid =>
    cases hE with
    | mk e1 e2 hst e3 hIn =>
    replace e1 := hT0 _ e1
    replace e2 := hT0 _ e2
    cases hI with
    | asg m1 m2 h1 h2 h3 =>
      replace m1 := hT0 _ m1
      replace m2 := hT0 _ m2
      rw [show Spec0.name _ = Str.ofString "assign" from rfl] at e2
      ktn_no "m:w"
      exact mid_new (.cons h2 .nil) (by k_asm) (by k_asm) (by k_ne)
    | gate m1 m2 k m3 m4 l1 l2 h1 h2 h3 =>
      replace m1 := hT0 _ m1
      replace m2 := hT0 _ m2
      replace m4 := hT0 _ m4
      rw [show Spec0.name _ = Str.ofString "gate" from rfl] at e2
      ktn_no "m:w"
      exact mid_old h2 m4 (by k_asm) (by k_asm)
    | udp m1 m2 m3 m4 m5 l h1 h2 =>
      replace m1 := hT0 _ m1
      replace m2 := hT0 _ m2
      replace m5 := hT0 _ m5
      rw [show Spec0.name _ = Str.ofString "udp" from rfl] at e2
      ktn_no "m:w"
      exact mid_old h2 m5 (by k_asm) (by k_asm)
  clear F9 N9
  intro sv svs T1 h tk F1 N1 hsb hK1 hSs hsq
  have hT1 : ∀ p ∈ T0, p ∈ T1 := fun p hp => hsb _ (hT0 p hp)
  (try dsimp only)
  (try k_fold)
  ktn_no "m:w"
  with_reducible rename News _ _ _ _ => N9
  with_reducible rename Fr _ _ _ _ => F9
  refine loop_seqS [Str.ofString "key"]
    (fun i nx => ∃ od' ks, nx = (keys, od') :: T1 ∧ KD w od' ks ∧ ks.Nodup ∧ ∀ k, k ∈ ks ↔ k ∈ ([] : List Int) ∨ k ∈ (I.srcs.take i).flatMap Src.keys) hsq rfl F9 N9 (by exact fun p hp => .tail _ hp) ?_ ⟨od, [], rfl, kd_nil hi, .nil, (by simp)⟩ ?_ ?_
  · rintro i nx ⟨od', ks, rfl, _⟩
    exact fun p hp => .tail _ hp
  · rintro i v2 u nx h tk I io hv hoff ⟨od1, ks, rfl, hkd, hnd, hmem⟩ F1 N1
    obtain ⟨Y, hY, hYin⟩ := hSs.at hv
    have hft := flat_keys hY
    have hYm := hsS Y (List.mem_of_getElem? hY)
    have hY1 := hYm.1
    have hY2 := hYm.2
    clear F9 N9
    dsimp only [envOf] at F1 N1
    have o1 : @Ne Nat keys I := hoff _ (.head _)
    try k_fold
    ktn_no "m:steps"
    rename_i F2 r vr nr hIr _ hLr N2
    have lr : @LT.lt Nat _ keys r := hLr _ (.head _) _ (.tail _ (.head _))
    have hbk : BdK ks := by
      intro k hk
      rcases (hmem k).mp hk with h1 | h1
      · exact nil_bdk k h1
      · exact small_bdk hsS k (by
          rw [List.mem_flatMap] at h1 ⊢
          obtain ⟨a, ha, hk⟩ := h1
          exact ⟨a, List.mem_of_mem_take ha, hk⟩)
    refine loop_listS (l := r) (items := vr) (k := nr) (news := (keys, od1) :: (I, io) :: (r, listOf (List.toArray vr) nr) :: T1) []
      (fun j nx => ∃ od2 ks2, nx = (keys, od2) :: (I, io) :: (r, listOf (List.toArray vr) nr) :: T1 ∧ KD w od2 ks2 ∧ ks2.Nodup ∧ ∀ k, k ∈ ks2 ↔ k ∈ ks ∨ k ∈ (srt Y.keys).take j) rfl F2 N2 (by ktn_no "m:sub") (by ktn_no "m:mem") ?_ ⟨od1, ks, rfl, hkd, hnd, by simp⟩ ?_ ?_
    · rintro j nx ⟨od2, ks2, rfl, _⟩
      ktn_no "m:mem"
    · rintro j v3 u3 nx h3 tk3 I3 io3 hv3 hoff3 ⟨od2, ks2, rfl, hkd2, hnd2, hmem2⟩ F3 N3
      obtain ⟨kk, tt, rfl, hkk⟩ := ints_get hIr hv3
      clear F2 N2
      dsimp only [envOf] at F3 N3
      have p1 : @Ne Nat keys I3 := hoff3 _ (.head _)
      have hbk2 : BdK ks2 := by
        intro k hk
        rcases (hmem2 k).mp hk with h1 | h1
        · exact hbk k h1
        · exact srt_bd _ k (List.mem_of_mem_take h1)
      have hz := nodup_le6 hnd2 hbk2
      try k_fold
      ktn_no "m:steps"
      rename KD w _ (addKey ks2 _) => kd3
      refine' LpEnd.intro (nx := (keys, _) :: (I, io) :: (r, listOf (List.toArray vr) nr) :: T1) (by k_asm) (by k_asm) ?hsn1 ?hon1 ?hjn1
      (case hsn1 => ktn_no "m:sub")
      (case hon1 => exact off_same hoff3 rfl)
      exact ⟨by ktn_no "m:keep", _, _, rfl, kd3, addKey_nodup hnd2 _, fun k => by rw [addKey_mem, hmem2 k, take_get hkk, or_assoc]⟩
    · rintro u3 nx h3 tk3 ⟨od2, ks2, rfl, hkd2, hnd2, hmem2⟩ F3 N3
      clear F2 N2
      dsimp only [envOf] at F3 N3
      rw [List.take_of_length_le (Nat.le_of_eq hIr.length.symm)] at hmem2
      have hmem3 : ∀ k, k ∈ ks2 ↔ k ∈ ks ∨ k ∈ Y.keys := fun k => by rw [hmem2 k, srt_mem hY2]
      ktn_no "m:steps"
      refine' LpEnd.intro (nx := (keys, od2) :: T1) (by k_asm) (by k_asm) ?hsn1b ?hon1b ?hjn1b
      (case hsn1b => ktn_no "m:sub")
      (case hon1b => exact off_same hoff rfl)
      exact ⟨by ktn_no "m:keep", od2, ks2, rfl, hkd2, hnd2, fun k => by rw [hmem3 k, hft, List.mem_append, hmem k, or_assoc]⟩
  · rintro u nx h tk ⟨od7, ks7, rfl, hkd7, hnd7, hmem7⟩ F1 N1
    clear F9 N9
    dsimp only [envOf] at F1 N1
    rw [List.take_of_length_le (Nat.le_of_eq hSs.length.symm)] at hmem7
    have hbk7 : BdK ks7 := by
      intro k hk
      rcases (hmem7 k).mp hk with h9 | h9
      · exact nomatch h9
      · exact small_bdk hsS k h9
    ktn_no "m:w"
    with_reducible rename News _ _ _ _ => N9
    with_reducible rename Fr _ _ _ _ => F9
    k_dflt (refine' tgts_call ?B ?F ?X ?N ?P ?O ?A (hE.mono hT1) (hI.mono hT1) ?T ?K ?d ?u ?_)
    case B => k_asm
    case F => k_asm
    case X => k_asm
    case N => k_asm
    case T => k_asm
    case K => first | exact rfl | assumption
    case d => ktr_room
    case u => ktr_units
    case P => ktn_no "m:pre"
    case O => with_reducible assumption
    case A => ktn_no "m:adr"
    intro r61 T5 h61 tk61 F61 N61 hsT hK5 hsq
    dsimp only [List.cons_append, List.nil_append] at N61
    (try k_sweep)
    (try dsimp only)
    (try k_fold)
    have hT5 : ∀ p ∈ T0, p ∈ T5 := fun p hp => hsT _ (hT1 p hp)
    ktn_no "m:w"
    with_reducible rename News _ _ _ _ => N9
    with_reducible rename Fr _ _ _ _ => F9
    refine loop_seqS [Str.ofString "key"]
      (fun i nx => ∃ od' ks, nx = (keys, od') :: T5 ∧ KD w od' ks ∧ ks.Nodup ∧ ∀ k, k ∈ ks ↔ k ∈ ks7 ∨ k ∈ (I.goals.take i).flatMap Gl.keys) hsq rfl F9 N9 (by exact fun p hp => .tail _ hp) ?_ ⟨od7, ks7, rfl, hkd7, hnd7, (by simp)⟩ ?_ ?_
    · rintro i nx ⟨od', ks, rfl, _⟩
      exact fun p hp => .tail _ hp
    · rintro i v2 u nx h tk I io hv hoff ⟨od1, ks, rfl, hkd, hnd, hmem⟩ F1 N1
      obtain ⟨Y, hY, hYin⟩ := hGs.at hv
      have hft := flat_gl hY
      have hYm := hsG Y (List.mem_of_getElem? hY)
      have hY2 := gl_bdk hYm
      have o2 : ∀ p ∈ T5, p.1 ≠ I := fun p hp => hoff _ (.tail _ hp)
      clear F9 N9
      dsimp only [envOf] at F1 N1
      have o1 : @Ne Nat keys I := hoff _ (.head _)
      try k_fold
      ktn_no "m:steps"
      rename_i F2 r vr nr hIr _ hLr N2
      have lr : @LT.lt Nat _ keys r := hLr _ (.head _) _ (.tail _ (.head _))
      have hbk : BdK ks := by
        intro k hk
        rcases (hmem k).mp hk with h1 | h1
        · exact hbk7 k h1
        · exact gls_bdk hsG k (by
            rw [List.mem_flatMap] at h1 ⊢
            obtain ⟨a, ha, hk⟩ := h1
            exact ⟨a, List.mem_of_mem_take ha, hk⟩)
      refine loop_listS (l := r) (items := vr) (k := nr) (news := (keys, od1) :: (I, io) :: (r, listOf (List.toArray vr) nr) :: T5) []
        (fun j nx => ∃ od2 ks2, nx = (keys, od2) :: (I, io) :: (r, listOf (List.toArray vr) nr) :: T5 ∧ KD w od2 ks2 ∧ ks2.Nodup ∧ ∀ k, k ∈ ks2 ↔ k ∈ ks ∨ k ∈ (srt Y.keys).take j) rfl F2 N2 (by ktn_no "m:sub") (by ktn_no "m:mem") ?_ ⟨od1, ks, rfl, hkd, hnd, by simp⟩ ?_ ?_
      · rintro j nx ⟨od2, ks2, rfl, _⟩
        ktn_no "m:mem"
      · rintro j v3 u3 nx h3 tk3 I3 io3 hv3 hoff3 ⟨od2, ks2, rfl, hkd2, hnd2, hmem2⟩ F3 N3
        obtain ⟨kk, tt, rfl, hkk⟩ := ints_get hIr hv3
        clear F2 N2
        dsimp only [envOf] at F3 N3
        have p1 : @Ne Nat keys I3 := hoff3 _ (.head _)
        have hbk2 : BdK ks2 := by
          intro k hk
          rcases (hmem2 k).mp hk with h1 | h1
          · exact hbk k h1
          · exact srt_bd _ k (List.mem_of_mem_take h1)
        have hz := nodup_le6 hnd2 hbk2
        try k_fold
        ktn_no "m:steps"
        rename KD w _ (addKey ks2 _) => kd3
        refine' LpEnd.intro (nx := (keys, _) :: (I, io) :: (r, listOf (List.toArray vr) nr) :: T5) (by k_asm) (by k_asm) ?hsn2 ?hon2 ?hjn2
        (case hsn2 => ktn_no "m:sub")
        (case hon2 => exact off_same hoff3 rfl)
        exact ⟨by ktn_no "m:keep", _, _, rfl, kd3, addKey_nodup hnd2 _, fun k => by rw [addKey_mem, hmem2 k, take_get hkk, or_assoc]⟩
      · rintro u3 nx h3 tk3 ⟨od2, ks2, rfl, hkd2, hnd2, hmem2⟩ F3 N3
        clear F2 N2
        dsimp only [envOf] at F3 N3
        rw [List.take_of_length_le (Nat.le_of_eq hIr.length.symm)] at hmem2
        have hmem3 : ∀ k, k ∈ ks2 ↔ k ∈ ks ∨ k ∈ Y.keys := fun k => by rw [hmem2 k, srt_mem hY2]
        ktn_no "m:steps"
        refine' LpEnd.intro (nx := (keys, od2) :: T5) (by k_asm) (by k_asm) ?hsn2b ?hon2b ?hjn2b
        (case hsn2b => ktn_no "m:sub")
        (case hon2b => exact off_same hoff rfl)
        exact ⟨by ktn_no "m:keep", od2, ks2, rfl, hkd2, hnd2, fun k => by rw [hmem3 k, hft, List.mem_append, hmem k, or_assoc]⟩
    · rintro u nx h tk ⟨od8, ks8, rfl, hkd8, hnd8, hmem8⟩ F1 N1
      clear F9 N9
      dsimp only [envOf] at F1 N1
      rw [List.take_of_length_le (Nat.le_of_eq hGs.length.symm)] at hmem8
      have hmemF : ∀ k, k ∈ ks8 ↔ k ∈ I.keys := fun k => by
        rw [hmem8 k, hmem7 k, Spec0.keys, List.mem_append]; simp only [List.not_mem_nil, false_or]
      have hbkF : BdK ks8 := by
        intro k hk
        rcases List.mem_append.mp ((hmemF k).mp hk) with h9 | h9
        · exact small_bdk hsS k h9
        · exact gls_bdk hsG k h9
      ktn_no "m:w"
      rename_i D vs2 c _ _ _ _ hI9 l5 _ kN _ _
      refine PostF.fin (outs := []) (cur := (D, listOf (List.toArray vs2) c) :: tail) (c1 := (D, listOf (List.toArray vs2) c) :: tail) (made := [(D, listOf (List.toArray vs2) c)]) hret (by k_asm) (fun p hp => kN p ((List.mem_cons.mp hp).elim (fun e => e ▸ .head _) fun hp => .tail _ (.tail _ (hsT _ (hsb _ hp))))) Dels.nil (fun p => by simp) ?_ ⟨D, vs2, c, rfl, rfl, rfl, by rw [← srt_congr hmemF]; exact hI9⟩
      exact Fresh.cons (fun q hq => tb_ltOf l5 q (.tail _ (hsT _ (hsb _ hq)))) Fresh.nil

structure Ent where
  x : Addr
  I : Spec0
  gvs : List Value
noncomputable def Ent.v (e : Ent) : Value := .ref e.x
def EntsIn (w : World) (led : List (Addr × Obj)) (k : Nat) (es : List Ent) : Prop := ∀ e ∈ es, ItemIn w led e.x e.I e.gvs ∧ e.I.kind = k
theorem EntsIn.mono {w : World} {led led' : List (Addr × Obj)} {k : Nat} {es : List Ent} (h : EntsIn w led k es) (hs : ∀ p ∈ led, p ∈ led') : EntsIn w led' k es := fun e he => ⟨(h e he).1.mono hs, (h e he).2⟩
inductive ElsIn (w : World) (led : List (Addr × Obj)) : List Value → List Ent → Prop
  | nil : ElsIn w led [] []
  | snoc {vs : List Value} {v : Value} {es : List Ent} {e : Ent} : ElsIn w led vs es → ElIn w led v es.length e.x e.I → ElsIn w led (vs ++ [v]) (es ++ [e])
theorem ElsIn.mono {w : World} {led led' : List (Addr × Obj)} {vs : List Value} {es : List Ent} (h : ElsIn w led vs es) (hs : ∀ p ∈ led, p ∈ led') : ElsIn w led' vs es := by
  induction h with
  | nil => exact .nil
  | snoc _ h1 ih => exact .snoc ih (h1.mono hs)
theorem ElsIn.length {w : World} {led : List (Addr × Obj)} {vs : List Value} {es : List Ent} (h : ElsIn w led vs es) : vs.length = es.length := by
  induction h with
  | nil => rfl
  | snoc _ _ ih => simp [ih]
theorem ElsIn.at {w : World} {led : List (Addr × Obj)} {vs : List Value} {es : List Ent} (h : ElsIn w led vs es) : ∀ {i : Nat} {v : Value}, vs[i]? = some v → ∃ e, es[i]? = some e ∧ ElIn w led v i e.x e.I := by
  induction h with
  | nil => intro i v h; simp at h
  | @snoc vs v0 es e h1 h2 ih =>
    intro i v h
    have hl := h1.length
    rcases Nat.lt_trichotomy i es.length with h3 | h3 | h3
    · rw [List.getElem?_append_left (by omega)] at h ⊢
      exact ih h
    · subst h3
      rw [List.getElem?_append_right (by omega), hl] at h
      simp at h
      subst h
      exact ⟨_, by simp, h2⟩
    · rw [List.getElem?_eq_none (by simp; omega)] at h
      cases h
def MkJ (w : World) (T0 tail : List (Addr × Obj)) (E0 : Addr) (es : List Ent) (nx : List (Addr × Obj)) : Prop :=
  ∃ els ke made, nx = (E0, listOf (List.toArray els) ke) :: (made ++ tail) ∧ (∀ p ∈ made, @LT.lt Nat _ E0 p.1 ∧ ∀ q ∈ tail, @LT.lt Nat _ q.1 p.1) ∧ ElsIn w (made ++ T0) els es
def MkPost (w : World) (T0 : List (Addr × Obj)) (es : List Ent) (v : Value) (outs made : List (Addr × Obj)) : Prop :=
  outs = [] ∧ ∃ r els n m2, v = .ref r ∧ made = (r, listOf (List.toArray els) n) :: m2 ∧ ElsIn w (m2 ++ T0) els es
theorem ent_at {es : List Ent} {i : Nat} {v : Value} (h : (es.map Ent.v)[i]? = some v) : ∃ x I gvs, v = .ref x ∧ es[i]? = some ⟨x, I, gvs⟩ := by
  rw [List.getElem?_map] at h
  cases h2 : es[i]? with
  | none => rw [h2] at h; cases h
  | some e => rw [h2] at h; exact ⟨e.x, e.I, e.gvs, (Option.some.inj h).symm, rfl⟩
theorem mkj_step {w : World} {T0 tail made T1 nw : List (Addr × Obj)} {E0 d0 x I : Addr} {els : List Value} {pre es : List Ent} {X : Spec0} {gvs : List Value} {i ke : Nat} {v : Value}
    (hT1 : made ++ tail = T1) (hfr : ∀ p ∈ made, @LT.lt Nat _ E0 p.1 ∧ ∀ q ∈ tail, @LT.lt Nat _ q.1 p.1) (hEl : ElsIn w (made ++ T0) els (pre ++ es.take i)) (hx : es[i]? = some ⟨x, X, gvs⟩)
    (hd : @LT.lt Nat _ I d0 ∧ @LT.lt Nat _ E0 d0 ∧ AllLt d0 T1) (hnw : ∀ p ∈ nw, @LE.le Nat _ d0 p.1) (hE : ElIn w (nw ++ (made ++ T0)) v (pre ++ es.take i).length x X) :
    MkJ w T0 tail E0 (pre ++ es.take (i + 1)) ((E0, listOf (List.toArray (els ++ [v])) ke) :: (nw ++ T1)) := by
  subst hT1
  refine ⟨els ++ [v], ke, nw ++ made, by rw [List.append_assoc], ?_, ?_⟩
  · intro p hp
    rcases List.mem_append.mp hp with h | h
    · exact ⟨Nat.lt_of_lt_of_le hd.2.1 (hnw p h), fun q hq => Nat.lt_of_lt_of_le (tb_ltOf hd.2.2 q (List.mem_append_right _ hq)) (hnw p h)⟩
    · exact hfr p h
  · rw [List.take_add_one, hx, ← List.append_assoc, List.append_assoc nw]
    exact .snoc (hEl.mono fun p hp => List.mem_append_right _ hp) hE
theorem ElIn.mk2 {w : World} {led : List (Addr × Obj)} {el de x inp : Addr} {i ne ni : Nat} {I : Spec0} {stv : Value} {ivs : List Value} {nm : Str} {sti : Int} {t0 t1 t2 t3 t4 t5 t6 t7 t8 t9 q0 q1 q2 q3 : Tok} (hnm : nm = I.name) (hst : sti = I.state) (m1 : (el, instObj 80 de) ∈ led)
    (m2 : (de, dictOf [en w "number" t0 (.int i q0), en w "kind" t1 (.str nm q1), en w "definition" t2 (.ref x), en w "strength" t3 stv, en w "pairs" t4 .none, en w "pending" t5 .none, en w "stamp" t6 (.int 0 q2), en w "due" t7 (.bool false), en w "state" t8 (.int sti q3), en w "inputs" t9 (.ref inp)] ne) ∈ led)
    (m3 : (inp, listOf (List.toArray ivs) ni) ∈ led) (hs : StIn led stv I.eff) (hi : IntsAre ivs I.inputs) : ElIn w led (.ref el) i x I := by
  subst hnm hst
  exact .mk m1 m2 hs m3 hi
theorem ord3 {h₀ h' : Heap} {L : Addr} {p1 p2 p3 q r : Addr × Obj} {T : List (Addr × Obj)} (N : News h₀ L h' (p1 :: p2 :: p3 :: q :: r :: T)) : News h₀ L h' (q :: r :: p1 :: p2 :: p3 :: T) :=
  fun p hp => N p (by simp only [List.mem_cons] at hp ⊢; grind)
theorem ord4 {h₀ h' : Heap} {L : Addr} {p1 p2 p3 p4 q r : Addr × Obj} {T : List (Addr × Obj)} (N : News h₀ L h' (p1 :: p2 :: p3 :: p4 :: q :: r :: T)) : News h₀ L h' (q :: r :: p1 :: p2 :: p3 :: p4 :: T) :=
  fun p hp => N p (by simp only [List.mem_cons] at hp ⊢; grind)
theorem mkj_done {w : World} {T0 tail : List (Addr × Obj)} {E0 : Addr} {pre es : List Ent} {nx : List (Addr × Obj)} (h : MkJ w T0 tail E0 (pre ++ es.take (es.map Ent.v).length) nx) : MkJ w T0 tail E0 (pre ++ es) nx := by
  rw [List.length_map, List.take_length] at h
  exact h
theorem mk_turn {w : World} {T0 tail made T1 nw : List (Addr × Obj)} {E0 d0 x I L : Addr} {io o : Obj} {els : List Value} {pre es : List Ent} {X : Spec0} {gvs : List Value} {i ke tk : Nat} {v : Value} {h₀ h' : Heap} {s₁ : Shared} {m₀ m' : Str → Option Value} {z : Str} {ys : List Str}
    (F : Fr h₀ L h' m') (N : News h₀ L h' ((I, io) :: (E0, listOf (List.toArray (els ++ [v])) ke) :: (nw ++ T1))) (hoff : ∀ q ∈ (E0, o) :: T1, q.1 ≠ I)
    (hd : @LT.lt Nat _ I d0 ∧ @LT.lt Nat _ E0 d0 ∧ AllLt d0 T1) (hnw : ∀ p ∈ nw, @LE.le Nat _ d0 p.1) (hk : Keep z ys m₀ m')
    (hT1 : made ++ tail = T1) (hfr : ∀ p ∈ made, @LT.lt Nat _ E0 p.1 ∧ ∀ q ∈ tail, @LT.lt Nat _ q.1 p.1) (hEl : ElsIn w (made ++ T0) els (pre ++ es.take i)) (hx : es[i]? = some ⟨x, X, gvs⟩)
    (hE : ElIn w (nw ++ (made ++ T0)) v (pre ++ es.take i).length x X) :
    LpEnd h₀ L (fun m nx => Keep z ys m₀ m ∧ MkJ w T0 tail E0 (pre ++ es.take (i + 1)) nx) I io s₁ { s₁ with heap := h', toks := tk } := by
  refine LpEnd.intro F N (fun p hp => hp) ?_ ⟨hk, mkj_step hT1 hfr hEl hx hd hnw hE⟩
  intro q hq
  rcases List.mem_cons.mp hq with rfl | hq
  · exact hoff (E0, o) (.head _)
  · rcases List.mem_append.mp hq with h | h
    · exact Nat.ne_of_gt (Nat.lt_of_lt_of_le hd.1 (hnw q h))
    · exact hoff _ (.tail _ h)
theorem ord5 {h₀ h' : Heap} {L : Addr} {p1 p2 p3 p4 p5 q r : Addr × Obj} {T : List (Addr × Obj)} (N : News h₀ L h' (p1 :: p2 :: p3 :: p4 :: p5 :: q :: r :: T)) : News h₀ L h' (q :: r :: p1 :: p2 :: p3 :: p4 :: p5 :: T) :=
  fun p hp => N p (by simp only [List.mem_cons] at hp ⊢; grind)
theorem srcs_size {led : List (Addr × Obj)} {vs : List Value} {Ss : List Src} (h : SrcsIn led vs Ss) : ((List.toArray vs).size : Int) = (Ss.length : Int) := by
  rw [List.size_toArray, h.length]
theorem srcs_bound {led : List (Addr × Obj)} {vs : List Value} {Ss : List Src} (h : SrcsIn led vs Ss) (hl : vs.length ≤ 100) : Ss.length ≤ 100 := by
  rw [← h.length]; exact hl
theorem ord6 {h₀ h' : Heap} {L : Addr} {p1 p2 p3 p4 p5 p6 q r : Addr × Obj} {T : List (Addr × Obj)} (N : News h₀ L h' (p1 :: p2 :: p3 :: p4 :: p5 :: p6 :: q :: r :: T)) : News h₀ L h' (q :: r :: p1 :: p2 :: p3 :: p4 :: p5 :: p6 :: T) :=
  fun p hp => N p (by simp only [List.mem_cons] at hp ⊢; grind)
theorem rep_ints {n : Nat} {vs : List Value} (h : IntsAre vs (List.replicate ((n : Int).toNat) [(3 : Int)]).flatten) : IntsAre vs (List.replicate n 3) := by
  have e : (List.replicate ((n : Int).toNat) [(3 : Int)]).flatten = List.replicate n 3 := by
    rw [Int.toNat_natCast]
    induction n with
    | zero => rfl
    | succ n ih => simp [List.replicate_succ]
  rw [← e]; exact h
local macro_rules | `(tactic| walk_at "call builtin:len") => `(tactic| (k_here; (with_reducible show wpAny _ _ (call (Value.builtin "len") [Value.ref _]) _ _ _); k_dflt (refine' kun_lenT ?k1 ?k2 ?k3 ?_; (case k1 => exact News.isTup (by k_asm) (by ktn_no "m:mem")); (case k2 => assumption); (case k3 => omega); k_whole)))
theorem fresh_les {d : Addr} {made tail : List (Addr × Obj)} (h : ∀ p ∈ tail, p.1 < d) (hm : ∀ p ∈ made, @LE.le Nat _ d p.1) : Fresh made ([] ++ tail) := fun p hp q hq => Nat.lt_of_lt_of_le (h q hq) (hm p hp)
def ElMade (w : World) (a0 a1 a2 a3 : Value) (v : Value) (outs made : List (Addr × Obj)) : Prop := ∃ (x d l : Addr) (t0 t1 t2 t3 t4 t5 t6 t7 t8 t9 q2 q3 : Tok), v = .ref x ∧ outs = [] ∧ made = [(l, listOf (List.toArray []) 0), (x, instObj 80 d), (d, dictOf [en w "number" t0 a0, en w "kind" t1 a1, en w "definition" t2 a2, en w "strength" t3 a3, en w "pairs" t4 .none, en w "pending" t5 .none, en w "stamp" t6 (.int 0 q2), en w "due" t7 (.bool false), en w "state" t8 (.int 3 q3), en w "inputs" t9 (.ref l)] 10)] ∧ @LT.lt Nat _ d x ∧ @LT.lt Nat _ x l
theorem el_tell {a0 a1 a2 a3 : Value} {tail : List (Addr × Obj)} : Tell w mean mg mb 80 [a0, a1, a2, a3] ([] ++ tail) 2 (PostF [] tail (ElMade w a0 a1 a2 a3)) := by
  unfold Tell
  k_fill
  intro dp un gd cn cs a ccd cl outer A₀ base h₀ L m s Q E B F X N T hk hd hu hret
  dsimp only [List.nil_append] at N
  k_dflt (refine' call_cls ?k1 ?k2 ?k3 ?k4 ?k5 ?k6 ?_; (case k1 => k_asm); (case k2 => k_asm); (case k3 => k_asm); (case k4 => k_is); (case k5 => k_is); (case k6 => k_is); k_whole)
  intro x' d' h' F' N' l1 l2
  k_lt l1
  (try k_lt2 l2)
  (try k_sweep)
  ktn_no "m:in"
  ktn_no "m:steps"
  refine PostF.fin (outs := []) hret (by k_asm) (by k_asm) (by ktn_no "m:dels") (Pre.mem (by ktn_no "m:pre")) (fresh_les (tb_ltOf l1) (by ktn_no "m:les")) ?_
  exact ⟨_, _, _, _, _, _, _, _, _, _, _, _, _, _, _, rfl, rfl, rfl, l2, by ktn_no "m:lt1"⟩
theorem el_call {dp un : Nat} {gd : Option (List Code)} {cn : Str} {cs : Scope} {a : Addr} {ccd : Value} {cl : List (Str × Addr)} {outer : List Env} {A₀ : Around} {base h₀ : Heap} {L : Addr} {m : Str → Option Value} {s : Shared} {Q E : Value → Shared → Prop} {cur : List (Addr × Obj)} {a0 a1 a2 a3 : Value} (B : Below A₀ base outer h₀) (F : Fr h₀ L s.heap m) (X : (hd.heap_39 w.params).In h₀) (N : News h₀ L s.heap cur) (hT : Top hd.view_39 (looseW hd.view_39 []) mean mg mb h₀) (hk : cs.kind = .function) (hd : dp + 2 < recursionLimit) (hu : un + 8 * 2 + 100 < cLine)
    (ret : ∀ x d l t0 t1 t2 t3 t4 t5 t6 t7 t8 t9 q2 q3 h' tk', Fr h₀ L h' m → News h₀ L h' ((l, listOf (List.toArray []) 0) :: (x, instObj 80 d) :: (d, dictOf [en w "number" t0 a0, en w "kind" t1 a1, en w "definition" t2 a2, en w "strength" t3 a3, en w "pairs" t4 .none, en w "pending" t5 .none, en w "stamp" t6 (.int 0 q2), en w "due" t7 (.bool false), en w "state" t8 (.int 3 q3), en w "inputs" t9 (.ref l)] 10) :: cur) → AllLt d cur → @LT.lt Nat _ d x → AllLt l ((x, instObj 80 d) :: (d, dictOf [en w "number" t0 a0, en w "kind" t1 a1, en w "definition" t2 a2, en w "strength" t3 a3, en w "pairs" t4 .none, en w "pending" t5 .none, en w "stamp" t6 (.int 0 q2), en w "due" t7 (.bool false), en w "state" t8 (.int 3 q3), en w "inputs" t9 (.ref l)] 10) :: cur) → Q (.ref x) { s with heap := h', toks := tk' }) : wpAny (model PySem.Challenge.rw_pq0458_01.row.prog w) (ktrTop dp un gd cn cs L a ccd cl outer) (call (.ref 80) [a0, a1, a2, a3]) Q E s := by
  refine Tell.useF (lits := []) (tail := cur) (adr := []) el_tell B F X N Dels.nil .nil (fun _ _ _ hb => nomatch hb) (fun _ h => nomatch h) hT hk hd hu ?_
  rintro v outs made h' tk' F' N' O' L' ⟨x, d, l, t0, t1, t2, t3, t4, t5, t6, t7, t8, t9, q2, q3, rfl, rfl, rfl, l1, l2⟩
  have hdc : AllLt d cur := allLt_of fun q hq => L' (d, _) (.tail _ (.tail _ (.head _))) q hq
  exact ret x d l t0 t1 t2 t3 t4 t5 t6 t7 t8 t9 q2 q3 h' tk' F' N' hdc l1 ⟨l2, Nat.lt_trans l1 l2, allLt_of fun q hq => L' (l, _) (.head _) q hq⟩
section
open PySem.Spec PyProof.V PySem.Calls
def StPost (h₀ : Heap) (L : Addr) (m : Str → Option Value) (s : Shared) (cur led : List (Addr × Obj)) (p : Int × Int) (v : Value) (s' : Shared) : Prop :=
  ∃ h' tk nw, s' = { s with heap := h', toks := tk } ∧ Fr h₀ L h' m ∧ News h₀ L h' (nw ++ cur) ∧ Fresh nw cur ∧ StIn (nw ++ led) v p
theorem st_new {h₀ h' : Heap} {L D : Addr} {m : Str → Option Value} {s : Shared} {cur led : List (Addr × Obj)} {x y : Int} {t0 t1 : Tok} {tk : Nat} (F : Fr h₀ L h' m) (N : News h₀ L h' ((D, tupO [.int x t0, .int y t1]) :: cur)) (l : AllLt D cur) : StPost h₀ L m s cur led (x, y) (.ref D) { s with heap := h', toks := tk } :=
  ⟨h', tk, [(D, tupO [.int x t0, .int y t1])], rfl, F, N, .cons (tb_ltOf l) .nil, D, t0, t1, rfl, .head _⟩
theorem st_old {h₀ h' : Heap} {L : Addr} {m : Str → Option Value} {s : Shared} {cur led : List (Addr × Obj)} {p : Int × Int} {v : Value} {tk : Nat} (F : Fr h₀ L h' m) (N : News h₀ L h' cur) (hs : StIn led v p) : StPost h₀ L m s cur led p v { s with heap := h', toks := tk } :=
  ⟨h', tk, [], rfl, F, N, .nil, hs⟩
theorem eff_asg {at' i : Int} {st : Option (Int × Int)} {Gs : List Gl} {Ss : List Src} : Spec0.eff ⟨0, at', st, false, Gs, Ss, i⟩ = st.getD (6, 6) := by cases st <;> rfl
theorem eff_gate {at' i : Int} {st : Option (Int × Int)} {b : Bool} {Gs : List Gl} {Ss : List Src} : Spec0.eff ⟨1, at', st, b, Gs, Ss, i⟩ = st.getD (if b then (5, 5) else (6, 6)) := by cases st <;> rfl
end
theorem st_new2 {h₀ h' : Heap} {L D D1 : Addr} {o : Obj} {m : Str → Option Value} {s : Shared} {cur led : List (Addr × Obj)} {x y : Int} {t0 t1 : Tok} {tk : Nat} (F : Fr h₀ L h' m) (N : News h₀ L h' ((D, tupO [.int x t0, .int y t1]) :: (D1, o) :: cur)) (l1 : AllLt D1 cur) (l : AllLt D ((D1, o) :: cur)) : StPost h₀ L m s cur led (x, y) (.ref D) { s with heap := h', toks := tk } :=
  ⟨h', tk, [(D, tupO [.int x t0, .int y t1]), (D1, o)], rfl, F, N, .cons (fun r hr => tb_ltOf l r (.tail _ hr)) (.cons (tb_ltOf l1) .nil), D, t0, t1, rfl, .head _⟩
theorem mk_join {w : World} {M : Model} {A : Around} {e : Sem Value} {E : Value → Shared → Prop} {Q : Value → Shared → Prop} {h₀ : Heap} {L : Addr} {m : Str → Option Value} {s : Shared} {I E0 : Addr} {io lo : Obj} {T0 tail made T1 : List (Addr × Obj)} {els : List Value} {es : List Ent} (p : Int × Int)
    (F : Fr h₀ L s.heap m) (N : News h₀ L s.heap ((I, io) :: (E0, lo) :: T1)) (hT1 : made ++ tail = T1) (hfr : ∀ p ∈ made, @LT.lt Nat _ E0 p.1 ∧ ∀ q ∈ tail, @LT.lt Nat _ q.1 p.1) (hEl : ElsIn w (made ++ T0) els es) (hoff : ∀ q ∈ (E0, lo) :: T1, q.1 ≠ I) (hO : ∀ p ∈ T1, p.1 ≠ E0)
    (h : wpAny M A e (StPost h₀ L m s ((I, io) :: (E0, lo) :: T1) (made ++ T0) p) E s)
    (k : ∀ v made' T1' h' tk, Fr h₀ L h' m → News h₀ L h' ((I, io) :: (E0, lo) :: T1') → made' ++ tail = T1' → (∀ p ∈ made', @LT.lt Nat _ E0 p.1 ∧ ∀ q ∈ tail, @LT.lt Nat _ q.1 p.1) → ElsIn w (made' ++ T0) els es → (∀ q ∈ (E0, lo) :: T1', q.1 ≠ I) → (∀ p ∈ T1', p.1 ≠ E0) → (∀ p ∈ T1, p ∈ T1') → StIn (made' ++ T0) v p → Q v { s with heap := h', toks := tk }) : wpAny M A e Q E s := by
  subst hT1
  refine wpAny_mono h (fun v s' hq => ?_) fun _ _ x => x
  obtain ⟨h', tk, nw, rfl, F, N, hf, hs⟩ := hq
  refine k v (nw ++ made) _ h' tk F (fun p hp => N p ?_) rfl ?_ (hEl.mono fun p hp => by rw [List.append_assoc]; exact List.mem_append_right _ hp) ?_ ?_ (fun p hp => by rw [List.append_assoc]; exact List.mem_append_right _ hp) (by rw [List.append_assoc]; exact hs)
  · simp only [List.mem_append, List.mem_cons] at hp ⊢
    rcases hp with h | h | (h | h) | h <;> simp [h]
  · intro p hp
    rcases List.mem_append.mp hp with h | h
    · exact ⟨hf p h (E0, lo) (.tail _ (.head _)), fun q hq => hf p h q (.tail _ (.tail _ (List.mem_append_right _ hq)))⟩
    · exact hfr p h
  · intro q hq
    rcases List.mem_cons.mp hq with rfl | hq
    · exact hoff _ (.head _)
    · rw [List.append_assoc] at hq
      rcases List.mem_append.mp hq with h | h
      · exact Nat.ne_of_gt (hf q h (I, io) (.head _))
      · exact hoff q (.tail _ h)
  · intro q hq
    rw [List.append_assoc] at hq
    rcases List.mem_append.mp hq with h | h
    · exact Nat.ne_of_gt (hf q h (E0, lo) (.tail _ (.head _)))
    · exact hO q h
theorem mk_tell {da dd la lg lu : Addr} {nd ka kg ku : Nat} {es1 es2 es3 : List Ent} {T0 tail : List (Addr × Obj)} {t0 t1 t2 t3 t4 t5 t6 t7 t8 t9 t10 t11 : Tok} {v0 v4 v5 v6 v7 v8 v9 v10 v11 : Value}
    (hd1 : (da, instObj 227 dd) ∈ T0) (hd2 : (dd, dictOf [en w "signals" t0 v0, en w "assigns" t1 (.ref la), en w "gates" t2 (.ref lg), en w "udps" t3 (.ref lu), en w "processes" t4 v4, en w "routines" t5 v5, en w "scopes" t6 v6, en w "tops" t7 v7, en w "ports" t8 v8, en w "maker" t9 v9, en w "nesting" t10 v10, en w "by_path" t11 v11] nd) ∈ T0)
    (hla : (la, listOf (List.toArray (es1.map Ent.v)) ka) ∈ T0) (hlg : (lg, listOf (List.toArray (es2.map Ent.v)) kg) ∈ T0) (hlu : (lu, listOf (List.toArray (es3.map Ent.v)) ku) ∈ T0)
    (hE1 : EntsIn w T0 0 es1) (hE2 : EntsIn w T0 1 es2) (hE3 : EntsIn w T0 2 es3) (hn1 : es1.length ≤ 100) (hn2 : es2.length ≤ 100) (hn3 : es3.length ≤ 100) (hT0 : ∀ p ∈ T0, p ∈ tail) :
    Tell w mean mg mb 91 [.ref da] ([] ++ tail) 3 (PostF [] tail (MkPost w T0 (es1 ++ es2 ++ es3))) := by
  unfold Tell
  k_fill
  intro dp un gd cn cs a ccd cl outer A₀ base h₀ L m s Q E B F X N T hk hd hu hret
  dsimp only [List.nil_append] at N
  have md1 := hT0 _ hd1
  have md2 := hT0 _ hd2
  have mla := hT0 _ hla
  have mlg := hT0 _ hlg
  have mlu := hT0 _ hlu
  refine wpAny_call ?_
  k_dflt ktr_enter
  ktn_no "m:steps"
  rename_i E0 _ lE _ F9 N9
  replace lE := tb_ltOf lE
  refine loop_listS (l := la) (items := es1.map Ent.v) (k := ka) (news := (E0, listOf (List.toArray []) 0) :: tail) [Str.ofString "strength"]
    (fun i nx => MkJ w T0 tail E0 ([] ++ es1.take i) nx) rfl (by exact F9) (by exact N9) (by exact fun p hp => hp) (by exact (.tail _ mla)) ?_ ⟨[], 0, [], rfl, (fun _ h => nomatch h), .nil⟩ ?_ ?_
  · rintro i nx ⟨els, ke, made, rfl, _, _⟩
    exact .tail _ (List.mem_append_right _ mla)
  · rintro i v2 u nx h tk I io hv hoff ⟨els, ke, made, rfl, hfr, hEl⟩ F1 N1
    obtain ⟨x, X9, gvs, rfl, hx⟩ := ent_at hv
    obtain ⟨hIt, hkind⟩ := hE1 _ (List.mem_of_getElem? hx)
    dsimp only at hIt hkind
    have hel := hEl.length
    have hszE : (List.toArray els).size = ([] ++ es1.take i).length := by rw [List.size_toArray]; exact hel
    have hszB : ([] ++ es1.take i).length ≤ 300 := by simp only [List.length_append, List.length_take, List.length_nil]; omega
    have hO : ∀ p ∈ made ++ tail, p.1 ≠ E0 := fun p hp => (List.mem_append.mp hp).elim (fun h => Nat.ne_of_gt (hfr p h).1) (fun h => Nat.ne_of_lt (lE p h))
    have hs1 : ∀ p ∈ T0, p ∈ made ++ tail := fun p hp => List.mem_append_right _ (hT0 p hp)
    clear F9 N9
    dsimp only [envOf] at F1 N1
    have o1 : @Ne Nat E0 I := hoff _ (.head _)
    generalize hT1 : made ++ tail = T1 at F1 N1 hO hs1 hoff
    cases hIt with
    | gate m1 m2 k m3 m4 l1 l2 h1 h2 h3 => cases hkind
    | udp m1 m2 m3 m4 m5 l h1 h2 => cases hkind
    | asg m1 m2 h1 h2 h3 =>
    rename_i stO _ _ _ _ _ _ _ _ _
    have n1 := hs1 _ m1
    have n2 := hs1 _ m2
    try k_fold
    ktn_no "m:w"
    with_reducible rename News _ _ _ _ => N9
    with_reducible rename Fr _ _ _ _ => F9
    refine mk_join (Option.getD stO (6, 6)) F9 N9 hT1 hfr hEl hoff hO ?hj ?_
    case hj =>
      cases h3 with
      | none =>
        show wpAny _ _ _ (StPost _ _ _ _ _ _ (6, 6)) _ _
        ktn_no "m:steps"
        exact st_new (by k_asm) (by k_asm) (by with_reducible assumption)
      | some h4 =>
        ktn_no "m:steps"
        exact st_old (by k_asm) (by k_asm) ⟨_, _, _, rfl, List.mem_append_right _ h4⟩
    clear F9 N9 hT1 hfr hEl hoff hO h3
    replace hs1 := hs1
    intro stv9 made9 T9 h9 tk9 F9 N9 hT1 hfr hEl hoff hO hsb hst
    replace hs1 := fun p hp => hsb p (hs1 p hp)
    replace n1 := hsb _ n1
    replace n2 := hsb _ n2
    clear hsb
    (try k_sweep)
    (try dsimp only)
    (try k_fold)
    ktn_no "m:w"
    k_dflt (refine' el_call ?B ?F ?X ?N ?T ?K ?d ?u ?_)
    case B => k_asm
    case F => k_asm
    case X => k_asm
    case N => k_asm
    case T => k_asm
    case K => first | exact rfl | assumption
    case d => ktr_room
    case u => ktr_units
    intro x8 d8 l8 a0 a1 a2 a3 a4 a5 a6 a7 a8 a9 q2 q3 h8 tk8 F8 N8 l1 l2 l3
    (try k_sweep)
    (try dsimp only)
    (try k_fold)
    ktn_no "m:w"
    with_reducible rename News _ _ _ _ => N9
    with_reducible rename Fr _ _ _ _ => F9
    replace N9 := ord3 N9
    refine mk_turn (nw := [_, _, _]) (by k_asm) N9 hoff (by assumption) (by ktn_no "m:les") (by ktn_no "m:keep") hT1 hfr hEl hx ?_
    show ElIn w (_ :: _ :: _ :: (_ ++ T0)) _ _ _ _
    exact ElIn.mk2 rfl rfl (by ktn_no "m:mem") (by ktn_no "m:mem") (by ktn_no "m:mem") (by rw [eff_asg]; exact hst.mono (by exact fun p hp => .tail _ (.tail _ (.tail _ hp)))) .nil

  · rintro u nx h tk hJ F1 N1
    replace hJ := mkj_done hJ
    obtain ⟨els, ke, made, rfl, hfr, hEl⟩ := hJ
    clear F9 N9
    dsimp only [envOf] at F1 N1
    generalize hT1 : made ++ tail = T1 at F1 N1
    have sub0 : ∀ p ∈ tail, p ∈ T1 := fun p hp => hT1 ▸ List.mem_append_right _ hp
    have my1 := sub0 _ md1
    have my2 := sub0 _ md2
    ktn_no "m:steps"
    subst hT1
    rename Fr _ _ _ _ => F9
    rename News _ _ _ _ => N9
    rw [List.nil_append] at hEl
    refine loop_listS (l := lg) (items := es2.map Ent.v) (k := kg) (news := (E0, listOf (List.toArray els) ke) :: (made ++ tail)) [Str.ofString "strength"]
      (fun i nx => MkJ w T0 tail E0 (es1 ++ es2.take i) nx) rfl (by exact F9) (by exact N9) (by exact fun p hp => hp) (by exact (.tail _ (List.mem_append_right _ mlg))) ?_ ⟨els, ke, made, rfl, hfr, by rw [List.take_zero, List.append_nil]; exact hEl⟩ ?_ ?_
    · rintro i nx ⟨els, ke, made, rfl, _, _⟩
      exact .tail _ (List.mem_append_right _ mlg)
    · rintro i v2 u nx h tk I io hv hoff ⟨els, ke, made, rfl, hfr, hEl⟩ F1 N1
      obtain ⟨x, X9, gvs, rfl, hx⟩ := ent_at hv
      obtain ⟨hIt, hkind⟩ := hE2 _ (List.mem_of_getElem? hx)
      dsimp only at hIt hkind
      have hel := hEl.length
      have hszE : (List.toArray els).size = (es1 ++ es2.take i).length := by rw [List.size_toArray]; exact hel
      have hszB : (es1 ++ es2.take i).length ≤ 300 := by simp only [List.length_append, List.length_take, List.length_nil]; omega
      have hO : ∀ p ∈ made ++ tail, p.1 ≠ E0 := fun p hp => (List.mem_append.mp hp).elim (fun h => Nat.ne_of_gt (hfr p h).1) (fun h => Nat.ne_of_lt (lE p h))
      have hs1 : ∀ p ∈ T0, p ∈ made ++ tail := fun p hp => List.mem_append_right _ (hT0 p hp)
      clear F9 N9
      dsimp only [envOf] at F1 N1
      have o1 : @Ne Nat E0 I := hoff _ (.head _)
      generalize hT1 : made ++ tail = T1 at F1 N1 hO hs1 hoff
      cases hIt with
      | asg m1 m2 h1 h2 h3 => cases hkind
      | udp m1 m2 m3 m4 m5 l h1 h2 => cases hkind
      | gate m1 m2 k m3 m4 l1 l2 h1 h2 h3 =>
      rename_i kdO stO _ _ _ _ _ _ _ _ _ _ _ _
      have n1 := hs1 _ m1
      have n2 := hs1 _ m2
      try k_fold
      ktn_no "m:w"
      with_reducible rename News _ _ _ _ => N9
      with_reducible rename Fr _ _ _ _ => F9
      refine mk_join (Option.getD stO (if (kdO == "pullup" || kdO == "pulldown") then ((5 : Int), (5 : Int)) else (6, 6))) F9 N9 hT1 hfr hEl hoff hO ?hj ?_
      case hj =>
        cases h3 with
        | none =>
          simp only [List.mem_cons, List.not_mem_nil, or_false] at k
          rcases k with rfl | rfl | rfl | rfl
          · have e8 : Option.getD none (if ("and" == "pullup" || "and" == "pulldown") then ((5 : Int), (5 : Int)) else (6, 6)) = (6, 6) := by decide
            rw [e8]
            ktn_no "m:steps"
            exact st_new2 (by k_asm) (by k_asm) (by with_reducible assumption) (by with_reducible assumption)
          · have e8 : Option.getD none (if ("pullup" == "pullup" || "pullup" == "pulldown") then ((5 : Int), (5 : Int)) else (6, 6)) = (5, 5) := by decide
            rw [e8]
            ktn_no "m:steps"
            exact st_new2 (by k_asm) (by k_asm) (by with_reducible assumption) (by with_reducible assumption)
          · have e8 : Option.getD none (if ("buf" == "pullup" || "buf" == "pulldown") then ((5 : Int), (5 : Int)) else (6, 6)) = (6, 6) := by decide
            rw [e8]
            ktn_no "m:steps"
            exact st_new2 (by k_asm) (by k_asm) (by with_reducible assumption) (by with_reducible assumption)
          · have e8 : Option.getD none (if ("pulldown" == "pullup" || "pulldown" == "pulldown") then ((5 : Int), (5 : Int)) else (6, 6)) = (5, 5) := by decide
            rw [e8]
            ktn_no "m:steps"
            exact st_new2 (by k_asm) (by k_asm) (by with_reducible assumption) (by with_reducible assumption)
        | some h4 =>
          ktn_no "m:steps"
          exact st_old (by k_asm) (by k_asm) ⟨_, _, _, rfl, List.mem_append_right _ h4⟩
      clear F9 N9 hT1 hfr hEl hoff hO h3
      replace hs1 := hs1
      intro stv9 made9 T9 h9 tk9 F9 N9 hT1 hfr hEl hoff hO hsb hst
      replace hs1 := fun p hp => hsb p (hs1 p hp)
      replace n1 := hsb _ n1
      replace n2 := hsb _ n2
      clear hsb
      (try k_sweep)
      (try dsimp only)
      (try k_fold)
      ktn_no "m:w"
      k_dflt (refine' el_call ?B ?F ?X ?N ?T ?K ?d ?u ?_)
      case B => k_asm
      case F => k_asm
      case X => k_asm
      case N => k_asm
      case T => k_asm
      case K => first | exact rfl | assumption
      case d => ktr_room
      case u => ktr_units
      intro x8 d8 l8 a0 a1 a2 a3 a4 a5 a6 a7 a8 a9 q2 q3 h8 tk8 F8 N8 l1 l2 l3
      (try k_sweep)
      (try dsimp only)
      (try k_fold)
      ktn_no "m:w"
      with_reducible rename News _ _ _ _ => N9
      with_reducible rename Fr _ _ _ _ => F9
      replace N9 := ord3 N9
      refine mk_turn (nw := [_, _, _]) (by k_asm) N9 hoff (by assumption) (by ktn_no "m:les") (by ktn_no "m:keep") hT1 hfr hEl hx ?_
      show ElIn w (_ :: _ :: _ :: (_ ++ T0)) _ _ _ _
      exact ElIn.mk2 rfl rfl (by ktn_no "m:mem") (by ktn_no "m:mem") (by ktn_no "m:mem") (by rw [eff_gate]; exact hst.mono (by exact fun p hp => .tail _ (.tail _ (.tail _ hp)))) .nil

    · rintro u nx h tk hJ F1 N1
      replace hJ := mkj_done hJ
      obtain ⟨els, ke, made, rfl, hfr, hEl⟩ := hJ
      clear F9 N9
      dsimp only [envOf] at F1 N1
      generalize hT1 : made ++ tail = T1 at F1 N1
      have sub0 : ∀ p ∈ tail, p ∈ T1 := fun p hp => hT1 ▸ List.mem_append_right _ hp
      have my1 := sub0 _ md1
      have my2 := sub0 _ md2
      ktn_no "m:steps"
      subst hT1
      rename Fr _ _ _ _ => F9
      rename News _ _ _ _ => N9
      refine loop_listS (l := lu) (items := es3.map Ent.v) (k := ku) (news := (E0, listOf (List.toArray els) ke) :: (made ++ tail)) [Str.ofString "element"]
        (fun i nx => MkJ w T0 tail E0 ((es1 ++ es2) ++ es3.take i) nx) rfl (by exact F9) (by exact N9) (by exact fun p hp => hp) (by exact (.tail _ (List.mem_append_right _ mlu))) ?_ ⟨els, ke, made, rfl, hfr, by rw [List.take_zero, List.append_nil]; exact hEl⟩ ?_ ?_
      · rintro i nx ⟨els, ke, made, rfl, _, _⟩
        exact .tail _ (List.mem_append_right _ mlu)
      · rintro i v2 u nx h tk I io hv hoff ⟨els, ke, made, rfl, hfr, hEl⟩ F1 N1
        obtain ⟨x, X9, gvs, rfl, hx⟩ := ent_at hv
        obtain ⟨hIt, hkind⟩ := hE3 _ (List.mem_of_getElem? hx)
        dsimp only at hIt hkind
        have hel := hEl.length
        have hszE : (List.toArray els).size = ((es1 ++ es2) ++ es3.take i).length := by rw [List.size_toArray]; exact hel
        have hszB : ((es1 ++ es2) ++ es3.take i).length ≤ 300 := by simp only [List.length_append, List.length_take, List.length_nil]; omega
        have hO : ∀ p ∈ made ++ tail, p.1 ≠ E0 := fun p hp => (List.mem_append.mp hp).elim (fun h => Nat.ne_of_gt (hfr p h).1) (fun h => Nat.ne_of_lt (lE p h))
        have hs1 : ∀ p ∈ T0, p ∈ made ++ tail := fun p hp => List.mem_append_right _ (hT0 p hp)
        clear F9 N9
        dsimp only [envOf] at F1 N1
        have o1 : @Ne Nat E0 I := hoff _ (.head _)
        generalize hT1 : made ++ tail = T1 at F1 N1 hO hs1 hoff
        cases hIt with
        | asg m1 m2 h1 h2 h3 => cases hkind
        | gate m1 m2 k m3 m4 l1 l2 h1 h2 h3 => cases hkind
        | udp m1 m2 m3 m4 m5 l h1 h2 =>
        have n1 := hs1 _ m1
        have n2 := hs1 _ m2
        have n3 := hs1 _ m3
        have n4 := hs1 _ m4
        have n5 := hs1 _ m5
        have hz9 := srcs_size h2
        have hb9 := srcs_bound h2 l
        try k_fold
        ktn_no "m:w"
        k_dflt (refine' el_call ?B ?F ?X ?N ?T ?K ?d ?u ?_)
        case B => k_asm
        case F => k_asm
        case X => k_asm
        case N => k_asm
        case T => k_asm
        case K => first | exact rfl | assumption
        case d => ktr_room
        case u => ktr_units
        intro x8 d8 l8 a0 a1 a2 a3 a4 a5 a6 a7 a8 a9 q2 q3 h8 tk8 F8 N8 l1 l2 l3
        (try k_sweep)
        (try dsimp only)
        (try k_fold)
        ktn_no "m:w"
        with_reducible rename News _ _ _ _ => N9
        with_reducible rename Fr _ _ _ _ => F9
        replace N9 := ord6 N9
        refine mk_turn (nw := [_, _, _, _, _, _]) (by k_asm) N9 hoff (by assumption) (by ktn_no "m:les") (by ktn_no "m:keep") hT1 hfr hEl hx ?_
        show ElIn w (_ :: _ :: _ :: _ :: _ :: _ :: (_ ++ T0)) _ _ _ _
        exact ElIn.mk2 rfl rfl (by ktn_no "m:mem") (by ktn_no "m:mem") (by ktn_no "m:mem") (⟨_, _, _, rfl, by ktn_no "m:mem"⟩) (rep_ints (by assumption))

      · rintro u nx h tk hJ F1 N1
        replace hJ := mkj_done hJ
        obtain ⟨els, ke, made, rfl, hfr, hEl⟩ := hJ
        clear F9 N9
        dsimp only [envOf] at F1 N1
        ktn_no "m:steps"
        refine PostF.fin (outs := []) (cur := (E0, _) :: (made ++ tail)) (c1 := (E0, _) :: (made ++ tail)) (made := (E0, _) :: made) hret (by k_asm) (by k_asm) Dels.nil (fun p => by simp [or_assoc]) ?_ ⟨rfl, E0, els, ke, made, rfl, rfl, hEl⟩
        exact Fresh.cons (fun q hq => lE q hq) (fun p hp q hq => (hfr p hp).2 q hq)


theorem fresh2 {x d : Addr} {ox od : Obj} {tail : List (Addr × Obj)} (h : ∀ p ∈ tail, p.1 < d) (hd : @LT.lt Nat _ d x) : Fresh [(x, ox), (d, od)] ([] ++ tail) := .cons (fun q hq => Nat.lt_trans (h q hq) hd) (.cons h .nil)
theorem asg_tell {a0 a1 a2 a3 a4 : Value} {tail : List (Addr × Obj)} : Tell w mean mg mb 122 [a0, a1, a2, a3, a4] ([] ++ tail) 2 (PostF [] tail fun v outs made => ∃ x d n t0 t1 t2 t3 t4, v = .ref x ∧ outs = [] ∧ made = [(x, instObj 122 d), (d, dictOf [en w "target" t0 a0, en w "value" t1 a1, en w "strength" t2 a2, en w "delay" t3 a3, en w "at" t4 a4] n)] ∧ @LT.lt Nat _ d x) := by
  unfold Tell
  k_fill
  intro dp un gd cn cs a ccd cl outer A₀ base h₀ L m s Q E B F X N T hk hd hu hret
  dsimp only [List.nil_append] at N
  k_dflt (refine' call_cls ?k1 ?k2 ?k3 ?k4 ?k5 ?k6 ?_; (case k1 => k_asm); (case k2 => k_asm); (case k3 => k_asm); (case k4 => k_is); (case k5 => k_is); (case k6 => k_is); k_whole)
  intro x' d' h' F' N' l1 l2
  k_lt l1
  (try k_lt2 l2)
  (try k_sweep)
  ktn_no "m:in"
  ktn_no "m:steps"
  refine PostF.fin (outs := []) hret (by k_asm) (by k_asm) (by ktn_no "m:dels") (Pre.mem (by ktn_no "m:pre")) (fresh2 (tb_ltOf l1) l2) ?_
  exact ⟨_, _, _, _, _, _, _, _, rfl, rfl, rfl, by assumption⟩
theorem gate_tell {a0 a1 a2 a3 a4 a5 : Value} {tail : List (Addr × Obj)} : Tell w mean mg mb 143 [a0, a1, a2, a3, a4, a5] ([] ++ tail) 2 (PostF [] tail fun v outs made => ∃ x d n t0 t1 t2 t3 t4 t5, v = .ref x ∧ outs = [] ∧ made = [(x, instObj 143 d), (d, dictOf [en w "kind" t0 a0, en w "strength" t1 a1, en w "delay" t2 a2, en w "outs" t3 a3, en w "ins" t4 a4, en w "at" t5 a5] n)] ∧ @LT.lt Nat _ d x) := by
  unfold Tell
  k_fill
  intro dp un gd cn cs a ccd cl outer A₀ base h₀ L m s Q E B F X N T hk hd hu hret
  dsimp only [List.nil_append] at N
  k_dflt (refine' call_cls ?k1 ?k2 ?k3 ?k4 ?k5 ?k6 ?_; (case k1 => k_asm); (case k2 => k_asm); (case k3 => k_asm); (case k4 => k_is); (case k5 => k_is); (case k6 => k_is); k_whole)
  intro x' d' h' F' N' l1 l2
  k_lt l1
  (try k_lt2 l2)
  (try k_sweep)
  ktn_no "m:in"
  ktn_no "m:steps"
  refine PostF.fin (outs := []) hret (by k_asm) (by k_asm) (by ktn_no "m:dels") (Pre.mem (by ktn_no "m:pre")) (fresh2 (tb_ltOf l1) l2) ?_
  exact ⟨_, _, _, _, _, _, _, _, _, rfl, rfl, rfl, by assumption⟩
theorem udp_tell {a0 a1 a2 a3 a4 : Value} {tail : List (Addr × Obj)} : Tell w mean mg mb 164 [a0, a1, a2, a3, a4] ([] ++ tail) 2 (PostF [] tail fun v outs made => ∃ x d n t0 t1 t2 t3 t4, v = .ref x ∧ outs = [] ∧ made = [(x, instObj 164 d), (d, dictOf [en w "primitive" t0 a0, en w "delay" t1 a1, en w "out" t2 a2, en w "ins" t3 a3, en w "at" t4 a4] n)] ∧ @LT.lt Nat _ d x) := by
  unfold Tell
  k_fill
  intro dp un gd cn cs a ccd cl outer A₀ base h₀ L m s Q E B F X N T hk hd hu hret
  dsimp only [List.nil_append] at N
  k_dflt (refine' call_cls ?k1 ?k2 ?k3 ?k4 ?k5 ?k6 ?_; (case k1 => k_asm); (case k2 => k_asm); (case k3 => k_asm); (case k4 => k_is); (case k5 => k_is); (case k6 => k_is); k_whole)
  intro x' d' h' F' N' l1 l2
  k_lt l1
  (try k_lt2 l2)
  (try k_sweep)
  ktn_no "m:in"
  ktn_no "m:steps"
  refine PostF.fin (outs := []) hret (by k_asm) (by k_asm) (by ktn_no "m:dels") (Pre.mem (by ktn_no "m:pre")) (fresh2 (tb_ltOf l1) l2) ?_
  exact ⟨_, _, _, _, _, _, _, _, rfl, rfl, rfl, by assumption⟩
theorem prim_tell {a0 a1 a2 a3 a4 a5 a6 : Value} {tail : List (Addr × Obj)} : Tell w mean mg mb 248 [a0, a1, a2, a3, a4, a5, a6] ([] ++ tail) 2 (PostF [] tail fun v outs made => ∃ x d n t0 t1 t2 t3 t4 t5 t6, v = .ref x ∧ outs = [] ∧ made = [(x, instObj 248 d), (d, dictOf [en w "name" t0 a0, en w "at" t1 a1, en w "output" t2 a2, en w "inputs" t3 a3, en w "sequential" t4 a4, en w "init" t5 a5, en w "rows" t6 a6] n)] ∧ @LT.lt Nat _ d x) := by
  unfold Tell
  k_fill
  intro dp un gd cn cs a ccd cl outer A₀ base h₀ L m s Q E B F X N T hk hd hu hret
  dsimp only [List.nil_append] at N
  k_dflt (refine' call_cls ?k1 ?k2 ?k3 ?k4 ?k5 ?k6 ?_; (case k1 => k_asm); (case k2 => k_asm); (case k3 => k_asm); (case k4 => k_is); (case k5 => k_is); (case k6 => k_is); k_whole)
  intro x' d' h' F' N' l1 l2
  k_lt l1
  (try k_lt2 l2)
  (try k_sweep)
  ktn_no "m:in"
  ktn_no "m:steps"
  refine PostF.fin (outs := []) hret (by k_asm) (by k_asm) (by ktn_no "m:dels") (Pre.mem (by ktn_no "m:pre")) (fresh2 (tb_ltOf l1) l2) ?_
  exact ⟨_, _, _, _, _, _, _, _, _, _, rfl, rfl, rfl, by assumption⟩
def DesPost (w : World) (v : Value) (outs made : List (Addr × Obj)) : Prop := ∃ (bp lpo lto lsc lro lpr lud lga las lsig X Dd : Addr) (obp : Obj) (n : Nat) (t0 t1 t2 t3 t4 t5 t6 t7 t8 t9 t10 t11 q : Tok), v = .ref X ∧ outs = [] ∧
  made = [(bp, obp), (lpo, listOf (List.toArray []) 0), (lto, listOf (List.toArray []) 0), (lsc, listOf (List.toArray []) 0), (lro, listOf (List.toArray []) 0), (lpr, listOf (List.toArray []) 0), (lud, listOf (List.toArray []) 0), (lga, listOf (List.toArray []) 0), (las, listOf (List.toArray []) 0), (lsig, listOf (List.toArray []) 0), (X, instObj 227 Dd),
    (Dd, dictOf [en w "signals" t0 (.ref lsig), en w "assigns" t1 (.ref las), en w "gates" t2 (.ref lga), en w "udps" t3 (.ref lud), en w "processes" t4 (.ref lpr), en w "routines" t5 (.ref lro), en w "scopes" t6 (.ref lsc), en w "tops" t7 (.ref lto), en w "ports" t8 (.ref lpo), en w "maker" t9 .none, en w "nesting" t10 (.int 0 q), en w "by_path" t11 (.ref bp)] n)] ∧
  (@LT.lt Nat _ Dd X ∧ @LT.lt Nat _ X lsig ∧ @LT.lt Nat _ lsig las ∧ @LT.lt Nat _ las lga ∧ @LT.lt Nat _ lga lud ∧ @LT.lt Nat _ lud lpr ∧ @LT.lt Nat _ lpr lro ∧ @LT.lt Nat _ lro lsc ∧ @LT.lt Nat _ lsc lto ∧ @LT.lt Nat _ lto lpo ∧ @LT.lt Nat _ lpo bp)
theorem design_tell {tail : List (Addr × Obj)} : Tell w mean mg mb 227 [] ([] ++ tail) 2 (PostF [] tail (DesPost w)) := by
  unfold Tell
  k_fill
  intro dp un gd cn cs a ccd cl outer A₀ base h₀ L m s Q E B F X N T hk hd hu hret
  dsimp only [List.nil_append] at N
  k_dflt (refine' call_cls ?k1 ?k2 ?k3 ?k4 ?k5 ?k6 ?_; (case k1 => k_asm); (case k2 => k_asm); (case k3 => k_asm); (case k4 => k_is); (case k5 => k_is); (case k6 => k_is); k_whole)
  intro x' d' h' F' N' l1 l2
  k_lt l1
  (try k_lt2 l2)
  (try k_sweep)
  ktn_no "m:in"
  ktn_no "m:steps"
  refine PostF.fin (outs := []) hret (by k_asm) (by k_asm) (by ktn_no "m:dels") (Pre.mem (by ktn_no "m:pre")) (fresh_les (tb_ltOf l1) (by ktn_no "m:les")) ?_
  refine ⟨_, _, _, _, _, _, _, _, _, _, _, _, _, _, _, _, _, _, _, _, _, _, _, _, _, _, _, rfl, rfl, rfl, ?_⟩
  refine ⟨?_, ?_, ?_, ?_, ?_, ?_, ?_, ?_, ?_, ?_, ?_⟩ <;> ktn_no "m:lt1"
section
open PySem.Spec PyProof.V PySem.Calls
/-- what the law noted of an item -/
inductive DueIn (w : World) (led : List (Addr × Obj)) : Value → Ent → Prop
  | mk {d gl ml : Addr} {e : Ent} {stv sv : Value} {ng nm : Nat} {mvs : List Value} {ks : List Int} {t0 t1 : Tok} : (d, tupO [.str e.I.name t0, .int e.I.at' t1, stv, .ref gl, .ref ml, sv]) ∈ led →
      StIn led stv e.I.eff → (gl, listOf (List.toArray e.gvs) ng) ∈ led → (ml, listOf (List.toArray mvs) nm) ∈ led → IntsAre mvs ks → (∀ k, k ∈ ks ↔ k ∈ e.I.keys) → ks.length ≤ 1000 →
      (e.I.kind ≠ 2 → sv = .none) → (e.I.kind = 2 → ∃ s l n ivs t, sv = .ref s ∧ (s, tupO [.int e.I.init t, .ref l]) ∈ led ∧ (l, listOf (List.toArray ivs) n) ∈ led ∧ IntsAre ivs (List.replicate e.I.srcs.length 3)) → DueIn w led (.ref d) e
theorem DueIn.mono {w : World} {led led' : List (Addr × Obj)} {v : Value} {e : Ent} (h : DueIn w led v e) (hs : ∀ p ∈ led, p ∈ led') : DueIn w led' v e := by
  cases h with
  | mk m1 h1 m2 m3 h2 h3 h4 h5 h6 =>
    refine .mk (hs _ m1) (h1.mono hs) (hs _ m2) (hs _ m3) h2 h3 h4 h5 fun hk => ?_
    obtain ⟨s, l, n, ivs, t, e1, e2, e3, e4⟩ := h6 hk
    exact ⟨s, l, n, ivs, t, e1, hs _ e2, hs _ e3, e4⟩
inductive DuesIn (w : World) (led : List (Addr × Obj)) : List Value → List Ent → Prop
  | nil : DuesIn w led [] []
  | snoc {vs : List Value} {v : Value} {es : List Ent} {e : Ent} : DuesIn w led vs es → DueIn w led v e → DuesIn w led (vs ++ [v]) (es ++ [e])
theorem DuesIn.mono {w : World} {led led' : List (Addr × Obj)} {vs : List Value} {es : List Ent} (h : DuesIn w led vs es) (hs : ∀ p ∈ led, p ∈ led') : DuesIn w led' vs es := by
  induction h with
  | nil => exact .nil
  | snoc _ h1 ih => exact .snoc ih (h1.mono hs)
theorem DuesIn.length {w : World} {led : List (Addr × Obj)} {vs : List Value} {es : List Ent} (h : DuesIn w led vs es) : vs.length = es.length := by
  induction h with
  | nil => rfl
  | snoc _ _ ih => simp [ih]
theorem DuesIn.at {w : World} {led : List (Addr × Obj)} {vs : List Value} {es : List Ent} (h : DuesIn w led vs es) : ∀ {i : Nat} {v : Value} {e : Ent}, vs[i]? = some v → es[i]? = some e → DueIn w led v e := by
  induction h with
  | nil => intro i v e h; simp at h
  | @snoc vs v0 es e0 h1 h2 ih =>
    intro i v e h h'
    have hl := h1.length
    rcases Nat.lt_trichotomy i es.length with h3 | h3 | h3
    · rw [List.getElem?_append_left (by omega)] at h h'
      exact ih h h'
    · subst h3
      rw [List.getElem?_append_right (by omega), hl] at h
      rw [List.getElem?_append_right (by omega)] at h'
      simp at h h'
      subst h h'
      exact h2
    · rw [List.getElem?_eq_none (by simp; omega)] at h
      cases h
theorem comp_range {prog : Program} {w : World} {A : Around} {h₀ : Heap} {L : Addr} {m : Str → Option Value} {env : Env} {elt : Expr} {x : Str} {scope : Scope} {cl : List (Str × Addr)} {Fin : Shared → List Value → List (Addr × Obj) → Prop} {r : Addr} {a b : Int} {t u v : Tok} {n : Nat} {cur news : List (Addr × Obj)} {s₁ : Shared}
    (J : Nat → List Value → List (Addr × Obj) → Prop)
    (hh : A.handled = none) (F : Fr h₀ L s₁.heap m) (N : News h₀ L s₁.heap cur) (hr : IsRange s₁.heap r a b 1 t u v) (hsm : Builtin.Range.small a b 1 = true) (hn : Builtin.Range.rangeSize a b 1 = ((n : Nat) : Int)) (hsz : n ≤ sizeLine) (hs : ∀ p ∈ news, p ∈ cur) (hj : J 0 [] news)
    (turn : ∀ i ys nx I oI C oC D m₂ h tk (E' : Value → Shared → Prop) k t, i < n → J i ys nx → LCg.NsObj oC m₂ → m₂ x = some (.int k t) → Fr h₀ L h m → News h₀ L h ((I, oI) :: (C, oC) :: (D, LCg.lst ys) :: nx) → LCg.Off3 I C D nx → ((@Ne Nat I C) ∧ (@Ne Nat I D) ∧ (@Ne Nat C D)) →
      wpAny (model prog w) A (eval elt (compEnvC scope cl C env)) (LCg.CompEnd h₀ L m { s₁ with heap := h, toks := tk } I oI C oC D (LCg.lst ys) (fun _ => True) (fun y nx' => J (i + 1) (ys ++ [y]) nx')) E' { s₁ with heap := h, toks := tk })
    (done : ∀ ys nx g, J n ys nx → Fin { s₁ with heap := g } ys nx) :
    LCg.CompSrc prog w A h₀ L m env elt x scope cl Fin (.ref r) s₁ := by
  refine LCg.CompSrc.range hh F (fun p hp => N p (hs p hp)) hr hsm hn hsz fun g => ?_
  have key : ∀ k i ys nx, i + k = n → J i ys nx → LCg.CompRest prog w A h₀ L m env elt x scope cl { s₁ with heap := g } (fun _ => True) (fun i v => ∃ t, v = .int (a + (i : Int)) t) (Fin { s₁ with heap := g }) k i ys nx := by
    intro k
    induction k with
    | zero => intro i ys nx hi hJ; exact LCg.CompRest.zero (done ys nx g ((show i = n from hi) ▸ hJ))
    | succ k ih =>
      intro i ys nx hi hJ
      refine LCg.CompRest.succ ?_
      rintro v I oI C oC D m₂ h tk E' ⟨t', rfl⟩ hC hx F' N' off ne
      refine wpAny_mono (turn i ys nx I oI C oC D m₂ h tk E' _ t' (by omega) hJ hC hx F' N' off ne) (fun y s₂ p => ?_) fun _ _ e => e
      obtain ⟨h', tk', nx', e1, F1, N1, o1, hS, hJ'⟩ := p
      exact ⟨h', tk', nx', e1, F1, N1, o1, hS, ih (i + 1) _ _ (by omega) hJ'⟩
  exact key n 0 [] news (by omega) hj
theorem sub_pick {prog : Program} {w : World} {A : Around} {E : Value → Shared → Prop} {s : Shared} {value slice : Expr} {h₀ : Heap} {L l : Addr} {xs : List Value} {n : Nat} {news : List (Addr × Obj)} {k : Int} {u : Tok} {Q : Value → Shared → Prop} (N : News h₀ L s.heap news) (hm : (l, listOf (List.toArray xs) n) ∈ news)
    (h0 : 0 ≤ k) (h1 : k < (xs.length : Int)) (hz : xs.length ≤ 1000) (h : ∀ v, xs[k.toNat]? = some v → Q v s)
    (hs : subscripted slice false (.ref l) (.int k u) = operate [.ref l, .int k u] (getItem (.ref l) (.int k u)) := by with_unfolding_all rfl) :
    wpAny (model prog w) A (subscriptTail value slice (.ref l) (.int k u)) Q E s := by
  have hl : s.heap.IsList l (List.toArray xs) := ⟨_, (N _ hm).1, rfl, _, rfl⟩
  have hk : k.toNat < xs.length := by omega
  have hx : xs[k.toNat]? = some xs[k.toNat] := List.getElem?_eq_getElem hk
  exact tail_any hl.typeIs slot_list_getitem.lookup (wpAny_getItem_list hl h0 (by omega) (by simpa using hx) (h _ hx)) hs
theorem pick3 {a b c v : Value} {n : Nat} (h : [a, b, c][n]? = some v) : v = a ∨ v = b ∨ v = c := by
  rcases n with _ | _ | _ | n
  · exact .inl (Option.some.inj h).symm
  · exact .inr (.inl (Option.some.inj h).symm)
  · exact .inr (.inr (Option.some.inj h).symm)
  · simp at h
theorem pick2 {a b v : Value} {n : Nat} (h : [a, b][n]? = some v) : v = a ∨ v = b := by
  rcases n with _ | _ | n
  · exact .inl (Option.some.inj h).symm
  · exact .inr (Option.some.inj h).symm
  · simp at h
theorem pick4 {a b c d v : Value} {n : Nat} (h : [a, b, c, d][n]? = some v) : v = a ∨ v = b ∨ v = c ∨ v = d := by
  rcases n with _ | _ | _ | _ | n
  · exact .inl (Option.some.inj h).symm
  · exact .inr (.inl (Option.some.inj h).symm)
  · exact .inr (.inr (.inl (Option.some.inj h).symm))
  · exact .inr (.inr (.inr (Option.some.inj h).symm))
  · simp at h
theorem GlIn.ref {led : List (Addr × Obj)} {v : Value} {G : Gl} (h : GlIn led v G) : ∃ a, v = .ref a := by cases h <;> exact ⟨_, rfl⟩
theorem SrcIn.ref {led : List (Addr × Obj)} {v : Value} {S : Src} (h : SrcIn led v S) : ∃ a, v = .ref a := by cases h <;> exact ⟨_, rfl⟩
theorem src_size (S : Src) : S.size ≤ 2 * S.keys.length + 1 := by
  induction S with
  | const c => simp [Src.size]
  | sig k => simp [Src.size]
  | un k => simp [Src.size, Src.keys]
  | bin s k ih => simp only [Src.size, Src.keys, List.length_cons]; omega
theorem small_one {S : Src} (hl : S.keys.length ≤ 7) (hb : Bd S) : Small [S] := by
  intro T hT
  rw [List.mem_singleton.mp hT]
  have := src_size S
  exact ⟨by omega, hb⟩
theorem gl_small {G : Gl} (hl : G.keys.length ≤ 7) (hb : BdK G.keys) : Small G.srcs := by
  cases G with
  | at0 k => intro S hS; cases hS
  | pick k s => exact small_one hl hb
  | two k s => exact small_one hl hb
theorem asg_item {w : World} {T M1 M2 : List (Addr × Obj)} {x dx ta sa : Addr} {n : Nat} {stv : Value} {at' : Int} {st : Option (Int × Int)} {G : Gl} {S : Src} {t0 t1 t2 t3 t4 t5 : Tok} (m1 : (x, instObj 122 dx) ∈ T)
    (m2 : (dx, dictOf [en w "target" t0 (.ref ta), en w "value" t1 (.ref sa), en w "strength" t2 stv, en w "delay" t3 .none, en w "at" t4 (.int at' t5)] n) ∈ T)
    (hG : GlIn M1 (.ref ta) G) (s1 : ∀ p ∈ M1, p ∈ T) (hS : SrcIn M2 (.ref sa) S) (s2 : ∀ p ∈ M2, p ∈ T) (h3 : OStIn T stv st) : ItemIn w T x ⟨0, at', st, false, [G], [S], 0⟩ [.ref ta] :=
  .asg m1 m2 (hG.mono s1) (hS.mono s2) h3
theorem asg_ok {at' : Int} {st : Option (Int × Int)} {G : Gl} {S : Src} (hGl : G.keys.length ≤ 7) (hGb : BdK G.keys) (hSl : S.keys.length ≤ 7) (hSb : Bd S) : Spec0.Ok ⟨0, at', st, false, [G], [S], 0⟩ :=
  ⟨small_one hSl hSb, (fun H hH => by rw [List.mem_singleton.mp hH]; exact gl_small hGl hGb), Nat.le_of_ble_eq_true rfl, Nat.le_of_ble_eq_true rfl⟩
theorem asg_due {w : World} {T : List (Addr × Obj)} {x d gl ml ta : Addr} {stv : Value} {at' : Int} {st : Option (Int × Int)} {G : Gl} {S : Src} {ng nm : Nat} {mvs : List Value} {t0 t1 : Tok} (m : (d, tupO [.str (Str.ofString "assign") t0, .int at' t1, stv, .ref gl, .ref ml, .none]) ∈ T)
    (hst : StIn T stv (Spec0.eff ⟨0, at', st, false, [G], [S], 0⟩)) (m2 : (gl, listOf (List.toArray [.ref ta]) ng) ∈ T) (m3 : (ml, listOf (List.toArray mvs) nm) ∈ T) (hi : IntsAre mvs ([] ++ G.keys ++ S.keys)) (hGl : G.keys.length ≤ 7) (hSl : S.keys.length ≤ 7) :
    DueIn w T (.ref d) ⟨x, ⟨0, at', st, false, [G], [S], 0⟩, [.ref ta]⟩ :=
  .mk m hst m2 m3 hi (fun k => by simp [Spec0.keys, or_comm]) (by simp only [List.length_append, List.length_nil]; omega) (fun _ => rfl) (fun h => nomatch h)
theorem range_size {k : Int} (h0 : 0 ≤ k) : Builtin.Range.rangeSize 0 k 1 = ((k.toNat : Nat) : Int) := by
  simp only [Builtin.Range.rangeSize]
  split
  · split <;> omega
  · omega
theorem range_small {k : Int} (h0 : 0 ≤ k) (h1 : k < 1000) : Builtin.Range.small 0 k 1 = true := by
  unfold Builtin.Range.small
  rw [range_size h0]
  simp only [Builtin.Range.rangeFitsLong, Bool.and_eq_true, Bool.or_eq_true, decide_eq_true_eq, beq_iff_eq, show ((1 : Int) > 0) by decide, if_true]
  omega
theorem off3_three {I C D : Addr} {l : List (Addr × Obj)} (h1 : ∀ p ∈ l, p.1 ≠ I) (h2 : ∀ p ∈ l, p.1 ≠ C) (h3 : ∀ p ∈ l, p.1 ≠ D) : LCg.Off3 I C D l := LCg.Off3.of fun p hp => ⟨h1 p hp, h2 p hp, h3 p hp⟩
theorem dels_news {h₀ h : Heap} {L : Addr} {ins cur r : List (Addr × Obj)} (N : News h₀ L h cur) (d : Dels ins cur r) : News h₀ L h (ins ++ r) := fun p hp => N p (d.mem.mpr (List.mem_append.mp hp))
theorem ostIn_pick2 {v : Value} {n : Nat} {s : Addr} {x y : Int} {t0 t1 : Tok} {led : List (Addr × Obj)} (h : [Value.none, .ref s][n]? = some v) (m : (s, tupO [.int x t0, .int y t1]) ∈ led) : ∃ st, OStIn led v st ∧ (st = none ∨ st = some (x, y)) := by
  rcases pick2 h with rfl | rfl
  · exact ⟨_, .none, .inl rfl⟩
  · exact ⟨_, .some m, .inr rfl⟩
def GlsOk (Gs : List Gl) : Prop := ∀ G ∈ Gs, G.keys.length ≤ 7 ∧ BdK G.keys
def SrcsOk (Ss : List Src) : Prop := ∀ S ∈ Ss, S.keys.length ≤ 7 ∧ Bd S
theorem gls_ok {Gs : List Gl} {G : Gl} (h : GlsOk Gs) (hl : G.keys.length ≤ 7) (hb : BdK G.keys) : GlsOk (Gs ++ [G]) := fun H hH => by
  rcases List.mem_append.mp hH with h1 | h1
  · exact h H h1
  · rw [List.mem_singleton.mp h1]; exact ⟨hl, hb⟩
theorem srcs_ok {Ss : List Src} {S : Src} (h : SrcsOk Ss) (hl : S.keys.length ≤ 7) (hb : Bd S) : SrcsOk (Ss ++ [S]) := fun H hH => by
  rcases List.mem_append.mp hH with h1 | h1
  · exact h H h1
  · rw [List.mem_singleton.mp h1]; exact ⟨hl, hb⟩
theorem gls_len {Gs : List Gl} (h : GlsOk Gs) : (Gs.flatMap Gl.keys).length ≤ 7 * Gs.length := by
  induction Gs with
  | nil => simp
  | cons G r ih =>
    have h1 := (h G (.head _)).1
    have h2 := ih fun H hH => h H (.tail _ hH)
    simp only [List.flatMap_cons, List.length_append, List.length_cons]
    omega
theorem srcs_len {Ss : List Src} (h : SrcsOk Ss) : (Ss.flatMap Src.keys).length ≤ 7 * Ss.length := by
  induction Ss with
  | nil => simp
  | cons G r ih =>
    have h1 := (h G (.head _)).1
    have h2 := ih fun H hH => h H (.tail _ hH)
    simp only [List.flatMap_cons, List.length_append, List.length_cons]
    omega
theorem flat_snoc {α : Type} {f : α → List Int} {xs : List α} {x : α} : (xs ++ [x]).flatMap f = xs.flatMap f ++ f x := by simp
theorem off3_cons {I C D a : Addr} {o o' : Obj} {l l' : List (Addr × Obj)} (h : LCg.Off3 I C D l) (m : (a, o') ∈ l) (t : LCg.Off3 I C D l') : LCg.Off3 I C D ((a, o) :: l') := by
  have h1 := h.mem _ m
  exact ⟨h1, t⟩
theorem off3_sub {I C D : Addr} {l T : List (Addr × Obj)} (h : LCg.Off3 I C D l) (hs : ∀ p ∈ T, p ∈ l) : LCg.Off3 I C D T := LCg.Off3.of fun p hp => h.mem p (hs p hp)
theorem tup_list {prog : Program} {w : World} {A : Around} {E : Value → Shared → Prop} {s : Shared} {h₀ : Heap} {L l : Addr} {m : Str → Option Value} {ys : List Value} {n : Nat} {news : List (Addr × Obj)} {Q : Value → Shared → Prop}
    (F : Fr h₀ L s.heap m) (N : News h₀ L s.heap news) (hm : (l, listOf (List.toArray ys) n) ∈ news) (hz : ys.length ≤ 100)
    (h : ∀ D h', Fr h₀ L h' m → News h₀ L h' ((D, tupO ys) :: news) → (∀ p ∈ news, p.1 < D) → Q (.ref D) { s with heap := h' }) : wpAny (model prog w) A (call (.type "tuple") [.ref l]) Q E s :=
  kde_tupleOf (items := List.toArray ys) (zs := ys) F N ⟨_, (N _ hm).1, rfl, _, rfl⟩ (by simp; omega) (by simp) h
theorem srcs_small {Ss : List Src} (h : SrcsOk Ss) : Small Ss := fun S hS => by
  have h1 := src_size S
  have h2 := h S hS
  exact ⟨by omega, h2.2⟩
theorem gate_item {w : World} {T M : List (Addr × Obj)} {x dx oa ia : Addr} {n : Nat} {stv : Value} {at' : Int} {k : String} {b : Bool} {st : Option (Int × Int)} {gvs svs : List Value} {Gs : List Gl} {Ss : List Src} {t0 t1 t2 t3 t4 t5 t6 t7 : Tok} (m1 : (x, instObj 143 dx) ∈ T)
    (m2 : (dx, dictOf [en w "kind" t0 (.str (Str.ofString k) t6), en w "strength" t1 stv, en w "delay" t2 .none, en w "outs" t3 (.ref oa), en w "ins" t4 (.ref ia), en w "at" t5 (.int at' t7)] n) ∈ T)
    (hk : k ∈ ["and", "pullup", "buf", "pulldown"]) (m3 : (oa, tupO gvs) ∈ T) (m4 : (ia, tupO svs) ∈ T) (s : ∀ p ∈ M, p ∈ T) (l1 : gvs.length ≤ 100) (l2 : svs.length ≤ 100) (hG : GlsIn M gvs Gs) (hS : SrcsIn M svs Ss) (h3 : OStIn M stv st) (hb : (k == "pullup" || k == "pulldown") = b) :
    ItemIn w T x ⟨1, at', st, b, Gs, Ss, 0⟩ gvs := by
  subst hb
  exact .gate m1 m2 hk m3 m4 l1 l2 (hG.mono s) (hS.mono s) (h3.mono s)
theorem gate_ok {at' : Int} {st : Option (Int × Int)} {b : Bool} {Gs : List Gl} {Ss : List Src} (hG : GlsOk Gs) (hS : SrcsOk Ss) (lg : Gs.length ≤ 2) (ls : Ss.length ≤ 3) : Spec0.Ok ⟨1, at', st, b, Gs, Ss, 0⟩ :=
  ⟨srcs_small hS, (fun H hH => gl_small (hG H hH).1 (hG H hH).2), (by show Ss.length ≤ 100; omega), (by show Gs.length ≤ 100; omega)⟩
theorem gate_due {w : World} {T : List (Addr × Obj)} {x d gl ml : Addr} {stv : Value} {at' : Int} {st : Option (Int × Int)} {b : Bool} {Gs : List Gl} {Ss : List Src} {ng nm : Nat} {gvs mvs : List Value} {t0 t1 : Tok} (m : (d, tupO [.str (Str.ofString "gate") t0, .int at' t1, stv, .ref gl, .ref ml, .none]) ∈ T)
    (hst : StIn T stv (Spec0.eff ⟨1, at', st, b, Gs, Ss, 0⟩)) (m2 : (gl, listOf (List.toArray gvs) ng) ∈ T) (m3 : (ml, listOf (List.toArray mvs) nm) ∈ T) (hi : IntsAre mvs (Gs.flatMap Gl.keys ++ Ss.flatMap Src.keys)) (hG : GlsOk Gs) (hS : SrcsOk Ss) (lg : Gs.length ≤ 2) (ls : Ss.length ≤ 3) :
    DueIn w T (.ref d) ⟨x, ⟨1, at', st, b, Gs, Ss, 0⟩, gvs⟩ :=
  .mk m hst m2 m3 hi (fun k => by simp only [Spec0.keys, List.mem_append, or_comm]) (by have h1 := gls_len hG; have h2 := srcs_len hS; simp only [List.length_append]; omega) (fun _ => rfl) (fun h => nomatch h)
theorem pick_int3 {a b c : Int} {t0 t1 t2 : Tok} {v : Value} {n : Nat} (h : [Value.int a t0, .int b t1, .int c t2][n]? = some v) : ∃ f t, v = Value.int f t := by
  rcases pick3 h with rfl | rfl | rfl <;> exact ⟨_, _, rfl⟩
theorem ne_same_lists {prog : Program} {w : World} {A : Around} {E : Value → Shared → Prop} {s : Shared} {h₀ : Heap} {L a b : Addr} {news : List (Addr × Obj)} {xs : List Value} {n k : Nat} {Q : Value → Shared → Prop} (N : News h₀ L s.heap news)
    (ha : (a, listOf (List.toArray xs) n) ∈ news) (hb : (b, listOf (List.toArray xs) k) ∈ news) (hu : A.units + 64 < cLine) (h : Q (.bool false) s) : wpAny (model prog w) A (compareOp .NotEq (.ref a) (.ref b)) Q E s := by
  have la : s.heap.IsList a (List.toArray xs) := ⟨_, (N _ ha).1, rfl, _, rfl⟩
  have lb : s.heap.IsList b (List.toArray xs) := ⟨_, (N _ hb).1, rfl, _, rfl⟩
  have e : (!(List.range (List.toArray xs).size).all fun _ => true) = false := by
    rw [List.all_eq_true.mpr fun _ _ => rfl]; rfl
  exact SeqAt.RcNeAt.lists (e := fun _ => true) la lb rfl (by omega) (fun j h1 h2 => SeqAt.EqAt.same _) prog w E Q (by rw [e]; exact h)
theorem ne_tail {prog : Program} {w : World} {A : Around} {E : Value → Shared → Prop} {s : Shared} {h₀ : Heap} {L a b l1 l2 : Addr} {news : List (Addr × Obj)} {i : Int} {xs ys : List Value} {ns : List Int} {t0 u0 : Tok} {n k : Nat} {Q : Value → Shared → Prop} (N : News h₀ L s.heap news)
    (ha : (a, tupO [.int i t0, .ref l1]) ∈ news) (hb : (b, tupO [.int i u0, .ref l2]) ∈ news) (h1 : (l1, listOf (List.toArray xs) n) ∈ news) (h2 : (l2, listOf (List.toArray ys) k) ∈ news) (hi : IntsAre xs ns) (hj : IntsAre ys ns)
    (hu : A.units + 64 < cLine) (h : Q (.bool false) s) : wpAny (model prog w) A (compareOp .NotEq (.ref a) (.ref b)) Q E s := by
  have la : s.heap.IsList l1 (List.toArray xs) := ⟨_, (N _ h1).1, rfl, _, rfl⟩
  have lb : s.heap.IsList l2 (List.toArray ys) := ⟨_, (N _ h2).1, rfl, _, rfl⟩
  refine ne_dataH (da := .tuple [.int i, .list (ns.map PyData.int)]) (db := .tuple [.int i, .list (ns.map PyData.int)])
    (reads_tuple_at (N _ ha).1 rfl rfl (.cons (.int _ _) (.cons (reads_newData la (ke_carried hi)) .nil))) (reads_tuple_at (N _ hb).1 rfl rfl (.cons (.int _ _) (.cons (reads_newData lb (ke_carried hj)) .nil))) (by simp [SeqAt.shaped, PyData.canLay0, PyData.canLayAll0, PyData.depth, PyData.depthAll, ke_canLayAll0, ke_depthAll]) (by simp [SeqAt.shaped, PyData.canLay0, PyData.canLayAll0, PyData.depth, PyData.depthAll, ke_canLayAll0, ke_depthAll]) hu ?_
  simpa [PyData.eqv, PyData.eqvAll, ked_eqvAll] using h
noncomputable def isK (k : Int) : Value → Bool
  | .int a _ => a == k
  | _ => false
theorem ints_any {xs : List Value} {ks : List Int} (h : IntsAre xs ks) (k : Int) : xs.any (isK k) = decide (k ∈ ks) := by
  induction h with
  | nil => rfl
  | cons a u r ih =>
    simp only [List.any_cons, isK, List.mem_cons]
    rw [show (_ : List Value).any (isK k) = _ from ih]
    by_cases e : a = k
    · simp [e]
    · have e2 : ¬ k = a := fun x => e x.symm
      simp [e, e2]
theorem in_ints {prog : Program} {w : World} {A : Around} {E : Value → Shared → Prop} {s : Shared} {h₀ : Heap} {L l : Addr} {news : List (Addr × Obj)} {xs : List Value} {ks : List Int} {n : Nat} {k : Int} {t : Tok} {Q : Value → Shared → Prop} (N : News h₀ L s.heap news)
    (hm : (l, listOf (List.toArray xs) n) ∈ news) (hi : IntsAre xs ks) (h1 : k ∈ ks → Q (.bool true) s) (h2 : k ∉ ks → Q (.bool false) s) : wpAny (model prog w) A (compareOp .In (.int k t) (.ref l)) Q E s := by
  have la : s.heap.IsList l (List.toArray xs) := ⟨_, (N _ hm).1, rfl, _, rfl⟩
  refine SeqAt.in_listAt (isK k) la (fun y hy => ?_) ?_
  · obtain ⟨i, hi2, e⟩ := List.getElem_of_mem (by simpa using hy)
    obtain ⟨a, u, e1, _⟩ := hi.at i y (by rw [List.getElem?_eq_getElem hi2, e])
    subst e1
    exact SeqAt.EqAt.int_int a u k t
  · have e : (List.toArray xs).any (isK k) = decide (k ∈ ks) := by
      rw [List.any_toArray]
      exact ints_any hi k
    rw [e]
    by_cases hk : k ∈ ks
    · rw [decide_eq_true hk]; exact h1 hk
    · rw [decide_eq_false hk]; exact h2 hk
theorem st_reads {h₀ h : Heap} {L : Addr} {news led : List (Addr × Obj)} {v : Value} {p : Int × Int} (N : News h₀ L h news) (hs : StIn led v p) (sub : ∀ q ∈ led, q ∈ news) : ∃ as, Reads h v (.tuple [.int p.1, .int p.2]) as := by
  obtain ⟨s, t0, t1, rfl, m⟩ := hs
  exact ⟨_, reads_tuple_at (N _ (sub _ m)).1 rfl rfl (.cons (.int _ _) (.cons (.int _ _) .nil))⟩
theorem ne_head {prog : Program} {w : World} {A : Around} {E : Value → Shared → Prop} {s : Shared} {h₀ : Heap} {L a b : Addr} {news T1 T2 : List (Addr × Obj)} {i j : Int} {nm : Str} {v1 v2 : Value} {p : Int × Int} {t0 t1 t2 u0 u1 u2 : Tok} {n k : Nat} {Q : Value → Shared → Prop} (N : News h₀ L s.heap news)
    (ha : (a, listOf (List.toArray [.int i t0, .str nm t1, .int j t2, v1]) n) ∈ news) (hb : (b, listOf (List.toArray [.int i u0, .str nm u1, .int j u2, v2]) k) ∈ news)
    (hnm : PyData.strOk nm = true) (h1 : StIn T1 v1 p) (s1 : ∀ q ∈ T1, q ∈ news) (h2 : StIn T2 v2 p) (s2 : ∀ q ∈ T2, q ∈ news) (hu : A.units + 64 < cLine) (h : Q (.bool false) s) : wpAny (model prog w) A (compareOp .NotEq (.ref a) (.ref b)) Q E s := by
  obtain ⟨as1, r1⟩ := st_reads N h1 s1
  obtain ⟨as2, r2⟩ := st_reads N h2 s2
  refine ne_dataH (da := .list [.int i, .str nm, .int j, .tuple [.int p.1, .int p.2]]) (db := .list [.int i, .str nm, .int j, .tuple [.int p.1, .int p.2]])
    (reads_list_at (N _ ha).1 rfl rfl (.cons (.int _ _) (.cons (.str _ _) (.cons (.int _ _) (.cons r1 .nil))))) (reads_list_at (N _ hb).1 rfl rfl (.cons (.int _ _) (.cons (.str _ _) (.cons (.int _ _) (.cons r2 .nil))))) (by simp [SeqAt.shaped, PyData.canLay0, PyData.canLayAll0, PyData.depth, PyData.depthAll, hnm]) (by simp [SeqAt.shaped, PyData.canLay0, PyData.canLayAll0, PyData.depth, PyData.depthAll, hnm]) hu ?_
  simpa [PyData.eqv, PyData.eqvAll] using h
theorem name_ok (I : Spec0) : PyData.strOk I.name = true := by
  unfold Spec0.name
  split
  · decide +kernel
  · split <;> decide +kernel
theorem comp_rangeT {prog : Program} {w : World} {A : Around} {h₀ : Heap} {L : Addr} {m : Str → Option Value} {env : Env} {ct elt : Expr} {x : Str} {scope : Scope} {cl : List (Str × Addr)} {Fin : Shared → List Value → List (Addr × Obj) → Prop} {r : Addr} {a b : Int} {t u v : Tok} {n : Nat} {cur news : List (Addr × Obj)} {s₁ : Shared}
    (J : Nat → List Value → List (Addr × Obj) → Prop)
    (hh : A.handled = none) (F : Fr h₀ L s₁.heap m) (N : News h₀ L s₁.heap cur) (hr : IsRange s₁.heap r a b 1 t u v) (hsm : Builtin.Range.small a b 1 = true) (hn : Builtin.Range.rangeSize a b 1 = ((n : Nat) : Int)) (hsz : n ≤ sizeLine) (hs : ∀ p ∈ news, p ∈ cur) (hj : J 0 [] news)
    (turn : ∀ i ys nx I oI C oC D m₂ h tk (E' : Value → Shared → Prop) t, i < n → J i ys nx → LCg.NsObj oC m₂ → m₂ x = some (.int (a + (i : Int)) t) → Fr h₀ L h m → News h₀ L h ((I, oI) :: (C, oC) :: (D, LCg.lst ys) :: nx) → LCg.Off3 I C D nx → ((@Ne Nat I C) ∧ (@Ne Nat I D) ∧ (@Ne Nat C D)) →
      wpAny (model prog w) A (isTrue ct (compEnvC scope cl C env) (eval ct (compEnvC scope cl C env))) (fun ok s' => if ok = true then
        wpAny (model prog w) A (eval elt (compEnvC scope cl C env)) (LCg.CompEnd h₀ L m { s₁ with heap := h, toks := tk } I oI C oC D (LCg.lst ys) (fun _ => True) (fun y nx' => J (i + 1) (ys ++ [y]) nx')) E' s'
        else LCg.CompEnd h₀ L m { s₁ with heap := h, toks := tk } I oI C oC D (LCg.lst ys) (fun _ => True) (fun _ nx' => J (i + 1) ys nx') Value.none s') E' { s₁ with heap := h, toks := tk })
    (done : ∀ ys nx g, J n ys nx → Fin { s₁ with heap := g } ys nx) :
    LCt.CompSrcT prog w A h₀ L m env ct elt x scope cl Fin (.ref r) s₁ := by
  refine LCt.CompSrcT.range hh F (fun p hp => N p (hs p hp)) hr hsm hn hsz fun g => ?_
  have key : ∀ k i ys nx, i + k = n → J i ys nx → LCt.CompRestT prog w A h₀ L m env ct elt x scope cl { s₁ with heap := g } (fun _ => True) (fun i v => ∃ t, v = .int (a + (i : Int)) t) (Fin { s₁ with heap := g }) k i ys nx := by
    intro k
    induction k with
    | zero => intro i ys nx hi hJ; exact LCt.CompRestT.zero (done ys nx g ((show i = n from hi) ▸ hJ))
    | succ k ih =>
      intro i ys nx hi hJ
      refine LCt.CompRestT.succ ?_
      rintro v I oI C oC D m₂ h tk E' ⟨t', rfl⟩ hC hx F' N' off ne
      have fin : ∀ zs y s₂, LCg.CompEnd h₀ L m { s₁ with heap := h, toks := tk } I oI C oC D (LCg.lst ys) (fun _ => True) (fun _ nx' => J (i + 1) zs nx') y s₂ →
          LCg.CompEnd h₀ L m { { s₁ with heap := g } with heap := h, toks := tk } I oI C oC D (LCg.lst ys) (fun _ => True) (fun _ nx' => LCt.CompRestT prog w A h₀ L m env ct elt x scope cl { s₁ with heap := g } (fun _ => True) (fun i v => ∃ t, v = .int (a + (i : Int)) t) (Fin { s₁ with heap := g }) k (i + 1) zs nx') y s₂ := by
        rintro zs y s₂ ⟨h', tk', nx', e1, F1, N1, o1, hS, hJ'⟩
        exact ⟨h', tk', nx', e1, F1, N1, o1, hS, ih (i + 1) _ _ (by omega) hJ'⟩
      refine wpAny_mono (turn i ys nx I oI C oC D m₂ h tk E' t' (by omega) hJ hC hx F' N' off ne) (fun ok s₂ p => ?_) fun _ _ e => e
      cases ok with
      | true =>
        simp only [if_true] at p ⊢
        refine wpAny_mono p (fun y s₃ q => ?_) fun _ _ e => e
        exact fin (ys ++ [y]) y s₃ q
      | false =>
        simp only [Bool.false_eq_true, if_false] at p ⊢
        exact fin ys _ s₂ p
  exact key n 0 [] news (by omega) hj
theorem kms_len {l : List Value} {lo hi : Option Int} : (kms_pick l lo hi).length ≤ l.length := by
  unfold kms_pick
  rw [List.length_take, List.length_drop]
  omega
theorem slice_any {prog : Program} {w : World} {A : Around} {E : Value → Shared → Prop} {s : Shared} {value slice : Expr} {h₀ : Heap} {L l : Addr} {m : Str → Option Value} {news : List (Addr × Obj)} {xs : List Value} {n : Nat} {vl vu : Value} {lo hi : Option Int} {Q : Value → Shared → Prop}
    (F : Fr h₀ L s.heap m) (N : News h₀ L s.heap news) (hm : (l, listOf (List.toArray xs) n) ∈ news) (pl : IsPart vl lo) (pu : IsPart vu hi) (hz : xs.length ≤ 100)
    (h : ∀ zs D h', zs.length ≤ 100 → Fr h₀ L h' m → News h₀ L h' ((D, listOf (List.toArray zs) 0) :: news) → (∀ p ∈ news, p.1 < D) → Q (.ref D) { s with heap := h' })
    (hs : subscripted slice false (.ref l) (.ref s.heap.objs.size) = operate [.ref s.heap.objs.size, .ref l] (getItem (.ref l) (.ref s.heap.objs.size)) := by with_unfolding_all rfl) :
    wpAny (model prog w) A (subscriptTail value slice (.ref l) (.ref s.heap.objs.size)) Q E { s with heap := s.heap.push { cls := .type "slice", data := .fields #[vl, vu, .none] } } := by
  have hl : s.heap.IsList l (List.toArray xs) := ⟨_, (N _ hm).1, rfl, _, rfl⟩
  refine tail_any (Heap.IsList.typeIs (s := { s with heap := s.heap.push { cls := .type "slice", data := .fields #[vl, vu, .none] } }) (hl.push _)) list_getitem_lookup
    (wpAny_getItem_list_slice (hl.push _) (Heap.IsSliceOf.new ..) pl pu .none (by simp) ?_ (by rw [sizeLine_eq]; simp; omega)) hs
  have N1 := News.push (F.push { cls := .type "slice", data := .fields #[vl, vu, .none] }) (N.grown fun _ _ e => Heap.get?_push_of_some _ e) { cls := .type "list", data := .seq (slicePick (List.toArray xs) lo hi none) }
  rw [Heap.size_push] at N1
  show Q (.ref (s.heap.push _).objs.size) _
  rw [Heap.size_push]
  have e : slicePick (List.toArray xs) lo hi none = (kms_pick xs lo hi).toArray := kms_pick_eq _ _ _
  rw [e] at N1 ⊢
  exact h _ _ _ (Nat.le_trans kms_len hz) ((F.push _).push _) N1 (fun p hp => Nat.lt_succ_of_lt (Heap.lt_size (N p hp).1))
theorem len_led {prog : Program} {w : World} {A : Around} {E : Value → Shared → Prop} {s : Shared} {h₀ : Heap} {L l : Addr} {news : List (Addr × Obj)} {xs : List Value} {n c : Nat} {Q : Value → Shared → Prop}
    (N : News h₀ L s.heap news) (hm : (l, listOf (List.toArray xs) n) ∈ news) (hk : xs.length = c) (hz : c ≤ 1000) (h : ∀ t tk, Q (.int (c : Int) t) { s with toks := tk }) :
    wpAny (model prog w) A (call (.builtin "len") [.ref l]) Q E s :=
  kun_lenL (items := List.toArray xs) ⟨_, (N _ hm).1, rfl, _, rfl⟩ (by rw [List.size_toArray, hk]) (by omega) (h _ _)
theorem udp_item {w : World} {T M1 M2 : List (Addr × Obj)} {x dx pa pd ga ia : Addr} {n np : Nat} {at' : Int} {svs : List Value} {G : Gl} {Ss : List Src} {init : Int} {t0 t1 t2 t3 t4 t5 : Tok} {p0 p1 p2 p3 p4 p5 p6 p7 : Tok} {v0 v1 v2 v3 v4 v6 : Value} (m1 : (x, instObj 164 dx) ∈ T)
    (m2 : (dx, dictOf [en w "primitive" t0 (.ref pa), en w "delay" t1 .none, en w "out" t2 (.ref ga), en w "ins" t3 (.ref ia), en w "at" t4 (.int at' t5)] n) ∈ T)
    (m3 : (pa, instObj 248 pd) ∈ T) (m4 : (pd, dictOf [en w "name" p0 v0, en w "at" p1 v1, en w "output" p2 v2, en w "inputs" p3 v3, en w "sequential" p4 v4, en w "init" p5 (.int init p7), en w "rows" p6 v6] np) ∈ T)
    (m5 : (ia, tupO svs) ∈ T) (s1 : ∀ p ∈ M1, p ∈ T) (s2 : ∀ p ∈ M2, p ∈ T) (l : svs.length ≤ 100) (hG : GlIn M1 (.ref ga) G) (hS : SrcsIn M2 svs Ss) : ItemIn w T x ⟨2, at', none, false, [G], Ss, init⟩ [.ref ga] :=
  .udp m1 m2 m3 m4 m5 l (hG.mono s1) (hS.mono s2)
theorem udp_ok {at' init : Int} {G : Gl} {Ss : List Src} (hGl : G.keys.length ≤ 7) (hGb : BdK G.keys) (hS : SrcsOk Ss) (ls : Ss.length ≤ 3) : Spec0.Ok ⟨2, at', none, false, [G], Ss, init⟩ :=
  ⟨srcs_small hS, (fun H hH => by rw [List.mem_singleton.mp hH]; exact gl_small hGl hGb), (by show Ss.length ≤ 100; omega), Nat.le_of_ble_eq_true rfl⟩
theorem udp_due {w : World} {T : List (Addr × Obj)} {x d gl ml ta q l : Addr} {stv : Value} {at' init : Int} {G : Gl} {Ss : List Src} {ng nm nl c : Nat} {mvs ivs : List Value} {t0 t1 t2 : Tok} (m : (d, tupO [.str (Str.ofString "udp") t0, .int at' t1, stv, .ref gl, .ref ml, .ref q]) ∈ T)
    (hst : StIn T stv (Spec0.eff ⟨2, at', none, false, [G], Ss, init⟩)) (m2 : (gl, listOf (List.toArray [.ref ta]) ng) ∈ T) (m3 : (ml, listOf (List.toArray mvs) nm) ∈ T) (m4 : (q, tupO [.int init t2, .ref l]) ∈ T) (m5 : (l, listOf (List.toArray ivs) nl) ∈ T)
    (hi : IntsAre mvs (G.keys ++ Ss.flatMap Src.keys)) (hv : IntsAre ivs (List.replicate ((c : Int).toNat) [(3 : Int)]).flatten) (hc : c = Ss.length) (hGl : G.keys.length ≤ 7) (hS : SrcsOk Ss) (ls : Ss.length ≤ 3) :
    DueIn w T (.ref d) ⟨x, ⟨2, at', none, false, [G], Ss, init⟩, [.ref ta]⟩ := by
  subst hc
  exact .mk m hst m2 m3 hi (fun k => by simp [Spec0.keys, or_comm]) (by have h2 := srcs_len hS; simp only [List.length_append]; omega) (fun h => absurd rfl h) (fun _ => ⟨_, _, _, _, _, rfl, m4, m5, rep_ints hv⟩)
theorem sub_known {prog : Program} {w : World} {A : Around} {E : Value → Shared → Prop} {s : Shared} {value slice : Expr} {h₀ : Heap} {L l : Addr} {xs : List Value} {n : Nat} {news : List (Addr × Obj)} {k : Int} {u : Tok} {v : Value} {Q : Value → Shared → Prop} (N : News h₀ L s.heap news) (hm : (l, listOf (List.toArray xs) n) ∈ news)
    (h0 : 0 ≤ k) (hz : xs.length ≤ 1000) (hx : xs[k.toNat]? = some v) (h : Q v s)
    (hs : subscripted slice false (.ref l) (.int k u) = operate [.ref l, .int k u] (getItem (.ref l) (.int k u)) := by with_unfolding_all rfl) :
    wpAny (model prog w) A (subscriptTail value slice (.ref l) (.int k u)) Q E s := by
  have hl : s.heap.IsList l (List.toArray xs) := ⟨_, (N _ hm).1, rfl, _, rfl⟩
  have hk : k.toNat < xs.length := (List.getElem?_eq_some_iff.mp hx).1
  exact tail_any hl.typeIs slot_list_getitem.lookup (wpAny_getItem_list hl h0 (by omega) (by simpa using hx) h) hs
theorem list_seq {prog : Program} {w : World} {A : Around} {E : Value → Shared → Prop} {s : Shared} {h₀ : Heap} {L r : Addr} {m : Str → Option Value} {gvs : List Value} {led news : List (Addr × Obj)} {Q : Value → Shared → Prop}
    (F : Fr h₀ L s.heap m) (N : News h₀ L s.heap news) (hq : SeqIn led (.ref r) gvs) (hs : ∀ p ∈ led, p ∈ news) (hz : gvs.length ≤ 100)
    (h : ∀ D c h', Fr h₀ L h' m → News h₀ L h' ((D, listOf (List.toArray gvs) c) :: news) → (∀ p ∈ news, p.1 < D) → Q (.ref D) { s with heap := h' }) : wpAny (model prog w) A (call (.type "list") [.ref r]) Q E s := by
  obtain ⟨r', e, hq⟩ := hq
  cases e
  rcases hq with hq | ⟨n, hq⟩
  · exact list_copyKT F N (N.isTup (hs _ hq)) h (by rw [sizeLine_eq]; simp; omega)
  · exact list_copyK F N ⟨_, (N _ (hs _ hq)).1, rfl, _, rfl⟩ h (by rw [sizeLine_eq]; simp; omega)
theorem lst_get {xs : List Value} {i : Nat} {v : Value} (h : xs[i]? = some v) : xs[(0 + (i : Int)).toNat]? = some v := by
  rw [Int.zero_add, Int.toNat_natCast]; exact h
end
local macro_rules | `(tactic| walk_at "call type:range") => `(tactic| (k_here; (with_reducible show wpAny _ _ (call _ [_]) _ _ _); (rename Fr _ _ _ _ => F9'); (rename News _ _ _ _ => N9'); (with_unfolding_all refine range1_rows F9' N9' ?_); (intro h' tk' t1' u1' v1' hr' F' N' st')))
local macro_rules | `(tactic| walk_at "subscriptTail") => `(tactic| (k_here; (with_reducible show wpAny _ _ (subscriptTail _ _ (Value.ref _) (Value.int _ _)) _ _ _); k_dflt (refine' sub_pick ?N ?m ?a ?b ?z ?_; (case N => k_asm); (case m => first | k_mem | ktn_no "m:mem"); (case a => omega); (case b => (simp only [List.length_cons, List.length_nil] at *; omega)); (case z => (simp only [List.length_cons, List.length_nil] at *; omega))); intro v' hv'))
local macro_rules | `(tactic| ktn_no "m:ln") => `(tactic| first | assumption | (simp only [List.length_append, List.length_cons, List.length_nil]; omega))
local macro_rules | `(tactic| ktn_no "m:own") => `(tactic| first | assumption | (refine own_cons (own_new (by with_reducible assumption) (by ktn_no "m:adr")) ?_; ktn_no "m:own") | (refine own_cons (own_new2 (by with_reducible assumption) (by with_reducible assumption) (by ktn_no "m:adr")) ?_; ktn_no "m:own") | (refine own_cons (own_off1 (by with_reducible assumption) (by ktn_no "m:adr")) ?_; ktn_no "m:own") | exact own_less (own_less (by with_reducible assumption)) | (refine own_wider ?_ ?_ <;> first | ktn_no "m:own" | k_all))
local macro_rules | `(tactic| walk_at "call type:tuple") => `(tactic| (k_here; (with_reducible show wpAny _ _ (call (Value.type _) [Value.ref _]) _ _ _); k_dflt (refine' tup_list ?F ?N ?M ?Z ?_; (case F => k_asm); (case N => k_asm); (case M => first | ktn_no "m:mm" | ktn_no "m:sb"); (case Z => assumption)); intro D' h' F' N' l1; (try k_lt l1); (try k_sweep)))
local macro_rules | `(tactic| walk_at "call builtin:len") => `(tactic| (k_here; (with_reducible show wpAny _ _ (call (Value.builtin "len") [Value.ref _]) _ _ _); k_dflt (refine' len_led ?N ?M ?K ?Z ?_; (case N => k_asm); (case M => first | ktn_no "m:mm" | ktn_no "m:sb"); (case K => first | with_reducible assumption | exact rfl); (case Z => first | assumption | omega)); intro t' tk'))
local macro_rules | `(tactic| walk_at "subscriptTail List cons Slice ref ref") => `(tactic| (k_here; (with_reducible show wpAny _ _ (subscriptTail _ (PySem.Expr.Slice _ _ none _) (Value.ref _) (Value.ref _)) _ _ _); k_dflt (refine' slice_any ?F ?N ?M ?p ?q ?z ?_; (case F => k_asm); (case N => k_asm); (case M => ktn_no "m:mm"); (case p => kmk_part); (case q => kmk_part); (case z => exact Nat.le_of_ble_eq_true rfl)); intro zs' D' h' hz' F' N' l1; (try k_lt l1); (try k_sweep)))
local macro_rules | `(tactic| walk_at "compareOp NotEq int int") => `(tactic| (k_here; with_reducible refine ne_int_same ?_))
local macro_rules | `(tactic| walk_at "subscriptTail") => `(tactic| (k_here; (with_reducible show wpAny _ _ (subscriptTail _ _ (Value.ref _) (Value.int (Nat.cast _) _)) _ _ _); k_dflt (refine' sub_known ?N ?M ?h0 ?hz ?hx ?_; (case N => k_asm); (case M => ktn_no "m:sb"); (case h0 => exact Int.natCast_nonneg _); (case hz => with_reducible assumption); (case hx => with_reducible assumption))))
local macro_rules | `(tactic| walk_at "call type:list") => `(tactic| (k_here; k_dflt ((with_reducible show wpAny _ _ (call (Value.type _) [Value.ref _]) _ _ _); refine' list_seq ?F ?N ?S ?V ?Z ?_; (case F => k_asm); (case N => k_asm); (case S => with_reducible assumption); (case V => ktn_no "m:sbt"); (case Z => with_reducible assumption)); intro D' c' h' F' N' l1; (try k_lt l1); (try k_sweep)))
theorem at_item {dp un : Nat} {gd : Option (List Code)} {cn : Str} {cs : Scope} {a : Addr} {ccd : Value} {cl : List (Str × Addr)} {outer : List Env} {A₀ : Around} {base h₀ : Heap} {L x : Addr} {m : Str → Option Value} {s : Shared} {Q E : Value → Shared → Prop} {V news : List (Addr × Obj)} {I : Spec0} {gvs : List Value}
    (hI : ItemIn w V x I gvs) (B : Below A₀ base outer h₀) (F : Fr h₀ L s.heap m) (N : News h₀ L s.heap news) (hV : ∀ p ∈ V, p ∈ news) (T : Top hd.view_39 (looseW hd.view_39 []) mean mg mb h₀)
    (h : ∀ t tk, Q (.int I.at' t) { s with toks := tk }) : (hd.heap_39 w.params).In h₀ → wpAny (model PySem.Challenge.rw_pq0458_01.row.prog w) (ktrTop dp un gd cn cs L a ccd cl outer) (getAttr (.ref x) (Str.ofString "at") true) Q E s := by
  k_fill
  intro X
  cases hI with
  | asg m1 m2 h1 h2 h3 =>
    have n1 := hV _ m1
    have n2 := hV _ m2
    walk1
    exact h _ _
  | gate m1 m2 k m3 m4 l1 l2 h1 h2 h3 =>
    have n1 := hV _ m1
    have n2 := hV _ m2
    walk1
    exact h _ _
  | udp m1 m2 m3 m4 m5 l h1 h2 =>
    have n1 := hV _ m1
    have n2 := hV _ m2
    walk1
    exact h _ _
section
open PySem.Spec PyProof.V PySem.Calls
theorem loop_rangeG {prog : Program} {w : World} {A : Around} {E : Value → Shared → Prop} {s : Shared} {env : Env} {h₀ : Heap} {x : Str} {body : List Stmt} {Q : Flow → Shared → Prop} {r : Addr} {a₀ b₀ : Int} {t₀ u₀ v₀ : Tok} {n : Nat}
    {m₀ : Str → Option Value} {cur news : List (Addr × Obj)} (ys : List Str) (J : Nat → List (Addr × Obj) → Prop)
    (hh : A.handled = none) (hr : IsRange s.heap r a₀ b₀ 1 t₀ u₀ v₀) (hsmall : Builtin.Range.small a₀ b₀ 1 = true) (hn : Builtin.Range.rangeSize a₀ b₀ 1 = (n : Int)) (F : Fr h₀ env.locals s.heap m₀) (N0 : News h₀ env.locals s.heap cur) (hs : ∀ p ∈ news, p ∈ cur) (hj : J 0 news)
    (turn : ∀ i t (u : Str → Option Value) (s9 : Shared) nx I io (P : (Str → Option Value) → List (Addr × Obj) → Prop) (Q9 : Flow → Shared → Prop) (E9 : Value → Shared → Prop), i < n → (∀ q ∈ nx, q.1 ≠ I) → J i nx → (∀ m nx', Keep x ys m₀ m → J (i + 1) nx' → P m nx') →
      Fr h₀ env.locals s9.heap (fun y => if y = x then some (.int (a₀ + (i : Int)) t) else if ys.contains y then u y else m₀ y) → News h₀ env.locals s9.heap ((I, io) :: nx) →
      wpAny (model prog w) A (execs body env) (LpPost h₀ env.locals P I io s9 Q9) E9 s9)
    (done : ∀ (u : Str → Option Value) nx h tk, J n nx → Fr h₀ env.locals h (fun y => if y = x then u y else if ys.contains y then u y else m₀ y) → News h₀ env.locals h nx → Q .next { s with heap := h, toks := tk }) :
    wpAny (model prog w) A (pyIter (.ref r)) (fun it s₂ => LoopAtV prog w A h₀ env x body Q E it s₂) E s :=
  loop_rangeS ys J hh hr hsmall hn F N0 hs hj (fun i t u nx h tk I io hi hoff hJ F₁ N₁ => turn i t u { s with heap := h, toks := tk } nx I io _ Q E hi hoff hJ (fun _ _ a b => ⟨a, b⟩) F₁ N₁) done
def LwL (ring due las lga lud C2 : Addr) (o2 : Obj) (vs ds a1 a2 a3 : List Value) (n kd k1 k2 k3 : Nat) (T : List (Addr × Obj)) : List (Addr × Obj) :=
  (ring, listOf (List.toArray vs) n) :: (due, listOf (List.toArray ds) kd) :: (las, listOf (List.toArray a1) k1) :: (lga, listOf (List.toArray a2) k2) :: (lud, listOf (List.toArray a3) k3) :: (C2, o2) :: T
def LwJ (w : World) (ring due las lga lud C2 : Addr) (B0 : List (Addr × Obj)) (es1 es2 es3 : List Ent) (nx : List (Addr × Obj)) : Prop :=
  ∃ vs n ds kd k1 k2 k3 o2 c2 T, nx = LwL ring due las lga lud C2 o2 vs ds (es1.map Ent.v) (es2.map Ent.v) (es3.map Ent.v) n kd k1 k2 k3 T ∧
    RingOk vs ∧ o2.data = Data.cell c2 ∧ OwnOff T [ring, due, las, lga, lud, C2] ∧ (∀ p ∈ B0, p ∈ T) ∧ EntsIn w T 0 es1 ∧ EntsIn w T 1 es2 ∧ EntsIn w T 2 es3 ∧ DuesIn w T ds (es1 ++ es2 ++ es3) ∧ (∀ e ∈ es1 ++ es2 ++ es3, e.I.Ok)
theorem lw0 {w : World} {ring due las lga lud C2 : Addr} {o2 : Obj} {vs : List Value} {n kd k1 k2 k3 : Nat} {c2 : Option Value} {B0 T : List (Addr × Obj)} (hr : RingOk vs) (hc : o2.data = Data.cell c2) (hO : OwnOff T [ring, due, las, lga, lud, C2]) (hB : ∀ p ∈ B0, p ∈ T) :
    LwJ w ring due las lga lud C2 B0 [] [] [] (LwL ring due las lga lud C2 o2 vs [] [] [] [] n kd k1 k2 k3 T) :=
  ⟨vs, n, [], kd, k1, k2, k3, o2, c2, T, rfl, hr, hc, hO, hB, (fun _ h => nomatch h), (fun _ h => nomatch h), (fun _ h => nomatch h), .nil, fun _ h => nomatch h⟩
theorem lw_ring {w : World} {ring due las lga lud C2 : Addr} {o2 : Obj} {es1 es2 es3 : List Ent} {B0 T : List (Addr × Obj)} {vs ds : List Value} {n kd k1 k2 k3 : Nat} {c2 : Option Value} (hr : RingOk vs) (hc : o2.data = Data.cell c2) (hO : OwnOff T [ring, due, las, lga, lud, C2]) (hB : ∀ p ∈ B0, p ∈ T)
    (hE1 : EntsIn w T 0 es1) (hE2 : EntsIn w T 1 es2) (hE3 : EntsIn w T 2 es3) (hD : DuesIn w T ds (es1 ++ es2 ++ es3)) (hOk : ∀ e ∈ es1 ++ es2 ++ es3, e.I.Ok) :
    LwJ w ring due las lga lud C2 B0 es1 es2 es3 (LwL ring due las lga lud C2 o2 vs ds (es1.map Ent.v) (es2.map Ent.v) (es3.map Ent.v) n kd k1 k2 k3 T) :=
  ⟨vs, n, ds, kd, k1, k2, k3, o2, c2, T, rfl, hr, hc, hO, hB, hE1, hE2, hE3, hD, hOk⟩
theorem ents_snoc {w : World} {T T' : List (Addr × Obj)} {k : Nat} {es : List Ent} {e : Ent} (hE : EntsIn w T k es) (hs : ∀ p ∈ T, p ∈ T') (hI : ItemIn w T' e.x e.I e.gvs) (hk : e.I.kind = k) : EntsIn w T' k (es ++ [e]) := fun f hf => by
  rcases List.mem_append.mp hf with h | h
  · exact ⟨(hE f h).1.mono hs, (hE f h).2⟩
  · rw [List.mem_singleton.mp h]; exact ⟨hI, hk⟩
theorem ok_snoc {es : List Ent} {e : Ent} (h : ∀ f ∈ es, f.I.Ok) (hk : e.I.Ok) : ∀ f ∈ es ++ [e], f.I.Ok := fun f hf => by
  rcases List.mem_append.mp hf with h1 | h1
  · exact h f h1
  · rw [List.mem_singleton.mp h1]; exact hk
theorem lw_step1 {w : World} {ring due las lga lud C2 x : Addr} {o2 : Obj} {es1 : List Ent} {e : Ent} {B0 T T' : List (Addr × Obj)} {vs ds : List Value} {v : Value} {n kd k1 k2 k3 : Nat} {c2 : Option Value}
    (hE1 : EntsIn w T 0 es1) (hD : DuesIn w T ds (es1 ++ [] ++ [])) (hOk : ∀ e ∈ es1 ++ [] ++ [], e.I.Ok) (hB : ∀ p ∈ B0, p ∈ T) (hs : ∀ p ∈ T, p ∈ T')
    (hr : RingOk vs) (hc : o2.data = Data.cell c2) (hO : OwnOff T' [ring, due, las, lga, lud, C2]) (hx : e.x = x) (hI : ItemIn w T' e.x e.I e.gvs) (hk : e.I.kind = 0) (hok : e.I.Ok) (hd : DueIn w T' v e) :
    ∃ es : List Ent, es.length = es1.length + 1 ∧ LwJ w ring due las lga lud C2 B0 es [] [] (LwL ring due las lga lud C2 o2 vs (ds ++ [v]) (es1.map Ent.v ++ [.ref x]) (List.map Ent.v []) (List.map Ent.v []) n kd k1 k2 k3 T') := by
  subst hx
  simp only [List.append_nil] at hD hOk
  refine ⟨es1 ++ [e], by simp, vs, n, ds ++ [v], kd, k1, k2, k3, o2, c2, T', by rw [List.map_append]; rfl, hr, hc, hO, (fun p hp => hs p (hB p hp)), ents_snoc hE1 hs hI hk, (fun _ h => nomatch h), (fun _ h => nomatch h), ?_, ?_⟩
  · simp only [List.append_nil]; exact .snoc (hD.mono hs) hd
  · simp only [List.append_nil]; exact ok_snoc hOk hok
theorem lw_step2 {w : World} {ring due las lga lud C2 x : Addr} {o2 : Obj} {es1 es2 : List Ent} {e : Ent} {B0 T T' : List (Addr × Obj)} {vs ds : List Value} {v : Value} {n kd k1 k2 k3 : Nat} {c2 : Option Value}
    (hE1 : EntsIn w T 0 es1) (hE2 : EntsIn w T 1 es2) (hD : DuesIn w T ds (es1 ++ es2 ++ [])) (hOk : ∀ e ∈ es1 ++ es2 ++ [], e.I.Ok) (hB : ∀ p ∈ B0, p ∈ T) (hs : ∀ p ∈ T, p ∈ T')
    (hr : RingOk vs) (hc : o2.data = Data.cell c2) (hO : OwnOff T' [ring, due, las, lga, lud, C2]) (hx : e.x = x) (hI : ItemIn w T' e.x e.I e.gvs) (hk : e.I.kind = 1) (hok : e.I.Ok) (hd : DueIn w T' v e) :
    ∃ es : List Ent, es.length = es2.length + 1 ∧ LwJ w ring due las lga lud C2 B0 es1 es [] (LwL ring due las lga lud C2 o2 vs (ds ++ [v]) (es1.map Ent.v) (es2.map Ent.v ++ [.ref x]) (List.map Ent.v []) n kd k1 k2 k3 T') := by
  subst hx
  simp only [List.append_nil] at hD hOk
  refine ⟨es2 ++ [e], by simp, vs, n, ds ++ [v], kd, k1, k2, k3, o2, c2, T', by rw [List.map_append]; rfl, hr, hc, hO, (fun p hp => hs p (hB p hp)), hE1.mono hs, ents_snoc hE2 hs hI hk, (fun _ h => nomatch h), ?_, ?_⟩
  · simp only [List.append_nil]; rw [← List.append_assoc]; exact .snoc (hD.mono hs) hd
  · simp only [List.append_nil]; rw [← List.append_assoc]; exact ok_snoc hOk hok
theorem lw_step3 {w : World} {ring due las lga lud C2 x : Addr} {o2 : Obj} {es1 es2 es3 : List Ent} {e : Ent} {B0 T T' : List (Addr × Obj)} {vs ds : List Value} {v : Value} {n kd k1 k2 k3 : Nat} {c2 : Option Value}
    (hE1 : EntsIn w T 0 es1) (hE2 : EntsIn w T 1 es2) (hE3 : EntsIn w T 2 es3) (hD : DuesIn w T ds (es1 ++ es2 ++ es3)) (hOk : ∀ e ∈ es1 ++ es2 ++ es3, e.I.Ok) (hB : ∀ p ∈ B0, p ∈ T) (hs : ∀ p ∈ T, p ∈ T')
    (hr : RingOk vs) (hc : o2.data = Data.cell c2) (hO : OwnOff T' [ring, due, las, lga, lud, C2]) (hx : e.x = x) (hI : ItemIn w T' e.x e.I e.gvs) (hk : e.I.kind = 2) (hok : e.I.Ok) (hd : DueIn w T' v e) :
    ∃ es : List Ent, es.length = es3.length + 1 ∧ LwJ w ring due las lga lud C2 B0 es1 es2 es (LwL ring due las lga lud C2 o2 vs (ds ++ [v]) (es1.map Ent.v) (es2.map Ent.v) (es3.map Ent.v ++ [.ref x]) n kd k1 k2 k3 T') := by
  subst hx
  refine ⟨es3 ++ [e], by simp, vs, n, ds ++ [v], kd, k1, k2, k3, o2, c2, T', by rw [List.map_append]; rfl, hr, hc, hO, (fun p hp => hs p (hB p hp)), hE1.mono hs, hE2.mono hs, ents_snoc hE3 hs hI hk, ?_, ?_⟩
  · rw [← List.append_assoc]; exact .snoc (hD.mono hs) hd
  · rw [← List.append_assoc]; exact ok_snoc hOk hok
theorem lw_end {h₀ : Heap} {L : Addr} {J : (Str → Option Value) → List (Addr × Obj) → Prop} {I : Addr} {io : Obj} {s₁ : Shared} {h' : Heap} {tk : Nat} {m' : Str → Option Value} {cur T' : List (Addr × Obj)}
    {ring due las lga lud C2 : Addr} {o2 : Obj} {vs ds a1 a2 a3 : List Value} {n kd k1 k2 k3 : Nat} (F : Fr h₀ L h' m') (N : News h₀ L h' cur)
    (hD : Dels [(I, io), (ring, listOf (List.toArray vs) n), (due, listOf (List.toArray ds) kd), (las, listOf (List.toArray a1) k1), (lga, listOf (List.toArray a2) k2), (lud, listOf (List.toArray a3) k3), (C2, o2)] cur T')
    (ho : ∀ q ∈ LwL ring due las lga lud C2 o2 vs ds a1 a2 a3 n kd k1 k2 k3 T', q.1 ≠ I) (hJ : J m' (LwL ring due las lga lud C2 o2 vs ds a1 a2 a3 n kd k1 k2 k3 T')) : LpEnd h₀ L J I io s₁ { s₁ with heap := h', toks := tk } :=
  LpEnd.intro F N (fun p hp => hD.mem.mpr (by
    rw [← List.mem_append]
    exact hp)) ho hJ
theorem st_join {M : Model} {A : Around} {e : Sem Value} {E : Value → Shared → Prop} {Q : Value → Shared → Prop} {h₀ : Heap} {L : Addr} {m : Str → Option Value} {s : Shared} {cur lits tail : List (Addr × Obj)} {adr : List Addr} (p : Int × Int) (F : Fr h₀ L s.heap m) (N : News h₀ L s.heap cur) (hP : Pre cur lits tail) (O : OwnOff tail adr) (hA : ∀ b ∈ adr, b ∈ cur.map (·.1))
    (h : wpAny M A e (StPost h₀ L m s cur tail p) E s)
    (k : ∀ v made h' tk, Fr h₀ L h' m → News h₀ L h' (lits ++ (made ++ tail)) → OwnOff (made ++ tail) adr → Fresh made cur → StIn (made ++ tail) v p → Q v { s with heap := h', toks := tk }) : wpAny M A e Q E s := by
  have e0 := hP.eq
  refine wpAny_mono h (fun v s' hq => ?_) fun _ _ x => x
  obtain ⟨h', tk, nw, rfl, F, N, hf, hs⟩ := hq
  refine k v nw h' tk F (fun p hp => N p ?_) ?_ hf hs
  · rw [e0]
    simp only [List.mem_append] at hp ⊢
    rcases hp with h | h | h <;> simp [h]
  · intro q hq b hb
    rcases List.mem_append.mp hq with h | h
    · obtain ⟨r, hr, rfl⟩ := List.mem_map.mp (hA b hb)
      exact Nat.ne_of_gt (hf q h r hr)
    · exact O q h b hb
theorem ctor_1 {made : List (Addr × Obj)} {a b : Addr × Obj} (h : made = [a, b]) : a ∈ made := h ▸ .head _
theorem ctor_2 {made : List (Addr × Obj)} {a b : Addr × Obj} (h : made = [a, b]) : b ∈ made := h ▸ .tail _ (.head _)
theorem ost_pick3 {v : Value} {n : Nat} {a b : Addr} {x y x' y' : Int} {t0 t1 t2 t3 : Tok} {led : List (Addr × Obj)} (h : [Value.none, .ref a, .ref b][n]? = some v) (m : (a, tupO [.int x t0, .int y t1]) ∈ led) (m' : (b, tupO [.int x' t2, .int y' t3]) ∈ led) : ∃ st, OStIn led v st := by
  rcases pick3 h with rfl | rfl | rfl
  · exact ⟨_, .none⟩
  · exact ⟨_, .some m⟩
  · exact ⟨_, .some m'⟩
theorem gate_pick {v : Value} {n : Nat} {t0 t1 t2 t3 : Tok} (h : [Value.str (Str.ofString "and") t0, .str (Str.ofString "pullup") t1, .str (Str.ofString "buf") t2, .str (Str.ofString "pulldown") t3][n]? = some v) : ∃ k t, v = .str (Str.ofString k) t ∧ k ∈ ["and", "pullup", "buf", "pulldown"] := by
  rcases pick4 h with rfl | rfl | rfl | rfl <;> exact ⟨_, _, rfl, by decide⟩
theorem own_ins2 {T : List (Addr × Obj)} {adr : List Addr} {a b : Addr} (h : OwnOff T (a :: adr)) (h2 : ∀ p ∈ T, p.1 ≠ b) : OwnOff T (a :: b :: adr) := fun p hp c hc => by
  rcases List.mem_cons.mp hc with rfl | hc
  · exact h p hp _ (.head _)
  · rcases List.mem_cons.mp hc with rfl | hc
    · exact h2 p hp
    · exact h p hp _ (.tail _ hc)
theorem own_nil {adr : List Addr} : OwnOff [] adr := fun _ h => nomatch h
theorem gls_snocT {T : List (Addr × Obj)} {vs : List Value} {Gs : List Gl} {v : Value} {G : Gl} (h : GlsIn T vs Gs) (hG : GlIn T v G) : GlsIn T (vs ++ [v]) (Gs ++ [G]) := h.append (.cons hG .nil)
theorem srcs_snocT {T : List (Addr × Obj)} {vs : List Value} {Ss : List Src} {v : Value} {S : Src} (h : SrcsIn T vs Ss) (hS : SrcIn T v S) : SrcsIn T (vs ++ [v]) (Ss ++ [S]) := h.append (.cons hS .nil)
theorem own_sub {T : List (Addr × Obj)} {adr adr' : List Addr} (h : OwnOff T adr) (hs : ∀ b ∈ adr', b ∈ adr) : OwnOff T adr' := fun p hp b hb => h p hp b (hs b hb)
theorem els_get {w : World} {V : List (Addr × Obj)} {els : List Value} {es : List Ent} {i : Nat} {e : Ent} (h : ElsIn w V els es) (he : es[i]? = some e) : ∃ el, els[i]? = some (.ref el) ∧ ElIn w V (.ref el) i e.x e.I := by
  have hi : i < els.length := by rw [h.length]; exact (List.getElem?_eq_some_iff.mp he).1
  have hv := List.getElem?_eq_getElem hi
  obtain ⟨e', he', hE⟩ := h.at hv
  rw [he] at he'
  cases he'
  generalize els[i] = v at hv hE
  have : ∃ el, v = .ref el := by cases hE; exact ⟨_, rfl⟩
  obtain ⟨el, rfl⟩ := this
  exact ⟨el, hv, hE⟩
theorem dues_get {w : World} {V : List (Addr × Obj)} {ds : List Value} {es : List Ent} {i : Nat} {e : Ent} (h : DuesIn w V ds es) (he : es[i]? = some e) : ∃ d, ds[i]? = some (.ref d) ∧ DueIn w V (.ref d) e := by
  have hi : i < ds.length := by rw [h.length]; exact (List.getElem?_eq_some_iff.mp he).1
  have hv := List.getElem?_eq_getElem hi
  have hE := h.at hv he
  generalize ds[i] = v at hv hE
  have : ∃ el, v = .ref el := by cases hE; exact ⟨_, rfl⟩
  obtain ⟨el, rfl⟩ := this
  exact ⟨el, hv, hE⟩
theorem item_len {w : World} {V : List (Addr × Obj)} {x : Addr} {I : Spec0} {gvs : List Value} (h : ItemIn w V x I gvs) : gvs.length ≤ 100 := by
  cases h with
  | asg => simp
  | gate m1 m2 k m3 m4 l1 l2 h1 h2 h3 => exact l1
  | udp => simp
theorem items_all {w : World} {V : List (Addr × Obj)} {es1 es2 es3 : List Ent} (h1 : EntsIn w V 0 es1) (h2 : EntsIn w V 1 es2) (h3 : EntsIn w V 2 es3) : ∀ e ∈ es1 ++ es2 ++ es3, ItemIn w V e.x e.I e.gvs := fun e he => by
  rcases List.mem_append.mp he with he | he
  · rcases List.mem_append.mp he with he | he
    · exact (h1 e he).1
    · exact (h2 e he).1
  · exact (h3 e he).1
noncomputable def kfil (ks : List Int) (n : Nat) : List Int := ((List.range n).map (fun i : Nat => (0 + (i : Int)))).filter (fun k => decide (k ∈ ks))
theorem kfil_in {ks : List Int} {ys : List Value} {i : Nat} {t : Tok} (h : IntsAre ys (kfil ks i)) (hk : (0 + (i : Int)) ∈ ks) : IntsAre (ys ++ [.int (0 + (i : Int)) t]) (kfil ks (i + 1)) := by
  have e : kfil ks (i + 1) = kfil ks i ++ [0 + (i : Int)] := by
    unfold kfil
    rw [List.range_succ, List.map_append, List.filter_append]
    simp [show (i : Int) ∈ ks by simpa using hk]
  rw [e]
  exact ints_push h _ _
theorem kfil_out {ks : List Int} {ys : List Value} {i : Nat} (h : IntsAre ys (kfil ks i)) (hk : ¬ (0 + (i : Int)) ∈ ks) : IntsAre ys (kfil ks (i + 1)) := by
  have e : kfil ks (i + 1) = kfil ks i := by
    unfold kfil
    rw [List.range_succ, List.map_append, List.filter_append]
    simp [show ¬ (i : Int) ∈ ks by simpa using hk]
  rw [e]
  exact h
theorem kfil_srt {ks K : List Int} (h : ∀ k, k ∈ ks ↔ k ∈ K) : kfil ks 6 = srt K := by
  rw [← srt_congr h]
  rfl
theorem own_last {T : List (Addr × Obj)} {ring due las lga lud C2 : Addr} {o0 o1 o2 o3 o4 : Obj} (h : OwnOff T [ring, due, las, lga, lud, C2]) (hA : Apart [ring, due, las, lga, lud, C2]) : OwnOff ((ring, o0) :: (due, o1) :: (las, o2) :: (lga, o3) :: (lud, o4) :: T) [C2] := by
  intro p hp b hb
  rw [List.mem_singleton.mp hb]
  have hm : ∀ c ∈ [ring, due, las, lga, lud], @Ne Nat c C2 := fun c hc => hA.ne (by
    simp only [List.mem_cons, List.not_mem_nil, or_false] at hc
    rcases hc with rfl | rfl | rfl | rfl | rfl
    · exact .here (.tail _ (.tail _ (.tail _ (.tail _ (.head _)))))
    · exact .tail (.here (.tail _ (.tail _ (.tail _ (.head _)))))
    · exact .tail (.tail (.here (.tail _ (.tail _ (.head _)))))
    · exact .tail (.tail (.tail (.here (.tail _ (.head _)))))
    · exact .tail (.tail (.tail (.tail (.here (.head _))))))
  simp only [List.mem_cons] at hp
  rcases hp with rfl | rfl | rfl | rfl | rfl | hp
  · exact hm _ (by simp)
  · exact hm _ (by simp)
  · exact hm _ (by simp)
  · exact hm _ (by simp)
  · exact hm _ (by simp)
  · exact h p hp _ (by simp)
theorem last_hide {w : World} {h₀ h' : Heap} {L C1 C2 mk due : Addr} {o1 o3 : Obj} {T2 made m50 : List (Addr × Obj)} {els ds : List Value} {n kd : Nat} {es1 es2 es3 : List Ent} (N : News h₀ L h' ((C2, o3) :: (made ++ T2))) (O : OwnOff (made ++ T2) [C2]) (e2 : made = (mk, listOf (List.toArray els) n) :: m50)
    (mC1 : (C1, o1) ∈ T2) (mdu : (due, listOf (List.toArray ds) kd) ∈ T2) (hEls : ElsIn w (m50 ++ T2) els (es1 ++ es2 ++ es3)) (hE1 : EntsIn w T2 0 es1) (hE2 : EntsIn w T2 1 es2) (hE3 : EntsIn w T2 2 es3) (hD : DuesIn w T2 ds (es1 ++ es2 ++ es3)) (hOk : ∀ e ∈ es1 ++ es2 ++ es3, e.I.Ok)
    (l1 : es1.length ≤ 4) (l2 : es2.length ≤ 4) (l3 : es3.length ≤ 4) :
    ∃ V es c, News h₀ L h' ((C2, o3) :: V) ∧ OwnOff V [C2] ∧ (C1, o1) ∈ V ∧ (mk, listOf (List.toArray els) n) ∈ V ∧ (due, listOf (List.toArray ds) kd) ∈ V ∧ ElsIn w V els es ∧ DuesIn w V ds es ∧ (∀ e ∈ es, ItemIn w V e.x e.I e.gvs) ∧ (∀ e ∈ es, e.I.Ok) ∧ es.length = c ∧ els.length = c ∧ ds.length = c ∧ c ≤ 12 ∧ c ≤ 1000 := by
  subst e2
  have hl : (es1 ++ es2 ++ es3).length ≤ 12 := by simp only [List.length_append]; omega
  exact ⟨_, es1 ++ es2 ++ es3, _, N, O, List.mem_append_right _ mC1, List.mem_append_left _ (.head _), List.mem_append_right _ mdu, hEls.mono (List.append_subset.mpr ⟨fun p hp => List.mem_append_left _ (.tail _ hp), fun p hp => List.mem_append_right _ hp⟩), hD.mono (fun p hp => List.mem_append_right _ hp), fun e he => (items_all hE1 hE2 hE3 e he).mono (fun p hp => List.mem_append_right _ hp), hOk, rfl, hEls.length, hD.length, hl, by omega⟩
theorem ne_int_same {prog : Program} {w : World} {A : Around} {E : Value → Shared → Prop} {s : Shared} {k : Int} {t u : Tok} {Q : Value → Shared → Prop} (h : Q (.bool false) s) : wpAny (model prog w) A (compareOp .NotEq (.int k t) (.int k u)) Q E s :=
  PyProof.Rows.ne_int (by rw [show (k != k) = false from by simp]; exact h)
theorem lst_getN {xs : List Value} {i : Nat} {v : Value} (h : xs[i]? = some v) : xs[((i : Nat) : Int).toNat]? = some v := by
  rw [Int.toNat_natCast]; exact h
theorem range_sizeN {n : Nat} : Builtin.Range.rangeSize 0 (n : Int) 1 = ((n : Nat) : Int) := by
  have := range_size (k := (n : Int)) (by omega)
  rwa [Int.toNat_natCast] at this
theorem ne_ints_led {prog : Program} {w : World} {A : Around} {E : Value → Shared → Prop} {s : Shared} {h₀ : Heap} {L a b : Addr} {news : List (Addr × Obj)} {xs ys : List Value} {ns ms : List Int} {n k : Nat} {Q : Value → Shared → Prop} (N : News h₀ L s.heap news)
    (ha : (a, listOf (List.toArray xs) n) ∈ news) (hb : (b, listOf (List.toArray ys) k) ∈ news) (hi : IntsAre xs ns) (hj : IntsAre ys ms) (he : ms = ns) (hu : A.units + 64 < cLine) (h : Q (.bool false) s) : wpAny (model prog w) A (compareOp .NotEq (.ref a) (.ref b)) Q E s := by
  subst he
  exact ne_ints_b false ⟨_, (N _ ha).1, rfl, _, rfl⟩ ⟨_, (N _ hb).1, rfl, _, rfl⟩ hi hj hu (by simp) h
def StatIn (led : List (Addr × Obj)) (sv : Value) (I : Spec0) : Prop := (sv = .none ∧ I.state = 3 ∧ I.inputs = []) ∨ ∃ s l n ivs t, sv = .ref s ∧ (s, tupO [.int I.state t, .ref l]) ∈ led ∧ (l, listOf (List.toArray ivs) n) ∈ led ∧ IntsAre ivs I.inputs
theorem StatIn.mono {led led' : List (Addr × Obj)} {sv : Value} {I : Spec0} (h : StatIn led sv I) (hs : ∀ p ∈ led, p ∈ led') : StatIn led' sv I := by
  rcases h with h | ⟨s, l, n, ivs, t, h1, h2, h3, h4⟩
  · exact .inl h
  · exact .inr ⟨s, l, n, ivs, t, h1, hs _ h2, hs _ h3, h4⟩
theorem StatIn.of {led : List (Addr × Obj)} {sv : Value} {I : Spec0} (h5 : I.kind ≠ 2 → sv = .none) (h6 : I.kind = 2 → ∃ s l n ivs t, sv = .ref s ∧ (s, tupO [.int I.init t, .ref l]) ∈ led ∧ (l, listOf (List.toArray ivs) n) ∈ led ∧ IntsAre ivs (List.replicate I.srcs.length 3)) : StatIn led sv I := by
  unfold StatIn Spec0.state Spec0.inputs
  by_cases hk : I.kind = 2
  · rw [if_pos hk, if_pos hk]; exact .inr (h6 hk)
  · rw [if_neg hk, if_neg hk]; exact .inl ⟨h5 hk, rfl, rfl⟩
theorem last_end {h₀ h' : Heap} {L I C2 : Addr} {J : (Str → Option Value) → List (Addr × Obj) → Prop} {io o2 : Obj} {s₁ : Shared} {tk : Nat} {m' : Str → Option Value} {cur T' : List (Addr × Obj)} (F : Fr h₀ L h' m') (N : News h₀ L h' cur)
    (hD : Dels [(I, io), (C2, o2)] cur T') (hO : OwnOff T' [I, C2]) (hA : Apart [I, C2]) (hJ : J m' ((C2, o2) :: T')) : LpEnd h₀ L J I io s₁ { s₁ with heap := h', toks := tk } :=
  LpEnd.intro F N (fun p hp => hD.mem.mpr (by
    rw [← List.mem_append]
    exact hp)) (fun q hq => by
      rcases List.mem_cons.mp hq with rfl | hq
      · exact Ne.symm (hA.ne (.here (.head _)))
      · exact hO q hq _ (.head _)) hJ
theorem law_post (ns : List Int) : (OpenRow.toRowW PySem.Challenge.rw_pq0458_01.row).claim.post [ofPy (PyData.list (ns.map PyData.int))] (WData.bool true) [ofPy (PyData.list (ns.map PyData.int))] = true := by
  exact postW_of (by wrow_shape) (by wtm_val) (by w_fin)
theorem key_call {w : World} {mean : ExcName → Option Value} {mg mb : Str → Option Value} {dp un : Nat} {gd : Option (List Code)} {cn : Str} {cs : Scope} {a : Addr} {ccd : Value} {cl : List (Str × Addr)} {outer : List Env} {A₀ : Around} {base h₀ : Heap} {L : Addr} {m : Str → Option Value} {s : Shared} {Q E : Value → Shared → Prop} {ring : Addr} {n : Nat} {cur c1 : List (Addr × Obj)} {most : Int} {t : Tok} {vs : List Value} (B : Below A₀ base outer h₀) (F : Fr h₀ L s.heap m) (X : (hd.heap_39 w.params).In h₀) (N : News h₀ L s.heap cur) (hD : Del (ring, listOf (List.toArray vs) n) cur c1) (hf : ∀ p ∈ c1, p.1 ≠ ring) (hm : 0 < most) (hr : RingOk vs) (hT : Top hd.view_39 (looseW hd.view_39 []) mean mg mb h₀) (hk : cs.kind = .function) (hd : dp + 1 < recursionLimit) (hu : un + 8 * 1 + 100 < cLine)
    (ret : ∀ k tt vs' n' h' tk', Fr h₀ L h' m → News h₀ L h' ((ring, listOf (List.toArray vs') n') :: c1) → 0 ≤ k → k < most → RingOk vs' → Q (.int k tt) { s with heap := h', toks := tk' }) : wpAny (model PySem.Challenge.rw_pq0458_01.row.prog w) (ktrTop dp un gd cn cs L a ccd cl outer) (call (.ref 266) [.ref ring, .int most t]) Q E s := by
  refine key_tell hf hm hr dp un gd cn cs a ccd cl outer A₀ base h₀ L m s Q E B F X (fun p hp => N p (hD.mem.mpr (List.mem_cons.mp hp))) hT hk hd hu ?_
  rintro v news' h' tk' F' N' ⟨k, t', vs', n', rfl, h2, h3, h4, rfl⟩
  exact ret k t' vs' n' h' tk' F' N' h2 h3 h4
theorem goal_call {w : World} {mean : ExcName → Option Value} {mg mb : Str → Option Value} {dp un : Nat} {gd : Option (List Code)} {cn : Str} {cs : Scope} {a : Addr} {ccd : Value} {cl : List (Str × Addr)} {outer : List Env} {A₀ : Around} {base h₀ : Heap} {L : Addr} {m : Str → Option Value} {s : Shared} {Q E : Value → Shared → Prop} {ring met : Addr} {n nm : Nat} {cur c1 lits tail : List (Addr × Obj)} {adr : List Addr} {vs ms : List Value} {ks : List Int} (B : Below A₀ base outer h₀) (F : Fr h₀ L s.heap m) (X : (hd.heap_39 w.params).In h₀) (N : News h₀ L s.heap cur) (hD : Dels [(ring, listOf (List.toArray vs) n), (met, listOf (List.toArray ms) nm)] cur c1) (hP : Pre c1 lits tail) (hO : OwnOff tail adr) (hA : ∀ b ∈ adr, b ∈ cur.map (·.1)) (g1 : @Ne Nat ring met) (g2 : ∀ p ∈ c1, p.1 ≠ ring) (g3 : ∀ p ∈ c1, p.1 ≠ met) (hr : RingOk vs) (hms : IntsAre ms ks) (hl : ks.length ≤ 900) (hT : Top hd.view_39 (looseW hd.view_39 []) mean mg mb h₀) (hk : cs.kind = .function) (hd : dp + 10 < recursionLimit) (hu : un + 8 * 10 + 100 < cLine)
    (ret : ∀ G ga vs' n' ms' nm' T' h' tk', Fr h₀ L h' m → News h₀ L h' ((ring, listOf (List.toArray vs') n') :: (met, listOf (List.toArray ms') nm') :: (lits ++ T')) → (∀ p ∈ tail, p ∈ T') → OwnOff T' adr → RingOk vs' → IntsAre ms' (ks ++ G.keys) → GlIn T' (.ref ga) G → G.keys.length ≤ 7 → BdK G.keys → Q (.ref ga) { s with heap := h', toks := tk' }) : wpAny (model PySem.Challenge.rw_pq0458_01.row.prog w) (ktrTop dp un gd cn cs L a ccd cl outer) (call (.ref 280) [.ref ring, .ref met]) Q E s := by
  have e0 := hP.eq
  subst e0
  refine Tell.useF (goal_tell g1 g2 g3 hr hms hl) B F X N hD hP hO hA hT hk hd hu ?_
  rintro v outs made h' tk' F' N' O' L' ⟨G, vs', n', ms', nm', h1, rfl, h2, h3, h4, h5⟩
  obtain ⟨ga, rfl⟩ := h3.ref
  exact ret G ga vs' n' ms' nm' (made ++ tail) h' tk' F' N' (fun p hp => List.mem_append_right _ hp) O' h1 h2 (h3.mono fun p hp => List.mem_append_left _ hp) h4 h5
theorem src_call {w : World} {mean : ExcName → Option Value} {mg mb : Str → Option Value} {dp un : Nat} {gd : Option (List Code)} {cn : Str} {cs : Scope} {a : Addr} {ccd : Value} {cl : List (Str × Addr)} {outer : List Env} {A₀ : Around} {base h₀ : Heap} {L : Addr} {m : Str → Option Value} {s : Shared} {Q E : Value → Shared → Prop} {ring met : Addr} {n nm : Nat} {cur c1 lits tail : List (Addr × Obj)} {adr : List Addr} {vs ms : List Value} {ks : List Int} (B : Below A₀ base outer h₀) (F : Fr h₀ L s.heap m) (X : (hd.heap_39 w.params).In h₀) (N : News h₀ L s.heap cur) (hD : Dels [(ring, listOf (List.toArray vs) n), (met, listOf (List.toArray ms) nm)] cur c1) (hP : Pre c1 lits tail) (hO : OwnOff tail adr) (hA : ∀ b ∈ adr, b ∈ cur.map (·.1)) (g1 : @Ne Nat ring met) (g2 : ∀ p ∈ c1, p.1 ≠ ring) (g3 : ∀ p ∈ c1, p.1 ≠ met) (hr : RingOk vs) (hms : IntsAre ms ks) (hl : ks.length + 6 ≤ 1000) (hT : Top hd.view_39 (looseW hd.view_39 []) mean mg mb h₀) (hk : cs.kind = .function) (hd : dp + (6 + 2) < recursionLimit) (hu : un + 8 * (6 + 2) + 100 < cLine)
    (ret : ∀ S sa vs' n' ms' nm' T' h' tk', Fr h₀ L h' m → News h₀ L h' ((ring, listOf (List.toArray vs') n') :: (met, listOf (List.toArray ms') nm') :: (lits ++ T')) → (∀ p ∈ tail, p ∈ T') → OwnOff T' adr → RingOk vs' → IntsAre ms' (ks ++ S.keys) → SrcIn T' (.ref sa) S → S.keys.length ≤ 7 → Bd S → Q (.ref sa) { s with heap := h', toks := tk' }) : wpAny (model PySem.Challenge.rw_pq0458_01.row.prog w) (ktrTop dp un gd cn cs L a ccd cl outer) (call (.ref 273) [.ref ring, .ref met]) Q E s := by
  have e0 := hP.eq
  subst e0
  refine Tell.useF (src_tell 6 g1 g2 g3 hr hms hl (by omega)) B F X N hD hP hO hA hT hk hd hu ?_
  rintro v outs made h' tk' F' N' O' L' ⟨S, vs', n', ms', nm', h1, rfl, h2, h3, h4, h5⟩
  obtain ⟨sa, rfl⟩ := h3.ref
  exact ret S sa vs' n' ms' nm' (made ++ tail) h' tk' F' N' (fun p hp => List.mem_append_right _ hp) O' h1 h2 (h3.mono fun p hp => List.mem_append_left _ hp) h4 h5
theorem asg_call {w : World} {mean : ExcName → Option Value} {mg mb : Str → Option Value} {dp un : Nat} {gd : Option (List Code)} {cn : Str} {cs : Scope} {a : Addr} {ccd : Value} {cl : List (Str × Addr)} {outer : List Env} {A₀ : Around} {base h₀ : Heap} {L : Addr} {m : Str → Option Value} {s : Shared} {Q E : Value → Shared → Prop} {cur lits tail : List (Addr × Obj)} {adr : List Addr} {a0 a1 a2 a3 a4 : Value} (B : Below A₀ base outer h₀) (F : Fr h₀ L s.heap m) (X : (hd.heap_39 w.params).In h₀) (N : News h₀ L s.heap cur) (hP : Pre cur lits tail) (hO : OwnOff tail adr) (hA : ∀ b ∈ adr, b ∈ cur.map (·.1)) (hT : Top hd.view_39 (looseW hd.view_39 []) mean mg mb h₀) (hk : cs.kind = .function) (hd : dp + 2 < recursionLimit) (hu : un + 8 * 2 + 100 < cLine)
    (ret : ∀ x d n t0 t1 t2 t3 t4 T' h' tk', Fr h₀ L h' m → News h₀ L h' (lits ++ T') → (∀ p ∈ tail, p ∈ T') → OwnOff T' adr → (x, instObj 122 d) ∈ T' → (d, dictOf [en w "target" t0 a0, en w "value" t1 a1, en w "strength" t2 a2, en w "delay" t3 a3, en w "at" t4 a4] n) ∈ T' → Q (.ref x) { s with heap := h', toks := tk' }) : wpAny (model PySem.Challenge.rw_pq0458_01.row.prog w) (ktrTop dp un gd cn cs L a ccd cl outer) (call (.ref 122) [a0, a1, a2, a3, a4]) Q E s := by
  refine Tell.useF asg_tell B F X N Dels.nil hP hO hA hT hk hd hu ?_
  rintro v outs made h' tk' F' N' O' L' ⟨x, d, n, t0, t1, t2, t3, t4, rfl, rfl, e2, hdx⟩
  exact ret x d n t0 t1 t2 t3 t4 (made ++ tail) h' tk' F' N' (fun p hp => List.mem_append_right _ hp) O' (List.mem_append_left _ (ctor_1 e2)) (List.mem_append_left _ (ctor_2 e2))
theorem gate_call {w : World} {mean : ExcName → Option Value} {mg mb : Str → Option Value} {dp un : Nat} {gd : Option (List Code)} {cn : Str} {cs : Scope} {a : Addr} {ccd : Value} {cl : List (Str × Addr)} {outer : List Env} {A₀ : Around} {base h₀ : Heap} {L : Addr} {m : Str → Option Value} {s : Shared} {Q E : Value → Shared → Prop} {cur lits tail : List (Addr × Obj)} {adr : List Addr} {a0 a1 a2 a3 a4 a5 : Value} (B : Below A₀ base outer h₀) (F : Fr h₀ L s.heap m) (X : (hd.heap_39 w.params).In h₀) (N : News h₀ L s.heap cur) (hP : Pre cur lits tail) (hO : OwnOff tail adr) (hA : ∀ b ∈ adr, b ∈ cur.map (·.1)) (hT : Top hd.view_39 (looseW hd.view_39 []) mean mg mb h₀) (hk : cs.kind = .function) (hd : dp + 2 < recursionLimit) (hu : un + 8 * 2 + 100 < cLine)
    (ret : ∀ x d n t0 t1 t2 t3 t4 t5 T' h' tk', Fr h₀ L h' m → News h₀ L h' (lits ++ T') → (∀ p ∈ tail, p ∈ T') → OwnOff T' adr → (x, instObj 143 d) ∈ T' → (d, dictOf [en w "kind" t0 a0, en w "strength" t1 a1, en w "delay" t2 a2, en w "outs" t3 a3, en w "ins" t4 a4, en w "at" t5 a5] n) ∈ T' → Q (.ref x) { s with heap := h', toks := tk' }) : wpAny (model PySem.Challenge.rw_pq0458_01.row.prog w) (ktrTop dp un gd cn cs L a ccd cl outer) (call (.ref 143) [a0, a1, a2, a3, a4, a5]) Q E s := by
  refine Tell.useF gate_tell B F X N Dels.nil hP hO hA hT hk hd hu ?_
  rintro v outs made h' tk' F' N' O' L' ⟨x, d, n, t0, t1, t2, t3, t4, t5, rfl, rfl, e2, hdx⟩
  exact ret x d n t0 t1 t2 t3 t4 t5 (made ++ tail) h' tk' F' N' (fun p hp => List.mem_append_right _ hp) O' (List.mem_append_left _ (ctor_1 e2)) (List.mem_append_left _ (ctor_2 e2))
theorem udp_call {w : World} {mean : ExcName → Option Value} {mg mb : Str → Option Value} {dp un : Nat} {gd : Option (List Code)} {cn : Str} {cs : Scope} {a : Addr} {ccd : Value} {cl : List (Str × Addr)} {outer : List Env} {A₀ : Around} {base h₀ : Heap} {L : Addr} {m : Str → Option Value} {s : Shared} {Q E : Value → Shared → Prop} {cur lits tail : List (Addr × Obj)} {adr : List Addr} {a0 a1 a2 a3 a4 : Value} (B : Below A₀ base outer h₀) (F : Fr h₀ L s.heap m) (X : (hd.heap_39 w.params).In h₀) (N : News h₀ L s.heap cur) (hP : Pre cur lits tail) (hO : OwnOff tail adr) (hA : ∀ b ∈ adr, b ∈ cur.map (·.1)) (hT : Top hd.view_39 (looseW hd.view_39 []) mean mg mb h₀) (hk : cs.kind = .function) (hd : dp + 2 < recursionLimit) (hu : un + 8 * 2 + 100 < cLine)
    (ret : ∀ x d n t0 t1 t2 t3 t4 T' h' tk', Fr h₀ L h' m → News h₀ L h' (lits ++ T') → (∀ p ∈ tail, p ∈ T') → OwnOff T' adr → (x, instObj 164 d) ∈ T' → (d, dictOf [en w "primitive" t0 a0, en w "delay" t1 a1, en w "out" t2 a2, en w "ins" t3 a3, en w "at" t4 a4] n) ∈ T' → Q (.ref x) { s with heap := h', toks := tk' }) : wpAny (model PySem.Challenge.rw_pq0458_01.row.prog w) (ktrTop dp un gd cn cs L a ccd cl outer) (call (.ref 164) [a0, a1, a2, a3, a4]) Q E s := by
  refine Tell.useF udp_tell B F X N Dels.nil hP hO hA hT hk hd hu ?_
  rintro v outs made h' tk' F' N' O' L' ⟨x, d, n, t0, t1, t2, t3, t4, rfl, rfl, e2, hdx⟩
  exact ret x d n t0 t1 t2 t3 t4 (made ++ tail) h' tk' F' N' (fun p hp => List.mem_append_right _ hp) O' (List.mem_append_left _ (ctor_1 e2)) (List.mem_append_left _ (ctor_2 e2))
theorem prim_call {w : World} {mean : ExcName → Option Value} {mg mb : Str → Option Value} {dp un : Nat} {gd : Option (List Code)} {cn : Str} {cs : Scope} {a : Addr} {ccd : Value} {cl : List (Str × Addr)} {outer : List Env} {A₀ : Around} {base h₀ : Heap} {L : Addr} {m : Str → Option Value} {s : Shared} {Q E : Value → Shared → Prop} {cur lits tail : List (Addr × Obj)} {adr : List Addr} {a0 a1 a2 a3 a4 a5 a6 : Value} (B : Below A₀ base outer h₀) (F : Fr h₀ L s.heap m) (X : (hd.heap_39 w.params).In h₀) (N : News h₀ L s.heap cur) (hP : Pre cur lits tail) (hO : OwnOff tail adr) (hA : ∀ b ∈ adr, b ∈ cur.map (·.1)) (hT : Top hd.view_39 (looseW hd.view_39 []) mean mg mb h₀) (hk : cs.kind = .function) (hd : dp + 2 < recursionLimit) (hu : un + 8 * 2 + 100 < cLine)
    (ret : ∀ x d n t0 t1 t2 t3 t4 t5 t6 T' h' tk', Fr h₀ L h' m → News h₀ L h' (lits ++ T') → (∀ p ∈ tail, p ∈ T') → OwnOff T' adr → (x, instObj 248 d) ∈ T' → (d, dictOf [en w "name" t0 a0, en w "at" t1 a1, en w "output" t2 a2, en w "inputs" t3 a3, en w "sequential" t4 a4, en w "init" t5 a5, en w "rows" t6 a6] n) ∈ T' → Q (.ref x) { s with heap := h', toks := tk' }) : wpAny (model PySem.Challenge.rw_pq0458_01.row.prog w) (ktrTop dp un gd cn cs L a ccd cl outer) (call (.ref 248) [a0, a1, a2, a3, a4, a5, a6]) Q E s := by
  refine Tell.useF prim_tell B F X N Dels.nil hP hO hA hT hk hd hu ?_
  rintro v outs made h' tk' F' N' O' L' ⟨x, d, n, t0, t1, t2, t3, t4, t5, t6, rfl, rfl, e2, hdx⟩
  exact ret x d n t0 t1 t2 t3 t4 t5 t6 (made ++ tail) h' tk' F' N' (fun p hp => List.mem_append_right _ hp) O' (List.mem_append_left _ (ctor_1 e2)) (List.mem_append_left _ (ctor_2 e2))
theorem hide_then {h₀ h' : Heap} {L : Addr} {cur ins T told : List (Addr × Obj)} {adr : List Addr} {C : Prop} (N : News h₀ L h' cur) (hD : Dels ins cur T) (hs : ∀ p ∈ told, p ∈ T) (hO : OwnOff T adr)
    (k : ∀ T', News h₀ L h' (ins ++ T') → (∀ p ∈ told, p ∈ T') → OwnOff T' adr → (∀ p ∈ T, p ∈ T') → C) : C := k T (dels_news N hD) hs hO fun p hp => hp
theorem st_join2 {M : Model} {A : Around} {e : Sem Value} {E : Value → Shared → Prop} {Q : Value → Shared → Prop} {h₀ : Heap} {L : Addr} {m : Str → Option Value} {s : Shared} {cur lits tail : List (Addr × Obj)} {adr : List Addr} (p : Int × Int) (F : Fr h₀ L s.heap m) (N : News h₀ L s.heap cur) (hP : Pre cur lits tail) (O : OwnOff tail adr) (hA : ∀ b ∈ adr, b ∈ cur.map (·.1))
    (h : wpAny M A e (StPost h₀ L m s cur tail p) E s)
    (k : ∀ v T' h' tk, Fr h₀ L h' m → News h₀ L h' (lits ++ T') → (∀ p ∈ tail, p ∈ T') → OwnOff T' adr → StIn T' v p → Q v { s with heap := h', toks := tk }) : wpAny M A e Q E s :=
  st_join p F N hP O hA h fun v made h' tk F N O _ hs => k v (made ++ tail) h' tk F N (fun p hp => List.mem_append_right _ hp) O hs
theorem loop_law1 {prog : Program} {w : World} {A : Around} {E : Value → Shared → Prop} {s : Shared} {env : Env} {h₀ : Heap} {x : Str} {body : List Stmt} {Q : Flow → Shared → Prop} {r : Addr} {k : Int} {t₀ u₀ v₀ : Tok} {m₀ : Str → Option Value} {cur news : List (Addr × Obj)} {ring due las lga lud C2 : Addr} {B0 : List (Addr × Obj)}  (ys : List Str) (K : Nat) 
    (hh : A.handled = none) (hr : IsRange s.heap r 0 k 1 t₀ u₀ v₀) (h0 : 0 ≤ k) (hk : k ≤ (K : Int)) (hK : K ≤ 4) (hA0 : Apart [ring, due, las, lga, lud, C2]) (F : Fr h₀ env.locals s.heap m₀) (N0 : News h₀ env.locals s.heap cur) (hs : ∀ p ∈ news, p ∈ cur) (hj : LwJ w ring due las lga lud C2 B0 [] [] [] news)
    (turn : ∀ t (u : Str → Option Value) (s9 : Shared) (es : List Ent) vs n ds kd k1 k2 k3 o2 c2 T I io (P : (Str → Option Value) → List (Addr × Obj) → Prop) (Q9 : Flow → Shared → Prop) (E9 : Value → Shared → Prop), es.length < K → RingOk vs → o2.data = Data.cell c2 → OwnOff T (I :: [ring, due, las, lga, lud, C2]) → (∀ p ∈ B0, p ∈ T) → EntsIn w T 0 es → DuesIn w T ds (es ++ [] ++ []) → (∀ e ∈ es ++ [] ++ [], e.I.Ok) → ds.length ≤ 100 → Apart (I :: [ring, due, las, lga, lud, C2]) →
      (∀ m nx', Keep x ys m₀ m → (∃ es' : List Ent, es'.length = es.length + 1 ∧ LwJ w ring due las lga lud C2 B0 es' [] [] nx') → P m nx') →
      Fr h₀ env.locals s9.heap (fun y => if y = x then some (.int (0 + (es.length : Int)) t) else if ys.contains y then u y else m₀ y) → News h₀ env.locals s9.heap ((I, io) :: (ring, listOf (List.toArray vs) n) :: (due, listOf (List.toArray ds) kd) :: (las, listOf (List.toArray (es.map Ent.v)) k1) :: (lga, listOf (List.toArray (List.map Ent.v [])) k2) :: (lud, listOf (List.toArray (List.map Ent.v [])) k3) :: (C2, o2) :: T) →
      wpAny (model prog w) A (execs body env) (LpPost h₀ env.locals P I io s9 Q9) E9 s9)
    (done : ∀ (u : Str → Option Value) (es : List Ent) vs n ds kd k1 k2 k3 o2 c2 T h tk, es.length ≤ K → RingOk vs → o2.data = Data.cell c2 → OwnOff T [ring, due, las, lga, lud, C2] → (∀ p ∈ B0, p ∈ T) → EntsIn w T 0 es → DuesIn w T ds (es ++ [] ++ []) → (∀ e ∈ es ++ [] ++ [], e.I.Ok) → 
      Fr h₀ env.locals h (fun y => if y = x then u y else if ys.contains y then u y else m₀ y) → News h₀ env.locals h ((ring, listOf (List.toArray vs) n) :: (due, listOf (List.toArray ds) kd) :: (las, listOf (List.toArray (es.map Ent.v)) k1) :: (lga, listOf (List.toArray (List.map Ent.v [])) k2) :: (lud, listOf (List.toArray (List.map Ent.v [])) k3) :: (C2, o2) :: T) → Q .next { s with heap := h, toks := tk }) :
    wpAny (model prog w) A (pyIter (.ref r)) (fun it s₂ => LoopAtV prog w A h₀ env x body Q E it s₂) E s := by
  refine loop_rangeG ys (n := k.toNat) (fun i nx => ∃ es : List Ent, es.length = i ∧ LwJ w ring due las lga lud C2 B0 es [] [] nx) hh hr (range_small h0 (by omega)) (range_size h0) F N0 hs ⟨[], rfl, hj⟩ ?_ ?_
  · rintro i t u s9 nx I io P Q9 E9 hi hoff ⟨es, hes, vs, n, ds, kd, k1, k2, k3, o2, c2, T, rfl, hro, hc, hO, hB, hE1, hE2, hE3, hD, hOk⟩ hP F1 N1
    subst hes
    have hl := hD.length
    simp only [List.append_nil, List.length_append] at hl
    exact turn t u s9 es vs n ds kd k1 k2 k3 o2 c2 T I io P Q9 E9 (by omega) hro hc (own_wider hO fun p hp => hoff p (by simp [LwL, hp])) hB hE1 hD hOk (by omega) (Apart.cons (apart_off hoff (by simp [LwL])) hA0) hP F1 N1
  · rintro u nx h tk ⟨es, hes, vs, n, ds, kd, k1, k2, k3, o2, c2, T, rfl, hro, hc, hO, hB, hE1, hE2, hE3, hD, hOk⟩ F1 N1
    exact done u es vs n ds kd k1 k2 k3 o2 c2 T h tk (by omega) hro hc hO hB hE1 hD hOk F1 N1
theorem loop_law2 {prog : Program} {w : World} {A : Around} {E : Value → Shared → Prop} {s : Shared} {env : Env} {h₀ : Heap} {x : Str} {body : List Stmt} {Q : Flow → Shared → Prop} {r : Addr} {k : Int} {t₀ u₀ v₀ : Tok} {m₀ : Str → Option Value} {cur news : List (Addr × Obj)} {ring due las lga lud C2 : Addr} {B0 : List (Addr × Obj)} {es1 : List Ent} (ys : List Str) (K : Nat) (hbes1 : es1.length ≤ 4)
    (hh : A.handled = none) (hr : IsRange s.heap r 0 k 1 t₀ u₀ v₀) (h0 : 0 ≤ k) (hk : k ≤ (K : Int)) (hK : K ≤ 4) (hA0 : Apart [ring, due, las, lga, lud, C2]) (F : Fr h₀ env.locals s.heap m₀) (N0 : News h₀ env.locals s.heap cur) (hs : ∀ p ∈ news, p ∈ cur) (hj : LwJ w ring due las lga lud C2 B0 es1 [] [] news)
    (turn : ∀ t (u : Str → Option Value) (s9 : Shared) (es : List Ent) vs n ds kd k1 k2 k3 o2 c2 T I io (P : (Str → Option Value) → List (Addr × Obj) → Prop) (Q9 : Flow → Shared → Prop) (E9 : Value → Shared → Prop), es.length < K → RingOk vs → o2.data = Data.cell c2 → OwnOff T (I :: [ring, due, las, lga, lud, C2]) → (∀ p ∈ B0, p ∈ T) → EntsIn w T 0 es1 → EntsIn w T 1 es → DuesIn w T ds (es1 ++ es ++ []) → (∀ e ∈ es1 ++ es ++ [], e.I.Ok) → ds.length ≤ 100 → Apart (I :: [ring, due, las, lga, lud, C2]) →
      (∀ m nx', Keep x ys m₀ m → (∃ es' : List Ent, es'.length = es.length + 1 ∧ LwJ w ring due las lga lud C2 B0 es1 es' [] nx') → P m nx') →
      Fr h₀ env.locals s9.heap (fun y => if y = x then some (.int (0 + (es.length : Int)) t) else if ys.contains y then u y else m₀ y) → News h₀ env.locals s9.heap ((I, io) :: (ring, listOf (List.toArray vs) n) :: (due, listOf (List.toArray ds) kd) :: (las, listOf (List.toArray (es1.map Ent.v)) k1) :: (lga, listOf (List.toArray (es.map Ent.v)) k2) :: (lud, listOf (List.toArray (List.map Ent.v [])) k3) :: (C2, o2) :: T) →
      wpAny (model prog w) A (execs body env) (LpPost h₀ env.locals P I io s9 Q9) E9 s9)
    (done : ∀ (u : Str → Option Value) (es : List Ent) vs n ds kd k1 k2 k3 o2 c2 T h tk, es.length ≤ K → RingOk vs → o2.data = Data.cell c2 → OwnOff T [ring, due, las, lga, lud, C2] → (∀ p ∈ B0, p ∈ T) → EntsIn w T 0 es1 → EntsIn w T 1 es → DuesIn w T ds (es1 ++ es ++ []) → (∀ e ∈ es1 ++ es ++ [], e.I.Ok) → 
      Fr h₀ env.locals h (fun y => if y = x then u y else if ys.contains y then u y else m₀ y) → News h₀ env.locals h ((ring, listOf (List.toArray vs) n) :: (due, listOf (List.toArray ds) kd) :: (las, listOf (List.toArray (es1.map Ent.v)) k1) :: (lga, listOf (List.toArray (es.map Ent.v)) k2) :: (lud, listOf (List.toArray (List.map Ent.v [])) k3) :: (C2, o2) :: T) → Q .next { s with heap := h, toks := tk }) :
    wpAny (model prog w) A (pyIter (.ref r)) (fun it s₂ => LoopAtV prog w A h₀ env x body Q E it s₂) E s := by
  refine loop_rangeG ys (n := k.toNat) (fun i nx => ∃ es : List Ent, es.length = i ∧ LwJ w ring due las lga lud C2 B0 es1 es [] nx) hh hr (range_small h0 (by omega)) (range_size h0) F N0 hs ⟨[], rfl, hj⟩ ?_ ?_
  · rintro i t u s9 nx I io P Q9 E9 hi hoff ⟨es, hes, vs, n, ds, kd, k1, k2, k3, o2, c2, T, rfl, hro, hc, hO, hB, hE1, hE2, hE3, hD, hOk⟩ hP F1 N1
    subst hes
    have hl := hD.length
    simp only [List.append_nil, List.length_append] at hl
    exact turn t u s9 es vs n ds kd k1 k2 k3 o2 c2 T I io P Q9 E9 (by omega) hro hc (own_wider hO fun p hp => hoff p (by simp [LwL, hp])) hB hE1 hE2 hD hOk (by omega) (Apart.cons (apart_off hoff (by simp [LwL])) hA0) hP F1 N1
  · rintro u nx h tk ⟨es, hes, vs, n, ds, kd, k1, k2, k3, o2, c2, T, rfl, hro, hc, hO, hB, hE1, hE2, hE3, hD, hOk⟩ F1 N1
    exact done u es vs n ds kd k1 k2 k3 o2 c2 T h tk (by omega) hro hc hO hB hE1 hE2 hD hOk F1 N1
theorem loop_law3 {prog : Program} {w : World} {A : Around} {E : Value → Shared → Prop} {s : Shared} {env : Env} {h₀ : Heap} {x : Str} {body : List Stmt} {Q : Flow → Shared → Prop} {r : Addr} {k : Int} {t₀ u₀ v₀ : Tok} {m₀ : Str → Option Value} {cur news : List (Addr × Obj)} {ring due las lga lud C2 : Addr} {B0 : List (Addr × Obj)} {es1 : List Ent} {es2 : List Ent} (ys : List Str) (K : Nat) (hbes1 : es1.length ≤ 4) (hbes2 : es2.length ≤ 4)
    (hh : A.handled = none) (hr : IsRange s.heap r 0 k 1 t₀ u₀ v₀) (h0 : 0 ≤ k) (hk : k ≤ (K : Int)) (hK : K ≤ 4) (hA0 : Apart [ring, due, las, lga, lud, C2]) (F : Fr h₀ env.locals s.heap m₀) (N0 : News h₀ env.locals s.heap cur) (hs : ∀ p ∈ news, p ∈ cur) (hj : LwJ w ring due las lga lud C2 B0 es1 es2 [] news)
    (turn : ∀ t (u : Str → Option Value) (s9 : Shared) (es : List Ent) vs n ds kd k1 k2 k3 o2 c2 T I io (P : (Str → Option Value) → List (Addr × Obj) → Prop) (Q9 : Flow → Shared → Prop) (E9 : Value → Shared → Prop), es.length < K → RingOk vs → o2.data = Data.cell c2 → OwnOff T (I :: [ring, due, las, lga, lud, C2]) → (∀ p ∈ B0, p ∈ T) → EntsIn w T 0 es1 → EntsIn w T 1 es2 → EntsIn w T 2 es → DuesIn w T ds (es1 ++ es2 ++ es) → (∀ e ∈ es1 ++ es2 ++ es, e.I.Ok) → ds.length ≤ 100 → Apart (I :: [ring, due, las, lga, lud, C2]) →
      (∀ m nx', Keep x ys m₀ m → (∃ es' : List Ent, es'.length = es.length + 1 ∧ LwJ w ring due las lga lud C2 B0 es1 es2 es' nx') → P m nx') →
      Fr h₀ env.locals s9.heap (fun y => if y = x then some (.int (0 + (es.length : Int)) t) else if ys.contains y then u y else m₀ y) → News h₀ env.locals s9.heap ((I, io) :: (ring, listOf (List.toArray vs) n) :: (due, listOf (List.toArray ds) kd) :: (las, listOf (List.toArray (es1.map Ent.v)) k1) :: (lga, listOf (List.toArray (es2.map Ent.v)) k2) :: (lud, listOf (List.toArray (es.map Ent.v)) k3) :: (C2, o2) :: T) →
      wpAny (model prog w) A (execs body env) (LpPost h₀ env.locals P I io s9 Q9) E9 s9)
    (done : ∀ (u : Str → Option Value) (es : List Ent) vs n ds kd k1 k2 k3 o2 c2 T h tk, es.length ≤ K → RingOk vs → o2.data = Data.cell c2 → OwnOff T [ring, due, las, lga, lud, C2] → (∀ p ∈ B0, p ∈ T) → EntsIn w T 0 es1 → EntsIn w T 1 es2 → EntsIn w T 2 es → DuesIn w T ds (es1 ++ es2 ++ es) → (∀ e ∈ es1 ++ es2 ++ es, e.I.Ok) → 
      Fr h₀ env.locals h (fun y => if y = x then u y else if ys.contains y then u y else m₀ y) → News h₀ env.locals h ((ring, listOf (List.toArray vs) n) :: (due, listOf (List.toArray ds) kd) :: (las, listOf (List.toArray (es1.map Ent.v)) k1) :: (lga, listOf (List.toArray (es2.map Ent.v)) k2) :: (lud, listOf (List.toArray (es.map Ent.v)) k3) :: (C2, o2) :: T) → Q .next { s with heap := h, toks := tk }) :
    wpAny (model prog w) A (pyIter (.ref r)) (fun it s₂ => LoopAtV prog w A h₀ env x body Q E it s₂) E s := by
  refine loop_rangeG ys (n := k.toNat) (fun i nx => ∃ es : List Ent, es.length = i ∧ LwJ w ring due las lga lud C2 B0 es1 es2 es nx) hh hr (range_small h0 (by omega)) (range_size h0) F N0 hs ⟨[], rfl, hj⟩ ?_ ?_
  · rintro i t u s9 nx I io P Q9 E9 hi hoff ⟨es, hes, vs, n, ds, kd, k1, k2, k3, o2, c2, T, rfl, hro, hc, hO, hB, hE1, hE2, hE3, hD, hOk⟩ hP F1 N1
    subst hes
    have hl := hD.length
    simp only [List.append_nil, List.length_append] at hl
    exact turn t u s9 es vs n ds kd k1 k2 k3 o2 c2 T I io P Q9 E9 (by omega) hro hc (own_wider hO fun p hp => hoff p (by simp [LwL, hp])) hB hE1 hE2 hE3 hD hOk (by omega) (Apart.cons (apart_off hoff (by simp [LwL])) hA0) hP F1 N1
  · rintro u nx h tk ⟨es, hes, vs, n, ds, kd, k1, k2, k3, o2, c2, T, rfl, hro, hc, hO, hB, hE1, hE2, hE3, hD, hOk⟩ F1 N1
    exact done u es vs n ds kd k1 k2 k3 o2 c2 T h tk (by omega) hro hc hO hB hE1 hE2 hE3 hD hOk F1 N1
theorem own_off3 {T : List (Addr × Obj)} {adr : List Addr} {I C D : Addr} (h : OwnOff T adr) (hoff : ∀ p ∈ T, p.1 ≠ I ∧ p.1 ≠ C ∧ p.1 ≠ D) : OwnOff T (I :: C :: D :: adr) := fun p hp b hb => by
  obtain ⟨h1, h2, h3⟩ := hoff p hp
  simp only [List.mem_cons] at hb
  rcases hb with rfl | rfl | rfl | hb
  · exact h1
  · exact h2
  · exact h3
  · exact h p hp b hb
theorem comp_fin {h₀ h' : Heap} {L I C D ring met : Addr} {m : Str → Option Value} {s₁ : Shared} {oI oC oD : Obj} {rest : Value → List (Addr × Obj) → Prop} {y : Value} {tk n n' nm nm' : Nat} {vs vs' ms ms' : List Value} {mid T T' : List (Addr × Obj)} {adr : List Addr}
    (F : Fr h₀ L h' m) (N : News h₀ L h' ((ring, listOf (List.toArray vs') n') :: (met, listOf (List.toArray ms') nm') :: (I, oI) :: (C, oC) :: (D, oD) :: (mid ++ T'))) (hoff : LCg.Off3 I C D ((ring, listOf (List.toArray vs) n) :: (met, listOf (List.toArray ms) nm) :: (mid ++ T))) (hO : OwnOff T' (I :: C :: D :: adr))
    (hr : rest y ((ring, listOf (List.toArray vs') n') :: (met, listOf (List.toArray ms') nm') :: (mid ++ T'))) : LCg.CompEnd h₀ L m s₁ I oI C oC D oD (fun _ => True) rest y { s₁ with heap := h', toks := tk } := by
  refine ⟨h', tk, (ring, listOf (List.toArray vs') n') :: (met, listOf (List.toArray ms') nm') :: (mid ++ T'), rfl, F, ?_, ?_, trivial, hr⟩
  · intro p hp
    refine N p ?_
    simp only [List.mem_cons] at hp ⊢
    rcases hp with h | h | h | h | h | h <;> simp [h]
  have key : ∀ l : List (Addr × Obj), (∀ p ∈ l, p.1 ≠ I ∧ p.1 ≠ C ∧ p.1 ≠ D) → LCg.Off3 I C D l := by
    intro l hl
    induction l with
    | nil => trivial
    | cons p r ih => exact ⟨hl p (.head _), ih fun q hq => hl q (.tail _ hq)⟩
  refine key _ fun p hp => ?_
  have h1 := hoff.mem
  rcases List.mem_cons.mp hp with rfl | hp
  · exact h1 (ring, listOf (List.toArray vs) n) (.head _)
  rcases List.mem_cons.mp hp with rfl | hp
  · exact h1 (met, listOf (List.toArray ms) nm) (.tail _ (.head _))
  rcases List.mem_append.mp hp with hp | hp
  · exact h1 _ (.tail _ (.tail _ (List.mem_append_left _ hp)))
  · exact ⟨hO p hp _ (.head _), hO p hp _ (.tail _ (.head _)), hO p hp _ (.tail _ (.tail _ (.head _)))⟩
theorem comp_gls {prog : Program} {w : World} {A : Around} {h₀ : Heap} {L : Addr} {m : Str → Option Value} {env : Env} {elt : Expr} {x : Str} {scope : Scope} {cl : List (Str × Addr)} {Fin : Shared → List Value → List (Addr × Obj) → Prop} {r : Addr} {b : Int} {t u v : Tok} {s₁ : Shared} {ring met : Addr} {n0 nm0 : Nat} {vs0 ms0 : List Value} {ks0 : List Int} {T0 : List (Addr × Obj)} {adr : List Addr} (mid : List (Addr × Obj))
    (hh : A.handled = none) (F : Fr h₀ L s₁.heap m) (N : News h₀ L s₁.heap ((ring, listOf (List.toArray vs0) n0) :: (met, listOf (List.toArray ms0) nm0) :: (mid ++ T0))) (hr : IsRange s₁.heap r 0 b 1 t u v) (h0 : 0 ≤ b) (h5 : b ≤ 6) (hro : RingOk vs0) (hms : IntsAre ms0 ks0) (hk0 : ks0.length ≤ 500) (hO : OwnOff T0 adr)
    (turn : ∀ ys vs n ms nm (Gs : List Gl) T I oI C oC D m₂ h tk (E' : Value → Shared → Prop) (P : Value → List (Addr × Obj) → Prop), RingOk vs → IntsAre ms (ks0 ++ Gs.flatMap Gl.keys) → (ks0 ++ Gs.flatMap Gl.keys).length ≤ 900 → (∀ p ∈ T0, p ∈ T) → OwnOff T (I :: C :: D :: adr) → LCg.NsObj oC m₂ → Fr h₀ L h m →
      News h₀ L h ((I, oI) :: (C, oC) :: (D, LCg.lst ys) :: (ring, listOf (List.toArray vs) n) :: (met, listOf (List.toArray ms) nm) :: (mid ++ T)) → LCg.Off3 I C D ((ring, listOf (List.toArray vs) n) :: (met, listOf (List.toArray ms) nm) :: (mid ++ T)) → ((@Ne Nat I C) ∧ (@Ne Nat I D) ∧ (@Ne Nat C D)) →
      (∀ y vs' n' ms' nm' G T', RingOk vs' → IntsAre ms' ((ks0 ++ Gs.flatMap Gl.keys) ++ G.keys) → (∀ p ∈ T, p ∈ T') → OwnOff T' (I :: C :: D :: adr) → GlIn T' y G → G.keys.length ≤ 7 → BdK G.keys → P y ((ring, listOf (List.toArray vs') n') :: (met, listOf (List.toArray ms') nm') :: (mid ++ T'))) →
      wpAny (model prog w) A (eval elt (compEnvC scope cl C env)) (LCg.CompEnd h₀ L m { s₁ with heap := h, toks := tk } I oI C oC D (LCg.lst ys) (fun _ => True) P) E' { s₁ with heap := h, toks := tk })
    (done : ∀ ys vs n ms nm (Gs : List Gl) T g, (Gs.length : Int) = b → RingOk vs → IntsAre ms (ks0 ++ Gs.flatMap Gl.keys) → GlsIn T ys Gs → GlsOk Gs → (∀ p ∈ T0, p ∈ T) → OwnOff T adr → Fin { s₁ with heap := g } ys ((ring, listOf (List.toArray vs) n) :: (met, listOf (List.toArray ms) nm) :: (mid ++ T))) :
    LCg.CompSrc prog w A h₀ L m env elt x scope cl Fin (.ref r) s₁ := by
  refine comp_range (n := b.toNat) (fun i ys nx => ∃ vs n ms nm Gs T, nx = ((ring, listOf (List.toArray vs) n) :: (met, listOf (List.toArray ms) nm) :: (mid ++ T)) ∧ RingOk vs ∧ IntsAre ms (ks0 ++ Gs.flatMap Gl.keys) ∧ GlsIn T ys Gs ∧ Gs.length = i ∧ GlsOk Gs ∧ (∀ p ∈ T0, p ∈ T) ∧ OwnOff T adr) hh F N hr (range_small h0 (by omega)) (range_size h0) (by rw [sizeLine_eq]; omega) (fun p hp => hp)
    ⟨vs0, n0, ms0, nm0, [], T0, rfl, hro, by rw [List.flatMap_nil, List.append_nil]; exact hms, .nil, rfl, (fun _ h => nomatch h), (fun p hp => hp), hO⟩ ?_ ?_
  · rintro i ys nx I oI C oC D m₂ h tk E' kx tx hi ⟨vs, n, ms, nm, Gs, T, rfl, hro1, hms1, hX, hXl, hXok, hs, hO1⟩ hC hx F1 N1 hoff3 hne
    have hl := gls_len hXok
    refine turn ys vs n ms nm Gs T I oI C oC D m₂ h tk E' _ hro1 hms1 (by rw [List.length_append]; omega) hs (own_off3 hO1 fun p hp => hoff3.mem p (List.mem_cons_of_mem _ (List.mem_cons_of_mem _ (List.mem_append_right _ hp)))) hC F1 N1 hoff3 hne ?_
    intro y vs' n' ms' nm' G T' hro2 hms2 hsT hO2 hX2 hl2 hb2
    exact ⟨vs', n', ms', nm', Gs ++ [G], T', rfl, hro2, by rw [flat_snoc, ← List.append_assoc]; exact hms2, gls_snocT (hX.mono hsT) hX2, by simp [hXl], gls_ok hXok hl2 hb2, fun p hp => hsT p (hs p hp), fun p hp b hb => hO2 p hp b (.tail _ (.tail _ (.tail _ hb)))⟩
  · rintro ys nx g ⟨vs, n, ms, nm, Gs, T, rfl, hro1, hms1, hX, hXl, hXok, hs, hO1⟩
    exact done ys vs n ms nm Gs T g (by omega) hro1 hms1 hX hXok hs hO1
theorem comp_srcs {prog : Program} {w : World} {A : Around} {h₀ : Heap} {L : Addr} {m : Str → Option Value} {env : Env} {elt : Expr} {x : Str} {scope : Scope} {cl : List (Str × Addr)} {Fin : Shared → List Value → List (Addr × Obj) → Prop} {r : Addr} {b : Int} {t u v : Tok} {s₁ : Shared} {ring met : Addr} {n0 nm0 : Nat} {vs0 ms0 : List Value} {ks0 : List Int} {T0 : List (Addr × Obj)} {adr : List Addr} (mid : List (Addr × Obj))
    (hh : A.handled = none) (F : Fr h₀ L s₁.heap m) (N : News h₀ L s₁.heap ((ring, listOf (List.toArray vs0) n0) :: (met, listOf (List.toArray ms0) nm0) :: (mid ++ T0))) (hr : IsRange s₁.heap r 0 b 1 t u v) (h0 : 0 ≤ b) (h5 : b ≤ 6) (hro : RingOk vs0) (hms : IntsAre ms0 ks0) (hk0 : ks0.length ≤ 500) (hO : OwnOff T0 adr)
    (turn : ∀ ys vs n ms nm (Ss : List Src) T I oI C oC D m₂ h tk (E' : Value → Shared → Prop) (P : Value → List (Addr × Obj) → Prop), RingOk vs → IntsAre ms (ks0 ++ Ss.flatMap Src.keys) → (ks0 ++ Ss.flatMap Src.keys).length ≤ 900 → (∀ p ∈ T0, p ∈ T) → OwnOff T (I :: C :: D :: adr) → LCg.NsObj oC m₂ → Fr h₀ L h m →
      News h₀ L h ((I, oI) :: (C, oC) :: (D, LCg.lst ys) :: (ring, listOf (List.toArray vs) n) :: (met, listOf (List.toArray ms) nm) :: (mid ++ T)) → LCg.Off3 I C D ((ring, listOf (List.toArray vs) n) :: (met, listOf (List.toArray ms) nm) :: (mid ++ T)) → ((@Ne Nat I C) ∧ (@Ne Nat I D) ∧ (@Ne Nat C D)) →
      (∀ y vs' n' ms' nm' S T', RingOk vs' → IntsAre ms' ((ks0 ++ Ss.flatMap Src.keys) ++ S.keys) → (∀ p ∈ T, p ∈ T') → OwnOff T' (I :: C :: D :: adr) → SrcIn T' y S → S.keys.length ≤ 7 → Bd S → P y ((ring, listOf (List.toArray vs') n') :: (met, listOf (List.toArray ms') nm') :: (mid ++ T'))) →
      wpAny (model prog w) A (eval elt (compEnvC scope cl C env)) (LCg.CompEnd h₀ L m { s₁ with heap := h, toks := tk } I oI C oC D (LCg.lst ys) (fun _ => True) P) E' { s₁ with heap := h, toks := tk })
    (done : ∀ ys vs n ms nm (Ss : List Src) T g, (Ss.length : Int) = b → RingOk vs → IntsAre ms (ks0 ++ Ss.flatMap Src.keys) → SrcsIn T ys Ss → SrcsOk Ss → (∀ p ∈ T0, p ∈ T) → OwnOff T adr → Fin { s₁ with heap := g } ys ((ring, listOf (List.toArray vs) n) :: (met, listOf (List.toArray ms) nm) :: (mid ++ T))) :
    LCg.CompSrc prog w A h₀ L m env elt x scope cl Fin (.ref r) s₁ := by
  refine comp_range (n := b.toNat) (fun i ys nx => ∃ vs n ms nm Ss T, nx = ((ring, listOf (List.toArray vs) n) :: (met, listOf (List.toArray ms) nm) :: (mid ++ T)) ∧ RingOk vs ∧ IntsAre ms (ks0 ++ Ss.flatMap Src.keys) ∧ SrcsIn T ys Ss ∧ Ss.length = i ∧ SrcsOk Ss ∧ (∀ p ∈ T0, p ∈ T) ∧ OwnOff T adr) hh F N hr (range_small h0 (by omega)) (range_size h0) (by rw [sizeLine_eq]; omega) (fun p hp => hp)
    ⟨vs0, n0, ms0, nm0, [], T0, rfl, hro, by rw [List.flatMap_nil, List.append_nil]; exact hms, .nil, rfl, (fun _ h => nomatch h), (fun p hp => hp), hO⟩ ?_ ?_
  · rintro i ys nx I oI C oC D m₂ h tk E' kx tx hi ⟨vs, n, ms, nm, Ss, T, rfl, hro1, hms1, hX, hXl, hXok, hs, hO1⟩ hC hx F1 N1 hoff3 hne
    have hl := srcs_len hXok
    refine turn ys vs n ms nm Ss T I oI C oC D m₂ h tk E' _ hro1 hms1 (by rw [List.length_append]; omega) hs (own_off3 hO1 fun p hp => hoff3.mem p (List.mem_cons_of_mem _ (List.mem_cons_of_mem _ (List.mem_append_right _ hp)))) hC F1 N1 hoff3 hne ?_
    intro y vs' n' ms' nm' S T' hro2 hms2 hsT hO2 hX2 hl2 hb2
    exact ⟨vs', n', ms', nm', Ss ++ [S], T', rfl, hro2, by rw [flat_snoc, ← List.append_assoc]; exact hms2, srcs_snocT (hX.mono hsT) hX2, by simp [hXl], srcs_ok hXok hl2 hb2, fun p hp => hsT p (hs p hp), fun p hp b hb => hO2 p hp b (.tail _ (.tail _ (.tail _ hb)))⟩
  · rintro ys nx g ⟨vs, n, ms, nm, Ss, T, rfl, hro1, hms1, hX, hXl, hXok, hs, hO1⟩
    exact done ys vs n ms nm Ss T g (by omega) hro1 hms1 hX hXok hs hO1
theorem ap_ins2 {a b : Addr} {l : List Addr} (h : Apart (a :: l)) (hb : ∀ c ∈ a :: l, @Ne Nat b c) : Apart (a :: b :: l) :=
  .cons (fun c hc => (List.mem_cons.mp hc).elim (fun e => e ▸ Ne.symm (hb a (.head _))) fun hc => (List.pairwise_cons.mp h).1 c hc) (.cons (fun c hc => hb c (.tail _ hc)) (List.pairwise_cons.mp h).2)
theorem des_call {w : World} {mean : ExcName → Option Value} {mg mb : Str → Option Value} {dp un : Nat} {gd : Option (List Code)} {cn : Str} {cs : Scope} {a : Addr} {ccd : Value} {cl : List (Str × Addr)} {outer : List Env} {A₀ : Around} {base h₀ : Heap} {L : Addr} {m : Str → Option Value} {s : Shared} {Q E : Value → Shared → Prop} {ring C1 C2 : Addr} {R o1 o1' o2 : Obj} (B : Below A₀ base outer h₀) (F : Fr h₀ L s.heap m) (X : (hd.heap_39 w.params).In h₀) (N : News h₀ L s.heap [(ring, R), (C2, o2), (C1, o1)]) (lr : AllLt ring [(C2, o2), (C1, o1')]) (c12 : @LT.lt Nat _ C1 C2) (hT : Top hd.view_39 (looseW hd.view_39 []) mean mg mb h₀) (hk : cs.kind = .function) (hd : dp + 2 < recursionLimit) (hu : un + 8 * 2 + 100 < cLine)
    (ret : ∀ X Dd las lga lud (n : Nat) t0 t1 t2 t3 t4 t5 t6 t7 t8 t9 t10 t11 v0 v4 v5 v6 v7 v8 v9 v10 v11 B0 h' tk', Fr h₀ L h' m → News h₀ L h' ((ring, R) :: (las, listOf (List.toArray []) 0) :: (lga, listOf (List.toArray []) 0) :: (lud, listOf (List.toArray []) 0) :: (C2, o2) :: B0) → (C1, o1) ∈ B0 → (X, instObj 227 Dd) ∈ B0 → (Dd, dictOf [en w "signals" t0 v0, en w "assigns" t1 (.ref las), en w "gates" t2 (.ref lga), en w "udps" t3 (.ref lud), en w "processes" t4 v4, en w "routines" t5 v5, en w "scopes" t6 v6, en w "tops" t7 v7, en w "ports" t8 v8, en w "maker" t9 v9, en w "nesting" t10 v10, en w "by_path" t11 v11] n) ∈ B0 → OwnOff B0 [ring, las, lga, lud, C2] → Apart [ring, las, lga, lud, C2] → Q (.ref X) { s with heap := h', toks := tk' }) : wpAny (model PySem.Challenge.rw_pq0458_01.row.prog w) (ktrTop dp un gd cn cs L a ccd cl outer) (call (.ref 227) []) Q E s := by
  refine Tell.useF (lits := [(ring, R), (C2, o2), (C1, o1)]) (tail := []) (adr := []) design_tell B F X N Dels.nil (.cons (.cons (.cons .nil))) (fun _ h => nomatch h) (fun _ h => nomatch h) hT hk hd hu ?_
  rintro v outs made h' tk' F' N' O' L' ⟨bp, lpo, lto, lsc, lro, lpr, lud, lga, las, lsig, X, Dd, obp, n, t0, t1, t2, t3, t4, t5, t6, t7, t8, t9, t10, t11, qD, rfl, rfl, rfl, q1, q2, q3, q4, q5, q6, q7, q8, q9, q10, q11⟩
  have z1 : @LT.lt Nat _ ring Dd := L' (Dd, _) (.tail _ (.tail _ (.tail _ (.tail _ (.tail _ (.tail _ (.tail _ (.tail _ (.tail _ (.tail _ (.tail _ (.head _)))))))))))) (ring, R) (.head _)
  have c2r : @LT.lt Nat _ C2 ring := tb_ltOf lr (C2, o2) (.head _)
  have l_C1_ring : @LT.lt Nat _ C1 ring := Nat.lt_trans c12 c2r
  have l_C1_Dd : @LT.lt Nat _ C1 Dd := Nat.lt_trans l_C1_ring z1
  have l_C1_X : @LT.lt Nat _ C1 X := Nat.lt_trans l_C1_Dd q1
  have l_C1_lsig : @LT.lt Nat _ C1 lsig := Nat.lt_trans l_C1_X q2
  have l_C1_las : @LT.lt Nat _ C1 las := Nat.lt_trans l_C1_lsig q3
  have l_C1_lga : @LT.lt Nat _ C1 lga := Nat.lt_trans l_C1_las q4
  have l_C1_lud : @LT.lt Nat _ C1 lud := Nat.lt_trans l_C1_lga q5
  have l_C2_Dd : @LT.lt Nat _ C2 Dd := Nat.lt_trans c2r z1
  have l_Dd_lsig : @LT.lt Nat _ Dd lsig := Nat.lt_trans q1 q2
  have l_Dd_las : @LT.lt Nat _ Dd las := Nat.lt_trans l_Dd_lsig q3
  have l_Dd_lga : @LT.lt Nat _ Dd lga := Nat.lt_trans l_Dd_las q4
  have l_Dd_lud : @LT.lt Nat _ Dd lud := Nat.lt_trans l_Dd_lga q5
  have l_C2_X : @LT.lt Nat _ C2 X := Nat.lt_trans l_C2_Dd q1
  have l_X_las : @LT.lt Nat _ X las := Nat.lt_trans q2 q3
  have l_X_lga : @LT.lt Nat _ X lga := Nat.lt_trans l_X_las q4
  have l_X_lud : @LT.lt Nat _ X lud := Nat.lt_trans l_X_lga q5
  have l_ring_X : @LT.lt Nat _ ring X := Nat.lt_trans z1 q1
  have l_C2_lsig : @LT.lt Nat _ C2 lsig := Nat.lt_trans l_C2_X q2
  have l_lsig_lga : @LT.lt Nat _ lsig lga := Nat.lt_trans q3 q4
  have l_lsig_lud : @LT.lt Nat _ lsig lud := Nat.lt_trans l_lsig_lga q5
  have l_ring_lsig : @LT.lt Nat _ ring lsig := Nat.lt_trans l_ring_X q2
  have l_C2_las : @LT.lt Nat _ C2 las := Nat.lt_trans l_C2_lsig q3
  have l_C2_lga : @LT.lt Nat _ C2 lga := Nat.lt_trans l_C2_las q4
  have l_C2_lud : @LT.lt Nat _ C2 lud := Nat.lt_trans l_C2_lga q5
  have l_C2_lpr : @LT.lt Nat _ C2 lpr := Nat.lt_trans l_C2_lud q6
  have l_lga_lpr : @LT.lt Nat _ lga lpr := Nat.lt_trans q5 q6
  have l_las_lud : @LT.lt Nat _ las lud := Nat.lt_trans q4 q5
  have l_las_lpr : @LT.lt Nat _ las lpr := Nat.lt_trans l_las_lud q6
  have l_ring_las : @LT.lt Nat _ ring las := Nat.lt_trans l_ring_lsig q3
  have l_ring_lga : @LT.lt Nat _ ring lga := Nat.lt_trans l_ring_las q4
  have l_ring_lud : @LT.lt Nat _ ring lud := Nat.lt_trans l_ring_lga q5
  have l_ring_lpr : @LT.lt Nat _ ring lpr := Nat.lt_trans l_ring_lud q6
  have l_C2_lro : @LT.lt Nat _ C2 lro := Nat.lt_trans l_C2_lpr q7
  have l_lud_lro : @LT.lt Nat _ lud lro := Nat.lt_trans q6 q7
  have l_lga_lro : @LT.lt Nat _ lga lro := Nat.lt_trans l_lga_lpr q7
  have l_las_lro : @LT.lt Nat _ las lro := Nat.lt_trans l_las_lpr q7
  have l_ring_lro : @LT.lt Nat _ ring lro := Nat.lt_trans l_ring_lpr q7
  have l_C2_lsc : @LT.lt Nat _ C2 lsc := Nat.lt_trans l_C2_lro q8
  have l_lud_lsc : @LT.lt Nat _ lud lsc := Nat.lt_trans l_lud_lro q8
  have l_lga_lsc : @LT.lt Nat _ lga lsc := Nat.lt_trans l_lga_lro q8
  have l_las_lsc : @LT.lt Nat _ las lsc := Nat.lt_trans l_las_lro q8
  have l_ring_lsc : @LT.lt Nat _ ring lsc := Nat.lt_trans l_ring_lro q8
  have l_C2_lto : @LT.lt Nat _ C2 lto := Nat.lt_trans l_C2_lsc q9
  have l_lud_lto : @LT.lt Nat _ lud lto := Nat.lt_trans l_lud_lsc q9
  have l_lga_lto : @LT.lt Nat _ lga lto := Nat.lt_trans l_lga_lsc q9
  have l_las_lto : @LT.lt Nat _ las lto := Nat.lt_trans l_las_lsc q9
  have l_ring_lto : @LT.lt Nat _ ring lto := Nat.lt_trans l_ring_lsc q9
  have l_C2_lpo : @LT.lt Nat _ C2 lpo := Nat.lt_trans l_C2_lto q10
  have l_lud_lpo : @LT.lt Nat _ lud lpo := Nat.lt_trans l_lud_lto q10
  have l_lga_lpo : @LT.lt Nat _ lga lpo := Nat.lt_trans l_lga_lto q10
  have l_las_lpo : @LT.lt Nat _ las lpo := Nat.lt_trans l_las_lto q10
  have l_ring_lpo : @LT.lt Nat _ ring lpo := Nat.lt_trans l_ring_lto q10
  have l_C2_bp : @LT.lt Nat _ C2 bp := Nat.lt_trans l_C2_lpo q11
  have l_lud_bp : @LT.lt Nat _ lud bp := Nat.lt_trans l_lud_lpo q11
  have l_lga_bp : @LT.lt Nat _ lga bp := Nat.lt_trans l_lga_lpo q11
  have l_las_bp : @LT.lt Nat _ las bp := Nat.lt_trans l_las_lpo q11
  have l_ring_bp : @LT.lt Nat _ ring bp := Nat.lt_trans l_ring_lpo q11
  exact ret X Dd las lga lud n t0 t1 t2 t3 t4 t5 t6 t7 t8 t9 t10 t11 _ _ _ _ _ _ _ _ _ [(C1, o1), (bp, obp), (lpo, listOf (List.toArray []) 0), (lto, listOf (List.toArray []) 0), (lsc, listOf (List.toArray []) 0), (lro, listOf (List.toArray []) 0), (lpr, listOf (List.toArray []) 0), (lsig, listOf (List.toArray []) 0), (X, instObj 227 Dd), (Dd, _)] h' tk' F' (dels_news (ins := [(ring, R), (las, listOf (List.toArray []) 0), (lga, listOf (List.toArray []) 0), (lud, listOf (List.toArray []) 0), (C2, o2)]) N' (.cons .head (.cons (.tail (.tail (.tail (.tail (.tail (.tail (.tail (.tail (.tail (.tail .head)))))))))) (.cons (.tail (.tail (.tail (.tail (.tail (.tail (.tail (.tail (.tail .head))))))))) (.cons (.tail (.tail (.tail (.tail (.tail (.tail (.tail (.tail .head)))))))) (.cons .head .nil)))))) (.head _) (.tail _ (.tail _ (.tail _ (.tail _ (.tail _ (.tail _ (.tail _ (.tail _ (.head _))))))))) (.tail _ (.tail _ (.tail _ (.tail _ (.tail _ (.tail _ (.tail _ (.tail _ (.tail _ (.head _)))))))))) (own_cons (ap_cons (Nat.ne_of_lt l_C1_ring) (ap_cons (Nat.ne_of_lt l_C1_las) (ap_cons (Nat.ne_of_lt l_C1_lga) (ap_cons (Nat.ne_of_lt l_C1_lud) (ap_cons (Nat.ne_of_lt c12) (fun _ h => nomatch h)))))) (own_cons (ap_cons (Nat.ne_of_gt l_ring_bp) (ap_cons (Nat.ne_of_gt l_las_bp) (ap_cons (Nat.ne_of_gt l_lga_bp) (ap_cons (Nat.ne_of_gt l_lud_bp) (ap_cons (Nat.ne_of_gt l_C2_bp) (fun _ h => nomatch h)))))) (own_cons (ap_cons (Nat.ne_of_gt l_ring_lpo) (ap_cons (Nat.ne_of_gt l_las_lpo) (ap_cons (Nat.ne_of_gt l_lga_lpo) (ap_cons (Nat.ne_of_gt l_lud_lpo) (ap_cons (Nat.ne_of_gt l_C2_lpo) (fun _ h => nomatch h)))))) (own_cons (ap_cons (Nat.ne_of_gt l_ring_lto) (ap_cons (Nat.ne_of_gt l_las_lto) (ap_cons (Nat.ne_of_gt l_lga_lto) (ap_cons (Nat.ne_of_gt l_lud_lto) (ap_cons (Nat.ne_of_gt l_C2_lto) (fun _ h => nomatch h)))))) (own_cons (ap_cons (Nat.ne_of_gt l_ring_lsc) (ap_cons (Nat.ne_of_gt l_las_lsc) (ap_cons (Nat.ne_of_gt l_lga_lsc) (ap_cons (Nat.ne_of_gt l_lud_lsc) (ap_cons (Nat.ne_of_gt l_C2_lsc) (fun _ h => nomatch h)))))) (own_cons (ap_cons (Nat.ne_of_gt l_ring_lro) (ap_cons (Nat.ne_of_gt l_las_lro) (ap_cons (Nat.ne_of_gt l_lga_lro) (ap_cons (Nat.ne_of_gt l_lud_lro) (ap_cons (Nat.ne_of_gt l_C2_lro) (fun _ h => nomatch h)))))) (own_cons (ap_cons (Nat.ne_of_gt l_ring_lpr) (ap_cons (Nat.ne_of_gt l_las_lpr) (ap_cons (Nat.ne_of_gt l_lga_lpr) (ap_cons (Nat.ne_of_gt q6) (ap_cons (Nat.ne_of_gt l_C2_lpr) (fun _ h => nomatch h)))))) (own_cons (ap_cons (Nat.ne_of_gt l_ring_lsig) (ap_cons (Nat.ne_of_lt q3) (ap_cons (Nat.ne_of_lt l_lsig_lga) (ap_cons (Nat.ne_of_lt l_lsig_lud) (ap_cons (Nat.ne_of_gt l_C2_lsig) (fun _ h => nomatch h)))))) (own_cons (ap_cons (Nat.ne_of_gt l_ring_X) (ap_cons (Nat.ne_of_lt l_X_las) (ap_cons (Nat.ne_of_lt l_X_lga) (ap_cons (Nat.ne_of_lt l_X_lud) (ap_cons (Nat.ne_of_gt l_C2_X) (fun _ h => nomatch h)))))) (own_cons (ap_cons (Nat.ne_of_gt z1) (ap_cons (Nat.ne_of_lt l_Dd_las) (ap_cons (Nat.ne_of_lt l_Dd_lga) (ap_cons (Nat.ne_of_lt l_Dd_lud) (ap_cons (Nat.ne_of_gt l_C2_Dd) (fun _ h => nomatch h)))))) own_nil)))))))))) (Apart.cons (ap_cons (Nat.ne_of_lt l_ring_las) (ap_cons (Nat.ne_of_lt l_ring_lga) (ap_cons (Nat.ne_of_lt l_ring_lud) (ap_cons (Nat.ne_of_gt c2r) (fun _ h => nomatch h))))) (Apart.cons (ap_cons (Nat.ne_of_lt q4) (ap_cons (Nat.ne_of_lt l_las_lud) (ap_cons (Nat.ne_of_gt l_C2_las) (fun _ h => nomatch h)))) (Apart.cons (ap_cons (Nat.ne_of_lt q5) (ap_cons (Nat.ne_of_gt l_C2_lga) (fun _ h => nomatch h))) (Apart.cons (ap_cons (Nat.ne_of_gt l_C2_lud) (fun _ h => nomatch h)) (Apart.cons (fun _ h => nomatch h) Apart.nil)))))
theorem law_close1 {w : World} {h₀ h' : Heap} {L I ring due las lga lud C2 x : Addr} {io o2 : Obj} {s₁ : Shared} {tk n kd k1 k2 k3 : Nat} {m₀ m' : Str → Option Value} {z : Str} {ys : List Str} {cur B0 T T' : List (Addr × Obj)} {es : List Ent} {vs ds : List Value} {v : Value} {c2 : Option Value} {P : (Str → Option Value) → List (Addr × Obj) → Prop} (e : Ent)
    (F : Fr h₀ L h' m') (N : News h₀ L h' cur) (hD : Dels [(I, io), (ring, listOf (List.toArray vs) n), (due, listOf (List.toArray (ds ++ [v])) kd), (las, listOf (List.toArray (es.map Ent.v ++ [.ref x])) k1), (lga, listOf (List.toArray (List.map Ent.v [])) k2), (lud, listOf (List.toArray (List.map Ent.v [])) k3), (C2, o2)] cur T')
    (hO : OwnOff T' (I :: [ring, due, las, lga, lud, C2])) (hA : Apart (I :: [ring, due, las, lga, lud, C2])) (hP : ∀ m nx', Keep z ys m₀ m → (∃ es' : List Ent, es'.length = es.length + 1 ∧ LwJ w ring due las lga lud C2 B0 es' [] [] nx') → P m nx') (hk : Keep z ys m₀ m')
    (hE1 : EntsIn w T 0 es) (hD1 : DuesIn w T ds (es ++ [] ++ [])) (hOk : ∀ e ∈ es ++ [] ++ [], e.I.Ok) (hB : ∀ p ∈ B0, p ∈ T) (hs : ∀ p ∈ T, p ∈ T') (hr : RingOk vs) (hc : o2.data = Data.cell c2) (hI : ItemIn w T' x e.I e.gvs) (hkd : e.I.kind = 0) (hok : e.I.Ok) (hd : DueIn w T' v e) (hx : e.x = x) :
    LpEnd h₀ L P I io s₁ { s₁ with heap := h', toks := tk } := by
  subst hx
  refine lw_end F N hD ?_ (hP _ _ hk (lw_step1 (e := e) hE1 hD1 hOk hB hs hr hc (own_less hO) rfl hI hkd hok hd))
  have hI : ∀ b ∈ [ring, due, las, lga, lud, C2], @Ne Nat b I := fun b hb => Ne.symm ((List.pairwise_cons.mp hA).1 b hb)
  unfold LwL
  exact all_cons (hI _ (by simp)) (all_cons (hI _ (by simp)) (all_cons (hI _ (by simp)) (all_cons (hI _ (by simp)) (all_cons (hI _ (by simp)) (all_cons (hI _ (by simp)) fun p hp => hO p hp _ (.head _))))))
theorem law_close2 {w : World} {h₀ h' : Heap} {L I ring due las lga lud C2 x : Addr} {io o2 : Obj} {s₁ : Shared} {tk n kd k1 k2 k3 : Nat} {m₀ m' : Str → Option Value} {z : Str} {ys : List Str} {cur B0 T T' : List (Addr × Obj)} {es1 es : List Ent} {vs ds : List Value} {v : Value} {c2 : Option Value} {P : (Str → Option Value) → List (Addr × Obj) → Prop} (e : Ent)
    (F : Fr h₀ L h' m') (N : News h₀ L h' cur) (hD : Dels [(I, io), (ring, listOf (List.toArray vs) n), (due, listOf (List.toArray (ds ++ [v])) kd), (las, listOf (List.toArray (es1.map Ent.v)) k1), (lga, listOf (List.toArray (es.map Ent.v ++ [.ref x])) k2), (lud, listOf (List.toArray (List.map Ent.v [])) k3), (C2, o2)] cur T')
    (hO : OwnOff T' (I :: [ring, due, las, lga, lud, C2])) (hA : Apart (I :: [ring, due, las, lga, lud, C2])) (hP : ∀ m nx', Keep z ys m₀ m → (∃ es' : List Ent, es'.length = es.length + 1 ∧ LwJ w ring due las lga lud C2 B0 es1 es' [] nx') → P m nx') (hk : Keep z ys m₀ m')
    (hE1 : EntsIn w T 0 es1) (hE2 : EntsIn w T 1 es) (hD1 : DuesIn w T ds (es1 ++ es ++ [])) (hOk : ∀ e ∈ es1 ++ es ++ [], e.I.Ok) (hB : ∀ p ∈ B0, p ∈ T) (hs : ∀ p ∈ T, p ∈ T') (hr : RingOk vs) (hc : o2.data = Data.cell c2) (hI : ItemIn w T' x e.I e.gvs) (hkd : e.I.kind = 1) (hok : e.I.Ok) (hd : DueIn w T' v e) (hx : e.x = x) :
    LpEnd h₀ L P I io s₁ { s₁ with heap := h', toks := tk } := by
  subst hx
  refine lw_end F N hD ?_ (hP _ _ hk (lw_step2 (e := e) hE1 hE2 hD1 hOk hB hs hr hc (own_less hO) rfl hI hkd hok hd))
  have hI : ∀ b ∈ [ring, due, las, lga, lud, C2], @Ne Nat b I := fun b hb => Ne.symm ((List.pairwise_cons.mp hA).1 b hb)
  unfold LwL
  exact all_cons (hI _ (by simp)) (all_cons (hI _ (by simp)) (all_cons (hI _ (by simp)) (all_cons (hI _ (by simp)) (all_cons (hI _ (by simp)) (all_cons (hI _ (by simp)) fun p hp => hO p hp _ (.head _))))))
theorem law_close3 {w : World} {h₀ h' : Heap} {L I ring due las lga lud C2 x : Addr} {io o2 : Obj} {s₁ : Shared} {tk n kd k1 k2 k3 : Nat} {m₀ m' : Str → Option Value} {z : Str} {ys : List Str} {cur B0 T T' : List (Addr × Obj)} {es1 es2 es : List Ent} {vs ds : List Value} {v : Value} {c2 : Option Value} {P : (Str → Option Value) → List (Addr × Obj) → Prop} (e : Ent)
    (F : Fr h₀ L h' m') (N : News h₀ L h' cur) (hD : Dels [(I, io), (ring, listOf (List.toArray vs) n), (due, listOf (List.toArray (ds ++ [v])) kd), (las, listOf (List.toArray (es1.map Ent.v)) k1), (lga, listOf (List.toArray (es2.map Ent.v)) k2), (lud, listOf (List.toArray (es.map Ent.v ++ [.ref x])) k3), (C2, o2)] cur T')
    (hO : OwnOff T' (I :: [ring, due, las, lga, lud, C2])) (hA : Apart (I :: [ring, due, las, lga, lud, C2])) (hP : ∀ m nx', Keep z ys m₀ m → (∃ es' : List Ent, es'.length = es.length + 1 ∧ LwJ w ring due las lga lud C2 B0 es1 es2 es' nx') → P m nx') (hk : Keep z ys m₀ m')
    (hE1 : EntsIn w T 0 es1) (hE2 : EntsIn w T 1 es2) (hE3 : EntsIn w T 2 es) (hD1 : DuesIn w T ds (es1 ++ es2 ++ es)) (hOk : ∀ e ∈ es1 ++ es2 ++ es, e.I.Ok) (hB : ∀ p ∈ B0, p ∈ T) (hs : ∀ p ∈ T, p ∈ T') (hr : RingOk vs) (hc : o2.data = Data.cell c2) (hI : ItemIn w T' x e.I e.gvs) (hkd : e.I.kind = 2) (hok : e.I.Ok) (hd : DueIn w T' v e) (hx : e.x = x) :
    LpEnd h₀ L P I io s₁ { s₁ with heap := h', toks := tk } := by
  subst hx
  refine lw_end F N hD ?_ (hP _ _ hk (lw_step3 (e := e) hE1 hE2 hE3 hD1 hOk hB hs hr hc (own_less hO) rfl hI hkd hok hd))
  have hI : ∀ b ∈ [ring, due, las, lga, lud, C2], @Ne Nat b I := fun b hb => Ne.symm ((List.pairwise_cons.mp hA).1 b hb)
  unfold LwL
  exact all_cons (hI _ (by simp)) (all_cons (hI _ (by simp)) (all_cons (hI _ (by simp)) (all_cons (hI _ (by simp)) (all_cons (hI _ (by simp)) (all_cons (hI _ (by simp)) fun p hp => hO p hp _ (.head _))))))
theorem ap_new {b : Addr} {cur : List (Addr × Obj)} {l : List Addr} (h : AllLt b cur) (hs : ∀ c ∈ l, c ∈ cur.map (·.1)) : ∀ c ∈ l, @Ne Nat b c := own_new h hs
theorem hyp_trans {T1 T2 T3 : List (Addr × Obj)} (h1 : ∀ p ∈ T1, p ∈ T2) (h2 : ∀ p ∈ T2, p ∈ T3) : ∀ p ∈ T1, p ∈ T3 := fun p hp => h2 p (h1 p hp)
theorem mk_call {w : World} {mean : ExcName → Option Value} {mg mb : Str → Option Value} {dp un : Nat} {gd : Option (List Code)} {cn : Str} {cs : Scope} {a : Addr} {ccd : Value} {cl : List (Str × Addr)} {outer : List Env} {A₀ : Around} {base h₀ : Heap} {L : Addr} {m : Str → Option Value} {s : Shared} {Q E : Value → Shared → Prop} {da dd la lg lu C1 C2 due : Addr} {nd ka kg ku kd : Nat} {es1 es2 es3 : List Ent} {T : List (Addr × Obj)} {t0 t1 t2 t3 t4 t5 t6 t7 t8 t9 t10 t11 : Tok} {v0 v4 v5 v6 v7 v8 v9 v10 v11 : Value} {o1 o2 : Obj} {ds : List Value}
    (B : Below A₀ base outer h₀) (F : Fr h₀ L s.heap m) (X : (hd.heap_39 w.params).In h₀) (N : News h₀ L s.heap ((C2, o2) :: T))
    (hd1 : (da, instObj 227 dd) ∈ T) (hd2 : (dd, dictOf [en w "signals" t0 v0, en w "assigns" t1 (.ref la), en w "gates" t2 (.ref lg), en w "udps" t3 (.ref lu), en w "processes" t4 v4, en w "routines" t5 v5, en w "scopes" t6 v6, en w "tops" t7 v7, en w "ports" t8 v8, en w "maker" t9 v9, en w "nesting" t10 v10, en w "by_path" t11 v11] nd) ∈ T) (hla : (la, listOf (List.toArray (es1.map Ent.v)) ka) ∈ T) (hlg : (lg, listOf (List.toArray (es2.map Ent.v)) kg) ∈ T) (hlu : (lu, listOf (List.toArray (es3.map Ent.v)) ku) ∈ T)
    (hdu : (due, listOf (List.toArray ds) kd) ∈ T) (hC1 : (C1, o1) ∈ T) (hE1 : EntsIn w T 0 es1) (hE2 : EntsIn w T 1 es2) (hE3 : EntsIn w T 2 es3) (hD : DuesIn w T ds (es1 ++ es2 ++ es3)) (hOk : ∀ e ∈ es1 ++ es2 ++ es3, e.I.Ok) (l1 : es1.length ≤ 4) (l2 : es2.length ≤ 4) (l3 : es3.length ≤ 4) (hO : OwnOff T [C2]) (hT : Top hd.view_39 (looseW hd.view_39 []) mean mg mb h₀) (hk : cs.kind = .function) (hd : dp + 3 < recursionLimit) (hu : un + 8 * 3 + 100 < cLine)
    (ret : ∀ mk els n V es c h' tk', Fr h₀ L h' m → News h₀ L h' ((C2, o2) :: V) → OwnOff V [C2] → (C1, o1) ∈ V → (mk, listOf (List.toArray els) n) ∈ V → (due, listOf (List.toArray ds) kd) ∈ V → ElsIn w V els es → DuesIn w V ds es → (∀ e ∈ es, ItemIn w V e.x e.I e.gvs) → (∀ e ∈ es, e.I.Ok) → es.length = c → els.length = c → ds.length = c → c ≤ 12 → c ≤ 1000 → Q (.ref mk) { s with heap := h', toks := tk' }) : wpAny (model PySem.Challenge.rw_pq0458_01.row.prog w) (ktrTop dp un gd cn cs L a ccd cl outer) (call (.ref 91) [.ref da]) Q E s := by
  refine Tell.useF (lits := [(C2, o2)]) (tail := T) (adr := [C2]) (mk_tell (T0 := T) hd1 hd2 hla hlg hlu hE1 hE2 hE3 (by omega) (by omega) (by omega) fun p hp => List.mem_append_right _ hp) B F X N Dels.nil (.cons .nil) hO (fun b hb => by rw [List.mem_singleton.mp hb]; exact .head _) hT hk hd hu ?_
  rintro v outs made h' tk' F' N' O' L' ⟨rfl, mk, els, n, m50, rfl, e2, hEls⟩
  obtain ⟨V, es, c, h1, h2, h3, h4, h5, h6, h7, h8, h9, h10, h11, h12, h13, h14⟩ := last_hide (made := made) (T2 := T) N' O' e2 hC1 hdu hEls hE1 hE2 hE3 hD hOk l1 l2 l3
  exact ret mk els n V es c h' tk' F' h1 h2 h3 h4 h5 h6 h7 h8 h9 h10 h11 h12 h13 h14
theorem elreads_call {w : World} {mean : ExcName → Option Value} {mg mb : Str → Option Value} {dp un : Nat} {gd : Option (List Code)} {cn : Str} {cs : Scope} {a : Addr} {ccd : Value} {cl : List (Str × Addr)} {outer : List Env} {A₀ : Around} {base h₀ : Heap} {L : Addr} {m : Str → Option Value} {s : Shared} {Q E : Value → Shared → Prop} {cur lits tail : List (Addr × Obj)} {adr : List Addr} {el x : Addr} {i : Nat} {I : Spec0} {gvs : List Value} (B : Below A₀ base outer h₀) (F : Fr h₀ L s.heap m) (X : (hd.heap_39 w.params).In h₀) (N : News h₀ L s.heap cur) (hP : Pre cur lits tail) (hO : OwnOff tail adr) (hA : ∀ b ∈ adr, b ∈ cur.map (·.1)) (hE : ElIn w tail (.ref el) i x I) (hI : ItemIn w tail x I gvs) (hOk : I.Ok) (hT : Top hd.view_39 (looseW hd.view_39 []) mean mg mb h₀) (hk : cs.kind = .function) (hd : dp + 6 < recursionLimit) (hu : un + 8 * 6 + 100 < cLine)
    (ret : ∀ r kvs n T' h' tk', Fr h₀ L h' m → News h₀ L h' (lits ++ T') → (∀ p ∈ tail, p ∈ T') → OwnOff T' adr → (r, listOf (List.toArray kvs) n) ∈ T' → IntsAre kvs (srt I.keys) → Q (.ref r) { s with heap := h', toks := tk' }) : wpAny (model PySem.Challenge.rw_pq0458_01.row.prog w) (ktrTop dp un gd cn cs L a ccd cl outer) (call (.ref 105) [.ref el]) Q E s := by
  refine Tell.useF (elreads_tell (T0 := tail) hE hI (fun p hp => List.mem_append_right _ hp) hOk) B F X N Dels.nil hP hO hA hT hk hd hu ?_
  rintro v outs made h' tk' F' N' O' L' ⟨r, kvs, n, rfl, rfl, rfl, hi⟩
  exact ret r kvs n _ h' tk' F' N' (fun p hp => List.mem_append_right _ hp) O' (.head _) hi
theorem loop_last {prog : Program} {w : World} {A : Around} {E : Value → Shared → Prop} {s : Shared} {env : Env} {h₀ : Heap} {x : Str} {body : List Stmt} {Q : Flow → Shared → Prop} {r : Addr} {c : Nat} {t₀ u₀ v₀ : Tok} {m₀ : Str → Option Value} {C2 : Addr} {V : List (Addr × Obj)} {o3 : Obj} {c3 : Option Value} (ys : List Str)
    (hh : A.handled = none) (hr : IsRange s.heap r 0 (c : Int) 1 t₀ u₀ v₀) (hc : c ≤ 12) (F : Fr h₀ env.locals s.heap m₀) (N0 : News h₀ env.locals s.heap ((C2, o3) :: V)) (hc3 : o3.data = Data.cell c3) (hO : OwnOff V [C2])
    (turn : ∀ i t (u : Str → Option Value) (s9 : Shared) o9 c9 T I io (P : (Str → Option Value) → List (Addr × Obj) → Prop) (Q9 : Flow → Shared → Prop) (E9 : Value → Shared → Prop), i < c → o9.data = Data.cell c9 → OwnOff T [I, C2] → Apart [I, C2] → (∀ p ∈ V, p ∈ T) →
      (∀ m nx', Keep x ys m₀ m → (∃ o9 c9 T, nx' = (C2, o9) :: T ∧ o9.data = Data.cell c9 ∧ OwnOff T [C2] ∧ (∀ p ∈ V, p ∈ T)) → P m nx') →
      Fr h₀ env.locals s9.heap (fun y => if y = x then some (.int (i : Int) t) else if ys.contains y then u y else m₀ y) → News h₀ env.locals s9.heap ((I, io) :: (C2, o9) :: T) →
      wpAny (model prog w) A (execs body env) (LpPost h₀ env.locals P I io s9 Q9) E9 s9)
    (done : ∀ (u : Str → Option Value) nx h tk, Fr h₀ env.locals h (fun y => if y = x then u y else if ys.contains y then u y else m₀ y) → News h₀ env.locals h nx → Q .next { s with heap := h, toks := tk }) :
    wpAny (model prog w) A (pyIter (.ref r)) (fun it s₂ => LoopAtV prog w A h₀ env x body Q E it s₂) E s := by
  refine loop_rangeG ys (n := c) (fun _ nx => ∃ o9 c9 T, nx = (C2, o9) :: T ∧ o9.data = Data.cell c9 ∧ OwnOff T [C2] ∧ (∀ p ∈ V, p ∈ T)) hh hr (range_small (by omega) (by omega)) range_sizeN F N0 (fun p hp => hp) ⟨o3, c3, V, rfl, hc3, hO, fun p hp => hp⟩ ?_ ?_
  · rintro i t u s9 nx I io P Q9 E9 hi hoff ⟨o9, c9, T, rfl, hc9, hO9, hsV⟩ hP F1 N1
    simp only [Int.zero_add] at F1
    exact turn i t u s9 o9 c9 T I io P Q9 E9 hi hc9 (own_wider hO9 fun p hp => hoff p (.tail _ hp)) (Apart.cons (fun b hb => by rw [List.mem_singleton.mp hb]; exact Ne.symm (hoff _ (.head _))) (Apart.cons (fun _ h => nomatch h) .nil)) hsV hP F1 N1
  · rintro u nx h tk _ F1 N1
    exact done u nx h tk F1 N1
theorem last_close {h₀ h' : Heap} {L I C2 : Addr} {io o2 : Obj} {s₁ : Shared} {tk : Nat} {m₀ m' : Str → Option Value} {z : Str} {ys : List Str} {cur V T' : List (Addr × Obj)} {c9 : Option Value} {P : (Str → Option Value) → List (Addr × Obj) → Prop} (F : Fr h₀ L h' m') (N : News h₀ L h' cur)
    (hD : Dels [(I, io), (C2, o2)] cur T') (hO : OwnOff T' [I, C2]) (hA : Apart [I, C2]) (hP : ∀ m nx', Keep z ys m₀ m → (∃ o9 c9 T, nx' = (C2, o9) :: T ∧ o9.data = Data.cell c9 ∧ OwnOff T [C2] ∧ (∀ p ∈ V, p ∈ T)) → P m nx') (hk : Keep z ys m₀ m') (hc : o2.data = Data.cell c9) (hs : ∀ p ∈ V, p ∈ T') :
    LpEnd h₀ L P I io s₁ { s₁ with heap := h', toks := tk } := last_end F N hD hO hA (hP _ _ hk ⟨_, _, _, rfl, hc, own_less hO, hs⟩)
end
theorem law_holds : PySem.Challenge.rw_pq0458_01.Holds := by
  refine hd_of (by rfl) (by rfl) (by rfl) ?_
  k_fill
  intro w9 s0 s1 mg mb G Y fa o pm cd doc dV kV ho hd hcd hD hmg hg args vals as hpre hlay hrd hwl hlo
  have KX := kIn_of Y
  have X := (Ground.X G).1
  have V := (Ground.X G).2
  have GL := glob_more (Ground.glob G (by decide +kernel) (by decide +kernel)) V
  refine Ground.open G ?_
  intro T B D TE TW
  try (refine guard_noD D (by decide +kernel) ?_; clear D)
  obtain ⟨_, _, M⟩ := bmod_of_top T
  have TA := at_of_top T
  try (obtain ⟨_, _, he, B0⟩ := based_of_top T rfl hmg ho hd; have he' : cd = _ := he; subst he'; clear he)
  clear hmg
  wrow_args hpre hlay hrd hwl hlo
  all_goals (
    first | refine callC_kw (enter_call ?_) | refine enter_call ?_ | refine callC_kw (enter_callW ?_) | refine enter_callW ?_ | w_how
    w_top on
    try refine codeAny_mono ?_ (fun _ _ g => GoodW.toG g)
    have K0 := below_caller (Top.heap T)
    w_call any ho hd hcd hD T F
    clear hd TA
    k_drop
    skip)
  rename_i _ _ _ _ ns9 _ _ _ _ _ _ _ _ vs9 _ _ _ _ _ hI9 _ _ _ _ _ o2 o1x hc2 _ _ _
  (all_goals try k_fold)
  have hlen63 : ns9.length ≤ 63 := by omega
  ktn_no "m:w"
  k_dflt (refine' keys_tell ?h1 ?h2 _ _ _ _ _ _ _ _ _ _ _ _ _ _ _ _ _ ?B ?F ?X ?N ?T ?K ?hl ?d ?u ?_)
  case B => k_dflt k_asm
  case F => k_asm
  case X => k_asm
  case N => k_asm
  case T => k_asm
  case K => first | exact rfl | assumption
  case hl => k_asm
  case h1 => with_reducible assumption
  case h2 => omega
  case d => ktr_room
  case u => ktr_units
  intro ring vs0 n0 h0 tk0 F0 N0 lr hro0
  k_lt lr
  (try k_sweep)
  (try dsimp only)
  (try k_fold)
  ktn_no "m:w"
  k_dflt (refine' des_call ?B ?F ?X ?N ?lr ?c12 ?T ?K ?d ?u ?_)
  case B => k_asm
  case F => k_asm
  case X => k_asm
  case N => k_asm
  case T => k_asm
  case K => first | exact rfl | assumption
  case d => ktr_room
  case u => ktr_units
  case lr => with_reducible assumption
  case c12 => exact Nat.lt_succ_self _
  intro X Dd las lga lud nD t0 t1 t2 t3 t4 t5 t6 t7 t8 t9 t10 t11 v0 v4 v5 v6 v7 v8 v9 v10 v11 B0 h1 tk1 F1 N1 mC1 hX hD0 hO0 hA0
  (try k_sweep)
  (try dsimp only)
  (try k_fold)
  ktn_no "m:w"
  rename_i due hh1 lD hh2 F9 N9
  with_reducible rename Obj.data _ = Data.cell (some (Value.ref ring)) => hc1
  have hO1 : OwnOff B0 [ring, due, las, lga, lud, (s1.heap.objs.size + 1 + 1)] := own_ins2 hO0 (kall_sub lD (by ktn_no "m:sbt"))
  replace hA0 : Apart [ring, due, las, lga, lud, (s1.heap.objs.size + 1 + 1)] := ap_ins2 hA0 (ap_new lD (by ktn_no "m:adr"))
  clear lr hO0 lD
  k_dflt (refine' key_call ?B ?F ?X ?N ?hD ?hf ?hm ?hr ?T ?K ?d ?u ?_)
  case B => k_asm
  case F => k_asm
  case X => k_asm
  case N => k_asm
  case T => k_asm
  case K => first | exact rfl | assumption
  case d => ktr_room
  case u => ktr_units
  case hD => ktn_no "m:del"
  case hf => ktn_no "m:off"
  case hm => decide
  case hr => with_reducible assumption
  intro k2 tt2 vs2 n2 h2 tk2 F2 N2 hk2a hk2b hro2
  (try k_sweep)
  (try dsimp only)
  (try k_fold)
  ktn_no "m:w"
  with_reducible rename News _ _ _ _ => N9
  with_reducible rename Fr _ _ _ _ => F9
  with_reducible rename IsRange _ _ _ _ _ _ _ _ => hr9
  have mC0 := mC1
  refine loop_law1 [Str.ofString "strength", Str.ofString "goal", Str.ofString "item"] 4  rfl (by exact hr9) hk2a (by omega) (by decide) hA0 F9 N9 (by ktn_no "m:sub") (lw0 hro2 hc2 hO1 (fun p hp => hp)) ?turn1 ?done1
  case turn1 =>
    clear F9 N9
    intro ti u s9 es1 vs n ds kd k1 k2 k3 o3 c3 T1 I io P9 Q9 E9 hlt9 hro hc3 hOI hB hE1 hD hOk hdl9 hA hP F1 N1
    try dsimp only [envOf, envOfC] at F1 N1
    have mC1 := hB _ mC0
    have hs : ∀ p ∈ T1, p ∈ T1 := fun p hp => hp
    try k_fold
    iterate 5 (ktn_no "m:one")
    with_reducible rename Addr => met9
    ktn_no "m:w"
    k_dflt (refine' key_call ?B ?F ?X ?N ?hD ?hf ?hm ?hr ?T ?K ?d ?u ?_)
    case B => k_asm
    case F => k_asm
    case X => k_asm
    case N => k_asm
    case T => k_asm
    case K => first | exact rfl | assumption
    case d => ktr_room
    case u => ktr_units
    case hD => ktn_no "m:del"
    case hf => ktn_no "m:off"
    case hm => decide
    case hr => with_reducible assumption
    intro k11 tt11 vs11 n11 h11 tk11 F11 N11 hk11a hk11b hro11
    (try k_sweep)
    (try dsimp only)
    (try k_fold)
    ktn_no "m:w"
    with_reducible rename GetElem?.getElem? _ _ = some _ => hv9
    with_reducible rename Value => v9
    with_reducible rename News _ _ _ _ => N9
    with_reducible rename Fr _ _ _ _ => F9
    refine hide_then (ins := [(ring, _), (met9, _), (I, _), (due, _), (las, _), (lga, _), (lud, _), ((s1.heap.objs.size + 1 + 1), _)]) (told := T1) (adr := (met9 :: I :: [ring, due, las, lga, lud, (s1.heap.objs.size + 1 + 1)])) N9 (by ktn_no "m:dels") (by ktn_no "m:sbt") (by ktn_no "m:own") ?_
    clear N9
    intro T2 N2 hsT hOT2 hmk
    dsimp only [List.cons_append, List.nil_append] at N2
    replace hs := hyp_trans hs hsT
    replace mC1 := hsT _ mC1
    obtain ⟨st9, hst9⟩ := ost_pick3 hv9 (hmk _ (by ktn_no "m:mm")) (hmk _ (by ktn_no "m:mm"))
    clear hsT hmk hv9
    k_dflt (refine' goal_call ?B ?F ?X ?N ?D ?P ?O ?A ?g1 ?g2 ?g3 ?g4 ?g5 ?g6 ?T ?K ?d ?u ?_)
    case B => k_asm
    case F => k_asm
    case X => k_asm
    case N => k_asm
    case T => k_asm
    case K => first | exact rfl | assumption
    case d => ktr_room
    case u => ktr_units
    case D => ktn_no "m:dels"
    case P => ktn_no "m:pre"
    case O => with_reducible assumption
    case A => ktn_no "m:adr"
    case g1 => k_ne
    case g2 => ktn_no "m:off"
    case g3 => ktn_no "m:off"
    case g4 => with_reducible assumption
    case g5 => first | with_reducible assumption | exact .nil
    case g6 => first | omega | ktn_no "m:ln"
    intro G12 ga12 vs12 n12 ms12 nm12 T3 h12 tk12 F12 N12 hsT O12 hro12 hms12 hG12 hGl12 hGb12
    dsimp only [List.cons_append, List.nil_append] at N12
    (try k_sweep)
    (try dsimp only)
    (try k_fold)
    replace hs := hyp_trans hs hsT
    replace mC1 := hsT _ mC1
    replace hst9 := hst9.mono hsT
    clear hsT
    ktn_no "m:w"
    k_dflt (refine' src_call ?B ?F ?X ?N ?D ?P ?O ?A ?g1 ?g2 ?g3 ?g4 ?g5 ?g6 ?T ?K ?d ?u ?_)
    case B => k_asm
    case F => k_asm
    case X => k_asm
    case N => k_asm
    case T => k_asm
    case K => first | exact rfl | assumption
    case d => ktr_room
    case u => ktr_units
    case D => ktn_no "m:dels"
    case P => ktn_no "m:pre"
    case O => with_reducible assumption
    case A => ktn_no "m:adr"
    case g1 => k_ne
    case g2 => ktn_no "m:off"
    case g3 => ktn_no "m:off"
    case g4 => with_reducible assumption
    case g5 => first | with_reducible assumption | exact .nil
    case g6 => first | omega | ktn_no "m:ln"
    intro S13 sa13 vs13 n13 ms13 nm13 T4 h13 tk13 F13 N13 hsT O13 hro13 hms13 hS13 hSl13 hSb13
    dsimp only [List.cons_append, List.nil_append] at N13
    (try k_sweep)
    (try dsimp only)
    (try k_fold)
    replace hs := hyp_trans hs hsT
    replace mC1 := hsT _ mC1
    replace hst9 := hst9.mono hsT
    replace hG12 := hG12.mono hsT
    clear hsT
    ktn_no "m:w"
    k_dflt (refine' asg_call ?B ?F ?X ?N ?P ?O ?A ?T ?K ?d ?u ?_)
    case B => k_asm
    case F => k_asm
    case X => k_asm
    case N => k_asm
    case T => k_asm
    case K => first | exact rfl | assumption
    case d => ktr_room
    case u => ktr_units
    case P => ktn_no "m:pre"
    case O => with_reducible assumption
    case A => ktn_no "m:adr"
    intro x14 d14 n14 a0 a1 a2 a3 a4 T5 h14 tk14 F14 N14 hsT O14 mx14 md14
    dsimp only [List.cons_append, List.nil_append] at N14
    (try k_sweep)
    (try dsimp only)
    (try k_fold)
    replace hs := hyp_trans hs hsT
    replace mC1 := hsT _ mC1
    replace hst9 := hst9.mono hsT
    replace hG12 := hG12.mono hsT
    replace hS13 := hS13.mono hsT
    clear hsT
    have mX := hs _ (hB _ hX)
    have mD := hs _ (hB _ hD0)
    ktn_no "m:w"
    try dsimp only [List.cons_append, List.nil_append]
    ktn_no "m:w"
    with_reducible rename News _ _ _ _ => N9
    with_reducible rename Fr _ _ _ _ => F9
    k_dflt (refine' st_join2 (st9.getD (6, 6)) F9 N9 ?P ?O ?A ?h ?_)
    case P => ktn_no "m:pre"
    case O => with_reducible assumption
    case A => ktn_no "m:adr"
    case h =>
      cases hst9 with
      | none =>
        walk1
        ktn_no "m:w"
        exact st_new (by k_asm) (by k_asm) (by with_reducible assumption)
      | some m9 =>
        walk1
        ktn_no "m:w"
        exact st_old (by k_asm) (by k_asm) ⟨_, _, _, rfl, m9⟩
    clear F9 N9
    intro v15 T6 h15 tk15 F15 N15 hsT O15 hw15
    dsimp only [List.cons_append, List.nil_append] at N15
    (try k_sweep)
    (try dsimp only)
    (try k_fold)
    replace hs := hyp_trans hs hsT
    replace mC1 := hsT _ mC1
    replace hst9 := hst9.mono hsT
    replace hG12 := hG12.mono hsT
    replace hS13 := hS13.mono hsT
    replace mx14 := hsT _ mx14
    replace md14 := hsT _ md14
    clear hsT
    ktn_no "m:w"
    try dsimp only [List.cons_append, List.nil_append]
    ktn_no "m:w"
    with_reducible rename News _ _ _ _ => N9
    with_reducible rename Fr _ _ _ _ => F9
    refine' law_close1 ⟨_, ⟨0, _, st9, false, [G12], [S13], 0⟩, [.ref ga12]⟩ F9 N9 ?hd9 ?ho9 hA hP ?hk9 hE1 hD hOk hB ?hs9 ?hr9 ?hc9 ?hI9 rfl ?hok9 ?hdu9 rfl
    case hd9 => ktn_no "m:dels"
    case ho9 => ktn_no "m:own"
    case hk9 => ktn_no "m:keep"
    case hs9 => exact fun p hp => (by have h9 := hs p hp; ktn_no "m:sb")
    case hr9 => with_reducible assumption
    case hc9 => with_reducible assumption
    case hI9 => exact asg_item (M1 := T6) (M2 := T6) (by ktn_no "m:sb") (by ktn_no "m:sb") hG12 (by ktn_no "m:sbt") hS13 (by ktn_no "m:sbt") (hst9.mono (by ktn_no "m:sbt"))
    case hok9 => exact asg_ok hGl12 hGb12 hSl13 hSb13
    case hdu9 => exact asg_due (by ktn_no "m:mm") (by rw [eff_asg]; exact hw15.mono (by ktn_no "m:sbt")) (by ktn_no "m:mm") (by ktn_no "m:mm") hms13 hGl12 hSl13

  case done1 =>
    clear F9 N9
    intro u9 es1 vs n ds kd k1 k2 k3 o3 c3 T1 h tk hb1 hro hc3 hO hB hE1 hD hOk F1 N1
    try dsimp only [envOf, envOfC] at F1 N1
    have mC1 := hB _ mC0
    try k_fold
    ktn_no "m:w"
    k_dflt (refine' key_call ?B ?F ?X ?N ?hD ?hf ?hm ?hr ?T ?K ?d ?u ?_)
    case B => k_asm
    case F => k_asm
    case X => k_asm
    case N => k_asm
    case T => k_asm
    case K => first | exact rfl | assumption
    case d => ktr_room
    case u => ktr_units
    case hD => ktn_no "m:del"
    case hf => ktn_no "m:off"
    case hm => decide
    case hr => with_reducible assumption
    intro k41 tt41 vs41 n41 h41 tk41 F41 N41 hk41a hk41b hro41
    (try k_sweep)
    (try dsimp only)
    (try k_fold)
    ktn_no "m:w"
    with_reducible rename News _ _ _ _ => N9
    with_reducible rename Fr _ _ _ _ => F9
    with_reducible rename IsRange _ _ _ _ _ _ _ _ => hr9
    refine loop_law2 [Str.ofString "kind", Str.ofString "strength", Str.ofString "outs", Str.ofString "ins", Str.ofString "usual"] 4 hb1 rfl (by exact hr9) hk41a (by omega) (by decide) hA0 F9 N9 (by ktn_no "m:sub") (lw_ring (es1 := es1) (es2 := []) (es3 := []) hro41 hc3 hO hB hE1 (fun _ h => nomatch h) (fun _ h => nomatch h) (by simpa using hD) (by simpa using hOk)) ?turn2 ?done2
    case turn2 =>
      clear F9 N9
      intro ti u s9 es2 vs n ds kd k1 k2 k3 o3 c3 T1 I io P9 Q9 E9 hlt9 hro hc3 hOI hB hE1 hE2 hD hOk hdl9 hA hP F1 N1
      try dsimp only [envOf, envOfC] at F1 N1
      have mC1 := hB _ mC0
      have hs : ∀ p ∈ T1, p ∈ T1 := fun p hp => hp
      try k_fold
      iterate 5 (ktn_no "m:one")
      with_reducible rename Addr => met9
      ktn_no "m:w"
      k_dflt (refine' key_call ?B ?F ?X ?N ?hD ?hf ?hm ?hr ?T ?K ?d ?u ?_)
      case B => k_asm
      case F => k_asm
      case X => k_asm
      case N => k_asm
      case T => k_asm
      case K => first | exact rfl | assumption
      case d => ktr_room
      case u => ktr_units
      case hD => ktn_no "m:del"
      case hf => ktn_no "m:off"
      case hm => decide
      case hr => with_reducible assumption
      intro k21 tt21 vs21 n21 h21 tk21 F21 N21 hk21a hk21b hro21
      (try k_sweep)
      (try dsimp only)
      (try k_fold)
      ktn_no "m:w"
      with_reducible rename GetElem?.getElem? _ _ = some _ => hvK
      obtain ⟨kd9, tkd9, e9, hkd⟩ := gate_pick hvK
      subst e9
      clear hvK
      k_dflt (refine' key_call ?B ?F ?X ?N ?hD ?hf ?hm ?hr ?T ?K ?d ?u ?_)
      case B => k_asm
      case F => k_asm
      case X => k_asm
      case N => k_asm
      case T => k_asm
      case K => first | exact rfl | assumption
      case d => ktr_room
      case u => ktr_units
      case hD => ktn_no "m:del"
      case hf => ktn_no "m:off"
      case hm => decide
      case hr => with_reducible assumption
      intro k22 tt22 vs22 n22 h22 tk22 F22 N22 hk22a hk22b hro22
      (try k_sweep)
      (try dsimp only)
      (try k_fold)
      ktn_no "m:w"
      with_reducible rename GetElem?.getElem? _ _ = some _ => hvS
      with_reducible rename Value => vS9
      k_dflt (refine' key_call ?B ?F ?X ?N ?hD ?hf ?hm ?hr ?T ?K ?d ?u ?_)
      case B => k_asm
      case F => k_asm
      case X => k_asm
      case N => k_asm
      case T => k_asm
      case K => first | exact rfl | assumption
      case d => ktr_room
      case u => ktr_units
      case hD => ktn_no "m:del"
      case hf => ktn_no "m:off"
      case hm => decide
      case hr => with_reducible assumption
      intro k23 tt23 vs23 n23 h23 tk23 F23 N23 hk23a hk23b hro23
      (try k_sweep)
      (try dsimp only)
      (try k_fold)
      ktn_no "m:w"
      with_reducible rename Obj.data _ = Data.cell (some (Value.ref met9)) => hcm9
      with_reducible rename IsRange _ _ _ _ _ _ _ _ => hr9
      with_reducible rename News _ _ _ _ => N9
      with_reducible rename Fr _ _ _ _ => F9
      refine hide_then (ins := [(ring, _), (met9, _), (I, _), (due, _), (las, _), (lga, _), (lud, _), ((s1.heap.objs.size + 1 + 1), _)]) (told := T1) (adr := (met9 :: I :: [ring, due, las, lga, lud, (s1.heap.objs.size + 1 + 1)])) N9 (by ktn_no "m:dels") (by ktn_no "m:sbt") (by ktn_no "m:own") ?_
      clear N9
      intro T2 N2 hsT hOT2 hmk
      dsimp only [List.cons_append, List.nil_append] at N2
      replace hs := hyp_trans hs hsT
      replace mC1 := hsT _ mC1
      obtain ⟨st9, hst9, _⟩ := ostIn_pick2 hvS (hmk _ (by ktn_no "m:mm"))
      clear hsT hmk hvS
      have hc9a : 0 ≤ 1 + k23 := by omega
      have hc9b : 1 + k23 ≤ 6 := by omega
      have hc9c : k23 ≤ 1 := by omega
      refine comp_gls (ks0 := []) (adr := (met9 :: I :: [ring, due, las, lga, lud, (s1.heap.objs.size + 1 + 1)])) [(I, io), (due, listOf (List.toArray ds) kd), (las, listOf (List.toArray (es1.map Ent.v)) k1), (lga, listOf (List.toArray (es2.map Ent.v)) k2), (lud, listOf (List.toArray (List.map Ent.v [])) k3), ((s1.heap.objs.size + 1 + 1), _)] rfl F9 N2 hr9 hc9a hc9b (by with_reducible assumption) .nil (by first | omega | ktn_no "m:ln") (by with_reducible assumption) ?compT24 ?compD24
      case compT24 =>
        clear N2 F9 hr9
        intro ys vs1 n1 ms1 nm1 Gs Tn Ic oI Cc oC Dc m₂ hh9 tkc E8 P8 hro1 hms1 hlen9 hsC hO3 hC F1 N1 hoff3 hn123 hP8
        have hn1 := hn123.1
        have hn2 := hn123.2.1
        have hn3 := hn123.2.2
        dsimp only [List.cons_append, List.nil_append] at N1 hoff3
        replace mC1 := hsC _ mC1
        try dsimp only
        try k_fold
        ktn_no "m:w"
        k_dflt (refine' goal_call ?B ?F ?X ?N ?D ?P ?O ?A ?g1 ?g2 ?g3 ?g4 ?g5 ?g6 ?T ?K ?d ?u ?_)
        case B => k_asm
        case F => k_asm
        case X => k_asm
        case N => k_asm
        case T => k_asm
        case K => first | exact rfl | assumption
        case d => ktr_room
        case u => ktr_units
        case D => ktn_no "m:dels"
        case P => ktn_no "m:pre"
        case O => with_reducible assumption
        case A => ktn_no "m:adr"
        case g1 => k_ne
        case g2 => ktn_no "m:off"
        case g3 => ktn_no "m:off"
        case g4 => with_reducible assumption
        case g5 => first | with_reducible assumption | exact .nil
        case g6 => first | omega | ktn_no "m:ln"
        intro G24 ga24 vs24 n24 ms24 nm24 Tm h24 tk24 F24 N24 hsT O24 hro24 hms24 hG24 hGl24 hGb24
        dsimp only [List.cons_append, List.nil_append] at N24
        (try k_sweep)
        (try dsimp only)
        (try k_fold)
        ktn_no "m:w"
        with_reducible rename News _ _ _ _ => N9
        with_reducible rename Fr _ _ _ _ => F9
        exact comp_fin (mid := [(I, io), (due, listOf (List.toArray ds) kd), (las, listOf (List.toArray (es1.map Ent.v)) k1), (lga, listOf (List.toArray (es2.map Ent.v)) k2), (lud, listOf (List.toArray (List.map Ent.v [])) k3), ((s1.heap.objs.size + 1 + 1), _)]) F9 N9 hoff3 O24 (hP8 _ _ _ _ _ G24 _ hro24 hms24 hsT O24 hG24 hGl24 hGb24)
      case compD24 =>
        clear N2 F9 hr9
        intro ys vs1 n1 ms1 nm1 Gs Tn g9 hGsl hro1 hms1 hGs hGsok hsT hOn
        unfold LCg.FinA
        intro li24 hh9 tkc F1 N1 o1f
        dsimp only [List.cons_append, List.nil_append] at N1 o1f
        try dsimp only
        try k_fold
        replace hs := hyp_trans hs hsT
        replace mC1 := hsT _ mC1
        replace hst9 := hst9.mono hsT
        clear hsT
        have hGl9 : Gs.length ≤ 2 := by omega
        ktn_no "m:w"
        k_dflt (refine' key_call ?B ?F ?X ?N ?hD ?hf ?hm ?hr ?T ?K ?d ?u ?_)
        case B => k_asm
        case F => k_asm
        case X => k_asm
        case N => k_asm
        case T => k_asm
        case K => first | exact rfl | assumption
        case d => ktr_room
        case u => ktr_units
        case hD => ktn_no "m:del"
        case hf => ktn_no "m:off"
        case hm => decide
        case hr => with_reducible assumption
        intro k25 tt25 vs25 n25 h25 tk25 F25 N25 hk25a hk25b hro25
        (try k_sweep)
        (try dsimp only)
        (try k_fold)
        ktn_no "m:w"
        with_reducible rename IsRange _ _ _ _ _ _ _ _ => hr9
        with_reducible rename News _ _ _ _ => N9
        with_reducible rename Fr _ _ _ _ => F9
        refine hide_then (ins := [(ring, _), (met9, _), (I, _), (due, _), (las, _), (lga, _), (lud, _), ((s1.heap.objs.size + 1 + 1), _)]) (told := Tn) (adr := (met9 :: I :: [ring, due, las, lga, lud, (s1.heap.objs.size + 1 + 1)])) N9 (by ktn_no "m:dels") (by ktn_no "m:sbt") (by ktn_no "m:own") ?_
        clear N9
        intro T4 N2 hsT hOT4 hmk
        dsimp only [List.cons_append, List.nil_append] at N2
        have hli24 : (li24, listOf (List.toArray ys) ys.length) ∈ T4 := hmk _ (by ktn_no "m:mm")
        clear hmk
        replace hs := hyp_trans hs hsT
        replace mC1 := hsT _ mC1
        replace hst9 := hst9.mono hsT
        replace hGs := hGs.mono hsT
        clear hsT
        have hkl9 := gls_len hGsok
        have hc25b : k25 ≤ 6 := by omega
        refine comp_srcs (ks0 := (Gs.flatMap Gl.keys)) (adr := (met9 :: I :: [ring, due, las, lga, lud, (s1.heap.objs.size + 1 + 1)])) [(I, io), (due, listOf (List.toArray ds) kd), (las, listOf (List.toArray (es1.map Ent.v)) k1), (lga, listOf (List.toArray (es2.map Ent.v)) k2), (lud, listOf (List.toArray (List.map Ent.v [])) k3), ((s1.heap.objs.size + 1 + 1), _)] rfl F9 N2 hr9 hk25a hc25b (by with_reducible assumption) hms1 (by first | omega | ktn_no "m:ln") (by with_reducible assumption) ?compT26 ?compD26
        case compT26 =>
          clear N2 F9 hr9
          intro zs vs1 n1 ms1 nm1 Ss Tn Ic oI Cc oC Dc m₂ hh9 tkc E8 P8 hro1 hms1 hlen9 hsC hO3 hC F1 N1 hoff3 hn123 hP8
          have hn1 := hn123.1
          have hn2 := hn123.2.1
          have hn3 := hn123.2.2
          dsimp only [List.cons_append, List.nil_append] at N1 hoff3
          replace mC1 := hsC _ mC1
          try dsimp only
          try k_fold
          ktn_no "m:w"
          k_dflt (refine' src_call ?B ?F ?X ?N ?D ?P ?O ?A ?g1 ?g2 ?g3 ?g4 ?g5 ?g6 ?T ?K ?d ?u ?_)
          case B => k_asm
          case F => k_asm
          case X => k_asm
          case N => k_asm
          case T => k_asm
          case K => first | exact rfl | assumption
          case d => ktr_room
          case u => ktr_units
          case D => ktn_no "m:dels"
          case P => ktn_no "m:pre"
          case O => with_reducible assumption
          case A => ktn_no "m:adr"
          case g1 => k_ne
          case g2 => ktn_no "m:off"
          case g3 => ktn_no "m:off"
          case g4 => with_reducible assumption
          case g5 => first | with_reducible assumption | exact .nil
          case g6 => first | omega | ktn_no "m:ln"
          intro S26 sa26 vs26 n26 ms26 nm26 Tm h26 tk26 F26 N26 hsT O26 hro26 hms26 hS26 hSl26 hSb26
          dsimp only [List.cons_append, List.nil_append] at N26
          (try k_sweep)
          (try dsimp only)
          (try k_fold)
          ktn_no "m:w"
          with_reducible rename News _ _ _ _ => N9
          with_reducible rename Fr _ _ _ _ => F9
          exact comp_fin (mid := [(I, io), (due, listOf (List.toArray ds) kd), (las, listOf (List.toArray (es1.map Ent.v)) k1), (lga, listOf (List.toArray (es2.map Ent.v)) k2), (lud, listOf (List.toArray (List.map Ent.v [])) k3), ((s1.heap.objs.size + 1 + 1), _)]) F9 N9 hoff3 O26 (hP8 _ _ _ _ _ S26 _ hro26 hms26 hsT O26 hS26 hSl26 hSb26)
        case compD26 =>
          clear N2 F9 hr9
          intro zs vs1 n1 ms1 nm1 Ss Tn g9 hSsl hro1 hms1 hSs hSsok hsT hOn
          unfold LCg.FinA
          intro li26 hh9 tkc F1 N1 o1f
          dsimp only [List.cons_append, List.nil_append] at N1 o1f
          try dsimp only
          try k_fold
          replace hs := hyp_trans hs hsT
          replace mC1 := hsT _ mC1
          replace hst9 := hst9.mono hsT
          replace hGs := hGs.mono hsT
          replace hli24 := hsT _ hli24
          clear hsT
          have mX := hs _ (hB _ hX)
          have mD := hs _ (hB _ hD0)
          have hSl9 : Ss.length ≤ 3 := by omega
          have hyl9 : ys.length ≤ 100 := by rw [hGs.length]; omega
          have hzl9 : zs.length ≤ 100 := by rw [hSs.length]; omega
          ktn_no "m:w"
          k_dflt (refine' gate_call ?B ?F ?X ?N ?P ?O ?A ?T ?K ?d ?u ?_)
          case B => k_asm
          case F => k_asm
          case X => k_asm
          case N => k_asm
          case T => k_asm
          case K => first | exact rfl | assumption
          case d => ktr_room
          case u => ktr_units
          case P => ktn_no "m:pre"
          case O => with_reducible assumption
          case A => ktn_no "m:adr"
          intro x28 d28 n28 a0 a1 a2 a3 a4 a5 T5 h28 tk28 F28 N28 hsT O28 mx28 md28
          dsimp only [List.cons_append, List.nil_append] at N28
          (try k_sweep)
          (try dsimp only)
          (try k_fold)
          replace hs := hyp_trans hs hsT
          replace mC1 := hsT _ mC1
          replace hst9 := hst9.mono hsT
          replace hGs := hGs.mono hsT
          replace hSs := hSs.mono hsT
          replace hli24 := hsT _ hli24
          clear hsT
          ktn_no "m:w"
          with_reducible rename News _ _ _ _ => N9
          with_reducible rename Fr _ _ _ _ => F9
          k_dflt (refine' st_join2 ((if (kd9 == "pullup" || kd9 == "pulldown") then ((5 : Int), (5 : Int)) else (6, 6))) F9 N9 ?P ?O ?A ?h ?_)
          case P => ktn_no "m:pre"
          case O => with_reducible assumption
          case A => ktn_no "m:adr"
          case h =>
            simp only [List.mem_cons, List.not_mem_nil, or_false] at hkd
            rcases hkd with rfl | rfl | rfl | rfl
            · have e8 : (if ("and" == "pullup" || "and" == "pulldown") then ((5 : Int), (5 : Int)) else (6, 6)) = (6, 6) := by decide
              rw [e8]
              walk1
              ktn_no "m:w"
              exact st_new (by k_asm) (by k_asm) (by with_reducible assumption)
            · have e8 : (if ("pullup" == "pullup" || "pullup" == "pulldown") then ((5 : Int), (5 : Int)) else (6, 6)) = (5, 5) := by decide
              rw [e8]
              walk1
              ktn_no "m:w"
              exact st_new (by k_asm) (by k_asm) (by with_reducible assumption)
            · have e8 : (if ("buf" == "pullup" || "buf" == "pulldown") then ((5 : Int), (5 : Int)) else (6, 6)) = (6, 6) := by decide
              rw [e8]
              walk1
              ktn_no "m:w"
              exact st_new (by k_asm) (by k_asm) (by with_reducible assumption)
            · have e8 : (if ("pulldown" == "pullup" || "pulldown" == "pulldown") then ((5 : Int), (5 : Int)) else (6, 6)) = (5, 5) := by decide
              rw [e8]
              walk1
              ktn_no "m:w"
              exact st_new (by k_asm) (by k_asm) (by with_reducible assumption)

          clear F9 N9
          intro v29 T6 h29 tk29 F29 N29 hsT O29 hw29
          dsimp only [List.cons_append, List.nil_append] at N29
          (try k_sweep)
          (try dsimp only)
          (try k_fold)
          replace hs := hyp_trans hs hsT
          replace mC1 := hsT _ mC1
          replace hst9 := hst9.mono hsT
          replace hGs := hGs.mono hsT
          replace hSs := hSs.mono hsT
          replace mx28 := hsT _ mx28
          replace md28 := hsT _ md28
          replace hli24 := hsT _ hli24
          clear hsT
          ktn_no "m:w"
          with_reducible rename News _ _ _ _ => N9
          with_reducible rename Fr _ _ _ _ => F9
          k_dflt (refine' st_join2 (st9.getD (if (kd9 == "pullup" || kd9 == "pulldown") then ((5 : Int), (5 : Int)) else (6, 6))) F9 N9 ?P ?O ?A ?h ?_)
          case P => ktn_no "m:pre"
          case O => with_reducible assumption
          case A => ktn_no "m:adr"
          case h =>
            cases hst9 with
            | none =>
              walk1
              ktn_no "m:w"
              exact st_old (by k_asm) (by k_asm) hw29
            | some m9 =>
              walk1
              ktn_no "m:w"
              exact st_old (by k_asm) (by k_asm) ⟨_, _, _, rfl, m9⟩
          clear F9 N9
          intro v30 T7 h30 tk30 F30 N30 hsT O30 hw30
          dsimp only [List.cons_append, List.nil_append] at N30
          (try k_sweep)
          (try dsimp only)
          (try k_fold)
          replace hs := hyp_trans hs hsT
          replace mC1 := hsT _ mC1
          replace hst9 := hst9.mono hsT
          replace hGs := hGs.mono hsT
          replace hSs := hSs.mono hsT
          replace mx28 := hsT _ mx28
          replace md28 := hsT _ md28
          replace hli24 := hsT _ hli24
          clear hsT
          ktn_no "m:w"
          with_reducible rename News _ _ _ _ => N9
          with_reducible rename Fr _ _ _ _ => F9
          refine' law_close2 ⟨_, ⟨1, _, st9, (kd9 == "pullup" || kd9 == "pulldown"), Gs, Ss, 0⟩, ys⟩ F9 N9 ?hd9 ?ho9 hA hP ?hk9 hE1 hE2 hD hOk hB ?hs9 ?hr9 ?hc9 ?hI9 rfl ?hok9 ?hdu9 rfl
          case hd9 => ktn_no "m:dels"
          case ho9 => ktn_no "m:own"
          case hk9 => ktn_no "m:keep"
          case hs9 => exact fun p hp => (by have h9 := hs p hp; ktn_no "m:sb")
          case hr9 => with_reducible assumption
          case hc9 => with_reducible assumption
          case hI9 => exact gate_item (k := kd9) (M := T7) (by ktn_no "m:sb") (by ktn_no "m:sb") hkd (by ktn_no "m:mm") (by ktn_no "m:mm") (by ktn_no "m:sbt") hyl9 hzl9 hGs hSs hst9 rfl
          case hok9 => exact gate_ok hGsok hSsok hGl9 hSl9
          case hdu9 => exact gate_due (by ktn_no "m:mm") (by rw [eff_gate]; exact hw30.mono (by ktn_no "m:sbt")) (by ktn_no "m:sb") (by ktn_no "m:mm") hms1 hGsok hSsok hGl9 hSl9



    case done2 =>
      clear F9 N9
      intro u9 es2 vs n ds kd k1 k2 k3 o3 c3 T1 h tk hb2 hro hc3 hO hB hE1 hE2 hD hOk F1 N1
      try dsimp only [envOf, envOfC] at F1 N1
      have mC1 := hB _ mC0
      try k_fold
      ktn_no "m:w"
      k_dflt (refine' key_call ?B ?F ?X ?N ?hD ?hf ?hm ?hr ?T ?K ?d ?u ?_)
      case B => k_asm
      case F => k_asm
      case X => k_asm
      case N => k_asm
      case T => k_asm
      case K => first | exact rfl | assumption
      case d => ktr_room
      case u => ktr_units
      case hD => ktn_no "m:del"
      case hf => ktn_no "m:off"
      case hm => decide
      case hr => with_reducible assumption
      intro k42 tt42 vs42 n42 h42 tk42 F42 N42 hk42a hk42b hro42
      (try k_sweep)
      (try dsimp only)
      (try k_fold)
      ktn_no "m:w"
      with_reducible rename News _ _ _ _ => N9
      with_reducible rename Fr _ _ _ _ => F9
      with_reducible rename IsRange _ _ _ _ _ _ _ _ => hr9
      refine loop_law3 [Str.ofString "first", Str.ofString "goal", Str.ofString "ins", Str.ofString "primitive"] 3 hb1 hb2 rfl (by exact hr9) hk42a (by omega) (by decide) hA0 F9 N9 (by ktn_no "m:sub") (lw_ring (es1 := es1) (es2 := es2) (es3 := []) hro42 hc3 hO hB hE1 hE2 (fun _ h => nomatch h) (by simpa using hD) (by simpa using hOk)) ?turn3 ?done3
      case turn3 =>
        clear F9 N9
        intro ti u s9 es3 vs n ds kd k1 k2 k3 o3 c3 T1 I io P9 Q9 E9 hlt9 hro hc3 hOI hB hE1 hE2 hE3 hD hOk hdl9 hA hP F1 N1
        try dsimp only [envOf, envOfC] at F1 N1
        have mC1 := hB _ mC0
        have hs : ∀ p ∈ T1, p ∈ T1 := fun p hp => hp
        try k_fold
        iterate 5 (ktn_no "m:one")
        with_reducible rename Addr => met9
        ktn_no "m:w"
        k_dflt (refine' key_call ?B ?F ?X ?N ?hD ?hf ?hm ?hr ?T ?K ?d ?u ?_)
        case B => k_asm
        case F => k_asm
        case X => k_asm
        case N => k_asm
        case T => k_asm
        case K => first | exact rfl | assumption
        case d => ktr_room
        case u => ktr_units
        case hD => ktn_no "m:del"
        case hf => ktn_no "m:off"
        case hm => decide
        case hr => with_reducible assumption
        intro k31 tt31 vs31 n31 h31 tk31 F31 N31 hk31a hk31b hro31
        (try k_sweep)
        (try dsimp only)
        (try k_fold)
        ktn_no "m:w"
        with_reducible rename GetElem?.getElem? _ _ = some _ => hvF
        obtain ⟨f9, tf9, e9⟩ := pick_int3 hvF
        subst e9
        clear hvF
        with_reducible rename Obj.data _ = Data.cell (some (Value.ref met9)) => hcm9
        with_reducible rename News _ _ _ _ => N9
        with_reducible rename Fr _ _ _ _ => F9
        refine hide_then (ins := [(ring, _), (met9, _), (I, _), (due, _), (las, _), (lga, _), (lud, _), ((s1.heap.objs.size + 1 + 1), _)]) (told := T1) (adr := (met9 :: I :: [ring, due, las, lga, lud, (s1.heap.objs.size + 1 + 1)])) N9 (by ktn_no "m:dels") (by ktn_no "m:sbt") (by ktn_no "m:own") ?_
        clear N9
        intro T2 N2 hsT hOT2 hmk
        dsimp only [List.cons_append, List.nil_append] at N2
        clear hmk
        replace hs := hyp_trans hs hsT
        replace mC1 := hsT _ mC1
        clear hsT
        k_dflt (refine' goal_call ?B ?F ?X ?N ?D ?P ?O ?A ?g1 ?g2 ?g3 ?g4 ?g5 ?g6 ?T ?K ?d ?u ?_)
        case B => k_asm
        case F => k_asm
        case X => k_asm
        case N => k_asm
        case T => k_asm
        case K => first | exact rfl | assumption
        case d => ktr_room
        case u => ktr_units
        case D => ktn_no "m:dels"
        case P => ktn_no "m:pre"
        case O => with_reducible assumption
        case A => ktn_no "m:adr"
        case g1 => k_ne
        case g2 => ktn_no "m:off"
        case g3 => ktn_no "m:off"
        case g4 => with_reducible assumption
        case g5 => first | with_reducible assumption | exact .nil
        case g6 => first | omega | ktn_no "m:ln"
        intro G32 ga32 vs32 n32 ms32 nm32 T3 h32 tk32 F32 N32 hsT O32 hro32 hms32 hG32 hGl32 hGb32
        dsimp only [List.cons_append, List.nil_append] at N32
        (try k_sweep)
        (try dsimp only)
        (try k_fold)
        replace hs := hyp_trans hs hsT
        replace mC1 := hsT _ mC1
        clear hsT
        have hms32b : IntsAre ms32 G32.keys := hms32
        ktn_no "m:w"
        k_dflt (refine' key_call ?B ?F ?X ?N ?hD ?hf ?hm ?hr ?T ?K ?d ?u ?_)
        case B => k_asm
        case F => k_asm
        case X => k_asm
        case N => k_asm
        case T => k_asm
        case K => first | exact rfl | assumption
        case d => ktr_room
        case u => ktr_units
        case hD => ktn_no "m:del"
        case hf => ktn_no "m:off"
        case hm => decide
        case hr => with_reducible assumption
        intro k33 tt33 vs33 n33 h33 tk33 F33 N33 hk33a hk33b hro33
        (try k_sweep)
        (try dsimp only)
        (try k_fold)
        ktn_no "m:w"
        with_reducible rename News _ _ _ _ => N9
        with_reducible rename Fr _ _ _ _ => F9
        with_reducible rename IsRange _ _ _ _ _ _ _ _ => hr9
        refine hide_then (ins := [(ring, _), (met9, _), (I, _), (due, _), (las, _), (lga, _), (lud, _), ((s1.heap.objs.size + 1 + 1), _)]) (told := T3) (adr := (met9 :: I :: [ring, due, las, lga, lud, (s1.heap.objs.size + 1 + 1)])) N9 (by ktn_no "m:dels") (by ktn_no "m:sbt") (by ktn_no "m:own") ?_
        clear N9
        intro T4 N2 hsT hOT4 hmk
        dsimp only [List.cons_append, List.nil_append] at N2
        clear hmk
        replace hs := hyp_trans hs hsT
        replace mC1 := hsT _ mC1
        replace hG32 := hG32.mono hsT
        clear hsT
        have hc9a : 0 ≤ 1 + k33 := by omega
        have hc9b : 1 + k33 ≤ 6 := by omega
        have hk0 : G32.keys.length ≤ 500 := by omega
        refine comp_srcs (ks0 := G32.keys) (adr := (met9 :: I :: [ring, due, las, lga, lud, (s1.heap.objs.size + 1 + 1)])) [(I, io), (due, listOf (List.toArray ds) kd), (las, listOf (List.toArray (es1.map Ent.v)) k1), (lga, listOf (List.toArray (es2.map Ent.v)) k2), (lud, listOf (List.toArray (es3.map Ent.v)) k3), ((s1.heap.objs.size + 1 + 1), _)] rfl F9 N2 hr9 hc9a hc9b (by with_reducible assumption) hms32b (by first | omega | ktn_no "m:ln") (by with_reducible assumption) ?compT34 ?compD34
        case compT34 =>
          clear N2 F9 hr9
          intro zs vs1 n1 ms1 nm1 Ss Tn Ic oI Cc oC Dc m₂ hh9 tkc E8 P8 hro1 hms1 hlen9 hsC hO3 hC F1 N1 hoff3 hn123 hP8
          have hn1 := hn123.1
          have hn2 := hn123.2.1
          have hn3 := hn123.2.2
          dsimp only [List.cons_append, List.nil_append] at N1 hoff3
          replace mC1 := hsC _ mC1
          try dsimp only
          try k_fold
          ktn_no "m:w"
          k_dflt (refine' src_call ?B ?F ?X ?N ?D ?P ?O ?A ?g1 ?g2 ?g3 ?g4 ?g5 ?g6 ?T ?K ?d ?u ?_)
          case B => k_asm
          case F => k_asm
          case X => k_asm
          case N => k_asm
          case T => k_asm
          case K => first | exact rfl | assumption
          case d => ktr_room
          case u => ktr_units
          case D => ktn_no "m:dels"
          case P => ktn_no "m:pre"
          case O => with_reducible assumption
          case A => ktn_no "m:adr"
          case g1 => k_ne
          case g2 => ktn_no "m:off"
          case g3 => ktn_no "m:off"
          case g4 => with_reducible assumption
          case g5 => first | with_reducible assumption | exact .nil
          case g6 => first | omega | ktn_no "m:ln"
          intro S34 sa34 vs34 n34 ms34 nm34 Tm h34 tk34 F34 N34 hsT O34 hro34 hms34 hS34 hSl34 hSb34
          dsimp only [List.cons_append, List.nil_append] at N34
          (try k_sweep)
          (try dsimp only)
          (try k_fold)
          ktn_no "m:w"
          with_reducible rename News _ _ _ _ => N9
          with_reducible rename Fr _ _ _ _ => F9
          exact comp_fin (mid := [(I, io), (due, listOf (List.toArray ds) kd), (las, listOf (List.toArray (es1.map Ent.v)) k1), (lga, listOf (List.toArray (es2.map Ent.v)) k2), (lud, listOf (List.toArray (es3.map Ent.v)) k3), ((s1.heap.objs.size + 1 + 1), _)]) F9 N9 hoff3 O34 (hP8 _ _ _ _ _ S34 _ hro34 hms34 hsT O34 hS34 hSl34 hSb34)
        case compD34 =>
          clear N2 F9 hr9
          intro zs vs1 n1 ms1 nm1 Ss Tn g9 hSsl hro1 hms1 hSs hSsok hsT hOn
          unfold LCg.FinA
          intro li34 hh9 tkc F1 N1 o1f
          dsimp only [List.cons_append, List.nil_append] at N1 o1f
          try dsimp only
          try k_fold
          replace hs := hyp_trans hs hsT
          replace mC1 := hsT _ mC1
          replace hG32 := hG32.mono hsT
          clear hsT
          have hSl9 : Ss.length ≤ 3 := by omega
          have hzl9 : zs.length ≤ 100 := by rw [hSs.length]; omega
          ktn_no "m:w"
          with_reducible rename News _ _ _ _ => N9
          with_reducible rename Fr _ _ _ _ => F9
          refine hide_then (ins := [(ring, _), (met9, _), (I, _), (due, _), (las, _), (lga, _), (lud, _), ((s1.heap.objs.size + 1 + 1), _)]) (told := Tn) (adr := (met9 :: I :: [ring, due, las, lga, lud, (s1.heap.objs.size + 1 + 1)])) N9 (by ktn_no "m:dels") (by ktn_no "m:sbt") (by ktn_no "m:own") ?_
          clear N9
          intro T5 N2 hsT hOT5 hmk
          dsimp only [List.cons_append, List.nil_append] at N2
          have hli34 : (li34, listOf (List.toArray zs) zs.length) ∈ T5 := hmk _ (by ktn_no "m:mm")
          clear hmk
          replace hs := hyp_trans hs hsT
          replace mC1 := hsT _ mC1
          replace hG32 := hG32.mono hsT
          replace hSs := hSs.mono hsT
          clear hsT
          k_dflt (refine' prim_call ?B ?F ?X ?N ?P ?O ?A ?T ?K ?d ?u ?_)
          case B => k_asm
          case F => k_asm
          case X => k_asm
          case N => k_asm
          case T => k_asm
          case K => first | exact rfl | assumption
          case d => ktr_room
          case u => ktr_units
          case P => ktn_no "m:pre"
          case O => with_reducible assumption
          case A => ktn_no "m:adr"
          intro x35 d35 n35 a0 a1 a2 a3 a4 a5 a6 T6 h35 tk35 F35 N35 hsT O35 mx35 md35
          dsimp only [List.cons_append, List.nil_append] at N35
          (try k_sweep)
          (try dsimp only)
          (try k_fold)
          replace hs := hyp_trans hs hsT
          replace mC1 := hsT _ mC1
          replace hG32 := hG32.mono hsT
          replace hSs := hSs.mono hsT
          replace hli34 := hsT _ hli34
          clear hsT
          have mX := hs _ (hB _ hX)
          have mD := hs _ (hB _ hD0)
          ktn_no "m:w"
          k_dflt (refine' udp_call ?B ?F ?X ?N ?P ?O ?A ?T ?K ?d ?u ?_)
          case B => k_asm
          case F => k_asm
          case X => k_asm
          case N => k_asm
          case T => k_asm
          case K => first | exact rfl | assumption
          case d => ktr_room
          case u => ktr_units
          case P => ktn_no "m:pre"
          case O => with_reducible assumption
          case A => ktn_no "m:adr"
          intro x36 d36 n36 a0 a1 a2 a3 a4 T7 h36 tk36 F36 N36 hsT O36 mx36 md36
          dsimp only [List.cons_append, List.nil_append] at N36
          (try k_sweep)
          (try dsimp only)
          (try k_fold)
          replace hs := hyp_trans hs hsT
          replace mC1 := hsT _ mC1
          replace hG32 := hG32.mono hsT
          replace hSs := hSs.mono hsT
          replace hli34 := hsT _ hli34
          replace mx35 := hsT _ mx35
          replace md35 := hsT _ md35
          clear hsT
          ktn_no "m:w"
          with_reducible rename News _ _ _ _ => N9
          with_reducible rename Fr _ _ _ _ => F9
          refine' law_close3 ⟨_, ⟨2, _, none, false, [G32], Ss, f9⟩, [.ref ga32]⟩ F9 N9 ?hd9 ?ho9 hA hP ?hk9 hE1 hE2 hE3 hD hOk hB ?hs9 ?hr9 ?hc9 ?hI9 rfl ?hok9 ?hdu9 rfl
          case hd9 => ktn_no "m:dels"
          case ho9 => ktn_no "m:own"
          case hk9 => ktn_no "m:keep"
          case hs9 => exact fun p hp => (by have h9 := hs p hp; ktn_no "m:sb")
          case hr9 => with_reducible assumption
          case hc9 => with_reducible assumption
          case hI9 => exact udp_item (M1 := T7) (M2 := T7) (by ktn_no "m:sb") (by ktn_no "m:sb") (by ktn_no "m:sb") (by ktn_no "m:sb") (by ktn_no "m:mm") (by ktn_no "m:sbt") (by ktn_no "m:sbt") hzl9 hG32 hSs
          case hok9 => exact udp_ok hGl32 hGb32 hSsok hSl9
          case hdu9 => exact udp_due (by ktn_no "m:mm") ⟨_, _, _, rfl, by ktn_no "m:mm"⟩ (by ktn_no "m:mm") (by ktn_no "m:mm") (by ktn_no "m:mm") (by ktn_no "m:mm") hms1 (by assumption) hSs.length hGl32 hSsok hSl9


      case done3 =>
        clear F9 N9
        intro u9 es3 vs n ds kd k1 k2 k3 o3 c3 T1 h tk hb3 hro hc3 hO hB hE1 hE2 hE3 hD hOk F1 N1
        try dsimp only [envOf, envOfC] at F1 N1
        have mC1 := hB _ mC0
        try k_fold
        ktn_no "m:w"
        with_reducible rename News _ _ _ _ => N9
        with_reducible rename Fr _ _ _ _ => F9
        refine hide_then (ins := [((s1.heap.objs.size + 1 + 1), _)]) (told := T1) (adr := [(s1.heap.objs.size + 1 + 1)]) N9 (by ktn_no "m:dels") (by ktn_no "m:sbt") (own_last hO hA0) ?_
        clear N9
        intro T2 N2 hsT hO2 hmk
        dsimp only [List.cons_append, List.nil_append] at N2
        k_dflt (refine' mk_call (es1 := es1) (es2 := es2) (es3 := es3) (due := due) (ds := ds) ?B ?F ?X ?N ?g1 ?g2 ?g3 ?g4 ?g5 ?g6 ?g7 (hE1.mono hsT) (hE2.mono hsT) (hE3.mono hsT) (hD.mono hsT) hOk hb1 hb2 ?g8 hO2 ?T ?K ?d ?u ?_)
        case B => k_asm
        case F => k_asm
        case X => k_asm
        case N => k_asm
        case T => k_asm
        case K => first | exact rfl | assumption
        case d => ktr_room
        case u => ktr_units
        case g1 => exact hsT _ (hB _ hX)
        case g2 => exact hsT _ (hB _ hD0)
        case g3 => exact hmk _ (by ktn_no "m:mm")
        case g4 => exact hmk _ (by ktn_no "m:mm")
        case g5 => exact hmk _ (by ktn_no "m:mm")
        case g6 => exact hmk _ (by ktn_no "m:mm")
        case g7 => exact hsT _ mC1
        case g8 => omega
        clear mC1
        intro mk50 els50 n50 V es c h50 tk50 F50 N50 hO51 mC9 mmk mdu hEls hDs hIt hOkE hcl hel hdl hc12 hc100
        (try k_sweep)
        (try dsimp only)
        (try k_fold)
        clear hE1 hE2 hE3 hD hOk hO hB hsT hmk hO2
        have hzl : els50.length ≤ 1000 := by omega
        have hzd : ds.length ≤ 1000 := by omega
        ktn_no "m:w"
        with_reducible rename News _ _ _ _ => N9
        with_reducible rename Fr _ _ _ _ => F9
        with_reducible rename IsRange _ _ _ _ _ _ _ _ => hr9
        refine loop_last [Str.ofString "element", Str.ofString "kind", Str.ofString "at", Str.ofString "strength", Str.ofString "goals", Str.ofString "state"] rfl (by exact hr9) hc12 F9 N9 hc3 hO51 ?turn4 ?done4
        case turn4 =>
          clear F9 N9
          intro i ti u s9 o9 c9 T I io P9 Q9 E9 hi hc9 hOI hA4 hsV hP F1 N1
          try dsimp only [envOf, envOfC] at F1 N1
          obtain ⟨e, he⟩ : ∃ e, es[i]? = some e := ⟨_, List.getElem?_eq_getElem (by omega)⟩
          obtain ⟨el, hx1, hEl⟩ := els_get hEls he
          obtain ⟨d, hx2, hDe⟩ := dues_get hDs he
          have hItm := (hIt e (List.mem_of_getElem? he)).mono hsV
          have hOkm := hOkE e (List.mem_of_getElem? he)
          replace hEl := hEl.mono hsV
          replace hDe := hDe.mono hsV
          replace hx1 := lst_getN hx1
          replace hx2 := lst_getN hx2
          clear he hIt hOkE hEls hDs hel hdl hc12 hc100 hcl
          replace mC9 := hsV _ mC9
          replace mmk := hsV _ mmk
          replace mdu := hsV _ mdu
          have hEl9 := hEl
          have hgl := item_len hItm
          cases hDe with
          | @mk d gl ml e stv sv ng nm mvs ks t0 t1 m1 h1 m2 m3 h2 h3 h4 h5 h6 =>
          cases hEl with
          | @mk el de x inp i ne ni I9 stw ivs u0 u1 u2 u3 u4 u5 u6 u7 u8 u9x q0 q1 q2 q3 g1 g2 gs g3 gi =>
          k_dflt obtain ⟨sw, sw0, sw1, rfl, gsm⟩ := gs
          k_dflt obtain ⟨st, st0, st1, rfl, hsm⟩ := h1
          have hst := StatIn.of h5 h6
          clear h5 h6
          try k_fold
          ktn_no "m:w"
          k_dflt (refine' at_item hItm ?B ?F ?N ?hV ?T ?h ?X)
          case B => k_dflt k_asm
          case F => k_asm
          case N => k_asm
          case hV => ktn_no "m:sbt"
          case T => k_asm
          case X => k_asm
          case h =>
          intro t60 tk60
          try dsimp only
          try k_fold
          ktn_no "m:w"
          with_reducible rename News _ _ _ _ => N9
          with_reducible rename Fr _ _ _ _ => F9
          refine ne_head (T1 := T) (T2 := T) (p := e.I.eff) N9 (by ktn_no "m:mm") (by ktn_no "m:mm") (name_ok _) ⟨_, _, _, rfl, gsm⟩ (by ktn_no "m:sbt") ⟨_, _, _, rfl, hsm⟩ (by ktn_no "m:sbt") (by k_units) ?_
          try dsimp only
          try k_fold
          ktn_no "m:w"
          k_dflt (refine' tgts_call ?B ?F ?X ?N ?P ?O ?A hEl9 hItm ?T ?K ?d ?u ?_)
          case B => k_asm
          case F => k_asm
          case X => k_asm
          case N => k_asm
          case T => k_asm
          case K => first | exact rfl | assumption
          case d => ktr_room
          case u => ktr_units
          case P => ktn_no "m:pre"
          case O => with_reducible assumption
          case A => ktn_no "m:adr"
          intro r61 T5 h61 tk61 F61 N61 hsT O61 hsq
          dsimp only [List.cons_append, List.nil_append] at N61
          (try k_sweep)
          (try dsimp only)
          (try k_fold)
          clear gsm hsm
          replace hItm := hItm.mono hsT
          replace hEl9 := hEl9.mono hsT
          replace hst := hst.mono hsT
          replace g1 := hsT _ g1
          replace g2 := hsT _ g2
          replace g3 := hsT _ g3
          replace m2 := hsT _ m2
          replace m3 := hsT _ m3
          replace mC9 := hsT _ mC9
          replace mmk := hsT _ mmk
          replace mdu := hsT _ mdu
          replace hsV := hyp_trans hsV hsT
          clear hsT
          ktn_no "m:w"
          with_reducible rename News _ _ _ _ => N9
          with_reducible rename Fr _ _ _ _ => F9
          refine ne_same_lists N9 (by ktn_no "m:mm") (by ktn_no "m:sb") (by k_units) ?_
          try dsimp only
          try k_fold
          ktn_no "m:w"
          k_dflt (refine' elreads_call ?B ?F ?X ?N ?P ?O ?A hEl9 hItm hOkm ?T ?K ?d ?u ?_)
          case B => k_asm
          case F => k_asm
          case X => k_asm
          case N => k_asm
          case T => k_asm
          case K => first | exact rfl | assumption
          case d => ktr_room
          case u => ktr_units
          case P => ktn_no "m:pre"
          case O => with_reducible assumption
          case A => ktn_no "m:adr"
          intro r62 kvs n62 T6 h62 tk62 F62 N62 hsT O62 mk62 hkv
          dsimp only [List.cons_append, List.nil_append] at N62
          (try k_sweep)
          (try dsimp only)
          (try k_fold)
          clear hItm hEl9 hsq m2
          replace hst := hst.mono hsT
          replace g1 := hsT _ g1
          replace g2 := hsT _ g2
          replace g3 := hsT _ g3
          replace m3 := hsT _ m3
          replace mC9 := hsT _ mC9
          replace mmk := hsT _ mmk
          replace mdu := hsT _ mdu
          replace hsV := hyp_trans hsV hsT
          clear hsT
          ktn_no "m:w"
          with_reducible rename News _ _ _ _ => N9
          with_reducible rename Fr _ _ _ _ => F9
          with_reducible rename Obj.data _ = Data.cell (some (Value.ref ml)) => hcm9
          refine hide_then (ins := [(I, _), ((s1.heap.objs.size + 1 + 1), _)]) (told := T6) (adr := [I, (s1.heap.objs.size + 1 + 1)]) N9 (by ktn_no "m:dels") (by ktn_no "m:sbt") (by ktn_no "m:own") ?_
          clear N9
          intro T7 N7 hsT hO7 hmk
          clear hmk
          dsimp only [List.cons_append, List.nil_append] at N7
          replace hst := hst.mono hsT
          replace mk62 := hsT _ mk62
          replace g1 := hsT _ g1
          replace g2 := hsT _ g2
          replace g3 := hsT _ g3
          replace m3 := hsT _ m3
          replace mC9 := hsT _ mC9
          replace mmk := hsT _ mmk
          replace mdu := hsT _ mdu
          replace hsV := hyp_trans hsV hsT
          clear hsT
          k_dflt (refine LCt.ListComp_T (F₀ := by k_asm) (by with_unfolding_all rfl) (by decide) (by rfl) (by decide) (by rfl) ?_)
          ktn_no "m:w"
          with_reducible rename News _ _ _ _ => N9
          with_reducible rename Fr _ _ _ _ => F9
          with_reducible rename IsRange _ _ _ _ _ _ _ _ => hr9
          refine comp_rangeT (n := 6) (news := (I, _) :: ((s1.heap.objs.size + 1 + 1), _) :: T7) (fun i ys nx => nx = (I, _) :: ((s1.heap.objs.size + 1 + 1), _) :: T7 ∧ IntsAre ys (kfil ks i)) rfl F9 N9 hr9 (by rfl) (by rfl) (by rw [sizeLine_eq]; omega) (by exact fun p hp => hp) ⟨rfl, .nil⟩ ?compT63 ?compD63
          case compT63 =>
            clear N9 F9 hr9
            rintro j ys nx Ic oI Cc oC Dc m₂ hh9 tkc E8 tx hj ⟨rfl, hys⟩ hC hx F1 N1 hoff3 ⟨hn1, hn2, hn3⟩
            try dsimp only
            try k_fold
            ktn_no "m:w"
            with_reducible rename News _ _ _ _ => N9
            refine in_ints N9 (by ktn_no "m:sb") h2 (fun hk9 => ?_) (fun hk9 => ?_)
            · try dsimp only
              try k_fold
              ktn_no "m:w"
              with_reducible rename News _ _ _ _ => N8
              refine LCg.CompEnd.intro (by k_asm) N8 ((I, _) :: ((s1.heap.objs.size + 1 + 1), _) :: T7) (by exact fun p hp => hp) (hoff3) trivial ⟨rfl, kfil_in hys hk9⟩
            · try dsimp only
              try k_fold
              try ktn_no "m:w"
              with_reducible rename News _ _ _ _ => N8
              refine LCg.CompEnd.intro (by k_asm) N8 ((I, _) :: ((s1.heap.objs.size + 1 + 1), _) :: T7) (by exact fun p hp => hp) (hoff3) trivial ⟨rfl, kfil_out hys hk9⟩
          case compD63 =>
            clear N9 F9 hr9
            rintro ys nx g9 ⟨rfl, hys⟩
            unfold LCg.FinE
            rintro D63 hh9 tkc F1 N1 o1f
            try dsimp only
            try k_fold
            ktn_no "m:w"
            refine ne_ints_led N1 (by ktn_no "m:sb") (by ktn_no "m:mm") hkv hys (kfil_srt h3) (by k_units) ?_
            try dsimp only
            try k_fold
            ktn_no "m:w"
            rcases hst with ⟨rfl, hs9, hi9⟩ | ⟨sq9, l9, nl9, iv9, tq9, rfl, ms9, ml9, hi9⟩
            · try k_fold
              walk1
              ktn_no "m:w"
              with_reducible rename News _ _ _ _ => N9
              with_reducible rename Fr _ _ _ _ => F9
              rw [hs9] at N9
              rw [hi9] at gi
              refine ne_tail N9 (by ktn_no "m:mm") (by ktn_no "m:mm") (by ktn_no "m:sb") (by ktn_no "m:mm") gi .nil (by k_units) ?_
              try dsimp only
              try k_fold
              ktn_no "m:w"
              with_reducible rename News _ _ _ _ => N9
              with_reducible rename Fr _ _ _ _ => F9
              refine last_close F9 N9 (by ktn_no "m:dels") (by ktn_no "m:own") hA4 hP (by ktn_no "m:keep") hcm9 (fun p hp => (by have h9 := hsV p hp; ktn_no "m:sb"))
            · try k_fold
              walk1
              ktn_no "m:w"
              with_reducible rename News _ _ _ _ => N9
              with_reducible rename Fr _ _ _ _ => F9
              refine ne_tail N9 (by ktn_no "m:mm") (by ktn_no "m:sb") (by ktn_no "m:sb") (by ktn_no "m:sb") gi hi9 (by k_units) ?_
              try dsimp only
              try k_fold
              ktn_no "m:w"
              with_reducible rename News _ _ _ _ => N9
              with_reducible rename Fr _ _ _ _ => F9
              refine last_close F9 N9 (by ktn_no "m:dels") (by ktn_no "m:own") hA4 hP (by ktn_no "m:keep") hcm9 (fun p hp => (by have h9 := hsV p hp; ktn_no "m:sb"))

        case done4 =>
          clear F9 N9
          intro u9 nx h tk F1 N1
          try dsimp only [envOf, envOfC] at F1 N1
          try k_fold
          dsimp only
          iterate 3 (ktn_no "m:one")
          dsimp only
          (try k_unfold)
          (try dsimp only)
          w_end
          exact goodW_bool (by assumption) (by assumption) (raisesW_false (by first | (intro _; rfl) | rfl | wrow_none_raised)) (law_post _)





end Mine
theorem PySem.Challenge.cw_pq0458_01_holds : PySem.Challenge.rw_pq0458_01.Holds := by
  exact Mine.law_holds
