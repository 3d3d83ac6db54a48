import PyProof.Rows.All
import Wide.All
import OpenK.AllK
import Wide.FinOn
import PySem.Challenge.RW_og0001_01
open PySem PySem.W PyProof.Rows PySem.Calls
set_option Elab.async false
set_option compiler.extract_closed false
set_option linter.all false
set_option linter.unusedVariables false
set_option maxRecDepth 100000
set_option maxHeartbeats 8000000
namespace Mine
section
local macro_rules | `(tactic| walk_at "hrw") => `(tactic| ((try rw [PySem.W.Fast.te15667345088766844465]); (try rw [PySem.W.Fast.te14374325043358763698]); (try rw [PySem.W.Fast.te10110043849684766642]); (try rw [PySem.W.Fast.te14082659384304107361]); (try rw [PySem.W.Fast.te11892475500146522536]); rw [PySem.W.Fast.te14364793385576792824]))
noncomputable def nthS : List Stmt → Nat → Stmt
  | [], _ => .Pass ⟨0, 0, 0, 0⟩
  | s :: _, 0 => s
  | _ :: r, n + 1 => nthS r n
noncomputable def cutS (l : List Stmt) (i n : Nat) : List Stmt := (l.drop i).take n
noncomputable def cBody : Stmt → List Stmt
  | .ClassDef _ _ _ b .. => b
  | _ => []
noncomputable def fArgs : Stmt → Arguments
  | .FunctionDef _ a .. => a
  | _ => ⟨[], [], none, [], [], none, []⟩
noncomputable def fBody : Stmt → List Stmt
  | .FunctionDef _ _ b .. => b
  | _ => []
noncomputable def fScope : Stmt → Scope
  | .FunctionDef _ _ _ _ _ _ s .. => s
  | _ => ⟨.function, [], false, false, []⟩
noncomputable def fPos : Stmt → Pos
  | .FunctionDef _ _ _ _ _ _ _ _ _ p => p
  | _ => ⟨0, 0, 0, 0⟩
noncomputable def sd1_0 : Stmt := nthS (cBody (nthS Challenge.pw_og0001_01.main.body 1)) 0
noncomputable def sd2_0 : Stmt := nthS (cBody (nthS Challenge.pw_og0001_01.main.body 2)) 0
noncomputable def sd3_0 : Stmt := nthS (cBody (nthS Challenge.pw_og0001_01.main.body 3)) 0
noncomputable def sd4_0 : Stmt := nthS (cBody (nthS Challenge.pw_og0001_01.main.body 4)) 0
noncomputable def sd5_0 : Stmt := nthS (cBody (nthS Challenge.pw_og0001_01.main.body 5)) 0
noncomputable def sd6_0 : Stmt := nthS (cBody (nthS Challenge.pw_og0001_01.main.body 6)) 0
noncomputable def sd7_0 : Stmt := nthS (cBody (nthS Challenge.pw_og0001_01.main.body 7)) 0
noncomputable def sd8_0 : Stmt := nthS (cBody (nthS Challenge.pw_og0001_01.main.body 8)) 0
noncomputable def sd9_0 : Stmt := nthS (cBody (nthS Challenge.pw_og0001_01.main.body 9)) 0
noncomputable def sd11 : Stmt := nthS Challenge.pw_og0001_01.main.body 11
noncomputable def sd12 : Stmt := nthS Challenge.pw_og0001_01.main.body 12
noncomputable def sd13 : Stmt := nthS Challenge.pw_og0001_01.main.body 13
noncomputable def sd14_0 : Stmt := nthS (cBody (nthS Challenge.pw_og0001_01.main.body 14)) 0
noncomputable def sd14_1 : Stmt := nthS (cBody (nthS Challenge.pw_og0001_01.main.body 14)) 1
noncomputable def sd14_2 : Stmt := nthS (cBody (nthS Challenge.pw_og0001_01.main.body 14)) 2
noncomputable def sd14_3 : Stmt := nthS (cBody (nthS Challenge.pw_og0001_01.main.body 14)) 3
noncomputable def sd14_4 : Stmt := nthS (cBody (nthS Challenge.pw_og0001_01.main.body 14)) 4
noncomputable def sd15 : Stmt := nthS Challenge.pw_og0001_01.main.body 15
noncomputable def sd16 : Stmt := nthS Challenge.pw_og0001_01.main.body 16
noncomputable def sd17 : Stmt := nthS Challenge.pw_og0001_01.main.body 17
noncomputable def sd19 : Stmt := nthS Challenge.pw_og0001_01.main.body 19
noncomputable def sd20 : Stmt := nthS Challenge.pw_og0001_01.main.body 20
noncomputable def sd21 : Stmt := nthS Challenge.pw_og0001_01.main.body 21
noncomputable def sd22 : Stmt := nthS Challenge.pw_og0001_01.main.body 22
noncomputable def sd23 : Stmt := nthS Challenge.pw_og0001_01.main.body 23
noncomputable def sd24 : Stmt := nthS Challenge.pw_og0001_01.main.body 24
noncomputable def sd25 : Stmt := nthS Challenge.pw_og0001_01.main.body 25
noncomputable def sd26 : Stmt := nthS Challenge.pw_og0001_01.main.body 26
noncomputable def sd27 : Stmt := nthS Challenge.pw_og0001_01.main.body 27
noncomputable def sd28 : Stmt := nthS Challenge.pw_og0001_01.main.body 28
noncomputable def sd29 : Stmt := nthS Challenge.pw_og0001_01.main.body 29
noncomputable def sd30 : Stmt := nthS Challenge.pw_og0001_01.main.body 30
noncomputable def sd31 : Stmt := nthS Challenge.pw_og0001_01.main.body 31
noncomputable def sd32 : Stmt := nthS Challenge.pw_og0001_01.main.body 32
noncomputable def sd33 : Stmt := nthS Challenge.pw_og0001_01.main.body 33
noncomputable def sd34 : Stmt := nthS Challenge.pw_og0001_01.main.body 34
noncomputable def sd35 : Stmt := nthS Challenge.pw_og0001_01.main.body 35
noncomputable def sd36 : Stmt := nthS Challenge.pw_og0001_01.main.body 36
noncomputable def ob0 (P : Params) : Obj := ⟨(.type "code"), none, (.fields #[(.str (Str.ofString "<module>") 182), (.str (Str.ofString "<module>") 183), (.str (Str.ofString "/claim/cut.py") 184), (.int 1 0), (.int 0 0), (.int 0 0), (.int 0 0), (.int 0 0), (.ref 11), (.bool false), (.int 181 0), (.ref 12), .none, .none, .none, .none, (.int 185 0), (.int 1 0), (.str (Str.ofString "/claim/cut.py") 186)]), #[]⟩
noncomputable def ob1 (P : Params) : Obj := ⟨(.type "frame"), none, .plain, #[some (.ref 13), some (.ref 3), some (.ref 3), none, some (.str (Str.ofString "__main__") 164), none, some (.ref 0)]⟩
noncomputable def hpA (P : Params) : Heap := ⟨⟨[boot_o_0 P, boot_o_1 P, boot_o_2 P, boot_o_3 P, boot_o_4 P, boot_o_5 P, boot_o_6 P, boot_o_7 P, boot_o_8 P, boot_o_9 P, boot_o_10 P, boot_o_7 P, boot_o_8 P, ob0 P, ob1 P]⟩, {}⟩
noncomputable def tr0 (P : Params) : BT := (.node (boot_o_0 P) (.node (boot_o_1 P) (.node (boot_o_3 P) (.node (boot_o_7 P) .nil .nil) (.node (boot_o_7 P) .nil .nil)) (.node (boot_o_5 P) (.node (boot_o_9 P) .nil .nil) (.node (ob0 P) .nil .nil))) (.node (boot_o_2 P) (.node (boot_o_4 P) (.node (boot_o_8 P) .nil .nil) (.node (boot_o_8 P) .nil .nil)) (.node (boot_o_6 P) (.node (boot_o_10 P) .nil .nil) (.node (ob1 P) .nil .nil))))
noncomputable def ob2 (P : Params) : Obj := ⟨(.type "dict"), none, (.dict #[⟨(PyData.keyHash P (Str.ofString "__name__")), (.str (Str.ofString "__name__") 165), (.str (Str.ofString "lazycore.stg") 187)⟩, ⟨(PyData.keyHash P (Str.ofString "__doc__")), (.str (Str.ofString "__doc__") 166), .none⟩, ⟨(PyData.keyHash P (Str.ofString "__package__")), (.str (Str.ofString "__package__") 167), .none⟩, ⟨(PyData.keyHash P (Str.ofString "__loader__")), (.str (Str.ofString "__loader__") 168), (.builtin "__main__.__loader__#opaque")⟩, ⟨(PyData.keyHash P (Str.ofString "__spec__")), (.str (Str.ofString "__spec__") 169), .none⟩, ⟨(PyData.keyHash P (Str.ofString "__annotations__")), (.str (Str.ofString "__annotations__") 170), (.ref 6)⟩, ⟨(PyData.keyHash P (Str.ofString "__builtins__")), (.str (Str.ofString "__builtins__") 171), (.ref 4)⟩, ⟨(PyData.keyHash P (Str.ofString "__file__")), (.str (Str.ofString "__file__") 173), (.str (Str.ofString "/claim/cut.py") 172)⟩, ⟨(PyData.keyHash P (Str.ofString "__cached__")), (.str (Str.ofString "__cached__") 174), .none⟩, ⟨(PyData.keyHash P (Str.ofString "SAtom")), (.str (Str.ofString "SAtom") 217), (.ref 31)⟩] 10), #[]⟩
noncomputable def ob3 (P : Params) : Obj := ⟨.none, none, (.fields #[(.int 2 0), (.int 0 0), (.ref 20)]), #[]⟩
noncomputable def ob4 (P : Params) : Obj := ⟨(.type "builtin_function_or_method"), none, (.fields #[(.builtin "type.__prepare__"), (.type "type")]), #[]⟩
noncomputable def ob5 (P : Params) : Obj := ⟨(.type "dict"), none, (.dict #[⟨(PyData.keyHash P (Str.ofString "__module__")), (.str (Str.ofString "__module__") 196), (.str (Str.ofString "lazycore.stg") 187)⟩, ⟨(PyData.keyHash P (Str.ofString "__qualname__")), (.str (Str.ofString "__qualname__") 198), (.str (Str.ofString "SAtom") 197)⟩, ⟨(PyData.keyHash P (Str.ofString "__firstlineno__")), (.str (Str.ofString "__firstlineno__") 200), (.int 2 199)⟩, ⟨(PyData.keyHash P (Str.ofString "__init__")), (.str (Str.ofString "__init__") 208), (.ref 28)⟩, ⟨(PyData.keyHash P (Str.ofString "__static_attributes__")), (.str (Str.ofString "__static_attributes__") 210), (.ref 29)⟩] 5), #[]⟩
noncomputable def ob6 (P : Params) : Obj := ⟨.none, none, (.fields #[(.int 4 0), (.int 4 0), (.ref 27)]), #[]⟩
noncomputable def ob7 (P : Params) : Obj := ⟨(.type "code"), none, (.fields #[(.str (Str.ofString "SAtom") 191), (.str (Str.ofString "SAtom") 192), (.str (Str.ofString "/claim/cut.py") 193), (.int 2 0), (.int 0 0), (.int 0 0), (.int 0 0), (.int 0 0), (.ref 18), (.bool false), (.int 181 0), (.ref 19), .none, .none, .none, .none, (.int 194 0), (.int 2 0), (.str (Str.ofString "/claim/cut.py") 195)]), #[]⟩
noncomputable def ob8 (P : Params) : Obj := ⟨(.type "frame"), none, .plain, #[some (.ref 20), some (.ref 3), some (.ref 17), none, some (.str (Str.ofString "lazycore.stg") 187), none, some (.ref 0)]⟩
noncomputable def ob9 (P : Params) : Obj := ⟨(.type "tuple"), none, (.seq #[(.str (Str.ofString "self") 204), (.str (Str.ofString "atom") 205)] 0), #[]⟩
noncomputable def ob10 (P : Params) : Obj := ⟨.none, none, (.func { name := (Str.ofString "__init__"), qualname := (Str.ofString "SAtom.__init__"), params := fArgs sd1_0, body := .stmts (fBody sd1_0), scope := fScope sd1_0, globals := 0, closure := [], defaults := .none, kwdefaults := .none, doc := .none, pyModule := .none, annotations := none, code := .none, closureTuple := .none, builtins := 0 }), #[]⟩
noncomputable def ob11 (P : Params) : Obj := ⟨(.type "code"), none, (.fields #[(.str (Str.ofString "__init__") 201), (.str (Str.ofString "SAtom.__init__") 202), (.str (Str.ofString "/claim/cut.py") 203), (.int 4 0), (.int 2 0), (.int 0 0), (.int 0 0), (.int 3 0), (.ref 22), (.bool true), (.int 181 0), (.ref 23), .none, (.ref 24), (.ref 25), (.ref 26), (.int 206 0), (.int 4 0), (.str (Str.ofString "/claim/cut.py") 207)]), #[]⟩
noncomputable def ob12 (P : Params) : Obj := ⟨(.type "function"), none, (.func { name := (Str.ofString "__init__"), qualname := (Str.ofString "SAtom.__init__"), params := fArgs sd1_0, body := .stmts (fBody sd1_0), scope := fScope sd1_0, globals := 3, closure := [], defaults := .none, kwdefaults := .none, doc := .none, pyModule := (.str (Str.ofString "lazycore.stg") 187), annotations := none, code := (.ref 27), closureTuple := .none, builtins := 0 }), #[]⟩
noncomputable def ob13 (P : Params) : Obj := ⟨(.type "tuple"), none, (.seq #[(.str (Str.ofString "atom") 209)] 0), #[]⟩
noncomputable def ob14 (P : Params) : Obj := ⟨(.type "dict"), none, (.dict #[⟨(PyData.keyHash P (Str.ofString "__module__")), (.str (Str.ofString "__module__") 196), (.str (Str.ofString "lazycore.stg") 187)⟩, ⟨(PyData.keyHash P (Str.ofString "__firstlineno__")), (.str (Str.ofString "__firstlineno__") 200), (.int 2 199)⟩, ⟨(PyData.keyHash P (Str.ofString "__init__")), (.str (Str.ofString "__init__") 208), (.ref 28)⟩, ⟨(PyData.keyHash P (Str.ofString "__static_attributes__")), (.str (Str.ofString "__static_attributes__") 210), (.ref 29)⟩, ⟨(PyData.keyHash P (Str.ofString "__dict__")), (.str (Str.ofString "__dict__") 212), (.ref 32)⟩, ⟨(PyData.keyHash P (Str.ofString "__weakref__")), (.str (Str.ofString "__weakref__") 214), (.ref 33)⟩, ⟨(PyData.keyHash P (Str.ofString "__doc__")), (.str (Str.ofString "__doc__") 215), .none⟩] 4), #[]⟩
noncomputable def ob15 (P : Params) : Obj := ⟨(.type "type"), none, (.cls { name := (Str.ofString "SAtom"), bases := [(.type "object")], mro := [(.ref 31), (.type "object")], ns := 30, qualname := (Str.ofString "SAtom"), hasDict := true, slotNames := [], subclasses := [], abstract := false, collection := none, hasDel := false }), #[none, none, some (.str (Str.ofString "SAtom") 189), some (.str (Str.ofString "SAtom") 197), some (.builtin "object.__new__"), some (.bool true)]⟩
noncomputable def ob16 (P : Params) : Obj := ⟨(.type "getset_descriptor"), none, (.fields #[(.str (Str.ofString "__dict__") 211), (.ref 31), (.builtin "function.__dict__"), (.builtin "function.__dict__#set")]), #[]⟩
noncomputable def ob17 (P : Params) : Obj := ⟨(.type "getset_descriptor"), none, (.fields #[(.str (Str.ofString "__weakref__") 213), (.ref 31), (.builtin "ExceptionGroup.__weakref__"), .none]), #[]⟩
noncomputable def ob18 (P : Params) : Obj := ⟨(.type "super"), none, (.fields #[(.ref 31), (.ref 31), (.ref 31)]), #[]⟩
noncomputable def ob19 (P : Params) : Obj := ⟨(.type "builtin_function_or_method"), none, (.fields #[(.builtin "object.__init_subclass__"), (.ref 31)]), #[]⟩
noncomputable def tr1 (P : Params) : BT := (.node (boot_o_0 P) (.node (boot_o_1 P) (.node (ob2 P) (.node (boot_o_7 P) (.node (boot_o_7 P) (.node (ob15 P) .nil .nil) .nil) (.node (boot_o_8 P) .nil .nil)) (.node (boot_o_7 P) (.node (ob6 P) (.node (ob19 P) .nil .nil) .nil) (.node (ob11 P) .nil .nil))) (.node (boot_o_5 P) (.node (boot_o_9 P) (.node (ob5 P) (.node (ob17 P) .nil .nil) .nil) (.node (boot_o_7 P) .nil .nil)) (.node (ob0 P) (.node (ob8 P) .nil .nil) (.node (ob13 P) .nil .nil)))) (.node (boot_o_2 P) (.node (boot_o_4 P) (.node (boot_o_8 P) (.node (ob4 P) (.node (ob16 P) .nil .nil) .nil) (.node (ob9 P) .nil .nil)) (.node (ob3 P) (.node (ob7 P) .nil .nil) (.node (ob12 P) .nil .nil))) (.node (boot_o_6 P) (.node (boot_o_10 P) (.node (boot_o_7 P) (.node (ob18 P) .nil .nil) .nil) (.node (ob10 P) .nil .nil)) (.node (ob1 P) (.node (boot_o_7 P) .nil .nil) (.node (ob14 P) .nil .nil)))))
noncomputable def ob20 (P : Params) : Obj := ⟨(.type "dict"), none, (.dict #[⟨(PyData.keyHash P (Str.ofString "__name__")), (.str (Str.ofString "__name__") 165), (.str (Str.ofString "lazycore.stg") 187)⟩, ⟨(PyData.keyHash P (Str.ofString "__doc__")), (.str (Str.ofString "__doc__") 166), .none⟩, ⟨(PyData.keyHash P (Str.ofString "__package__")), (.str (Str.ofString "__package__") 167), .none⟩, ⟨(PyData.keyHash P (Str.ofString "__loader__")), (.str (Str.ofString "__loader__") 168), (.builtin "__main__.__loader__#opaque")⟩, ⟨(PyData.keyHash P (Str.ofString "__spec__")), (.str (Str.ofString "__spec__") 169), .none⟩, ⟨(PyData.keyHash P (Str.ofString "__annotations__")), (.str (Str.ofString "__annotations__") 170), (.ref 6)⟩, ⟨(PyData.keyHash P (Str.ofString "__builtins__")), (.str (Str.ofString "__builtins__") 171), (.ref 4)⟩, ⟨(PyData.keyHash P (Str.ofString "__file__")), (.str (Str.ofString "__file__") 173), (.str (Str.ofString "/claim/cut.py") 172)⟩, ⟨(PyData.keyHash P (Str.ofString "__cached__")), (.str (Str.ofString "__cached__") 174), .none⟩, ⟨(PyData.keyHash P (Str.ofString "SAtom")), (.str (Str.ofString "SAtom") 217), (.ref 31)⟩, ⟨(PyData.keyHash P (Str.ofString "SApp")), (.str (Str.ofString "SApp") 248), (.ref 52)⟩] 11), #[]⟩
noncomputable def ob21 (P : Params) : Obj := ⟨.none, none, (.fields #[(.int 2 0), (.int 0 0), (.ref 20), (.int 6 0), (.int 0 0), (.ref 41)]), #[]⟩
noncomputable def ob22 (P : Params) : Obj := ⟨(.type "dict"), none, (.dict #[⟨(PyData.keyHash P (Str.ofString "__module__")), (.str (Str.ofString "__module__") 225), (.str (Str.ofString "lazycore.stg") 187)⟩, ⟨(PyData.keyHash P (Str.ofString "__qualname__")), (.str (Str.ofString "__qualname__") 227), (.str (Str.ofString "SApp") 226)⟩, ⟨(PyData.keyHash P (Str.ofString "__firstlineno__")), (.str (Str.ofString "__firstlineno__") 229), (.int 6 228)⟩, ⟨(PyData.keyHash P (Str.ofString "__init__")), (.str (Str.ofString "__init__") 238), (.ref 49)⟩, ⟨(PyData.keyHash P (Str.ofString "__static_attributes__")), (.str (Str.ofString "__static_attributes__") 241), (.ref 50)⟩] 5), #[]⟩
noncomputable def ob23 (P : Params) : Obj := ⟨.none, none, (.fields #[(.int 8 0), (.int 4 0), (.ref 48)]), #[]⟩
noncomputable def ob24 (P : Params) : Obj := ⟨(.type "code"), none, (.fields #[(.str (Str.ofString "SApp") 220), (.str (Str.ofString "SApp") 221), (.str (Str.ofString "/claim/cut.py") 222), (.int 6 0), (.int 0 0), (.int 0 0), (.int 0 0), (.int 0 0), (.ref 39), (.bool false), (.int 181 0), (.ref 40), .none, .none, .none, .none, (.int 223 0), (.int 6 0), (.str (Str.ofString "/claim/cut.py") 224)]), #[]⟩
noncomputable def ob25 (P : Params) : Obj := ⟨(.type "frame"), none, .plain, #[some (.ref 41), some (.ref 3), some (.ref 38), none, some (.str (Str.ofString "lazycore.stg") 187), none, some (.ref 0)]⟩
noncomputable def ob26 (P : Params) : Obj := ⟨(.type "tuple"), none, (.seq #[(.str (Str.ofString "self") 233), (.str (Str.ofString "name") 234), (.str (Str.ofString "atoms") 235)] 0), #[]⟩
noncomputable def ob27 (P : Params) : Obj := ⟨.none, none, (.func { name := (Str.ofString "__init__"), qualname := (Str.ofString "SApp.__init__"), params := fArgs sd2_0, body := .stmts (fBody sd2_0), scope := fScope sd2_0, globals := 0, closure := [], defaults := .none, kwdefaults := .none, doc := .none, pyModule := .none, annotations := none, code := .none, closureTuple := .none, builtins := 0 }), #[]⟩
noncomputable def ob28 (P : Params) : Obj := ⟨(.type "code"), none, (.fields #[(.str (Str.ofString "__init__") 230), (.str (Str.ofString "SApp.__init__") 231), (.str (Str.ofString "/claim/cut.py") 232), (.int 8 0), (.int 3 0), (.int 0 0), (.int 0 0), (.int 3 0), (.ref 43), (.bool true), (.int 181 0), (.ref 44), .none, (.ref 45), (.ref 46), (.ref 47), (.int 236 0), (.int 8 0), (.str (Str.ofString "/claim/cut.py") 237)]), #[]⟩
noncomputable def ob29 (P : Params) : Obj := ⟨(.type "function"), none, (.func { name := (Str.ofString "__init__"), qualname := (Str.ofString "SApp.__init__"), params := fArgs sd2_0, body := .stmts (fBody sd2_0), scope := fScope sd2_0, globals := 3, closure := [], defaults := .none, kwdefaults := .none, doc := .none, pyModule := (.str (Str.ofString "lazycore.stg") 187), annotations := none, code := (.ref 48), closureTuple := .none, builtins := 0 }), #[]⟩
noncomputable def ob30 (P : Params) : Obj := ⟨(.type "tuple"), none, (.seq #[(.str (Str.ofString "atoms") 239), (.str (Str.ofString "name") 240)] 0), #[]⟩
noncomputable def ob31 (P : Params) : Obj := ⟨(.type "dict"), none, (.dict #[⟨(PyData.keyHash P (Str.ofString "__module__")), (.str (Str.ofString "__module__") 225), (.str (Str.ofString "lazycore.stg") 187)⟩, ⟨(PyData.keyHash P (Str.ofString "__firstlineno__")), (.str (Str.ofString "__firstlineno__") 229), (.int 6 228)⟩, ⟨(PyData.keyHash P (Str.ofString "__init__")), (.str (Str.ofString "__init__") 238), (.ref 49)⟩, ⟨(PyData.keyHash P (Str.ofString "__static_attributes__")), (.str (Str.ofString "__static_attributes__") 241), (.ref 50)⟩, ⟨(PyData.keyHash P (Str.ofString "__dict__")), (.str (Str.ofString "__dict__") 243), (.ref 53)⟩, ⟨(PyData.keyHash P (Str.ofString "__weakref__")), (.str (Str.ofString "__weakref__") 245), (.ref 54)⟩, ⟨(PyData.keyHash P (Str.ofString "__doc__")), (.str (Str.ofString "__doc__") 246), .none⟩] 4), #[]⟩
noncomputable def ob32 (P : Params) : Obj := ⟨(.type "type"), none, (.cls { name := (Str.ofString "SApp"), bases := [(.type "object")], mro := [(.ref 52), (.type "object")], ns := 51, qualname := (Str.ofString "SApp"), hasDict := true, slotNames := [], subclasses := [], abstract := false, collection := none, hasDel := false }), #[none, none, some (.str (Str.ofString "SApp") 218), some (.str (Str.ofString "SApp") 226), some (.builtin "object.__new__"), some (.bool true)]⟩
noncomputable def ob33 (P : Params) : Obj := ⟨(.type "getset_descriptor"), none, (.fields #[(.str (Str.ofString "__dict__") 242), (.ref 52), (.builtin "function.__dict__"), (.builtin "function.__dict__#set")]), #[]⟩
noncomputable def ob34 (P : Params) : Obj := ⟨(.type "getset_descriptor"), none, (.fields #[(.str (Str.ofString "__weakref__") 244), (.ref 52), (.builtin "ExceptionGroup.__weakref__"), .none]), #[]⟩
noncomputable def ob35 (P : Params) : Obj := ⟨(.type "super"), none, (.fields #[(.ref 52), (.ref 52), (.ref 52)]), #[]⟩
noncomputable def ob36 (P : Params) : Obj := ⟨(.type "builtin_function_or_method"), none, (.fields #[(.builtin "object.__init_subclass__"), (.ref 52)]), #[]⟩
noncomputable def tr2 (P : Params) : BT := (.node (boot_o_0 P) (.node (boot_o_1 P) (.node (ob20 P) (.node (boot_o_7 P) (.node (boot_o_7 P) (.node (ob15 P) .nil .nil) (.node (ob27 P) .nil .nil)) (.node (boot_o_8 P) (.node (boot_o_7 P) .nil .nil) (.node (ob35 P) .nil .nil))) (.node (boot_o_7 P) (.node (ob6 P) (.node (ob19 P) .nil .nil) (.node (ob31 P) .nil .nil)) (.node (ob11 P) (.node (boot_o_7 P) .nil .nil) .nil))) (.node (boot_o_5 P) (.node (boot_o_9 P) (.node (ob5 P) (.node (ob17 P) .nil .nil) (.node (ob29 P) .nil .nil)) (.node (boot_o_7 P) (.node (ob24 P) .nil .nil) .nil)) (.node (ob0 P) (.node (ob8 P) (.node (ob4 P) .nil .nil) (.node (ob33 P) .nil .nil)) (.node (ob13 P) (.node (ob26 P) .nil .nil) .nil)))) (.node (boot_o_2 P) (.node (boot_o_4 P) (.node (boot_o_8 P) (.node (ob4 P) (.node (ob16 P) .nil .nil) (.node (ob28 P) .nil .nil)) (.node (ob9 P) (.node (ob23 P) .nil .nil) (.node (ob36 P) .nil .nil))) (.node (ob21 P) (.node (ob7 P) (.node (boot_o_7 P) .nil .nil) (.node (ob32 P) .nil .nil)) (.node (ob12 P) (.node (boot_o_8 P) .nil .nil) .nil))) (.node (boot_o_6 P) (.node (boot_o_10 P) (.node (boot_o_7 P) (.node (ob18 P) .nil .nil) (.node (ob30 P) .nil .nil)) (.node (ob10 P) (.node (ob25 P) .nil .nil) .nil)) (.node (ob1 P) (.node (boot_o_7 P) (.node (ob22 P) .nil .nil) (.node (ob34 P) .nil .nil)) (.node (ob14 P) (.node (boot_o_7 P) .nil .nil) .nil)))))
noncomputable def ob37 (P : Params) : Obj := ⟨(.type "dict"), none, (.dict #[⟨(PyData.keyHash P (Str.ofString "__name__")), (.str (Str.ofString "__name__") 165), (.str (Str.ofString "lazycore.stg") 187)⟩, ⟨(PyData.keyHash P (Str.ofString "__doc__")), (.str (Str.ofString "__doc__") 166), .none⟩, ⟨(PyData.keyHash P (Str.ofString "__package__")), (.str (Str.ofString "__package__") 167), .none⟩, ⟨(PyData.keyHash P (Str.ofString "__loader__")), (.str (Str.ofString "__loader__") 168), (.builtin "__main__.__loader__#opaque")⟩, ⟨(PyData.keyHash P (Str.ofString "__spec__")), (.str (Str.ofString "__spec__") 169), .none⟩, ⟨(PyData.keyHash P (Str.ofString "__annotations__")), (.str (Str.ofString "__annotations__") 170), (.ref 6)⟩, ⟨(PyData.keyHash P (Str.ofString "__builtins__")), (.str (Str.ofString "__builtins__") 171), (.ref 4)⟩, ⟨(PyData.keyHash P (Str.ofString "__file__")), (.str (Str.ofString "__file__") 173), (.str (Str.ofString "/claim/cut.py") 172)⟩, ⟨(PyData.keyHash P (Str.ofString "__cached__")), (.str (Str.ofString "__cached__") 174), .none⟩, ⟨(PyData.keyHash P (Str.ofString "SAtom")), (.str (Str.ofString "SAtom") 217), (.ref 31)⟩, ⟨(PyData.keyHash P (Str.ofString "SApp")), (.str (Str.ofString "SApp") 248), (.ref 52)⟩, ⟨(PyData.keyHash P (Str.ofString "SCon")), (.str (Str.ofString "SCon") 279), (.ref 73)⟩] 12), #[]⟩
noncomputable def ob38 (P : Params) : Obj := ⟨.none, none, (.fields #[(.int 2 0), (.int 0 0), (.ref 20), (.int 6 0), (.int 0 0), (.ref 41), (.int 11 0), (.int 0 0), (.ref 62)]), #[]⟩
noncomputable def ob39 (P : Params) : Obj := ⟨(.type "dict"), none, (.dict #[⟨(PyData.keyHash P (Str.ofString "__module__")), (.str (Str.ofString "__module__") 256), (.str (Str.ofString "lazycore.stg") 187)⟩, ⟨(PyData.keyHash P (Str.ofString "__qualname__")), (.str (Str.ofString "__qualname__") 258), (.str (Str.ofString "SCon") 257)⟩, ⟨(PyData.keyHash P (Str.ofString "__firstlineno__")), (.str (Str.ofString "__firstlineno__") 260), (.int 11 259)⟩, ⟨(PyData.keyHash P (Str.ofString "__init__")), (.str (Str.ofString "__init__") 269), (.ref 70)⟩, ⟨(PyData.keyHash P (Str.ofString "__static_attributes__")), (.str (Str.ofString "__static_attributes__") 272), (.ref 71)⟩] 5), #[]⟩
noncomputable def ob40 (P : Params) : Obj := ⟨.none, none, (.fields #[(.int 13 0), (.int 4 0), (.ref 69)]), #[]⟩
noncomputable def ob41 (P : Params) : Obj := ⟨(.type "code"), none, (.fields #[(.str (Str.ofString "SCon") 251), (.str (Str.ofString "SCon") 252), (.str (Str.ofString "/claim/cut.py") 253), (.int 11 0), (.int 0 0), (.int 0 0), (.int 0 0), (.int 0 0), (.ref 60), (.bool false), (.int 181 0), (.ref 61), .none, .none, .none, .none, (.int 254 0), (.int 11 0), (.str (Str.ofString "/claim/cut.py") 255)]), #[]⟩
noncomputable def ob42 (P : Params) : Obj := ⟨(.type "frame"), none, .plain, #[some (.ref 62), some (.ref 3), some (.ref 59), none, some (.str (Str.ofString "lazycore.stg") 187), none, some (.ref 0)]⟩
noncomputable def ob43 (P : Params) : Obj := ⟨(.type "tuple"), none, (.seq #[(.str (Str.ofString "self") 264), (.str (Str.ofString "con") 265), (.str (Str.ofString "atoms") 266)] 0), #[]⟩
noncomputable def ob44 (P : Params) : Obj := ⟨.none, none, (.func { name := (Str.ofString "__init__"), qualname := (Str.ofString "SCon.__init__"), params := fArgs sd3_0, body := .stmts (fBody sd3_0), scope := fScope sd3_0, globals := 0, closure := [], defaults := .none, kwdefaults := .none, doc := .none, pyModule := .none, annotations := none, code := .none, closureTuple := .none, builtins := 0 }), #[]⟩
noncomputable def ob45 (P : Params) : Obj := ⟨(.type "code"), none, (.fields #[(.str (Str.ofString "__init__") 261), (.str (Str.ofString "SCon.__init__") 262), (.str (Str.ofString "/claim/cut.py") 263), (.int 13 0), (.int 3 0), (.int 0 0), (.int 0 0), (.int 3 0), (.ref 64), (.bool true), (.int 181 0), (.ref 65), .none, (.ref 66), (.ref 67), (.ref 68), (.int 267 0), (.int 13 0), (.str (Str.ofString "/claim/cut.py") 268)]), #[]⟩
noncomputable def ob46 (P : Params) : Obj := ⟨(.type "function"), none, (.func { name := (Str.ofString "__init__"), qualname := (Str.ofString "SCon.__init__"), params := fArgs sd3_0, body := .stmts (fBody sd3_0), scope := fScope sd3_0, globals := 3, closure := [], defaults := .none, kwdefaults := .none, doc := .none, pyModule := (.str (Str.ofString "lazycore.stg") 187), annotations := none, code := (.ref 69), closureTuple := .none, builtins := 0 }), #[]⟩
noncomputable def ob47 (P : Params) : Obj := ⟨(.type "tuple"), none, (.seq #[(.str (Str.ofString "atoms") 270), (.str (Str.ofString "con") 271)] 0), #[]⟩
noncomputable def ob48 (P : Params) : Obj := ⟨(.type "dict"), none, (.dict #[⟨(PyData.keyHash P (Str.ofString "__module__")), (.str (Str.ofString "__module__") 256), (.str (Str.ofString "lazycore.stg") 187)⟩, ⟨(PyData.keyHash P (Str.ofString "__firstlineno__")), (.str (Str.ofString "__firstlineno__") 260), (.int 11 259)⟩, ⟨(PyData.keyHash P (Str.ofString "__init__")), (.str (Str.ofString "__init__") 269), (.ref 70)⟩, ⟨(PyData.keyHash P (Str.ofString "__static_attributes__")), (.str (Str.ofString "__static_attributes__") 272), (.ref 71)⟩, ⟨(PyData.keyHash P (Str.ofString "__dict__")), (.str (Str.ofString "__dict__") 274), (.ref 74)⟩, ⟨(PyData.keyHash P (Str.ofString "__weakref__")), (.str (Str.ofString "__weakref__") 276), (.ref 75)⟩, ⟨(PyData.keyHash P (Str.ofString "__doc__")), (.str (Str.ofString "__doc__") 277), .none⟩] 4), #[]⟩
noncomputable def ob49 (P : Params) : Obj := ⟨(.type "type"), none, (.cls { name := (Str.ofString "SCon"), bases := [(.type "object")], mro := [(.ref 73), (.type "object")], ns := 72, qualname := (Str.ofString "SCon"), hasDict := true, slotNames := [], subclasses := [], abstract := false, collection := none, hasDel := false }), #[none, none, some (.str (Str.ofString "SCon") 249), some (.str (Str.ofString "SCon") 257), some (.builtin "object.__new__"), some (.bool true)]⟩
noncomputable def ob50 (P : Params) : Obj := ⟨(.type "getset_descriptor"), none, (.fields #[(.str (Str.ofString "__dict__") 273), (.ref 73), (.builtin "function.__dict__"), (.builtin "function.__dict__#set")]), #[]⟩
noncomputable def ob51 (P : Params) : Obj := ⟨(.type "getset_descriptor"), none, (.fields #[(.str (Str.ofString "__weakref__") 275), (.ref 73), (.builtin "ExceptionGroup.__weakref__"), .none]), #[]⟩
noncomputable def ob52 (P : Params) : Obj := ⟨(.type "super"), none, (.fields #[(.ref 73), (.ref 73), (.ref 73)]), #[]⟩
noncomputable def ob53 (P : Params) : Obj := ⟨(.type "builtin_function_or_method"), none, (.fields #[(.builtin "object.__init_subclass__"), (.ref 73)]), #[]⟩
noncomputable def tr3 (P : Params) : BT := (.node (boot_o_0 P) (.node (boot_o_1 P) (.node (ob37 P) (.node (boot_o_7 P) (.node (boot_o_7 P) (.node (ob15 P) (.node (ob42 P) .nil .nil) .nil) (.node (ob27 P) .nil .nil)) (.node (boot_o_8 P) (.node (boot_o_7 P) (.node (ob47 P) .nil .nil) .nil) (.node (ob35 P) .nil .nil))) (.node (boot_o_7 P) (.node (ob6 P) (.node (ob19 P) (.node (boot_o_7 P) .nil .nil) .nil) (.node (ob31 P) .nil .nil)) (.node (ob11 P) (.node (boot_o_7 P) (.node (ob51 P) .nil .nil) .nil) (.node (ob39 P) .nil .nil)))) (.node (boot_o_5 P) (.node (boot_o_9 P) (.node (ob5 P) (.node (ob17 P) (.node (boot_o_8 P) .nil .nil) .nil) (.node (ob29 P) .nil .nil)) (.node (boot_o_7 P) (.node (ob24 P) (.node (ob49 P) .nil .nil) .nil) (.node (boot_o_7 P) .nil .nil))) (.node (ob0 P) (.node (ob8 P) (.node (ob4 P) (.node (ob45 P) .nil .nil) .nil) (.node (ob33 P) .nil .nil)) (.node (ob13 P) (.node (ob26 P) (.node (ob53 P) .nil .nil) .nil) (.node (ob40 P) .nil .nil))))) (.node (boot_o_2 P) (.node (boot_o_4 P) (.node (boot_o_8 P) (.node (ob4 P) (.node (ob16 P) (.node (boot_o_7 P) .nil .nil) .nil) (.node (ob28 P) .nil .nil)) (.node (ob9 P) (.node (ob23 P) (.node (ob48 P) .nil .nil) .nil) (.node (ob36 P) .nil .nil))) (.node (ob38 P) (.node (ob7 P) (.node (boot_o_7 P) (.node (ob44 P) .nil .nil) .nil) (.node (ob32 P) .nil .nil)) (.node (ob12 P) (.node (boot_o_8 P) (.node (ob52 P) .nil .nil) .nil) (.node (boot_o_7 P) .nil .nil)))) (.node (boot_o_6 P) (.node (boot_o_10 P) (.node (boot_o_7 P) (.node (ob18 P) (.node (ob43 P) .nil .nil) .nil) (.node (ob30 P) .nil .nil)) (.node (ob10 P) (.node (ob25 P) (.node (ob50 P) .nil .nil) .nil) (.node (ob4 P) .nil .nil))) (.node (ob1 P) (.node (boot_o_7 P) (.node (ob22 P) (.node (ob46 P) .nil .nil) .nil) (.node (ob34 P) .nil .nil)) (.node (ob14 P) (.node (boot_o_7 P) .nil .nil) (.node (ob41 P) .nil .nil))))))
noncomputable def ob54 (P : Params) : Obj := ⟨(.type "dict"), none, (.dict #[⟨(PyData.keyHash P (Str.ofString "__name__")), (.str (Str.ofString "__name__") 165), (.str (Str.ofString "lazycore.stg") 187)⟩, ⟨(PyData.keyHash P (Str.ofString "__doc__")), (.str (Str.ofString "__doc__") 166), .none⟩, ⟨(PyData.keyHash P (Str.ofString "__package__")), (.str (Str.ofString "__package__") 167), .none⟩, ⟨(PyData.keyHash P (Str.ofString "__loader__")), (.str (Str.ofString "__loader__") 168), (.builtin "__main__.__loader__#opaque")⟩, ⟨(PyData.keyHash P (Str.ofString "__spec__")), (.str (Str.ofString "__spec__") 169), .none⟩, ⟨(PyData.keyHash P (Str.ofString "__annotations__")), (.str (Str.ofString "__annotations__") 170), (.ref 6)⟩, ⟨(PyData.keyHash P (Str.ofString "__builtins__")), (.str (Str.ofString "__builtins__") 171), (.ref 4)⟩, ⟨(PyData.keyHash P (Str.ofString "__file__")), (.str (Str.ofString "__file__") 173), (.str (Str.ofString "/claim/cut.py") 172)⟩, ⟨(PyData.keyHash P (Str.ofString "__cached__")), (.str (Str.ofString "__cached__") 174), .none⟩, ⟨(PyData.keyHash P (Str.ofString "SAtom")), (.str (Str.ofString "SAtom") 217), (.ref 31)⟩, ⟨(PyData.keyHash P (Str.ofString "SApp")), (.str (Str.ofString "SApp") 248), (.ref 52)⟩, ⟨(PyData.keyHash P (Str.ofString "SCon")), (.str (Str.ofString "SCon") 279), (.ref 73)⟩, ⟨(PyData.keyHash P (Str.ofString "SPrim")), (.str (Str.ofString "SPrim") 310), (.ref 94)⟩] 13), #[]⟩
noncomputable def ob55 (P : Params) : Obj := ⟨.none, none, (.fields #[(.int 2 0), (.int 0 0), (.ref 20), (.int 6 0), (.int 0 0), (.ref 41), (.int 11 0), (.int 0 0), (.ref 62), (.int 16 0), (.int 0 0), (.ref 83)]), #[]⟩
noncomputable def ob56 (P : Params) : Obj := ⟨(.type "dict"), none, (.dict #[⟨(PyData.keyHash P (Str.ofString "__module__")), (.str (Str.ofString "__module__") 287), (.str (Str.ofString "lazycore.stg") 187)⟩, ⟨(PyData.keyHash P (Str.ofString "__qualname__")), (.str (Str.ofString "__qualname__") 289), (.str (Str.ofString "SPrim") 288)⟩, ⟨(PyData.keyHash P (Str.ofString "__firstlineno__")), (.str (Str.ofString "__firstlineno__") 291), (.int 16 290)⟩, ⟨(PyData.keyHash P (Str.ofString "__init__")), (.str (Str.ofString "__init__") 300), (.ref 91)⟩, ⟨(PyData.keyHash P (Str.ofString "__static_attributes__")), (.str (Str.ofString "__static_attributes__") 303), (.ref 92)⟩] 5), #[]⟩
noncomputable def ob57 (P : Params) : Obj := ⟨.none, none, (.fields #[(.int 18 0), (.int 4 0), (.ref 90)]), #[]⟩
noncomputable def ob58 (P : Params) : Obj := ⟨(.type "code"), none, (.fields #[(.str (Str.ofString "SPrim") 282), (.str (Str.ofString "SPrim") 283), (.str (Str.ofString "/claim/cut.py") 284), (.int 16 0), (.int 0 0), (.int 0 0), (.int 0 0), (.int 0 0), (.ref 81), (.bool false), (.int 181 0), (.ref 82), .none, .none, .none, .none, (.int 285 0), (.int 16 0), (.str (Str.ofString "/claim/cut.py") 286)]), #[]⟩
noncomputable def ob59 (P : Params) : Obj := ⟨(.type "frame"), none, .plain, #[some (.ref 83), some (.ref 3), some (.ref 80), none, some (.str (Str.ofString "lazycore.stg") 187), none, some (.ref 0)]⟩
noncomputable def ob60 (P : Params) : Obj := ⟨(.type "tuple"), none, (.seq #[(.str (Str.ofString "self") 295), (.str (Str.ofString "op") 296), (.str (Str.ofString "atoms") 297)] 0), #[]⟩
noncomputable def ob61 (P : Params) : Obj := ⟨.none, none, (.func { name := (Str.ofString "__init__"), qualname := (Str.ofString "SPrim.__init__"), params := fArgs sd4_0, body := .stmts (fBody sd4_0), scope := fScope sd4_0, globals := 0, closure := [], defaults := .none, kwdefaults := .none, doc := .none, pyModule := .none, annotations := none, code := .none, closureTuple := .none, builtins := 0 }), #[]⟩
noncomputable def ob62 (P : Params) : Obj := ⟨(.type "code"), none, (.fields #[(.str (Str.ofString "__init__") 292), (.str (Str.ofString "SPrim.__init__") 293), (.str (Str.ofString "/claim/cut.py") 294), (.int 18 0), (.int 3 0), (.int 0 0), (.int 0 0), (.int 3 0), (.ref 85), (.bool true), (.int 181 0), (.ref 86), .none, (.ref 87), (.ref 88), (.ref 89), (.int 298 0), (.int 18 0), (.str (Str.ofString "/claim/cut.py") 299)]), #[]⟩
noncomputable def ob63 (P : Params) : Obj := ⟨(.type "function"), none, (.func { name := (Str.ofString "__init__"), qualname := (Str.ofString "SPrim.__init__"), params := fArgs sd4_0, body := .stmts (fBody sd4_0), scope := fScope sd4_0, globals := 3, closure := [], defaults := .none, kwdefaults := .none, doc := .none, pyModule := (.str (Str.ofString "lazycore.stg") 187), annotations := none, code := (.ref 90), closureTuple := .none, builtins := 0 }), #[]⟩
noncomputable def ob64 (P : Params) : Obj := ⟨(.type "tuple"), none, (.seq #[(.str (Str.ofString "atoms") 301), (.str (Str.ofString "op") 302)] 0), #[]⟩
noncomputable def ob65 (P : Params) : Obj := ⟨(.type "dict"), none, (.dict #[⟨(PyData.keyHash P (Str.ofString "__module__")), (.str (Str.ofString "__module__") 287), (.str (Str.ofString "lazycore.stg") 187)⟩, ⟨(PyData.keyHash P (Str.ofString "__firstlineno__")), (.str (Str.ofString "__firstlineno__") 291), (.int 16 290)⟩, ⟨(PyData.keyHash P (Str.ofString "__init__")), (.str (Str.ofString "__init__") 300), (.ref 91)⟩, ⟨(PyData.keyHash P (Str.ofString "__static_attributes__")), (.str (Str.ofString "__static_attributes__") 303), (.ref 92)⟩, ⟨(PyData.keyHash P (Str.ofString "__dict__")), (.str (Str.ofString "__dict__") 305), (.ref 95)⟩, ⟨(PyData.keyHash P (Str.ofString "__weakref__")), (.str (Str.ofString "__weakref__") 307), (.ref 96)⟩, ⟨(PyData.keyHash P (Str.ofString "__doc__")), (.str (Str.ofString "__doc__") 308), .none⟩] 4), #[]⟩
noncomputable def ob66 (P : Params) : Obj := ⟨(.type "type"), none, (.cls { name := (Str.ofString "SPrim"), bases := [(.type "object")], mro := [(.ref 94), (.type "object")], ns := 93, qualname := (Str.ofString "SPrim"), hasDict := true, slotNames := [], subclasses := [], abstract := false, collection := none, hasDel := false }), #[none, none, some (.str (Str.ofString "SPrim") 280), some (.str (Str.ofString "SPrim") 288), some (.builtin "object.__new__"), some (.bool true)]⟩
noncomputable def ob67 (P : Params) : Obj := ⟨(.type "getset_descriptor"), none, (.fields #[(.str (Str.ofString "__dict__") 304), (.ref 94), (.builtin "function.__dict__"), (.builtin "function.__dict__#set")]), #[]⟩
noncomputable def ob68 (P : Params) : Obj := ⟨(.type "getset_descriptor"), none, (.fields #[(.str (Str.ofString "__weakref__") 306), (.ref 94), (.builtin "ExceptionGroup.__weakref__"), .none]), #[]⟩
noncomputable def ob69 (P : Params) : Obj := ⟨(.type "super"), none, (.fields #[(.ref 94), (.ref 94), (.ref 94)]), #[]⟩
noncomputable def ob70 (P : Params) : Obj := ⟨(.type "builtin_function_or_method"), none, (.fields #[(.builtin "object.__init_subclass__"), (.ref 94)]), #[]⟩
noncomputable def tr4 (P : Params) : BT := (.node (boot_o_0 P) (.node (boot_o_1 P) (.node (ob54 P) (.node (boot_o_7 P) (.node (boot_o_7 P) (.node (ob15 P) (.node (ob42 P) .nil .nil) (.node (ob67 P) .nil .nil)) (.node (ob27 P) (.node (ob4 P) .nil .nil) .nil)) (.node (boot_o_8 P) (.node (boot_o_7 P) (.node (ob47 P) .nil .nil) .nil) (.node (ob35 P) (.node (ob60 P) .nil .nil) .nil))) (.node (boot_o_7 P) (.node (ob6 P) (.node (ob19 P) (.node (boot_o_7 P) .nil .nil) .nil) (.node (ob31 P) (.node (ob58 P) .nil .nil) .nil)) (.node (ob11 P) (.node (boot_o_7 P) (.node (ob51 P) .nil .nil) .nil) (.node (ob39 P) (.node (ob63 P) .nil .nil) .nil)))) (.node (boot_o_5 P) (.node (boot_o_9 P) (.node (ob5 P) (.node (ob17 P) (.node (boot_o_8 P) .nil .nil) (.node (ob69 P) .nil .nil)) (.node (ob29 P) (.node (boot_o_7 P) .nil .nil) .nil)) (.node (boot_o_7 P) (.node (ob24 P) (.node (ob49 P) .nil .nil) .nil) (.node (boot_o_7 P) (.node (ob61 P) .nil .nil) .nil))) (.node (ob0 P) (.node (ob8 P) (.node (ob4 P) (.node (ob45 P) .nil .nil) .nil) (.node (ob33 P) (.node (boot_o_7 P) .nil .nil) .nil)) (.node (ob13 P) (.node (ob26 P) (.node (ob53 P) .nil .nil) .nil) (.node (ob40 P) (.node (ob65 P) .nil .nil) .nil))))) (.node (boot_o_2 P) (.node (boot_o_4 P) (.node (boot_o_8 P) (.node (ob4 P) (.node (ob16 P) (.node (boot_o_7 P) .nil .nil) (.node (ob68 P) .nil .nil)) (.node (ob28 P) (.node (ob56 P) .nil .nil) .nil)) (.node (ob9 P) (.node (ob23 P) (.node (ob48 P) .nil .nil) .nil) (.node (ob36 P) (.node (boot_o_7 P) .nil .nil) .nil))) (.node (ob55 P) (.node (ob7 P) (.node (boot_o_7 P) (.node (ob44 P) .nil .nil) .nil) (.node (ob32 P) (.node (ob59 P) .nil .nil) .nil)) (.node (ob12 P) (.node (boot_o_8 P) (.node (ob52 P) .nil .nil) .nil) (.node (boot_o_7 P) (.node (ob64 P) .nil .nil) .nil)))) (.node (boot_o_6 P) (.node (boot_o_10 P) (.node (boot_o_7 P) (.node (ob18 P) (.node (ob43 P) .nil .nil) (.node (ob70 P) .nil .nil)) (.node (ob30 P) (.node (ob57 P) .nil .nil) .nil)) (.node (ob10 P) (.node (ob25 P) (.node (ob50 P) .nil .nil) .nil) (.node (ob4 P) (.node (ob62 P) .nil .nil) .nil))) (.node (ob1 P) (.node (boot_o_7 P) (.node (ob22 P) (.node (ob46 P) .nil .nil) .nil) (.node (ob34 P) (.node (boot_o_8 P) .nil .nil) .nil)) (.node (ob14 P) (.node (boot_o_7 P) (.node (boot_o_7 P) .nil .nil) .nil) (.node (ob41 P) (.node (ob66 P) .nil .nil) .nil))))))
noncomputable def ob71 (P : Params) : Obj := ⟨(.type "dict"), none, (.dict #[⟨(PyData.keyHash P (Str.ofString "__name__")), (.str (Str.ofString "__name__") 165), (.str (Str.ofString "lazycore.stg") 187)⟩, ⟨(PyData.keyHash P (Str.ofString "__doc__")), (.str (Str.ofString "__doc__") 166), .none⟩, ⟨(PyData.keyHash P (Str.ofString "__package__")), (.str (Str.ofString "__package__") 167), .none⟩, ⟨(PyData.keyHash P (Str.ofString "__loader__")), (.str (Str.ofString "__loader__") 168), (.builtin "__main__.__loader__#opaque")⟩, ⟨(PyData.keyHash P (Str.ofString "__spec__")), (.str (Str.ofString "__spec__") 169), .none⟩, ⟨(PyData.keyHash P (Str.ofString "__annotations__")), (.str (Str.ofString "__annotations__") 170), (.ref 6)⟩, ⟨(PyData.keyHash P (Str.ofString "__builtins__")), (.str (Str.ofString "__builtins__") 171), (.ref 4)⟩, ⟨(PyData.keyHash P (Str.ofString "__file__")), (.str (Str.ofString "__file__") 173), (.str (Str.ofString "/claim/cut.py") 172)⟩, ⟨(PyData.keyHash P (Str.ofString "__cached__")), (.str (Str.ofString "__cached__") 174), .none⟩, ⟨(PyData.keyHash P (Str.ofString "SAtom")), (.str (Str.ofString "SAtom") 217), (.ref 31)⟩, ⟨(PyData.keyHash P (Str.ofString "SApp")), (.str (Str.ofString "SApp") 248), (.ref 52)⟩, ⟨(PyData.keyHash P (Str.ofString "SCon")), (.str (Str.ofString "SCon") 279), (.ref 73)⟩, ⟨(PyData.keyHash P (Str.ofString "SPrim")), (.str (Str.ofString "SPrim") 310), (.ref 94)⟩, ⟨(PyData.keyHash P (Str.ofString "SCase")), (.str (Str.ofString "SCase") 345), (.ref 115)⟩] 14), #[]⟩
noncomputable def ob72 (P : Params) : Obj := ⟨.none, none, (.fields #[(.int 2 0), (.int 0 0), (.ref 20), (.int 6 0), (.int 0 0), (.ref 41), (.int 11 0), (.int 0 0), (.ref 62), (.int 16 0), (.int 0 0), (.ref 83), (.int 21 0), (.int 0 0), (.ref 104)]), #[]⟩
noncomputable def ob73 (P : Params) : Obj := ⟨(.type "dict"), none, (.dict #[⟨(PyData.keyHash P (Str.ofString "__module__")), (.str (Str.ofString "__module__") 318), (.str (Str.ofString "lazycore.stg") 187)⟩, ⟨(PyData.keyHash P (Str.ofString "__qualname__")), (.str (Str.ofString "__qualname__") 320), (.str (Str.ofString "SCase") 319)⟩, ⟨(PyData.keyHash P (Str.ofString "__firstlineno__")), (.str (Str.ofString "__firstlineno__") 322), (.int 21 321)⟩, ⟨(PyData.keyHash P (Str.ofString "__init__")), (.str (Str.ofString "__init__") 333), (.ref 112)⟩, ⟨(PyData.keyHash P (Str.ofString "__static_attributes__")), (.str (Str.ofString "__static_attributes__") 338), (.ref 113)⟩] 5), #[]⟩
noncomputable def ob74 (P : Params) : Obj := ⟨.none, none, (.fields #[(.int 23 0), (.int 4 0), (.ref 111)]), #[]⟩
noncomputable def ob75 (P : Params) : Obj := ⟨(.type "code"), none, (.fields #[(.str (Str.ofString "SCase") 313), (.str (Str.ofString "SCase") 314), (.str (Str.ofString "/claim/cut.py") 315), (.int 21 0), (.int 0 0), (.int 0 0), (.int 0 0), (.int 0 0), (.ref 102), (.bool false), (.int 181 0), (.ref 103), .none, .none, .none, .none, (.int 316 0), (.int 21 0), (.str (Str.ofString "/claim/cut.py") 317)]), #[]⟩
noncomputable def ob76 (P : Params) : Obj := ⟨(.type "frame"), none, .plain, #[some (.ref 104), some (.ref 3), some (.ref 101), none, some (.str (Str.ofString "lazycore.stg") 187), none, some (.ref 0)]⟩
noncomputable def ob77 (P : Params) : Obj := ⟨(.type "tuple"), none, (.seq #[(.str (Str.ofString "self") 326), (.str (Str.ofString "expr") 327), (.str (Str.ofString "name") 328), (.str (Str.ofString "alts") 329), (.str (Str.ofString "other") 330)] 0), #[]⟩
noncomputable def ob78 (P : Params) : Obj := ⟨.none, none, (.func { name := (Str.ofString "__init__"), qualname := (Str.ofString "SCase.__init__"), params := fArgs sd5_0, body := .stmts (fBody sd5_0), scope := fScope sd5_0, globals := 0, closure := [], defaults := .none, kwdefaults := .none, doc := .none, pyModule := .none, annotations := none, code := .none, closureTuple := .none, builtins := 0 }), #[]⟩
noncomputable def ob79 (P : Params) : Obj := ⟨(.type "code"), none, (.fields #[(.str (Str.ofString "__init__") 323), (.str (Str.ofString "SCase.__init__") 324), (.str (Str.ofString "/claim/cut.py") 325), (.int 23 0), (.int 5 0), (.int 0 0), (.int 0 0), (.int 3 0), (.ref 106), (.bool true), (.int 181 0), (.ref 107), .none, (.ref 108), (.ref 109), (.ref 110), (.int 331 0), (.int 23 0), (.str (Str.ofString "/claim/cut.py") 332)]), #[]⟩
noncomputable def ob80 (P : Params) : Obj := ⟨(.type "function"), none, (.func { name := (Str.ofString "__init__"), qualname := (Str.ofString "SCase.__init__"), params := fArgs sd5_0, body := .stmts (fBody sd5_0), scope := fScope sd5_0, globals := 3, closure := [], defaults := .none, kwdefaults := .none, doc := .none, pyModule := (.str (Str.ofString "lazycore.stg") 187), annotations := none, code := (.ref 111), closureTuple := .none, builtins := 0 }), #[]⟩
noncomputable def ob81 (P : Params) : Obj := ⟨(.type "tuple"), none, (.seq #[(.str (Str.ofString "alts") 334), (.str (Str.ofString "expr") 335), (.str (Str.ofString "name") 336), (.str (Str.ofString "other") 337)] 0), #[]⟩
noncomputable def ob82 (P : Params) : Obj := ⟨(.type "dict"), none, (.dict #[⟨(PyData.keyHash P (Str.ofString "__module__")), (.str (Str.ofString "__module__") 318), (.str (Str.ofString "lazycore.stg") 187)⟩, ⟨(PyData.keyHash P (Str.ofString "__firstlineno__")), (.str (Str.ofString "__firstlineno__") 322), (.int 21 321)⟩, ⟨(PyData.keyHash P (Str.ofString "__init__")), (.str (Str.ofString "__init__") 333), (.ref 112)⟩, ⟨(PyData.keyHash P (Str.ofString "__static_attributes__")), (.str (Str.ofString "__static_attributes__") 338), (.ref 113)⟩, ⟨(PyData.keyHash P (Str.ofString "__dict__")), (.str (Str.ofString "__dict__") 340), (.ref 116)⟩, ⟨(PyData.keyHash P (Str.ofString "__weakref__")), (.str (Str.ofString "__weakref__") 342), (.ref 117)⟩, ⟨(PyData.keyHash P (Str.ofString "__doc__")), (.str (Str.ofString "__doc__") 343), .none⟩] 4), #[]⟩
noncomputable def ob83 (P : Params) : Obj := ⟨(.type "type"), none, (.cls { name := (Str.ofString "SCase"), bases := [(.type "object")], mro := [(.ref 115), (.type "object")], ns := 114, qualname := (Str.ofString "SCase"), hasDict := true, slotNames := [], subclasses := [], abstract := false, collection := none, hasDel := false }), #[none, none, some (.str (Str.ofString "SCase") 311), some (.str (Str.ofString "SCase") 319), some (.builtin "object.__new__"), some (.bool true)]⟩
noncomputable def ob84 (P : Params) : Obj := ⟨(.type "getset_descriptor"), none, (.fields #[(.str (Str.ofString "__dict__") 339), (.ref 115), (.builtin "function.__dict__"), (.builtin "function.__dict__#set")]), #[]⟩
noncomputable def ob85 (P : Params) : Obj := ⟨(.type "getset_descriptor"), none, (.fields #[(.str (Str.ofString "__weakref__") 341), (.ref 115), (.builtin "ExceptionGroup.__weakref__"), .none]), #[]⟩
noncomputable def ob86 (P : Params) : Obj := ⟨(.type "super"), none, (.fields #[(.ref 115), (.ref 115), (.ref 115)]), #[]⟩
noncomputable def ob87 (P : Params) : Obj := ⟨(.type "builtin_function_or_method"), none, (.fields #[(.builtin "object.__init_subclass__"), (.ref 115)]), #[]⟩
noncomputable def tr5 (P : Params) : BT := (.node (boot_o_0 P) (.node (boot_o_1 P) (.node (ob71 P) (.node (boot_o_7 P) (.node (boot_o_7 P) (.node (ob15 P) (.node (ob42 P) .nil .nil) (.node (ob67 P) .nil .nil)) (.node (ob27 P) (.node (ob4 P) .nil .nil) (.node (ob79 P) .nil .nil))) (.node (boot_o_8 P) (.node (boot_o_7 P) (.node (ob47 P) .nil .nil) (.node (ob74 P) .nil .nil)) (.node (ob35 P) (.node (ob60 P) .nil .nil) (.node (ob87 P) .nil .nil)))) (.node (boot_o_7 P) (.node (ob6 P) (.node (ob19 P) (.node (boot_o_7 P) .nil .nil) (.node (boot_o_7 P) .nil .nil)) (.node (ob31 P) (.node (ob58 P) .nil .nil) (.node (ob83 P) .nil .nil))) (.node (ob11 P) (.node (boot_o_7 P) (.node (ob51 P) .nil .nil) (.node (boot_o_8 P) .nil .nil)) (.node (ob39 P) (.node (ob63 P) .nil .nil) .nil)))) (.node (boot_o_5 P) (.node (boot_o_9 P) (.node (ob5 P) (.node (ob17 P) (.node (boot_o_8 P) .nil .nil) (.node (ob69 P) .nil .nil)) (.node (ob29 P) (.node (boot_o_7 P) .nil .nil) (.node (ob81 P) .nil .nil))) (.node (boot_o_7 P) (.node (ob24 P) (.node (ob49 P) .nil .nil) (.node (ob76 P) .nil .nil)) (.node (boot_o_7 P) (.node (ob61 P) .nil .nil) .nil))) (.node (ob0 P) (.node (ob8 P) (.node (ob4 P) (.node (ob45 P) .nil .nil) (.node (ob73 P) .nil .nil)) (.node (ob33 P) (.node (boot_o_7 P) .nil .nil) (.node (ob85 P) .nil .nil))) (.node (ob13 P) (.node (ob26 P) (.node (ob53 P) .nil .nil) (.node (boot_o_7 P) .nil .nil)) (.node (ob40 P) (.node (ob65 P) .nil .nil) .nil))))) (.node (boot_o_2 P) (.node (boot_o_4 P) (.node (boot_o_8 P) (.node (ob4 P) (.node (ob16 P) (.node (boot_o_7 P) .nil .nil) (.node (ob68 P) .nil .nil)) (.node (ob28 P) (.node (ob56 P) .nil .nil) (.node (ob80 P) .nil .nil))) (.node (ob9 P) (.node (ob23 P) (.node (ob48 P) .nil .nil) (.node (ob75 P) .nil .nil)) (.node (ob36 P) (.node (boot_o_7 P) .nil .nil) .nil))) (.node (ob72 P) (.node (ob7 P) (.node (boot_o_7 P) (.node (ob44 P) .nil .nil) (.node (ob4 P) .nil .nil)) (.node (ob32 P) (.node (ob59 P) .nil .nil) (.node (ob84 P) .nil .nil))) (.node (ob12 P) (.node (boot_o_8 P) (.node (ob52 P) .nil .nil) (.node (ob77 P) .nil .nil)) (.node (boot_o_7 P) (.node (ob64 P) .nil .nil) .nil)))) (.node (boot_o_6 P) (.node (boot_o_10 P) (.node (boot_o_7 P) (.node (ob18 P) (.node (ob43 P) .nil .nil) (.node (ob70 P) .nil .nil)) (.node (ob30 P) (.node (ob57 P) .nil .nil) (.node (ob82 P) .nil .nil))) (.node (ob10 P) (.node (ob25 P) (.node (ob50 P) .nil .nil) (.node (boot_o_7 P) .nil .nil)) (.node (ob4 P) (.node (ob62 P) .nil .nil) .nil))) (.node (ob1 P) (.node (boot_o_7 P) (.node (ob22 P) (.node (ob46 P) .nil .nil) (.node (boot_o_7 P) .nil .nil)) (.node (ob34 P) (.node (boot_o_8 P) .nil .nil) (.node (ob86 P) .nil .nil))) (.node (ob14 P) (.node (boot_o_7 P) (.node (boot_o_7 P) .nil .nil) (.node (ob78 P) .nil .nil)) (.node (ob41 P) (.node (ob66 P) .nil .nil) .nil))))))
noncomputable def ob88 (P : Params) : Obj := ⟨(.type "dict"), none, (.dict #[⟨(PyData.keyHash P (Str.ofString "__name__")), (.str (Str.ofString "__name__") 165), (.str (Str.ofString "lazycore.stg") 187)⟩, ⟨(PyData.keyHash P (Str.ofString "__doc__")), (.str (Str.ofString "__doc__") 166), .none⟩, ⟨(PyData.keyHash P (Str.ofString "__package__")), (.str (Str.ofString "__package__") 167), .none⟩, ⟨(PyData.keyHash P (Str.ofString "__loader__")), (.str (Str.ofString "__loader__") 168), (.builtin "__main__.__loader__#opaque")⟩, ⟨(PyData.keyHash P (Str.ofString "__spec__")), (.str (Str.ofString "__spec__") 169), .none⟩, ⟨(PyData.keyHash P (Str.ofString "__annotations__")), (.str (Str.ofString "__annotations__") 170), (.ref 6)⟩, ⟨(PyData.keyHash P (Str.ofString "__builtins__")), (.str (Str.ofString "__builtins__") 171), (.ref 4)⟩, ⟨(PyData.keyHash P (Str.ofString "__file__")), (.str (Str.ofString "__file__") 173), (.str (Str.ofString "/claim/cut.py") 172)⟩, ⟨(PyData.keyHash P (Str.ofString "__cached__")), (.str (Str.ofString "__cached__") 174), .none⟩, ⟨(PyData.keyHash P (Str.ofString "SAtom")), (.str (Str.ofString "SAtom") 217), (.ref 31)⟩, ⟨(PyData.keyHash P (Str.ofString "SApp")), (.str (Str.ofString "SApp") 248), (.ref 52)⟩, ⟨(PyData.keyHash P (Str.ofString "SCon")), (.str (Str.ofString "SCon") 279), (.ref 73)⟩, ⟨(PyData.keyHash P (Str.ofString "SPrim")), (.str (Str.ofString "SPrim") 310), (.ref 94)⟩, ⟨(PyData.keyHash P (Str.ofString "SCase")), (.str (Str.ofString "SCase") 345), (.ref 115)⟩, ⟨(PyData.keyHash P (Str.ofString "SAlt")), (.str (Str.ofString "SAlt") 378), (.ref 136)⟩] 15), #[]⟩
noncomputable def ob89 (P : Params) : Obj := ⟨.none, none, (.fields #[(.int 2 0), (.int 0 0), (.ref 20), (.int 6 0), (.int 0 0), (.ref 41), (.int 11 0), (.int 0 0), (.ref 62), (.int 16 0), (.int 0 0), (.ref 83), (.int 21 0), (.int 0 0), (.ref 104), (.int 28 0), (.int 0 0), (.ref 125)]), #[]⟩
noncomputable def ob90 (P : Params) : Obj := ⟨(.type "dict"), none, (.dict #[⟨(PyData.keyHash P (Str.ofString "__module__")), (.str (Str.ofString "__module__") 353), (.str (Str.ofString "lazycore.stg") 187)⟩, ⟨(PyData.keyHash P (Str.ofString "__qualname__")), (.str (Str.ofString "__qualname__") 355), (.str (Str.ofString "SAlt") 354)⟩, ⟨(PyData.keyHash P (Str.ofString "__firstlineno__")), (.str (Str.ofString "__firstlineno__") 357), (.int 28 356)⟩, ⟨(PyData.keyHash P (Str.ofString "__init__")), (.str (Str.ofString "__init__") 367), (.ref 133)⟩, ⟨(PyData.keyHash P (Str.ofString "__static_attributes__")), (.str (Str.ofString "__static_attributes__") 371), (.ref 134)⟩] 5), #[]⟩
noncomputable def ob91 (P : Params) : Obj := ⟨.none, none, (.fields #[(.int 30 0), (.int 4 0), (.ref 132)]), #[]⟩
noncomputable def ob92 (P : Params) : Obj := ⟨(.type "code"), none, (.fields #[(.str (Str.ofString "SAlt") 348), (.str (Str.ofString "SAlt") 349), (.str (Str.ofString "/claim/cut.py") 350), (.int 28 0), (.int 0 0), (.int 0 0), (.int 0 0), (.int 0 0), (.ref 123), (.bool false), (.int 181 0), (.ref 124), .none, .none, .none, .none, (.int 351 0), (.int 28 0), (.str (Str.ofString "/claim/cut.py") 352)]), #[]⟩
noncomputable def ob93 (P : Params) : Obj := ⟨(.type "frame"), none, .plain, #[some (.ref 125), some (.ref 3), some (.ref 122), none, some (.str (Str.ofString "lazycore.stg") 187), none, some (.ref 0)]⟩
noncomputable def ob94 (P : Params) : Obj := ⟨(.type "tuple"), none, (.seq #[(.str (Str.ofString "self") 361), (.str (Str.ofString "key") 362), (.str (Str.ofString "names") 363), (.str (Str.ofString "body") 364)] 0), #[]⟩
noncomputable def ob95 (P : Params) : Obj := ⟨.none, none, (.func { name := (Str.ofString "__init__"), qualname := (Str.ofString "SAlt.__init__"), params := fArgs sd6_0, body := .stmts (fBody sd6_0), scope := fScope sd6_0, globals := 0, closure := [], defaults := .none, kwdefaults := .none, doc := .none, pyModule := .none, annotations := none, code := .none, closureTuple := .none, builtins := 0 }), #[]⟩
noncomputable def ob96 (P : Params) : Obj := ⟨(.type "code"), none, (.fields #[(.str (Str.ofString "__init__") 358), (.str (Str.ofString "SAlt.__init__") 359), (.str (Str.ofString "/claim/cut.py") 360), (.int 30 0), (.int 4 0), (.int 0 0), (.int 0 0), (.int 3 0), (.ref 127), (.bool true), (.int 181 0), (.ref 128), .none, (.ref 129), (.ref 130), (.ref 131), (.int 365 0), (.int 30 0), (.str (Str.ofString "/claim/cut.py") 366)]), #[]⟩
noncomputable def ob97 (P : Params) : Obj := ⟨(.type "function"), none, (.func { name := (Str.ofString "__init__"), qualname := (Str.ofString "SAlt.__init__"), params := fArgs sd6_0, body := .stmts (fBody sd6_0), scope := fScope sd6_0, globals := 3, closure := [], defaults := .none, kwdefaults := .none, doc := .none, pyModule := (.str (Str.ofString "lazycore.stg") 187), annotations := none, code := (.ref 132), closureTuple := .none, builtins := 0 }), #[]⟩
noncomputable def ob98 (P : Params) : Obj := ⟨(.type "tuple"), none, (.seq #[(.str (Str.ofString "body") 368), (.str (Str.ofString "key") 369), (.str (Str.ofString "names") 370)] 0), #[]⟩
noncomputable def ob99 (P : Params) : Obj := ⟨(.type "dict"), none, (.dict #[⟨(PyData.keyHash P (Str.ofString "__module__")), (.str (Str.ofString "__module__") 353), (.str (Str.ofString "lazycore.stg") 187)⟩, ⟨(PyData.keyHash P (Str.ofString "__firstlineno__")), (.str (Str.ofString "__firstlineno__") 357), (.int 28 356)⟩, ⟨(PyData.keyHash P (Str.ofString "__init__")), (.str (Str.ofString "__init__") 367), (.ref 133)⟩, ⟨(PyData.keyHash P (Str.ofString "__static_attributes__")), (.str (Str.ofString "__static_attributes__") 371), (.ref 134)⟩, ⟨(PyData.keyHash P (Str.ofString "__dict__")), (.str (Str.ofString "__dict__") 373), (.ref 137)⟩, ⟨(PyData.keyHash P (Str.ofString "__weakref__")), (.str (Str.ofString "__weakref__") 375), (.ref 138)⟩, ⟨(PyData.keyHash P (Str.ofString "__doc__")), (.str (Str.ofString "__doc__") 376), .none⟩] 4), #[]⟩
noncomputable def ob100 (P : Params) : Obj := ⟨(.type "type"), none, (.cls { name := (Str.ofString "SAlt"), bases := [(.type "object")], mro := [(.ref 136), (.type "object")], ns := 135, qualname := (Str.ofString "SAlt"), hasDict := true, slotNames := [], subclasses := [], abstract := false, collection := none, hasDel := false }), #[none, none, some (.str (Str.ofString "SAlt") 346), some (.str (Str.ofString "SAlt") 354), some (.builtin "object.__new__"), some (.bool true)]⟩
noncomputable def ob101 (P : Params) : Obj := ⟨(.type "getset_descriptor"), none, (.fields #[(.str (Str.ofString "__dict__") 372), (.ref 136), (.builtin "function.__dict__"), (.builtin "function.__dict__#set")]), #[]⟩
noncomputable def ob102 (P : Params) : Obj := ⟨(.type "getset_descriptor"), none, (.fields #[(.str (Str.ofString "__weakref__") 374), (.ref 136), (.builtin "ExceptionGroup.__weakref__"), .none]), #[]⟩
noncomputable def ob103 (P : Params) : Obj := ⟨(.type "super"), none, (.fields #[(.ref 136), (.ref 136), (.ref 136)]), #[]⟩
noncomputable def ob104 (P : Params) : Obj := ⟨(.type "builtin_function_or_method"), none, (.fields #[(.builtin "object.__init_subclass__"), (.ref 136)]), #[]⟩
noncomputable def tr6 (P : Params) : BT := (.node (boot_o_0 P) (.node (boot_o_1 P) (.node (ob88 P) (.node (boot_o_7 P) (.node (boot_o_7 P) (.node (ob15 P) (.node (ob42 P) (.node (boot_o_7 P) .nil .nil) .nil) (.node (ob67 P) .nil .nil)) (.node (ob27 P) (.node (ob4 P) .nil .nil) (.node (ob79 P) .nil .nil))) (.node (boot_o_8 P) (.node (boot_o_7 P) (.node (ob47 P) (.node (ob99 P) .nil .nil) .nil) (.node (ob74 P) .nil .nil)) (.node (ob35 P) (.node (ob60 P) .nil .nil) (.node (ob87 P) .nil .nil)))) (.node (boot_o_7 P) (.node (ob6 P) (.node (ob19 P) (.node (boot_o_7 P) (.node (ob95 P) .nil .nil) .nil) (.node (boot_o_7 P) .nil .nil)) (.node (ob31 P) (.node (ob58 P) .nil .nil) (.node (ob83 P) .nil .nil))) (.node (ob11 P) (.node (boot_o_7 P) (.node (ob51 P) (.node (ob103 P) .nil .nil) .nil) (.node (boot_o_8 P) .nil .nil)) (.node (ob39 P) (.node (ob63 P) .nil .nil) (.node (boot_o_7 P) .nil .nil))))) (.node (boot_o_5 P) (.node (boot_o_9 P) (.node (ob5 P) (.node (ob17 P) (.node (boot_o_8 P) (.node (ob94 P) .nil .nil) .nil) (.node (ob69 P) .nil .nil)) (.node (ob29 P) (.node (boot_o_7 P) .nil .nil) (.node (ob81 P) .nil .nil))) (.node (boot_o_7 P) (.node (ob24 P) (.node (ob49 P) (.node (ob101 P) .nil .nil) .nil) (.node (ob76 P) .nil .nil)) (.node (boot_o_7 P) (.node (ob61 P) .nil .nil) (.node (ob4 P) .nil .nil)))) (.node (ob0 P) (.node (ob8 P) (.node (ob4 P) (.node (ob45 P) (.node (ob97 P) .nil .nil) .nil) (.node (ob73 P) .nil .nil)) (.node (ob33 P) (.node (boot_o_7 P) .nil .nil) (.node (ob85 P) .nil .nil))) (.node (ob13 P) (.node (ob26 P) (.node (ob53 P) .nil .nil) (.node (boot_o_7 P) .nil .nil)) (.node (ob40 P) (.node (ob65 P) .nil .nil) (.node (ob92 P) .nil .nil)))))) (.node (boot_o_2 P) (.node (boot_o_4 P) (.node (boot_o_8 P) (.node (ob4 P) (.node (ob16 P) (.node (boot_o_7 P) (.node (boot_o_8 P) .nil .nil) .nil) (.node (ob68 P) .nil .nil)) (.node (ob28 P) (.node (ob56 P) .nil .nil) (.node (ob80 P) .nil .nil))) (.node (ob9 P) (.node (ob23 P) (.node (ob48 P) (.node (ob100 P) .nil .nil) .nil) (.node (ob75 P) .nil .nil)) (.node (ob36 P) (.node (boot_o_7 P) .nil .nil) (.node (boot_o_7 P) .nil .nil)))) (.node (ob89 P) (.node (ob7 P) (.node (boot_o_7 P) (.node (ob44 P) (.node (ob96 P) .nil .nil) .nil) (.node (ob4 P) .nil .nil)) (.node (ob32 P) (.node (ob59 P) .nil .nil) (.node (ob84 P) .nil .nil))) (.node (ob12 P) (.node (boot_o_8 P) (.node (ob52 P) (.node (ob104 P) .nil .nil) .nil) (.node (ob77 P) .nil .nil)) (.node (boot_o_7 P) (.node (ob64 P) .nil .nil) (.node (ob91 P) .nil .nil))))) (.node (boot_o_6 P) (.node (boot_o_10 P) (.node (boot_o_7 P) (.node (ob18 P) (.node (ob43 P) (.node (boot_o_7 P) .nil .nil) .nil) (.node (ob70 P) .nil .nil)) (.node (ob30 P) (.node (ob57 P) .nil .nil) (.node (ob82 P) .nil .nil))) (.node (ob10 P) (.node (ob25 P) (.node (ob50 P) (.node (ob102 P) .nil .nil) .nil) (.node (boot_o_7 P) .nil .nil)) (.node (ob4 P) (.node (ob62 P) .nil .nil) (.node (ob90 P) .nil .nil)))) (.node (ob1 P) (.node (boot_o_7 P) (.node (ob22 P) (.node (ob46 P) (.node (ob98 P) .nil .nil) .nil) (.node (boot_o_7 P) .nil .nil)) (.node (ob34 P) (.node (boot_o_8 P) .nil .nil) (.node (ob86 P) .nil .nil))) (.node (ob14 P) (.node (boot_o_7 P) (.node (boot_o_7 P) .nil .nil) (.node (ob78 P) .nil .nil)) (.node (ob41 P) (.node (ob66 P) .nil .nil) (.node (ob93 P) .nil .nil)))))))
noncomputable def ob105 (P : Params) : Obj := ⟨(.type "dict"), none, (.dict #[⟨(PyData.keyHash P (Str.ofString "__name__")), (.str (Str.ofString "__name__") 165), (.str (Str.ofString "lazycore.stg") 187)⟩, ⟨(PyData.keyHash P (Str.ofString "__doc__")), (.str (Str.ofString "__doc__") 166), .none⟩, ⟨(PyData.keyHash P (Str.ofString "__package__")), (.str (Str.ofString "__package__") 167), .none⟩, ⟨(PyData.keyHash P (Str.ofString "__loader__")), (.str (Str.ofString "__loader__") 168), (.builtin "__main__.__loader__#opaque")⟩, ⟨(PyData.keyHash P (Str.ofString "__spec__")), (.str (Str.ofString "__spec__") 169), .none⟩, ⟨(PyData.keyHash P (Str.ofString "__annotations__")), (.str (Str.ofString "__annotations__") 170), (.ref 6)⟩, ⟨(PyData.keyHash P (Str.ofString "__builtins__")), (.str (Str.ofString "__builtins__") 171), (.ref 4)⟩, ⟨(PyData.keyHash P (Str.ofString "__file__")), (.str (Str.ofString "__file__") 173), (.str (Str.ofString "/claim/cut.py") 172)⟩, ⟨(PyData.keyHash P (Str.ofString "__cached__")), (.str (Str.ofString "__cached__") 174), .none⟩, ⟨(PyData.keyHash P (Str.ofString "SAtom")), (.str (Str.ofString "SAtom") 217), (.ref 31)⟩, ⟨(PyData.keyHash P (Str.ofString "SApp")), (.str (Str.ofString "SApp") 248), (.ref 52)⟩, ⟨(PyData.keyHash P (Str.ofString "SCon")), (.str (Str.ofString "SCon") 279), (.ref 73)⟩, ⟨(PyData.keyHash P (Str.ofString "SPrim")), (.str (Str.ofString "SPrim") 310), (.ref 94)⟩, ⟨(PyData.keyHash P (Str.ofString "SCase")), (.str (Str.ofString "SCase") 345), (.ref 115)⟩, ⟨(PyData.keyHash P (Str.ofString "SAlt")), (.str (Str.ofString "SAlt") 378), (.ref 136)⟩, ⟨(PyData.keyHash P (Str.ofString "SLet")), (.str (Str.ofString "SLet") 409), (.ref 157)⟩] 16), #[]⟩
noncomputable def ob106 (P : Params) : Obj := ⟨.none, none, (.fields #[(.int 2 0), (.int 0 0), (.ref 20), (.int 6 0), (.int 0 0), (.ref 41), (.int 11 0), (.int 0 0), (.ref 62), (.int 16 0), (.int 0 0), (.ref 83), (.int 21 0), (.int 0 0), (.ref 104), (.int 28 0), (.int 0 0), (.ref 125), (.int 34 0), (.int 0 0), (.ref 146)]), #[]⟩
noncomputable def ob107 (P : Params) : Obj := ⟨(.type "dict"), none, (.dict #[⟨(PyData.keyHash P (Str.ofString "__module__")), (.str (Str.ofString "__module__") 386), (.str (Str.ofString "lazycore.stg") 187)⟩, ⟨(PyData.keyHash P (Str.ofString "__qualname__")), (.str (Str.ofString "__qualname__") 388), (.str (Str.ofString "SLet") 387)⟩, ⟨(PyData.keyHash P (Str.ofString "__firstlineno__")), (.str (Str.ofString "__firstlineno__") 390), (.int 34 389)⟩, ⟨(PyData.keyHash P (Str.ofString "__init__")), (.str (Str.ofString "__init__") 399), (.ref 154)⟩, ⟨(PyData.keyHash P (Str.ofString "__static_attributes__")), (.str (Str.ofString "__static_attributes__") 402), (.ref 155)⟩] 5), #[]⟩
noncomputable def ob108 (P : Params) : Obj := ⟨.none, none, (.fields #[(.int 36 0), (.int 4 0), (.ref 153)]), #[]⟩
noncomputable def ob109 (P : Params) : Obj := ⟨(.type "code"), none, (.fields #[(.str (Str.ofString "SLet") 381), (.str (Str.ofString "SLet") 382), (.str (Str.ofString "/claim/cut.py") 383), (.int 34 0), (.int 0 0), (.int 0 0), (.int 0 0), (.int 0 0), (.ref 144), (.bool false), (.int 181 0), (.ref 145), .none, .none, .none, .none, (.int 384 0), (.int 34 0), (.str (Str.ofString "/claim/cut.py") 385)]), #[]⟩
noncomputable def ob110 (P : Params) : Obj := ⟨(.type "frame"), none, .plain, #[some (.ref 146), some (.ref 3), some (.ref 143), none, some (.str (Str.ofString "lazycore.stg") 187), none, some (.ref 0)]⟩
noncomputable def ob111 (P : Params) : Obj := ⟨(.type "tuple"), none, (.seq #[(.str (Str.ofString "self") 394), (.str (Str.ofString "binds") 395), (.str (Str.ofString "body") 396)] 0), #[]⟩
noncomputable def ob112 (P : Params) : Obj := ⟨.none, none, (.func { name := (Str.ofString "__init__"), qualname := (Str.ofString "SLet.__init__"), params := fArgs sd7_0, body := .stmts (fBody sd7_0), scope := fScope sd7_0, globals := 0, closure := [], defaults := .none, kwdefaults := .none, doc := .none, pyModule := .none, annotations := none, code := .none, closureTuple := .none, builtins := 0 }), #[]⟩
noncomputable def ob113 (P : Params) : Obj := ⟨(.type "code"), none, (.fields #[(.str (Str.ofString "__init__") 391), (.str (Str.ofString "SLet.__init__") 392), (.str (Str.ofString "/claim/cut.py") 393), (.int 36 0), (.int 3 0), (.int 0 0), (.int 0 0), (.int 3 0), (.ref 148), (.bool true), (.int 181 0), (.ref 149), .none, (.ref 150), (.ref 151), (.ref 152), (.int 397 0), (.int 36 0), (.str (Str.ofString "/claim/cut.py") 398)]), #[]⟩
noncomputable def ob114 (P : Params) : Obj := ⟨(.type "function"), none, (.func { name := (Str.ofString "__init__"), qualname := (Str.ofString "SLet.__init__"), params := fArgs sd7_0, body := .stmts (fBody sd7_0), scope := fScope sd7_0, globals := 3, closure := [], defaults := .none, kwdefaults := .none, doc := .none, pyModule := (.str (Str.ofString "lazycore.stg") 187), annotations := none, code := (.ref 153), closureTuple := .none, builtins := 0 }), #[]⟩
noncomputable def ob115 (P : Params) : Obj := ⟨(.type "tuple"), none, (.seq #[(.str (Str.ofString "binds") 400), (.str (Str.ofString "body") 401)] 0), #[]⟩
noncomputable def ob116 (P : Params) : Obj := ⟨(.type "dict"), none, (.dict #[⟨(PyData.keyHash P (Str.ofString "__module__")), (.str (Str.ofString "__module__") 386), (.str (Str.ofString "lazycore.stg") 187)⟩, ⟨(PyData.keyHash P (Str.ofString "__firstlineno__")), (.str (Str.ofString "__firstlineno__") 390), (.int 34 389)⟩, ⟨(PyData.keyHash P (Str.ofString "__init__")), (.str (Str.ofString "__init__") 399), (.ref 154)⟩, ⟨(PyData.keyHash P (Str.ofString "__static_attributes__")), (.str (Str.ofString "__static_attributes__") 402), (.ref 155)⟩, ⟨(PyData.keyHash P (Str.ofString "__dict__")), (.str (Str.ofString "__dict__") 404), (.ref 158)⟩, ⟨(PyData.keyHash P (Str.ofString "__weakref__")), (.str (Str.ofString "__weakref__") 406), (.ref 159)⟩, ⟨(PyData.keyHash P (Str.ofString "__doc__")), (.str (Str.ofString "__doc__") 407), .none⟩] 4), #[]⟩
noncomputable def ob117 (P : Params) : Obj := ⟨(.type "type"), none, (.cls { name := (Str.ofString "SLet"), bases := [(.type "object")], mro := [(.ref 157), (.type "object")], ns := 156, qualname := (Str.ofString "SLet"), hasDict := true, slotNames := [], subclasses := [], abstract := false, collection := none, hasDel := false }), #[none, none, some (.str (Str.ofString "SLet") 379), some (.str (Str.ofString "SLet") 387), some (.builtin "object.__new__"), some (.bool true)]⟩
noncomputable def ob118 (P : Params) : Obj := ⟨(.type "getset_descriptor"), none, (.fields #[(.str (Str.ofString "__dict__") 403), (.ref 157), (.builtin "function.__dict__"), (.builtin "function.__dict__#set")]), #[]⟩
noncomputable def ob119 (P : Params) : Obj := ⟨(.type "getset_descriptor"), none, (.fields #[(.str (Str.ofString "__weakref__") 405), (.ref 157), (.builtin "ExceptionGroup.__weakref__"), .none]), #[]⟩
noncomputable def ob120 (P : Params) : Obj := ⟨(.type "super"), none, (.fields #[(.ref 157), (.ref 157), (.ref 157)]), #[]⟩
noncomputable def ob121 (P : Params) : Obj := ⟨(.type "builtin_function_or_method"), none, (.fields #[(.builtin "object.__init_subclass__"), (.ref 157)]), #[]⟩
noncomputable def tr7 (P : Params) : BT := (.node (boot_o_0 P) (.node (boot_o_1 P) (.node (ob105 P) (.node (boot_o_7 P) (.node (boot_o_7 P) (.node (ob15 P) (.node (ob42 P) (.node (boot_o_7 P) .nil .nil) .nil) (.node (ob67 P) (.node (ob119 P) .nil .nil) .nil)) (.node (ob27 P) (.node (ob4 P) (.node (ob107 P) .nil .nil) .nil) (.node (ob79 P) .nil .nil))) (.node (boot_o_8 P) (.node (boot_o_7 P) (.node (ob47 P) (.node (ob99 P) .nil .nil) .nil) (.node (ob74 P) .nil .nil)) (.node (ob35 P) (.node (ob60 P) (.node (boot_o_7 P) .nil .nil) .nil) (.node (ob87 P) .nil .nil)))) (.node (boot_o_7 P) (.node (ob6 P) (.node (ob19 P) (.node (boot_o_7 P) (.node (ob95 P) .nil .nil) .nil) (.node (boot_o_7 P) .nil .nil)) (.node (ob31 P) (.node (ob58 P) (.node (ob110 P) .nil .nil) .nil) (.node (ob83 P) .nil .nil))) (.node (ob11 P) (.node (boot_o_7 P) (.node (ob51 P) (.node (ob103 P) .nil .nil) .nil) (.node (boot_o_8 P) .nil .nil)) (.node (ob39 P) (.node (ob63 P) (.node (ob115 P) .nil .nil) .nil) (.node (boot_o_7 P) .nil .nil))))) (.node (boot_o_5 P) (.node (boot_o_9 P) (.node (ob5 P) (.node (ob17 P) (.node (boot_o_8 P) (.node (ob94 P) .nil .nil) .nil) (.node (ob69 P) (.node (ob121 P) .nil .nil) .nil)) (.node (ob29 P) (.node (boot_o_7 P) (.node (ob108 P) .nil .nil) .nil) (.node (ob81 P) .nil .nil))) (.node (boot_o_7 P) (.node (ob24 P) (.node (ob49 P) (.node (ob101 P) .nil .nil) .nil) (.node (ob76 P) .nil .nil)) (.node (boot_o_7 P) (.node (ob61 P) (.node (ob113 P) .nil .nil) .nil) (.node (ob4 P) .nil .nil)))) (.node (ob0 P) (.node (ob8 P) (.node (ob4 P) (.node (ob45 P) (.node (ob97 P) .nil .nil) .nil) (.node (ob73 P) .nil .nil)) (.node (ob33 P) (.node (boot_o_7 P) (.node (boot_o_8 P) .nil .nil) .nil) (.node (ob85 P) .nil .nil))) (.node (ob13 P) (.node (ob26 P) (.node (ob53 P) (.node (boot_o_7 P) .nil .nil) .nil) (.node (boot_o_7 P) .nil .nil)) (.node (ob40 P) (.node (ob65 P) (.node (ob117 P) .nil .nil) .nil) (.node (ob92 P) .nil .nil)))))) (.node (boot_o_2 P) (.node (boot_o_4 P) (.node (boot_o_8 P) (.node (ob4 P) (.node (ob16 P) (.node (boot_o_7 P) (.node (boot_o_8 P) .nil .nil) .nil) (.node (ob68 P) (.node (ob120 P) .nil .nil) .nil)) (.node (ob28 P) (.node (ob56 P) (.node (boot_o_7 P) .nil .nil) .nil) (.node (ob80 P) .nil .nil))) (.node (ob9 P) (.node (ob23 P) (.node (ob48 P) (.node (ob100 P) .nil .nil) .nil) (.node (ob75 P) .nil .nil)) (.node (ob36 P) (.node (boot_o_7 P) (.node (ob112 P) .nil .nil) .nil) (.node (boot_o_7 P) .nil .nil)))) (.node (ob106 P) (.node (ob7 P) (.node (boot_o_7 P) (.node (ob44 P) (.node (ob96 P) .nil .nil) .nil) (.node (ob4 P) .nil .nil)) (.node (ob32 P) (.node (ob59 P) (.node (boot_o_7 P) .nil .nil) .nil) (.node (ob84 P) .nil .nil))) (.node (ob12 P) (.node (boot_o_8 P) (.node (ob52 P) (.node (ob104 P) .nil .nil) .nil) (.node (ob77 P) .nil .nil)) (.node (boot_o_7 P) (.node (ob64 P) (.node (ob116 P) .nil .nil) .nil) (.node (ob91 P) .nil .nil))))) (.node (boot_o_6 P) (.node (boot_o_10 P) (.node (boot_o_7 P) (.node (ob18 P) (.node (ob43 P) (.node (boot_o_7 P) .nil .nil) .nil) (.node (ob70 P) .nil .nil)) (.node (ob30 P) (.node (ob57 P) (.node (ob109 P) .nil .nil) .nil) (.node (ob82 P) .nil .nil))) (.node (ob10 P) (.node (ob25 P) (.node (ob50 P) (.node (ob102 P) .nil .nil) .nil) (.node (boot_o_7 P) .nil .nil)) (.node (ob4 P) (.node (ob62 P) (.node (ob114 P) .nil .nil) .nil) (.node (ob90 P) .nil .nil)))) (.node (ob1 P) (.node (boot_o_7 P) (.node (ob22 P) (.node (ob46 P) (.node (ob98 P) .nil .nil) .nil) (.node (boot_o_7 P) .nil .nil)) (.node (ob34 P) (.node (boot_o_8 P) (.node (ob111 P) .nil .nil) .nil) (.node (ob86 P) .nil .nil))) (.node (ob14 P) (.node (boot_o_7 P) (.node (boot_o_7 P) (.node (ob4 P) .nil .nil) .nil) (.node (ob78 P) .nil .nil)) (.node (ob41 P) (.node (ob66 P) (.node (ob118 P) .nil .nil) .nil) (.node (ob93 P) .nil .nil)))))))
noncomputable def ob122 (P : Params) : Obj := ⟨(.type "dict"), none, (.dict #[⟨(PyData.keyHash P (Str.ofString "__name__")), (.str (Str.ofString "__name__") 165), (.str (Str.ofString "lazycore.stg") 187)⟩, ⟨(PyData.keyHash P (Str.ofString "__doc__")), (.str (Str.ofString "__doc__") 166), .none⟩, ⟨(PyData.keyHash P (Str.ofString "__package__")), (.str (Str.ofString "__package__") 167), .none⟩, ⟨(PyData.keyHash P (Str.ofString "__loader__")), (.str (Str.ofString "__loader__") 168), (.builtin "__main__.__loader__#opaque")⟩, ⟨(PyData.keyHash P (Str.ofString "__spec__")), (.str (Str.ofString "__spec__") 169), .none⟩, ⟨(PyData.keyHash P (Str.ofString "__annotations__")), (.str (Str.ofString "__annotations__") 170), (.ref 6)⟩, ⟨(PyData.keyHash P (Str.ofString "__builtins__")), (.str (Str.ofString "__builtins__") 171), (.ref 4)⟩, ⟨(PyData.keyHash P (Str.ofString "__file__")), (.str (Str.ofString "__file__") 173), (.str (Str.ofString "/claim/cut.py") 172)⟩, ⟨(PyData.keyHash P (Str.ofString "__cached__")), (.str (Str.ofString "__cached__") 174), .none⟩, ⟨(PyData.keyHash P (Str.ofString "SAtom")), (.str (Str.ofString "SAtom") 217), (.ref 31)⟩, ⟨(PyData.keyHash P (Str.ofString "SApp")), (.str (Str.ofString "SApp") 248), (.ref 52)⟩, ⟨(PyData.keyHash P (Str.ofString "SCon")), (.str (Str.ofString "SCon") 279), (.ref 73)⟩, ⟨(PyData.keyHash P (Str.ofString "SPrim")), (.str (Str.ofString "SPrim") 310), (.ref 94)⟩, ⟨(PyData.keyHash P (Str.ofString "SCase")), (.str (Str.ofString "SCase") 345), (.ref 115)⟩, ⟨(PyData.keyHash P (Str.ofString "SAlt")), (.str (Str.ofString "SAlt") 378), (.ref 136)⟩, ⟨(PyData.keyHash P (Str.ofString "SLet")), (.str (Str.ofString "SLet") 409), (.ref 157)⟩, ⟨(PyData.keyHash P (Str.ofString "Lambda")), (.str (Str.ofString "Lambda") 444), (.ref 178)⟩] 17), #[]⟩
noncomputable def ob123 (P : Params) : Obj := ⟨.none, none, (.fields #[(.int 2 0), (.int 0 0), (.ref 20), (.int 6 0), (.int 0 0), (.ref 41), (.int 11 0), (.int 0 0), (.ref 62), (.int 16 0), (.int 0 0), (.ref 83), (.int 21 0), (.int 0 0), (.ref 104), (.int 28 0), (.int 0 0), (.ref 125), (.int 34 0), (.int 0 0), (.ref 146), (.int 39 0), (.int 0 0), (.ref 167)]), #[]⟩
noncomputable def ob124 (P : Params) : Obj := ⟨(.type "dict"), none, (.dict #[⟨(PyData.keyHash P (Str.ofString "__module__")), (.str (Str.ofString "__module__") 417), (.str (Str.ofString "lazycore.stg") 187)⟩, ⟨(PyData.keyHash P (Str.ofString "__qualname__")), (.str (Str.ofString "__qualname__") 419), (.str (Str.ofString "Lambda") 418)⟩, ⟨(PyData.keyHash P (Str.ofString "__firstlineno__")), (.str (Str.ofString "__firstlineno__") 421), (.int 39 420)⟩, ⟨(PyData.keyHash P (Str.ofString "__init__")), (.str (Str.ofString "__init__") 432), (.ref 175)⟩, ⟨(PyData.keyHash P (Str.ofString "__static_attributes__")), (.str (Str.ofString "__static_attributes__") 437), (.ref 176)⟩] 5), #[]⟩
noncomputable def ob125 (P : Params) : Obj := ⟨.none, none, (.fields #[(.int 41 0), (.int 4 0), (.ref 174)]), #[]⟩
noncomputable def ob126 (P : Params) : Obj := ⟨(.type "code"), none, (.fields #[(.str (Str.ofString "Lambda") 412), (.str (Str.ofString "Lambda") 413), (.str (Str.ofString "/claim/cut.py") 414), (.int 39 0), (.int 0 0), (.int 0 0), (.int 0 0), (.int 0 0), (.ref 165), (.bool false), (.int 181 0), (.ref 166), .none, .none, .none, .none, (.int 415 0), (.int 39 0), (.str (Str.ofString "/claim/cut.py") 416)]), #[]⟩
noncomputable def ob127 (P : Params) : Obj := ⟨(.type "frame"), none, .plain, #[some (.ref 167), some (.ref 3), some (.ref 164), none, some (.str (Str.ofString "lazycore.stg") 187), none, some (.ref 0)]⟩
noncomputable def ob128 (P : Params) : Obj := ⟨(.type "tuple"), none, (.seq #[(.str (Str.ofString "self") 425), (.str (Str.ofString "free") 426), (.str (Str.ofString "params") 427), (.str (Str.ofString "body") 428), (.str (Str.ofString "is_updated") 429)] 0), #[]⟩
noncomputable def ob129 (P : Params) : Obj := ⟨.none, none, (.func { name := (Str.ofString "__init__"), qualname := (Str.ofString "Lambda.__init__"), params := fArgs sd8_0, body := .stmts (fBody sd8_0), scope := fScope sd8_0, globals := 0, closure := [], defaults := .none, kwdefaults := .none, doc := .none, pyModule := .none, annotations := none, code := .none, closureTuple := .none, builtins := 0 }), #[]⟩
noncomputable def ob130 (P : Params) : Obj := ⟨(.type "code"), none, (.fields #[(.str (Str.ofString "__init__") 422), (.str (Str.ofString "Lambda.__init__") 423), (.str (Str.ofString "/claim/cut.py") 424), (.int 41 0), (.int 5 0), (.int 0 0), (.int 0 0), (.int 3 0), (.ref 169), (.bool true), (.int 181 0), (.ref 170), .none, (.ref 171), (.ref 172), (.ref 173), (.int 430 0), (.int 41 0), (.str (Str.ofString "/claim/cut.py") 431)]), #[]⟩
noncomputable def ob131 (P : Params) : Obj := ⟨(.type "function"), none, (.func { name := (Str.ofString "__init__"), qualname := (Str.ofString "Lambda.__init__"), params := fArgs sd8_0, body := .stmts (fBody sd8_0), scope := fScope sd8_0, globals := 3, closure := [], defaults := .none, kwdefaults := .none, doc := .none, pyModule := (.str (Str.ofString "lazycore.stg") 187), annotations := none, code := (.ref 174), closureTuple := .none, builtins := 0 }), #[]⟩
noncomputable def ob132 (P : Params) : Obj := ⟨(.type "tuple"), none, (.seq #[(.str (Str.ofString "body") 433), (.str (Str.ofString "free") 434), (.str (Str.ofString "is_updated") 435), (.str (Str.ofString "params") 436)] 0), #[]⟩
noncomputable def ob133 (P : Params) : Obj := ⟨(.type "dict"), none, (.dict #[⟨(PyData.keyHash P (Str.ofString "__module__")), (.str (Str.ofString "__module__") 417), (.str (Str.ofString "lazycore.stg") 187)⟩, ⟨(PyData.keyHash P (Str.ofString "__firstlineno__")), (.str (Str.ofString "__firstlineno__") 421), (.int 39 420)⟩, ⟨(PyData.keyHash P (Str.ofString "__init__")), (.str (Str.ofString "__init__") 432), (.ref 175)⟩, ⟨(PyData.keyHash P (Str.ofString "__static_attributes__")), (.str (Str.ofString "__static_attributes__") 437), (.ref 176)⟩, ⟨(PyData.keyHash P (Str.ofString "__dict__")), (.str (Str.ofString "__dict__") 439), (.ref 179)⟩, ⟨(PyData.keyHash P (Str.ofString "__weakref__")), (.str (Str.ofString "__weakref__") 441), (.ref 180)⟩, ⟨(PyData.keyHash P (Str.ofString "__doc__")), (.str (Str.ofString "__doc__") 442), .none⟩] 4), #[]⟩
noncomputable def ob134 (P : Params) : Obj := ⟨(.type "type"), none, (.cls { name := (Str.ofString "Lambda"), bases := [(.type "object")], mro := [(.ref 178), (.type "object")], ns := 177, qualname := (Str.ofString "Lambda"), hasDict := true, slotNames := [], subclasses := [], abstract := false, collection := none, hasDel := false }), #[none, none, some (.str (Str.ofString "Lambda") 410), some (.str (Str.ofString "Lambda") 418), some (.builtin "object.__new__"), some (.bool true)]⟩
noncomputable def ob135 (P : Params) : Obj := ⟨(.type "getset_descriptor"), none, (.fields #[(.str (Str.ofString "__dict__") 438), (.ref 178), (.builtin "function.__dict__"), (.builtin "function.__dict__#set")]), #[]⟩
noncomputable def ob136 (P : Params) : Obj := ⟨(.type "getset_descriptor"), none, (.fields #[(.str (Str.ofString "__weakref__") 440), (.ref 178), (.builtin "ExceptionGroup.__weakref__"), .none]), #[]⟩
noncomputable def ob137 (P : Params) : Obj := ⟨(.type "super"), none, (.fields #[(.ref 178), (.ref 178), (.ref 178)]), #[]⟩
noncomputable def ob138 (P : Params) : Obj := ⟨(.type "builtin_function_or_method"), none, (.fields #[(.builtin "object.__init_subclass__"), (.ref 178)]), #[]⟩
noncomputable def tr8 (P : Params) : BT := (.node (boot_o_0 P) (.node (boot_o_1 P) (.node (ob122 P) (.node (boot_o_7 P) (.node (boot_o_7 P) (.node (ob15 P) (.node (ob42 P) (.node (boot_o_7 P) .nil .nil) .nil) (.node (ob67 P) (.node (ob119 P) .nil .nil) .nil)) (.node (ob27 P) (.node (ob4 P) (.node (ob107 P) .nil .nil) .nil) (.node (ob79 P) (.node (ob131 P) .nil .nil) .nil))) (.node (boot_o_8 P) (.node (boot_o_7 P) (.node (ob47 P) (.node (ob99 P) .nil .nil) .nil) (.node (ob74 P) (.node (ob126 P) .nil .nil) .nil)) (.node (ob35 P) (.node (ob60 P) (.node (boot_o_7 P) .nil .nil) .nil) (.node (ob87 P) .nil .nil)))) (.node (boot_o_7 P) (.node (ob6 P) (.node (ob19 P) (.node (boot_o_7 P) (.node (ob95 P) .nil .nil) .nil) (.node (boot_o_7 P) (.node (ob4 P) .nil .nil) .nil)) (.node (ob31 P) (.node (ob58 P) (.node (ob110 P) .nil .nil) .nil) (.node (ob83 P) (.node (ob135 P) .nil .nil) .nil))) (.node (ob11 P) (.node (boot_o_7 P) (.node (ob51 P) (.node (ob103 P) .nil .nil) .nil) (.node (boot_o_8 P) (.node (ob128 P) .nil .nil) .nil)) (.node (ob39 P) (.node (ob63 P) (.node (ob115 P) .nil .nil) .nil) (.node (boot_o_7 P) .nil .nil))))) (.node (boot_o_5 P) (.node (boot_o_9 P) (.node (ob5 P) (.node (ob17 P) (.node (boot_o_8 P) (.node (ob94 P) .nil .nil) .nil) (.node (ob69 P) (.node (ob121 P) .nil .nil) .nil)) (.node (ob29 P) (.node (boot_o_7 P) (.node (ob108 P) .nil .nil) .nil) (.node (ob81 P) (.node (ob133 P) .nil .nil) .nil))) (.node (boot_o_7 P) (.node (ob24 P) (.node (ob49 P) (.node (ob101 P) .nil .nil) .nil) (.node (ob76 P) (.node (boot_o_7 P) .nil .nil) .nil)) (.node (boot_o_7 P) (.node (ob61 P) (.node (ob113 P) .nil .nil) .nil) (.node (ob4 P) .nil .nil)))) (.node (ob0 P) (.node (ob8 P) (.node (ob4 P) (.node (ob45 P) (.node (ob97 P) .nil .nil) .nil) (.node (ob73 P) (.node (boot_o_7 P) .nil .nil) .nil)) (.node (ob33 P) (.node (boot_o_7 P) (.node (boot_o_8 P) .nil .nil) .nil) (.node (ob85 P) (.node (ob137 P) .nil .nil) .nil))) (.node (ob13 P) (.node (ob26 P) (.node (ob53 P) (.node (boot_o_7 P) .nil .nil) .nil) (.node (boot_o_7 P) (.node (ob129 P) .nil .nil) .nil)) (.node (ob40 P) (.node (ob65 P) (.node (ob117 P) .nil .nil) .nil) (.node (ob92 P) .nil .nil)))))) (.node (boot_o_2 P) (.node (boot_o_4 P) (.node (boot_o_8 P) (.node (ob4 P) (.node (ob16 P) (.node (boot_o_7 P) (.node (boot_o_8 P) .nil .nil) .nil) (.node (ob68 P) (.node (ob120 P) .nil .nil) .nil)) (.node (ob28 P) (.node (ob56 P) (.node (boot_o_7 P) .nil .nil) .nil) (.node (ob80 P) (.node (ob132 P) .nil .nil) .nil))) (.node (ob9 P) (.node (ob23 P) (.node (ob48 P) (.node (ob100 P) .nil .nil) .nil) (.node (ob75 P) (.node (ob127 P) .nil .nil) .nil)) (.node (ob36 P) (.node (boot_o_7 P) (.node (ob112 P) .nil .nil) .nil) (.node (boot_o_7 P) .nil .nil)))) (.node (ob123 P) (.node (ob7 P) (.node (boot_o_7 P) (.node (ob44 P) (.node (ob96 P) .nil .nil) .nil) (.node (ob4 P) (.node (ob124 P) .nil .nil) .nil)) (.node (ob32 P) (.node (ob59 P) (.node (boot_o_7 P) .nil .nil) .nil) (.node (ob84 P) (.node (ob136 P) .nil .nil) .nil))) (.node (ob12 P) (.node (boot_o_8 P) (.node (ob52 P) (.node (ob104 P) .nil .nil) .nil) (.node (ob77 P) (.node (boot_o_7 P) .nil .nil) .nil)) (.node (boot_o_7 P) (.node (ob64 P) (.node (ob116 P) .nil .nil) .nil) (.node (ob91 P) .nil .nil))))) (.node (boot_o_6 P) (.node (boot_o_10 P) (.node (boot_o_7 P) (.node (ob18 P) (.node (ob43 P) (.node (boot_o_7 P) .nil .nil) .nil) (.node (ob70 P) (.node (boot_o_7 P) .nil .nil) .nil)) (.node (ob30 P) (.node (ob57 P) (.node (ob109 P) .nil .nil) .nil) (.node (ob82 P) (.node (ob134 P) .nil .nil) .nil))) (.node (ob10 P) (.node (ob25 P) (.node (ob50 P) (.node (ob102 P) .nil .nil) .nil) (.node (boot_o_7 P) (.node (boot_o_8 P) .nil .nil) .nil)) (.node (ob4 P) (.node (ob62 P) (.node (ob114 P) .nil .nil) .nil) (.node (ob90 P) .nil .nil)))) (.node (ob1 P) (.node (boot_o_7 P) (.node (ob22 P) (.node (ob46 P) (.node (ob98 P) .nil .nil) .nil) (.node (boot_o_7 P) (.node (ob125 P) .nil .nil) .nil)) (.node (ob34 P) (.node (boot_o_8 P) (.node (ob111 P) .nil .nil) .nil) (.node (ob86 P) (.node (ob138 P) .nil .nil) .nil))) (.node (ob14 P) (.node (boot_o_7 P) (.node (boot_o_7 P) (.node (ob4 P) .nil .nil) .nil) (.node (ob78 P) (.node (ob130 P) .nil .nil) .nil)) (.node (ob41 P) (.node (ob66 P) (.node (ob118 P) .nil .nil) .nil) (.node (ob93 P) .nil .nil)))))))
noncomputable def ob139 (P : Params) : Obj := ⟨(.type "dict"), none, (.dict #[⟨(PyData.keyHash P (Str.ofString "__name__")), (.str (Str.ofString "__name__") 165), (.str (Str.ofString "lazycore.stg_text") 478)⟩, ⟨(PyData.keyHash P (Str.ofString "__doc__")), (.str (Str.ofString "__doc__") 166), .none⟩, ⟨(PyData.keyHash P (Str.ofString "__package__")), (.str (Str.ofString "__package__") 167), .none⟩, ⟨(PyData.keyHash P (Str.ofString "__loader__")), (.str (Str.ofString "__loader__") 168), (.builtin "__main__.__loader__#opaque")⟩, ⟨(PyData.keyHash P (Str.ofString "__spec__")), (.str (Str.ofString "__spec__") 169), .none⟩, ⟨(PyData.keyHash P (Str.ofString "__annotations__")), (.str (Str.ofString "__annotations__") 170), (.ref 6)⟩, ⟨(PyData.keyHash P (Str.ofString "__builtins__")), (.str (Str.ofString "__builtins__") 171), (.ref 4)⟩, ⟨(PyData.keyHash P (Str.ofString "__file__")), (.str (Str.ofString "__file__") 173), (.str (Str.ofString "/claim/cut.py") 172)⟩, ⟨(PyData.keyHash P (Str.ofString "__cached__")), (.str (Str.ofString "__cached__") 174), .none⟩, ⟨(PyData.keyHash P (Str.ofString "SAtom")), (.str (Str.ofString "SAtom") 217), (.ref 31)⟩, ⟨(PyData.keyHash P (Str.ofString "SApp")), (.str (Str.ofString "SApp") 248), (.ref 52)⟩, ⟨(PyData.keyHash P (Str.ofString "SCon")), (.str (Str.ofString "SCon") 279), (.ref 73)⟩, ⟨(PyData.keyHash P (Str.ofString "SPrim")), (.str (Str.ofString "SPrim") 310), (.ref 94)⟩, ⟨(PyData.keyHash P (Str.ofString "SCase")), (.str (Str.ofString "SCase") 345), (.ref 115)⟩, ⟨(PyData.keyHash P (Str.ofString "SAlt")), (.str (Str.ofString "SAlt") 378), (.ref 136)⟩, ⟨(PyData.keyHash P (Str.ofString "SLet")), (.str (Str.ofString "SLet") 409), (.ref 157)⟩, ⟨(PyData.keyHash P (Str.ofString "Lambda")), (.str (Str.ofString "Lambda") 444), (.ref 178)⟩, ⟨(PyData.keyHash P (Str.ofString "StgProgram")), (.str (Str.ofString "StgProgram") 477), (.ref 199)⟩, ⟨(PyData.keyHash P (Str.ofString "literal_text")), (.str (Str.ofString "literal_text") 487), (.ref 210)⟩, ⟨(PyData.keyHash P (Str.ofString "atom_text")), (.str (Str.ofString "atom_text") 494), (.ref 217)⟩, ⟨(PyData.keyHash P (Str.ofString "row_text")), (.str (Str.ofString "row_text") 500), (.ref 222)⟩] 21), #[]⟩
noncomputable def ob140 (P : Params) : Obj := ⟨.none, none, (.fields #[(.int 2 0), (.int 0 0), (.ref 20), (.int 6 0), (.int 0 0), (.ref 41), (.int 11 0), (.int 0 0), (.ref 62), (.int 16 0), (.int 0 0), (.ref 83), (.int 21 0), (.int 0 0), (.ref 104), (.int 28 0), (.int 0 0), (.ref 125), (.int 34 0), (.int 0 0), (.ref 146), (.int 39 0), (.int 0 0), (.ref 167), (.int 46 0), (.int 0 0), (.ref 188), (.int 53 0), (.int 0 0), (.ref 209), (.int 55 0), (.int 0 0), (.ref 216), (.int 57 0), (.int 0 0), (.ref 221)]), #[]⟩
noncomputable def ob141 (P : Params) : Obj := ⟨(.type "dict"), none, (.dict #[⟨(PyData.keyHash P (Str.ofString "__module__")), (.str (Str.ofString "__module__") 452), (.str (Str.ofString "lazycore.stg") 187)⟩, ⟨(PyData.keyHash P (Str.ofString "__qualname__")), (.str (Str.ofString "__qualname__") 454), (.str (Str.ofString "StgProgram") 453)⟩, ⟨(PyData.keyHash P (Str.ofString "__firstlineno__")), (.str (Str.ofString "__firstlineno__") 456), (.int 46 455)⟩, ⟨(PyData.keyHash P (Str.ofString "__init__")), (.str (Str.ofString "__init__") 466), (.ref 196)⟩, ⟨(PyData.keyHash P (Str.ofString "__static_attributes__")), (.str (Str.ofString "__static_attributes__") 470), (.ref 197)⟩] 5), #[]⟩
noncomputable def ob142 (P : Params) : Obj := ⟨.none, none, (.fields #[(.int 48 0), (.int 4 0), (.ref 195)]), #[]⟩
noncomputable def ob143 (P : Params) : Obj := ⟨(.type "code"), none, (.fields #[(.str (Str.ofString "StgProgram") 447), (.str (Str.ofString "StgProgram") 448), (.str (Str.ofString "/claim/cut.py") 449), (.int 46 0), (.int 0 0), (.int 0 0), (.int 0 0), (.int 0 0), (.ref 186), (.bool false), (.int 181 0), (.ref 187), .none, .none, .none, .none, (.int 450 0), (.int 46 0), (.str (Str.ofString "/claim/cut.py") 451)]), #[]⟩
noncomputable def ob144 (P : Params) : Obj := ⟨(.type "frame"), none, .plain, #[some (.ref 188), some (.ref 3), some (.ref 185), none, some (.str (Str.ofString "lazycore.stg") 187), none, some (.ref 0)]⟩
noncomputable def ob145 (P : Params) : Obj := ⟨(.type "tuple"), none, (.seq #[(.str (Str.ofString "self") 460), (.str (Str.ofString "binds") 461), (.str (Str.ofString "cons") 462), (.str (Str.ofString "main") 463)] 0), #[]⟩
noncomputable def ob146 (P : Params) : Obj := ⟨.none, none, (.func { name := (Str.ofString "__init__"), qualname := (Str.ofString "StgProgram.__init__"), params := fArgs sd9_0, body := .stmts (fBody sd9_0), scope := fScope sd9_0, globals := 0, closure := [], defaults := .none, kwdefaults := .none, doc := .none, pyModule := .none, annotations := none, code := .none, closureTuple := .none, builtins := 0 }), #[]⟩
noncomputable def ob147 (P : Params) : Obj := ⟨(.type "code"), none, (.fields #[(.str (Str.ofString "__init__") 457), (.str (Str.ofString "StgProgram.__init__") 458), (.str (Str.ofString "/claim/cut.py") 459), (.int 48 0), (.int 4 0), (.int 0 0), (.int 0 0), (.int 3 0), (.ref 190), (.bool true), (.int 181 0), (.ref 191), .none, (.ref 192), (.ref 193), (.ref 194), (.int 464 0), (.int 48 0), (.str (Str.ofString "/claim/cut.py") 465)]), #[]⟩
noncomputable def ob148 (P : Params) : Obj := ⟨(.type "function"), none, (.func { name := (Str.ofString "__init__"), qualname := (Str.ofString "StgProgram.__init__"), params := fArgs sd9_0, body := .stmts (fBody sd9_0), scope := fScope sd9_0, globals := 3, closure := [], defaults := .none, kwdefaults := .none, doc := .none, pyModule := (.str (Str.ofString "lazycore.stg") 187), annotations := none, code := (.ref 195), closureTuple := .none, builtins := 0 }), #[]⟩
noncomputable def ob149 (P : Params) : Obj := ⟨(.type "tuple"), none, (.seq #[(.str (Str.ofString "binds") 467), (.str (Str.ofString "cons") 468), (.str (Str.ofString "main") 469)] 0), #[]⟩
noncomputable def ob150 (P : Params) : Obj := ⟨(.type "dict"), none, (.dict #[⟨(PyData.keyHash P (Str.ofString "__module__")), (.str (Str.ofString "__module__") 452), (.str (Str.ofString "lazycore.stg") 187)⟩, ⟨(PyData.keyHash P (Str.ofString "__firstlineno__")), (.str (Str.ofString "__firstlineno__") 456), (.int 46 455)⟩, ⟨(PyData.keyHash P (Str.ofString "__init__")), (.str (Str.ofString "__init__") 466), (.ref 196)⟩, ⟨(PyData.keyHash P (Str.ofString "__static_attributes__")), (.str (Str.ofString "__static_attributes__") 470), (.ref 197)⟩, ⟨(PyData.keyHash P (Str.ofString "__dict__")), (.str (Str.ofString "__dict__") 472), (.ref 200)⟩, ⟨(PyData.keyHash P (Str.ofString "__weakref__")), (.str (Str.ofString "__weakref__") 474), (.ref 201)⟩, ⟨(PyData.keyHash P (Str.ofString "__doc__")), (.str (Str.ofString "__doc__") 475), .none⟩] 4), #[]⟩
noncomputable def ob151 (P : Params) : Obj := ⟨(.type "type"), none, (.cls { name := (Str.ofString "StgProgram"), bases := [(.type "object")], mro := [(.ref 199), (.type "object")], ns := 198, qualname := (Str.ofString "StgProgram"), hasDict := true, slotNames := [], subclasses := [], abstract := false, collection := none, hasDel := false }), #[none, none, some (.str (Str.ofString "StgProgram") 445), some (.str (Str.ofString "StgProgram") 453), some (.builtin "object.__new__"), some (.bool true)]⟩
noncomputable def ob152 (P : Params) : Obj := ⟨(.type "getset_descriptor"), none, (.fields #[(.str (Str.ofString "__dict__") 471), (.ref 199), (.builtin "function.__dict__"), (.builtin "function.__dict__#set")]), #[]⟩
noncomputable def ob153 (P : Params) : Obj := ⟨(.type "getset_descriptor"), none, (.fields #[(.str (Str.ofString "__weakref__") 473), (.ref 199), (.builtin "ExceptionGroup.__weakref__"), .none]), #[]⟩
noncomputable def ob154 (P : Params) : Obj := ⟨(.type "super"), none, (.fields #[(.ref 199), (.ref 199), (.ref 199)]), #[]⟩
noncomputable def ob155 (P : Params) : Obj := ⟨(.type "builtin_function_or_method"), none, (.fields #[(.builtin "object.__init_subclass__"), (.ref 199)]), #[]⟩
noncomputable def ob156 (P : Params) : Obj := ⟨(.type "tuple"), none, (.seq #[(.str (Str.ofString "kind") 483), (.str (Str.ofString "value") 484)] 0), #[]⟩
noncomputable def ob157 (P : Params) : Obj := ⟨.none, none, (.func { name := (Str.ofString "literal_text"), qualname := (Str.ofString "literal_text"), params := fArgs sd11, body := .stmts (fBody sd11), scope := fScope sd11, globals := 0, closure := [], defaults := .none, kwdefaults := .none, doc := .none, pyModule := .none, annotations := none, code := .none, closureTuple := .none, builtins := 0 }), #[]⟩
noncomputable def ob158 (P : Params) : Obj := ⟨(.type "code"), none, (.fields #[(.str (Str.ofString "literal_text") 480), (.str (Str.ofString "literal_text") 481), (.str (Str.ofString "/claim/cut.py") 482), (.int 53 0), (.int 2 0), (.int 0 0), (.int 0 0), (.int 3 0), (.ref 204), (.bool true), (.int 181 0), (.ref 205), .none, (.ref 206), (.ref 207), (.ref 208), (.int 485 0), (.int 53 0), (.str (Str.ofString "/claim/cut.py") 486)]), #[]⟩
noncomputable def ob159 (P : Params) : Obj := ⟨(.type "function"), none, (.func { name := (Str.ofString "literal_text"), qualname := (Str.ofString "literal_text"), params := fArgs sd11, body := .stmts (fBody sd11), scope := fScope sd11, globals := 3, closure := [], defaults := .none, kwdefaults := .none, doc := .none, pyModule := (.str (Str.ofString "lazycore.stg_text") 478), annotations := none, code := (.ref 209), closureTuple := .none, builtins := 0 }), #[]⟩
noncomputable def ob160 (P : Params) : Obj := ⟨(.type "tuple"), none, (.seq #[(.str (Str.ofString "atom") 491)] 0), #[]⟩
noncomputable def ob161 (P : Params) : Obj := ⟨.none, none, (.func { name := (Str.ofString "atom_text"), qualname := (Str.ofString "atom_text"), params := fArgs sd12, body := .stmts (fBody sd12), scope := fScope sd12, globals := 0, closure := [], defaults := .none, kwdefaults := .none, doc := .none, pyModule := .none, annotations := none, code := .none, closureTuple := .none, builtins := 0 }), #[]⟩
noncomputable def ob162 (P : Params) : Obj := ⟨(.type "code"), none, (.fields #[(.str (Str.ofString "atom_text") 488), (.str (Str.ofString "atom_text") 489), (.str (Str.ofString "/claim/cut.py") 490), (.int 55 0), (.int 1 0), (.int 0 0), (.int 0 0), (.int 3 0), (.ref 211), (.bool true), (.int 181 0), (.ref 212), .none, (.ref 213), (.ref 214), (.ref 215), (.int 492 0), (.int 55 0), (.str (Str.ofString "/claim/cut.py") 493)]), #[]⟩
noncomputable def ob163 (P : Params) : Obj := ⟨(.type "function"), none, (.func { name := (Str.ofString "atom_text"), qualname := (Str.ofString "atom_text"), params := fArgs sd12, body := .stmts (fBody sd12), scope := fScope sd12, globals := 3, closure := [], defaults := .none, kwdefaults := .none, doc := .none, pyModule := (.str (Str.ofString "lazycore.stg_text") 478), annotations := none, code := (.ref 216), closureTuple := .none, builtins := 0 }), #[]⟩
noncomputable def ob164 (P : Params) : Obj := ⟨.none, none, (.func { name := (Str.ofString "row_text"), qualname := (Str.ofString "row_text"), params := fArgs sd13, body := .stmts (fBody sd13), scope := fScope sd13, globals := 0, closure := [], defaults := .none, kwdefaults := .none, doc := .none, pyModule := .none, annotations := none, code := .none, closureTuple := .none, builtins := 0 }), #[]⟩
noncomputable def ob165 (P : Params) : Obj := ⟨(.type "code"), none, (.fields #[(.str (Str.ofString "row_text") 495), (.str (Str.ofString "row_text") 496), (.str (Str.ofString "/claim/cut.py") 497), (.int 57 0), (.int 2 0), (.int 0 0), (.int 0 0), (.int 3 0), (.ref 218), (.bool true), (.int 181 0), (.ref 219), .none, .none, .none, (.ref 220), (.int 498 0), (.int 57 0), (.str (Str.ofString "/claim/cut.py") 499)]), #[]⟩
noncomputable def ob166 (P : Params) : Obj := ⟨(.type "function"), none, (.func { name := (Str.ofString "row_text"), qualname := (Str.ofString "row_text"), params := fArgs sd13, body := .stmts (fBody sd13), scope := fScope sd13, globals := 3, closure := [], defaults := .none, kwdefaults := .none, doc := .none, pyModule := (.str (Str.ofString "lazycore.stg_text") 478), annotations := none, code := (.ref 221), closureTuple := .none, builtins := 0 }), #[]⟩
noncomputable def tr9 (P : Params) : BT := (.node (boot_o_0 P) (.node (boot_o_1 P) (.node (ob139 P) (.node (boot_o_7 P) (.node (boot_o_7 P) (.node (ob15 P) (.node (ob42 P) (.node (boot_o_7 P) .nil .nil) (.node (boot_o_8 P) .nil .nil)) (.node (ob67 P) (.node (ob119 P) .nil .nil) .nil)) (.node (ob27 P) (.node (ob4 P) (.node (ob107 P) .nil .nil) (.node (boot_o_7 P) .nil .nil)) (.node (ob79 P) (.node (ob131 P) .nil .nil) .nil))) (.node (boot_o_8 P) (.node (boot_o_7 P) (.node (ob47 P) (.node (ob99 P) .nil .nil) (.node (ob151 P) .nil .nil)) (.node (ob74 P) (.node (ob126 P) .nil .nil) .nil)) (.node (ob35 P) (.node (ob60 P) (.node (boot_o_7 P) .nil .nil) (.node (ob161 P) .nil .nil)) (.node (ob87 P) (.node (boot_o_7 P) .nil .nil) .nil)))) (.node (boot_o_7 P) (.node (ob6 P) (.node (ob19 P) (.node (boot_o_7 P) (.node (ob95 P) .nil .nil) (.node (ob147 P) .nil .nil)) (.node (boot_o_7 P) (.node (ob4 P) .nil .nil) .nil)) (.node (ob31 P) (.node (ob58 P) (.node (ob110 P) .nil .nil) (.node (boot_o_7 P) .nil .nil)) (.node (ob83 P) (.node (ob135 P) .nil .nil) .nil))) (.node (ob11 P) (.node (boot_o_7 P) (.node (ob51 P) (.node (ob103 P) .nil .nil) (.node (ob155 P) .nil .nil)) (.node (boot_o_8 P) (.node (ob128 P) .nil .nil) .nil)) (.node (ob39 P) (.node (ob63 P) (.node (ob115 P) .nil .nil) (.node (boot_o_8 P) .nil .nil)) (.node (boot_o_7 P) (.node (ob142 P) .nil .nil) .nil))))) (.node (boot_o_5 P) (.node (boot_o_9 P) (.node (ob5 P) (.node (ob17 P) (.node (boot_o_8 P) (.node (ob94 P) .nil .nil) (.node (boot_o_7 P) .nil .nil)) (.node (ob69 P) (.node (ob121 P) .nil .nil) .nil)) (.node (ob29 P) (.node (boot_o_7 P) (.node (ob108 P) .nil .nil) (.node (ob158 P) .nil .nil)) (.node (ob81 P) (.node (ob133 P) .nil .nil) .nil))) (.node (boot_o_7 P) (.node (ob24 P) (.node (ob49 P) (.node (ob101 P) .nil .nil) (.node (ob153 P) .nil .nil)) (.node (ob76 P) (.node (boot_o_7 P) .nil .nil) .nil)) (.node (boot_o_7 P) (.node (ob61 P) (.node (ob113 P) .nil .nil) (.node (ob163 P) .nil .nil)) (.node (ob4 P) (.node (ob141 P) .nil .nil) .nil)))) (.node (ob0 P) (.node (ob8 P) (.node (ob4 P) (.node (ob45 P) (.node (ob97 P) .nil .nil) (.node (ob149 P) .nil .nil)) (.node (ob73 P) (.node (boot_o_7 P) .nil .nil) .nil)) (.node (ob33 P) (.node (boot_o_7 P) (.node (boot_o_8 P) .nil .nil) (.node (ob160 P) .nil .nil)) (.node (ob85 P) (.node (ob137 P) .nil .nil) .nil))) (.node (ob13 P) (.node (ob26 P) (.node (ob53 P) (.node (boot_o_7 P) .nil .nil) (.node (boot_o_8 P) .nil .nil)) (.node (boot_o_7 P) (.node (ob129 P) .nil .nil) .nil)) (.node (ob40 P) (.node (ob65 P) (.node (ob117 P) .nil .nil) (.node (ob165 P) .nil .nil)) (.node (ob92 P) (.node (ob144 P) .nil .nil) .nil)))))) (.node (boot_o_2 P) (.node (boot_o_4 P) (.node (boot_o_8 P) (.node (ob4 P) (.node (ob16 P) (.node (boot_o_7 P) (.node (boot_o_8 P) .nil .nil) (.node (ob145 P) .nil .nil)) (.node (ob68 P) (.node (ob120 P) .nil .nil) .nil)) (.node (ob28 P) (.node (ob56 P) (.node (boot_o_7 P) .nil .nil) (.node (ob157 P) .nil .nil)) (.node (ob80 P) (.node (ob132 P) .nil .nil) .nil))) (.node (ob9 P) (.node (ob23 P) (.node (ob48 P) (.node (ob100 P) .nil .nil) (.node (ob152 P) .nil .nil)) (.node (ob75 P) (.node (ob127 P) .nil .nil) .nil)) (.node (ob36 P) (.node (boot_o_7 P) (.node (ob112 P) .nil .nil) (.node (ob162 P) .nil .nil)) (.node (boot_o_7 P) (.node (ob4 P) .nil .nil) .nil)))) (.node (ob140 P) (.node (ob7 P) (.node (boot_o_7 P) (.node (ob44 P) (.node (ob96 P) .nil .nil) (.node (ob148 P) .nil .nil)) (.node (ob4 P) (.node (ob124 P) .nil .nil) .nil)) (.node (ob32 P) (.node (ob59 P) (.node (boot_o_7 P) .nil .nil) (.node (boot_o_8 P) .nil .nil)) (.node (ob84 P) (.node (ob136 P) .nil .nil) .nil))) (.node (ob12 P) (.node (boot_o_8 P) (.node (ob52 P) (.node (ob104 P) .nil .nil) (.node (boot_o_7 P) .nil .nil)) (.node (ob77 P) (.node (boot_o_7 P) .nil .nil) .nil)) (.node (boot_o_7 P) (.node (ob64 P) (.node (ob116 P) .nil .nil) (.node (ob164 P) .nil .nil)) (.node (ob91 P) (.node (ob143 P) .nil .nil) .nil))))) (.node (boot_o_6 P) (.node (boot_o_10 P) (.node (boot_o_7 P) (.node (ob18 P) (.node (ob43 P) (.node (boot_o_7 P) .nil .nil) (.node (ob146 P) .nil .nil)) (.node (ob70 P) (.node (boot_o_7 P) .nil .nil) .nil)) (.node (ob30 P) (.node (ob57 P) (.node (ob109 P) .nil .nil) (.node (ob159 P) .nil .nil)) (.node (ob82 P) (.node (ob134 P) .nil .nil) .nil))) (.node (ob10 P) (.node (ob25 P) (.node (ob50 P) (.node (ob102 P) .nil .nil) (.node (ob154 P) .nil .nil)) (.node (boot_o_7 P) (.node (boot_o_8 P) .nil .nil) .nil)) (.node (ob4 P) (.node (ob62 P) (.node (ob114 P) .nil .nil) (.node (boot_o_7 P) .nil .nil)) (.node (ob90 P) (.node (boot_o_7 P) .nil .nil) .nil)))) (.node (ob1 P) (.node (boot_o_7 P) (.node (ob22 P) (.node (ob46 P) (.node (ob98 P) .nil .nil) (.node (ob150 P) .nil .nil)) (.node (boot_o_7 P) (.node (ob125 P) .nil .nil) .nil)) (.node (ob34 P) (.node (boot_o_8 P) (.node (ob111 P) .nil .nil) (.node (boot_o_7 P) .nil .nil)) (.node (ob86 P) (.node (ob138 P) .nil .nil) .nil))) (.node (ob14 P) (.node (boot_o_7 P) (.node (boot_o_7 P) (.node (ob4 P) .nil .nil) (.node (ob156 P) .nil .nil)) (.node (ob78 P) (.node (ob130 P) .nil .nil) .nil)) (.node (ob41 P) (.node (ob66 P) (.node (ob118 P) .nil .nil) (.node (ob166 P) .nil .nil)) (.node (ob93 P) (.node (boot_o_7 P) .nil .nil) .nil)))))))
noncomputable def ob167 (P : Params) : Obj := ⟨(.type "dict"), none, (.dict #[⟨(PyData.keyHash P (Str.ofString "__name__")), (.str (Str.ofString "__name__") 165), (.str (Str.ofString "lazycore.stg_text") 478)⟩, ⟨(PyData.keyHash P (Str.ofString "__doc__")), (.str (Str.ofString "__doc__") 166), .none⟩, ⟨(PyData.keyHash P (Str.ofString "__package__")), (.str (Str.ofString "__package__") 167), .none⟩, ⟨(PyData.keyHash P (Str.ofString "__loader__")), (.str (Str.ofString "__loader__") 168), (.builtin "__main__.__loader__#opaque")⟩, ⟨(PyData.keyHash P (Str.ofString "__spec__")), (.str (Str.ofString "__spec__") 169), .none⟩, ⟨(PyData.keyHash P (Str.ofString "__annotations__")), (.str (Str.ofString "__annotations__") 170), (.ref 6)⟩, ⟨(PyData.keyHash P (Str.ofString "__builtins__")), (.str (Str.ofString "__builtins__") 171), (.ref 4)⟩, ⟨(PyData.keyHash P (Str.ofString "__file__")), (.str (Str.ofString "__file__") 173), (.str (Str.ofString "/claim/cut.py") 172)⟩, ⟨(PyData.keyHash P (Str.ofString "__cached__")), (.str (Str.ofString "__cached__") 174), .none⟩, ⟨(PyData.keyHash P (Str.ofString "SAtom")), (.str (Str.ofString "SAtom") 217), (.ref 31)⟩, ⟨(PyData.keyHash P (Str.ofString "SApp")), (.str (Str.ofString "SApp") 248), (.ref 52)⟩, ⟨(PyData.keyHash P (Str.ofString "SCon")), (.str (Str.ofString "SCon") 279), (.ref 73)⟩, ⟨(PyData.keyHash P (Str.ofString "SPrim")), (.str (Str.ofString "SPrim") 310), (.ref 94)⟩, ⟨(PyData.keyHash P (Str.ofString "SCase")), (.str (Str.ofString "SCase") 345), (.ref 115)⟩, ⟨(PyData.keyHash P (Str.ofString "SAlt")), (.str (Str.ofString "SAlt") 378), (.ref 136)⟩, ⟨(PyData.keyHash P (Str.ofString "SLet")), (.str (Str.ofString "SLet") 409), (.ref 157)⟩, ⟨(PyData.keyHash P (Str.ofString "Lambda")), (.str (Str.ofString "Lambda") 444), (.ref 178)⟩, ⟨(PyData.keyHash P (Str.ofString "StgProgram")), (.str (Str.ofString "StgProgram") 477), (.ref 199)⟩, ⟨(PyData.keyHash P (Str.ofString "literal_text")), (.str (Str.ofString "literal_text") 487), (.ref 210)⟩, ⟨(PyData.keyHash P (Str.ofString "atom_text")), (.str (Str.ofString "atom_text") 494), (.ref 217)⟩, ⟨(PyData.keyHash P (Str.ofString "row_text")), (.str (Str.ofString "row_text") 500), (.ref 222)⟩, ⟨(PyData.keyHash P (Str.ofString "Lines")), (.str (Str.ofString "Lines") 571), (.ref 267)⟩, ⟨(PyData.keyHash P (Str.ofString "key_text")), (.str (Str.ofString "key_text") 579), (.ref 278)⟩] 23), #[]⟩
noncomputable def ob168 (P : Params) : Obj := ⟨.none, none, (.fields #[(.int 2 0), (.int 0 0), (.ref 20), (.int 6 0), (.int 0 0), (.ref 41), (.int 11 0), (.int 0 0), (.ref 62), (.int 16 0), (.int 0 0), (.ref 83), (.int 21 0), (.int 0 0), (.ref 104), (.int 28 0), (.int 0 0), (.ref 125), (.int 34 0), (.int 0 0), (.ref 146), (.int 39 0), (.int 0 0), (.ref 167), (.int 46 0), (.int 0 0), (.ref 188), (.int 53 0), (.int 0 0), (.ref 209), (.int 55 0), (.int 0 0), (.ref 216), (.int 57 0), (.int 0 0), (.ref 221), (.int 59 0), (.int 0 0), (.ref 228), (.int 100 0), (.int 0 0), (.ref 277)]), #[]⟩
noncomputable def ob169 (P : Params) : Obj := ⟨(.type "dict"), none, (.dict #[⟨(PyData.keyHash P (Str.ofString "__module__")), (.str (Str.ofString "__module__") 508), (.str (Str.ofString "lazycore.stg_text") 478)⟩, ⟨(PyData.keyHash P (Str.ofString "__qualname__")), (.str (Str.ofString "__qualname__") 510), (.str (Str.ofString "Lines") 509)⟩, ⟨(PyData.keyHash P (Str.ofString "__firstlineno__")), (.str (Str.ofString "__firstlineno__") 512), (.int 59 511)⟩, ⟨(PyData.keyHash P (Str.ofString "__init__")), (.str (Str.ofString "__init__") 519), (.ref 236)⟩, ⟨(PyData.keyHash P (Str.ofString "put")), (.str (Str.ofString "put") 528), (.ref 243)⟩, ⟨(PyData.keyHash P (Str.ofString "closure")), (.str (Str.ofString "closure") 541), (.ref 250)⟩, ⟨(PyData.keyHash P (Str.ofString "expression")), (.str (Str.ofString "expression") 552), (.ref 257)⟩, ⟨(PyData.keyHash P (Str.ofString "case")), (.str (Str.ofString "case") 562), (.ref 264)⟩, ⟨(PyData.keyHash P (Str.ofString "__static_attributes__")), (.str (Str.ofString "__static_attributes__") 564), (.ref 265)⟩] 9), #[]⟩
noncomputable def ob170 (P : Params) : Obj := ⟨.none, none, (.fields #[(.int 61 0), (.int 4 0), (.ref 235), (.int 64 0), (.int 4 0), (.ref 242), (.int 67 0), (.int 4 0), (.ref 249), (.int 73 0), (.int 4 0), (.ref 256), (.int 91 0), (.int 4 0), (.ref 263)]), #[]⟩
noncomputable def ob171 (P : Params) : Obj := ⟨(.type "code"), none, (.fields #[(.str (Str.ofString "Lines") 503), (.str (Str.ofString "Lines") 504), (.str (Str.ofString "/claim/cut.py") 505), (.int 59 0), (.int 0 0), (.int 0 0), (.int 0 0), (.int 0 0), (.ref 226), (.bool false), (.int 181 0), (.ref 227), .none, .none, .none, .none, (.int 506 0), (.int 59 0), (.str (Str.ofString "/claim/cut.py") 507)]), #[]⟩
noncomputable def ob172 (P : Params) : Obj := ⟨(.type "frame"), none, .plain, #[some (.ref 228), some (.ref 3), some (.ref 225), none, some (.str (Str.ofString "lazycore.stg_text") 478), none, some (.ref 0)]⟩
noncomputable def ob173 (P : Params) : Obj := ⟨(.type "tuple"), none, (.seq #[(.str (Str.ofString "self") 516)] 0), #[]⟩
noncomputable def ob174 (P : Params) : Obj := ⟨.none, none, (.func { name := (Str.ofString "__init__"), qualname := (Str.ofString "Lines.__init__"), params := fArgs sd14_0, body := .stmts (fBody sd14_0), scope := fScope sd14_0, globals := 0, closure := [], defaults := .none, kwdefaults := .none, doc := .none, pyModule := .none, annotations := none, code := .none, closureTuple := .none, builtins := 0 }), #[]⟩
noncomputable def ob175 (P : Params) : Obj := ⟨(.type "code"), none, (.fields #[(.str (Str.ofString "__init__") 513), (.str (Str.ofString "Lines.__init__") 514), (.str (Str.ofString "/claim/cut.py") 515), (.int 61 0), (.int 1 0), (.int 0 0), (.int 0 0), (.int 3 0), (.ref 230), (.bool true), (.int 181 0), (.ref 231), .none, (.ref 232), (.ref 233), (.ref 234), (.int 517 0), (.int 61 0), (.str (Str.ofString "/claim/cut.py") 518)]), #[]⟩
noncomputable def ob176 (P : Params) : Obj := ⟨(.type "function"), none, (.func { name := (Str.ofString "__init__"), qualname := (Str.ofString "Lines.__init__"), params := fArgs sd14_0, body := .stmts (fBody sd14_0), scope := fScope sd14_0, globals := 3, closure := [], defaults := .none, kwdefaults := .none, doc := .none, pyModule := (.str (Str.ofString "lazycore.stg_text") 478), annotations := none, code := (.ref 235), closureTuple := .none, builtins := 0 }), #[]⟩
noncomputable def ob177 (P : Params) : Obj := ⟨(.type "tuple"), none, (.seq #[(.str (Str.ofString "self") 523), (.str (Str.ofString "depth") 524), (.str (Str.ofString "text") 525)] 0), #[]⟩
noncomputable def ob178 (P : Params) : Obj := ⟨.none, none, (.func { name := (Str.ofString "put"), qualname := (Str.ofString "Lines.put"), params := fArgs sd14_1, body := .stmts (fBody sd14_1), scope := fScope sd14_1, globals := 0, closure := [], defaults := .none, kwdefaults := .none, doc := .none, pyModule := .none, annotations := none, code := .none, closureTuple := .none, builtins := 0 }), #[]⟩
noncomputable def ob179 (P : Params) : Obj := ⟨(.type "code"), none, (.fields #[(.str (Str.ofString "put") 520), (.str (Str.ofString "Lines.put") 521), (.str (Str.ofString "/claim/cut.py") 522), (.int 64 0), (.int 3 0), (.int 0 0), (.int 0 0), (.int 3 0), (.ref 237), (.bool true), (.int 181 0), (.ref 238), .none, (.ref 239), (.ref 240), (.ref 241), (.int 526 0), (.int 64 0), (.str (Str.ofString "/claim/cut.py") 527)]), #[]⟩
noncomputable def ob180 (P : Params) : Obj := ⟨(.type "function"), none, (.func { name := (Str.ofString "put"), qualname := (Str.ofString "Lines.put"), params := fArgs sd14_1, body := .stmts (fBody sd14_1), scope := fScope sd14_1, globals := 3, closure := [], defaults := .none, kwdefaults := .none, doc := .none, pyModule := (.str (Str.ofString "lazycore.stg_text") 478), annotations := none, code := (.ref 242), closureTuple := .none, builtins := 0 }), #[]⟩
noncomputable def ob181 (P : Params) : Obj := ⟨(.type "tuple"), none, (.seq #[(.str (Str.ofString "self") 532), (.str (Str.ofString "depth") 533), (.str (Str.ofString "name") 534), (.str (Str.ofString "made") 535), (.str (Str.ofString "arrow") 536), (.str (Str.ofString "captured") 537), (.str (Str.ofString "params") 538)] 0), #[]⟩
noncomputable def ob182 (P : Params) : Obj := ⟨.none, none, (.func { name := (Str.ofString "closure"), qualname := (Str.ofString "Lines.closure"), params := fArgs sd14_2, body := .stmts (fBody sd14_2), scope := fScope sd14_2, globals := 0, closure := [], defaults := .none, kwdefaults := .none, doc := .none, pyModule := .none, annotations := none, code := .none, closureTuple := .none, builtins := 0 }), #[]⟩
noncomputable def ob183 (P : Params) : Obj := ⟨(.type "code"), none, (.fields #[(.str (Str.ofString "closure") 529), (.str (Str.ofString "Lines.closure") 530), (.str (Str.ofString "/claim/cut.py") 531), (.int 67 0), (.int 4 0), (.int 0 0), (.int 0 0), (.int 3 0), (.ref 244), (.bool true), (.int 181 0), (.ref 245), .none, (.ref 246), (.ref 247), (.ref 248), (.int 539 0), (.int 67 0), (.str (Str.ofString "/claim/cut.py") 540)]), #[]⟩
noncomputable def ob184 (P : Params) : Obj := ⟨(.type "function"), none, (.func { name := (Str.ofString "closure"), qualname := (Str.ofString "Lines.closure"), params := fArgs sd14_2, body := .stmts (fBody sd14_2), scope := fScope sd14_2, globals := 3, closure := [], defaults := .none, kwdefaults := .none, doc := .none, pyModule := (.str (Str.ofString "lazycore.stg_text") 478), annotations := none, code := (.ref 249), closureTuple := .none, builtins := 0 }), #[]⟩
noncomputable def ob185 (P : Params) : Obj := ⟨(.type "tuple"), none, (.seq #[(.str (Str.ofString "self") 545), (.str (Str.ofString "depth") 546), (.str (Str.ofString "expr") 547), (.str (Str.ofString "name") 548), (.str (Str.ofString "made") 549)] 0), #[]⟩
noncomputable def ob186 (P : Params) : Obj := ⟨.none, none, (.func { name := (Str.ofString "expression"), qualname := (Str.ofString "Lines.expression"), params := fArgs sd14_3, body := .stmts (fBody sd14_3), scope := fScope sd14_3, globals := 0, closure := [], defaults := .none, kwdefaults := .none, doc := .none, pyModule := .none, annotations := none, code := .none, closureTuple := .none, builtins := 0 }), #[]⟩
noncomputable def ob187 (P : Params) : Obj := ⟨(.type "code"), none, (.fields #[(.str (Str.ofString "expression") 542), (.str (Str.ofString "Lines.expression") 543), (.str (Str.ofString "/claim/cut.py") 544), (.int 73 0), (.int 3 0), (.int 0 0), (.int 0 0), (.int 3 0), (.ref 251), (.bool true), (.int 181 0), (.ref 252), .none, (.ref 253), (.ref 254), (.ref 255), (.int 550 0), (.int 73 0), (.str (Str.ofString "/claim/cut.py") 551)]), #[]⟩
noncomputable def ob188 (P : Params) : Obj := ⟨(.type "function"), none, (.func { name := (Str.ofString "expression"), qualname := (Str.ofString "Lines.expression"), params := fArgs sd14_3, body := .stmts (fBody sd14_3), scope := fScope sd14_3, globals := 3, closure := [], defaults := .none, kwdefaults := .none, doc := .none, pyModule := (.str (Str.ofString "lazycore.stg_text") 478), annotations := none, code := (.ref 256), closureTuple := .none, builtins := 0 }), #[]⟩
noncomputable def ob189 (P : Params) : Obj := ⟨(.type "tuple"), none, (.seq #[(.str (Str.ofString "self") 556), (.str (Str.ofString "depth") 557), (.str (Str.ofString "expr") 558), (.str (Str.ofString "alt") 559)] 0), #[]⟩
noncomputable def ob190 (P : Params) : Obj := ⟨.none, none, (.func { name := (Str.ofString "case"), qualname := (Str.ofString "Lines.case"), params := fArgs sd14_4, body := .stmts (fBody sd14_4), scope := fScope sd14_4, globals := 0, closure := [], defaults := .none, kwdefaults := .none, doc := .none, pyModule := .none, annotations := none, code := .none, closureTuple := .none, builtins := 0 }), #[]⟩
noncomputable def ob191 (P : Params) : Obj := ⟨(.type "code"), none, (.fields #[(.str (Str.ofString "case") 553), (.str (Str.ofString "Lines.case") 554), (.str (Str.ofString "/claim/cut.py") 555), (.int 91 0), (.int 3 0), (.int 0 0), (.int 0 0), (.int 3 0), (.ref 258), (.bool true), (.int 181 0), (.ref 259), .none, (.ref 260), (.ref 261), (.ref 262), (.int 560 0), (.int 91 0), (.str (Str.ofString "/claim/cut.py") 561)]), #[]⟩
noncomputable def ob192 (P : Params) : Obj := ⟨(.type "function"), none, (.func { name := (Str.ofString "case"), qualname := (Str.ofString "Lines.case"), params := fArgs sd14_4, body := .stmts (fBody sd14_4), scope := fScope sd14_4, globals := 3, closure := [], defaults := .none, kwdefaults := .none, doc := .none, pyModule := (.str (Str.ofString "lazycore.stg_text") 478), annotations := none, code := (.ref 263), closureTuple := .none, builtins := 0 }), #[]⟩
noncomputable def ob193 (P : Params) : Obj := ⟨(.type "tuple"), none, (.seq #[(.str (Str.ofString "rows") 563)] 0), #[]⟩
noncomputable def ob194 (P : Params) : Obj := ⟨(.type "dict"), none, (.dict #[⟨(PyData.keyHash P (Str.ofString "__module__")), (.str (Str.ofString "__module__") 508), (.str (Str.ofString "lazycore.stg_text") 478)⟩, ⟨(PyData.keyHash P (Str.ofString "__firstlineno__")), (.str (Str.ofString "__firstlineno__") 512), (.int 59 511)⟩, ⟨(PyData.keyHash P (Str.ofString "__init__")), (.str (Str.ofString "__init__") 519), (.ref 236)⟩, ⟨(PyData.keyHash P (Str.ofString "put")), (.str (Str.ofString "put") 528), (.ref 243)⟩, ⟨(PyData.keyHash P (Str.ofString "closure")), (.str (Str.ofString "closure") 541), (.ref 250)⟩, ⟨(PyData.keyHash P (Str.ofString "expression")), (.str (Str.ofString "expression") 552), (.ref 257)⟩, ⟨(PyData.keyHash P (Str.ofString "case")), (.str (Str.ofString "case") 562), (.ref 264)⟩, ⟨(PyData.keyHash P (Str.ofString "__static_attributes__")), (.str (Str.ofString "__static_attributes__") 564), (.ref 265)⟩, ⟨(PyData.keyHash P (Str.ofString "__dict__")), (.str (Str.ofString "__dict__") 566), (.ref 268)⟩, ⟨(PyData.keyHash P (Str.ofString "__weakref__")), (.str (Str.ofString "__weakref__") 568), (.ref 269)⟩, ⟨(PyData.keyHash P (Str.ofString "__doc__")), (.str (Str.ofString "__doc__") 569), .none⟩] 4), #[]⟩
noncomputable def ob195 (P : Params) : Obj := ⟨(.type "type"), none, (.cls { name := (Str.ofString "Lines"), bases := [(.type "object")], mro := [(.ref 267), (.type "object")], ns := 266, qualname := (Str.ofString "Lines"), hasDict := true, slotNames := [], subclasses := [], abstract := false, collection := none, hasDel := false }), #[none, none, some (.str (Str.ofString "Lines") 501), some (.str (Str.ofString "Lines") 509), some (.builtin "object.__new__"), some (.bool true)]⟩
noncomputable def ob196 (P : Params) : Obj := ⟨(.type "getset_descriptor"), none, (.fields #[(.str (Str.ofString "__dict__") 565), (.ref 267), (.builtin "function.__dict__"), (.builtin "function.__dict__#set")]), #[]⟩
noncomputable def ob197 (P : Params) : Obj := ⟨(.type "getset_descriptor"), none, (.fields #[(.str (Str.ofString "__weakref__") 567), (.ref 267), (.builtin "ExceptionGroup.__weakref__"), .none]), #[]⟩
noncomputable def ob198 (P : Params) : Obj := ⟨(.type "super"), none, (.fields #[(.ref 267), (.ref 267), (.ref 267)]), #[]⟩
noncomputable def ob199 (P : Params) : Obj := ⟨(.type "builtin_function_or_method"), none, (.fields #[(.builtin "object.__init_subclass__"), (.ref 267)]), #[]⟩
noncomputable def ob200 (P : Params) : Obj := ⟨(.type "tuple"), none, (.seq #[(.str (Str.ofString "key") 575), (.str (Str.ofString "names") 576)] 0), #[]⟩
noncomputable def ob201 (P : Params) : Obj := ⟨.none, none, (.func { name := (Str.ofString "key_text"), qualname := (Str.ofString "key_text"), params := fArgs sd15, body := .stmts (fBody sd15), scope := fScope sd15, globals := 0, closure := [], defaults := .none, kwdefaults := .none, doc := .none, pyModule := .none, annotations := none, code := .none, closureTuple := .none, builtins := 0 }), #[]⟩
noncomputable def ob202 (P : Params) : Obj := ⟨(.type "code"), none, (.fields #[(.str (Str.ofString "key_text") 572), (.str (Str.ofString "key_text") 573), (.str (Str.ofString "/claim/cut.py") 574), (.int 100 0), (.int 2 0), (.int 0 0), (.int 0 0), (.int 3 0), (.ref 272), (.bool true), (.int 181 0), (.ref 273), .none, (.ref 274), (.ref 275), (.ref 276), (.int 577 0), (.int 100 0), (.str (Str.ofString "/claim/cut.py") 578)]), #[]⟩
noncomputable def ob203 (P : Params) : Obj := ⟨(.type "function"), none, (.func { name := (Str.ofString "key_text"), qualname := (Str.ofString "key_text"), params := fArgs sd15, body := .stmts (fBody sd15), scope := fScope sd15, globals := 3, closure := [], defaults := .none, kwdefaults := .none, doc := .none, pyModule := (.str (Str.ofString "lazycore.stg_text") 478), annotations := none, code := (.ref 277), closureTuple := .none, builtins := 0 }), #[]⟩
noncomputable def tr10 (P : Params) : BT := (.node (boot_o_0 P) (.node (boot_o_1 P) (.node (ob167 P) (.node (boot_o_7 P) (.node (boot_o_7 P) (.node (ob15 P) (.node (ob42 P) (.node (boot_o_7 P) (.node (ob186 P) .nil .nil) .nil) (.node (boot_o_8 P) .nil .nil)) (.node (ob67 P) (.node (ob119 P) .nil .nil) (.node (boot_o_7 P) .nil .nil))) (.node (ob27 P) (.node (ob4 P) (.node (ob107 P) (.node (ob199 P) .nil .nil) .nil) (.node (boot_o_7 P) .nil .nil)) (.node (ob79 P) (.node (ob131 P) .nil .nil) (.node (ob177 P) .nil .nil)))) (.node (boot_o_8 P) (.node (boot_o_7 P) (.node (ob47 P) (.node (ob99 P) (.node (ob191 P) .nil .nil) .nil) (.node (ob151 P) .nil .nil)) (.node (ob74 P) (.node (ob126 P) .nil .nil) (.node (boot_o_8 P) .nil .nil))) (.node (ob35 P) (.node (ob60 P) (.node (boot_o_7 P) .nil .nil) (.node (ob161 P) .nil .nil)) (.node (ob87 P) (.node (boot_o_7 P) .nil .nil) (.node (boot_o_7 P) .nil .nil))))) (.node (boot_o_7 P) (.node (ob6 P) (.node (ob19 P) (.node (boot_o_7 P) (.node (ob95 P) (.node (boot_o_8 P) .nil .nil) .nil) (.node (ob147 P) .nil .nil)) (.node (boot_o_7 P) (.node (ob4 P) .nil .nil) (.node (ob170 P) .nil .nil))) (.node (ob31 P) (.node (ob58 P) (.node (ob110 P) (.node (boot_o_7 P) .nil .nil) .nil) (.node (boot_o_7 P) .nil .nil)) (.node (ob83 P) (.node (ob135 P) .nil .nil) (.node (ob180 P) .nil .nil)))) (.node (ob11 P) (.node (boot_o_7 P) (.node (ob51 P) (.node (ob103 P) (.node (ob195 P) .nil .nil) .nil) (.node (ob155 P) .nil .nil)) (.node (boot_o_8 P) (.node (ob128 P) .nil .nil) (.node (ob175 P) .nil .nil))) (.node (ob39 P) (.node (ob63 P) (.node (ob115 P) .nil .nil) (.node (boot_o_8 P) .nil .nil)) (.node (boot_o_7 P) (.node (ob142 P) .nil .nil) (.node (boot_o_7 P) .nil .nil)))))) (.node (boot_o_5 P) (.node (boot_o_9 P) (.node (ob5 P) (.node (ob17 P) (.node (boot_o_8 P) (.node (ob94 P) (.node (ob188 P) .nil .nil) .nil) (.node (boot_o_7 P) .nil .nil)) (.node (ob69 P) (.node (ob121 P) .nil .nil) (.node (ob169 P) .nil .nil))) (.node (ob29 P) (.node (boot_o_7 P) (.node (ob108 P) (.node (boot_o_8 P) .nil .nil) .nil) (.node (ob158 P) .nil .nil)) (.node (ob81 P) (.node (ob133 P) .nil .nil) (.node (ob178 P) .nil .nil)))) (.node (boot_o_7 P) (.node (ob24 P) (.node (ob49 P) (.node (ob101 P) (.node (ob193 P) .nil .nil) .nil) (.node (ob153 P) .nil .nil)) (.node (ob76 P) (.node (boot_o_7 P) .nil .nil) (.node (boot_o_7 P) .nil .nil))) (.node (boot_o_7 P) (.node (ob61 P) (.node (ob113 P) .nil .nil) (.node (ob163 P) .nil .nil)) (.node (ob4 P) (.node (ob141 P) .nil .nil) (.node (ob183 P) .nil .nil))))) (.node (ob0 P) (.node (ob8 P) (.node (ob4 P) (.node (ob45 P) (.node (ob97 P) (.node (boot_o_7 P) .nil .nil) .nil) (.node (ob149 P) .nil .nil)) (.node (ob73 P) (.node (boot_o_7 P) .nil .nil) (.node (ob172 P) .nil .nil))) (.node (ob33 P) (.node (boot_o_7 P) (.node (boot_o_8 P) (.node (ob202 P) .nil .nil) .nil) (.node (ob160 P) .nil .nil)) (.node (ob85 P) (.node (ob137 P) .nil .nil) (.node (boot_o_8 P) .nil .nil)))) (.node (ob13 P) (.node (ob26 P) (.node (ob53 P) (.node (boot_o_7 P) (.node (ob197 P) .nil .nil) .nil) (.node (boot_o_8 P) .nil .nil)) (.node (boot_o_7 P) (.node (ob129 P) .nil .nil) (.node (boot_o_7 P) .nil .nil))) (.node (ob40 P) (.node (ob65 P) (.node (ob117 P) .nil .nil) (.node (ob165 P) .nil .nil)) (.node (ob92 P) (.node (ob144 P) .nil .nil) (.node (ob185 P) .nil .nil))))))) (.node (boot_o_2 P) (.node (boot_o_4 P) (.node (boot_o_8 P) (.node (ob4 P) (.node (ob16 P) (.node (boot_o_7 P) (.node (boot_o_8 P) (.node (ob187 P) .nil .nil) .nil) (.node (ob145 P) .nil .nil)) (.node (ob68 P) (.node (ob120 P) .nil .nil) (.node (ob4 P) .nil .nil))) (.node (ob28 P) (.node (ob56 P) (.node (boot_o_7 P) (.node (boot_o_7 P) .nil .nil) .nil) (.node (ob157 P) .nil .nil)) (.node (ob80 P) (.node (ob132 P) .nil .nil) (.node (boot_o_7 P) .nil .nil)))) (.node (ob9 P) (.node (ob23 P) (.node (ob48 P) (.node (ob100 P) (.node (ob192 P) .nil .nil) .nil) (.node (ob152 P) .nil .nil)) (.node (ob75 P) (.node (ob127 P) .nil .nil) (.node (ob173 P) .nil .nil))) (.node (ob36 P) (.node (boot_o_7 P) (.node (ob112 P) .nil .nil) (.node (ob162 P) .nil .nil)) (.node (boot_o_7 P) (.node (ob4 P) .nil .nil) (.node (ob182 P) .nil .nil))))) (.node (ob168 P) (.node (ob7 P) (.node (boot_o_7 P) (.node (ob44 P) (.node (ob96 P) (.node (ob189 P) .nil .nil) .nil) (.node (ob148 P) .nil .nil)) (.node (ob4 P) (.node (ob124 P) .nil .nil) (.node (ob171 P) .nil .nil))) (.node (ob32 P) (.node (ob59 P) (.node (boot_o_7 P) (.node (ob201 P) .nil .nil) .nil) (.node (boot_o_8 P) .nil .nil)) (.node (ob84 P) (.node (ob136 P) .nil .nil) (.node (boot_o_7 P) .nil .nil)))) (.node (ob12 P) (.node (boot_o_8 P) (.node (ob52 P) (.node (ob104 P) (.node (ob196 P) .nil .nil) .nil) (.node (boot_o_7 P) .nil .nil)) (.node (ob77 P) (.node (boot_o_7 P) .nil .nil) (.node (ob176 P) .nil .nil))) (.node (boot_o_7 P) (.node (ob64 P) (.node (ob116 P) .nil .nil) (.node (ob164 P) .nil .nil)) (.node (ob91 P) (.node (ob143 P) .nil .nil) (.node (boot_o_8 P) .nil .nil)))))) (.node (boot_o_6 P) (.node (boot_o_10 P) (.node (boot_o_7 P) (.node (ob18 P) (.node (ob43 P) (.node (boot_o_7 P) (.node (boot_o_7 P) .nil .nil) .nil) (.node (ob146 P) .nil .nil)) (.node (ob70 P) (.node (boot_o_7 P) .nil .nil) (.node (boot_o_7 P) .nil .nil))) (.node (ob30 P) (.node (ob57 P) (.node (ob109 P) (.node (ob200 P) .nil .nil) .nil) (.node (ob159 P) .nil .nil)) (.node (ob82 P) (.node (ob134 P) .nil .nil) (.node (ob179 P) .nil .nil)))) (.node (ob10 P) (.node (ob25 P) (.node (ob50 P) (.node (ob102 P) (.node (ob194 P) .nil .nil) .nil) (.node (ob154 P) .nil .nil)) (.node (boot_o_7 P) (.node (boot_o_8 P) .nil .nil) (.node (ob174 P) .nil .nil))) (.node (ob4 P) (.node (ob62 P) (.node (ob114 P) .nil .nil) (.node (boot_o_7 P) .nil .nil)) (.node (ob90 P) (.node (boot_o_7 P) .nil .nil) (.node (ob184 P) .nil .nil))))) (.node (ob1 P) (.node (boot_o_7 P) (.node (ob22 P) (.node (ob46 P) (.node (ob98 P) (.node (ob190 P) .nil .nil) .nil) (.node (ob150 P) .nil .nil)) (.node (boot_o_7 P) (.node (ob125 P) .nil .nil) (.node (boot_o_7 P) .nil .nil))) (.node (ob34 P) (.node (boot_o_8 P) (.node (ob111 P) (.node (ob203 P) .nil .nil) .nil) (.node (boot_o_7 P) .nil .nil)) (.node (ob86 P) (.node (ob138 P) .nil .nil) (.node (ob181 P) .nil .nil)))) (.node (ob14 P) (.node (boot_o_7 P) (.node (boot_o_7 P) (.node (ob4 P) (.node (ob198 P) .nil .nil) .nil) (.node (ob156 P) .nil .nil)) (.node (ob78 P) (.node (ob130 P) .nil .nil) (.node (boot_o_8 P) .nil .nil))) (.node (ob41 P) (.node (ob66 P) (.node (ob118 P) .nil .nil) (.node (ob166 P) .nil .nil)) (.node (ob93 P) (.node (boot_o_7 P) .nil .nil) (.node (boot_o_7 P) .nil .nil))))))))
noncomputable def ob204 (P : Params) : Obj := ⟨(.type "dict"), none, (.dict #[⟨(PyData.keyHash P (Str.ofString "__name__")), (.str (Str.ofString "__name__") 165), (.str (Str.ofString "law_og0001_01") 597)⟩, ⟨(PyData.keyHash P (Str.ofString "__doc__")), (.str (Str.ofString "__doc__") 166), .none⟩, ⟨(PyData.keyHash P (Str.ofString "__package__")), (.str (Str.ofString "__package__") 167), .none⟩, ⟨(PyData.keyHash P (Str.ofString "__loader__")), (.str (Str.ofString "__loader__") 168), (.builtin "__main__.__loader__#opaque")⟩, ⟨(PyData.keyHash P (Str.ofString "__spec__")), (.str (Str.ofString "__spec__") 169), .none⟩, ⟨(PyData.keyHash P (Str.ofString "__annotations__")), (.str (Str.ofString "__annotations__") 170), (.ref 6)⟩, ⟨(PyData.keyHash P (Str.ofString "__builtins__")), (.str (Str.ofString "__builtins__") 171), (.ref 4)⟩, ⟨(PyData.keyHash P (Str.ofString "__file__")), (.str (Str.ofString "__file__") 173), (.str (Str.ofString "/claim/cut.py") 172)⟩, ⟨(PyData.keyHash P (Str.ofString "__cached__")), (.str (Str.ofString "__cached__") 174), .none⟩, ⟨(PyData.keyHash P (Str.ofString "SAtom")), (.str (Str.ofString "SAtom") 217), (.ref 31)⟩, ⟨(PyData.keyHash P (Str.ofString "SApp")), (.str (Str.ofString "SApp") 248), (.ref 52)⟩, ⟨(PyData.keyHash P (Str.ofString "SCon")), (.str (Str.ofString "SCon") 279), (.ref 73)⟩, ⟨(PyData.keyHash P (Str.ofString "SPrim")), (.str (Str.ofString "SPrim") 310), (.ref 94)⟩, ⟨(PyData.keyHash P (Str.ofString "SCase")), (.str (Str.ofString "SCase") 345), (.ref 115)⟩, ⟨(PyData.keyHash P (Str.ofString "SAlt")), (.str (Str.ofString "SAlt") 378), (.ref 136)⟩, ⟨(PyData.keyHash P (Str.ofString "SLet")), (.str (Str.ofString "SLet") 409), (.ref 157)⟩, ⟨(PyData.keyHash P (Str.ofString "Lambda")), (.str (Str.ofString "Lambda") 444), (.ref 178)⟩, ⟨(PyData.keyHash P (Str.ofString "StgProgram")), (.str (Str.ofString "StgProgram") 477), (.ref 199)⟩, ⟨(PyData.keyHash P (Str.ofString "literal_text")), (.str (Str.ofString "literal_text") 487), (.ref 210)⟩, ⟨(PyData.keyHash P (Str.ofString "atom_text")), (.str (Str.ofString "atom_text") 494), (.ref 217)⟩, ⟨(PyData.keyHash P (Str.ofString "row_text")), (.str (Str.ofString "row_text") 500), (.ref 222)⟩, ⟨(PyData.keyHash P (Str.ofString "Lines")), (.str (Str.ofString "Lines") 571), (.ref 267)⟩, ⟨(PyData.keyHash P (Str.ofString "key_text")), (.str (Str.ofString "key_text") 579), (.ref 278)⟩, ⟨(PyData.keyHash P (Str.ofString "stg_text")), (.str (Str.ofString "stg_text") 587), (.ref 285)⟩, ⟨(PyData.keyHash P (Str.ofString "stg_program_text")), (.str (Str.ofString "stg_program_text") 596), (.ref 292)⟩, ⟨(PyData.keyHash P (Str.ofString "_law_pool")), (.str (Str.ofString "_law_pool") 609), (.ref 299)⟩, ⟨(PyData.keyHash P (Str.ofString "_law_take")), (.str (Str.ofString "_law_take") 618), (.ref 306)⟩, ⟨(PyData.keyHash P (Str.ofString "_law_one")), (.str (Str.ofString "_law_one") 626), (.ref 313)⟩, ⟨(PyData.keyHash P (Str.ofString "_law_atom")), (.str (Str.ofString "_law_atom") 634), (.ref 320)⟩, ⟨(PyData.keyHash P (Str.ofString "_law_atoms")), (.str (Str.ofString "_law_atoms") 640), (.ref 325)⟩, ⟨(PyData.keyHash P (Str.ofString "_law_closure")), (.str (Str.ofString "_law_closure") 650), (.ref 332)⟩, ⟨(PyData.keyHash P (Str.ofString "_law_alt")), (.str (Str.ofString "_law_alt") 661), (.ref 339)⟩, ⟨(PyData.keyHash P (Str.ofString "_law_tree")), (.str (Str.ofString "_law_tree") 667), (.ref 344)⟩, ⟨(PyData.keyHash P (Str.ofString "_law_lambda")), (.str (Str.ofString "_law_lambda") 674), (.ref 351)⟩, ⟨(PyData.keyHash P (Str.ofString "_law_node")), (.str (Str.ofString "_law_node") 680), (.ref 356)⟩, ⟨(PyData.keyHash P (Str.ofString "_law_read_atom")), (.str (Str.ofString "_law_read_atom") 687), (.ref 363)⟩] 36), #[]⟩
noncomputable def ob205 (P : Params) : Obj := ⟨.none, none, (.fields #[(.int 2 0), (.int 0 0), (.ref 20), (.int 6 0), (.int 0 0), (.ref 41), (.int 11 0), (.int 0 0), (.ref 62), (.int 16 0), (.int 0 0), (.ref 83), (.int 21 0), (.int 0 0), (.ref 104), (.int 28 0), (.int 0 0), (.ref 125), (.int 34 0), (.int 0 0), (.ref 146), (.int 39 0), (.int 0 0), (.ref 167), (.int 46 0), (.int 0 0), (.ref 188), (.int 53 0), (.int 0 0), (.ref 209), (.int 55 0), (.int 0 0), (.ref 216), (.int 57 0), (.int 0 0), (.ref 221), (.int 59 0), (.int 0 0), (.ref 228), (.int 100 0), (.int 0 0), (.ref 277), (.int 104 0), (.int 0 0), (.ref 284), (.int 108 0), (.int 0 0), (.ref 291), (.int 115 0), (.int 0 0), (.ref 298), (.int 122 0), (.int 0 0), (.ref 305), (.int 129 0), (.int 0 0), (.ref 312), (.int 131 0), (.int 0 0), (.ref 319), (.int 138 0), (.int 0 0), (.ref 324), (.int 140 0), (.int 0 0), (.ref 331), (.int 144 0), (.int 0 0), (.ref 338), (.int 151 0), (.int 0 0), (.ref 343), (.int 167 0), (.int 0 0), (.ref 350), (.int 169 0), (.int 0 0), (.ref 355), (.int 182 0), (.int 0 0), (.ref 362)]), #[]⟩
noncomputable def ob206 (P : Params) : Obj := ⟨(.type "tuple"), none, (.seq #[(.str (Str.ofString "expr") 583), (.str (Str.ofString "lines") 584)] 0), #[]⟩
noncomputable def ob207 (P : Params) : Obj := ⟨.none, none, (.func { name := (Str.ofString "stg_text"), qualname := (Str.ofString "stg_text"), params := fArgs sd16, body := .stmts (fBody sd16), scope := fScope sd16, globals := 0, closure := [], defaults := .none, kwdefaults := .none, doc := .none, pyModule := .none, annotations := none, code := .none, closureTuple := .none, builtins := 0 }), #[]⟩
noncomputable def ob208 (P : Params) : Obj := ⟨(.type "code"), none, (.fields #[(.str (Str.ofString "stg_text") 580), (.str (Str.ofString "stg_text") 581), (.str (Str.ofString "/claim/cut.py") 582), (.int 104 0), (.int 1 0), (.int 0 0), (.int 0 0), (.int 3 0), (.ref 279), (.bool true), (.int 181 0), (.ref 280), .none, (.ref 281), (.ref 282), (.ref 283), (.int 585 0), (.int 104 0), (.str (Str.ofString "/claim/cut.py") 586)]), #[]⟩
noncomputable def ob209 (P : Params) : Obj := ⟨(.type "function"), none, (.func { name := (Str.ofString "stg_text"), qualname := (Str.ofString "stg_text"), params := fArgs sd16, body := .stmts (fBody sd16), scope := fScope sd16, globals := 3, closure := [], defaults := .none, kwdefaults := .none, doc := .none, pyModule := (.str (Str.ofString "lazycore.stg_text") 478), annotations := none, code := (.ref 284), closureTuple := .none, builtins := 0 }), #[]⟩
noncomputable def ob210 (P : Params) : Obj := ⟨(.type "tuple"), none, (.seq #[(.str (Str.ofString "program") 591), (.str (Str.ofString "lines") 592), (.str (Str.ofString "name") 593)] 0), #[]⟩
noncomputable def ob211 (P : Params) : Obj := ⟨.none, none, (.func { name := (Str.ofString "stg_program_text"), qualname := (Str.ofString "stg_program_text"), params := fArgs sd17, body := .stmts (fBody sd17), scope := fScope sd17, globals := 0, closure := [], defaults := .none, kwdefaults := .none, doc := .none, pyModule := .none, annotations := none, code := .none, closureTuple := .none, builtins := 0 }), #[]⟩
noncomputable def ob212 (P : Params) : Obj := ⟨(.type "code"), none, (.fields #[(.str (Str.ofString "stg_program_text") 588), (.str (Str.ofString "stg_program_text") 589), (.str (Str.ofString "/claim/cut.py") 590), (.int 108 0), (.int 1 0), (.int 0 0), (.int 0 0), (.int 3 0), (.ref 286), (.bool true), (.int 181 0), (.ref 287), .none, (.ref 288), (.ref 289), (.ref 290), (.int 594 0), (.int 108 0), (.str (Str.ofString "/claim/cut.py") 595)]), #[]⟩
noncomputable def ob213 (P : Params) : Obj := ⟨(.type "function"), none, (.func { name := (Str.ofString "stg_program_text"), qualname := (Str.ofString "stg_program_text"), params := fArgs sd17, body := .stmts (fBody sd17), scope := fScope sd17, globals := 3, closure := [], defaults := .none, kwdefaults := .none, doc := .none, pyModule := (.str (Str.ofString "lazycore.stg_text") 478), annotations := none, code := (.ref 291), closureTuple := .none, builtins := 0 }), #[]⟩
noncomputable def ob214 (P : Params) : Obj := ⟨(.type "tuple"), none, (.seq #[(.str (Str.ofString "script") 602), (.str (Str.ofString "k") 603), (.str (Str.ofString "cell") 604), (.str (Str.ofString "big") 605), (.str (Str.ofString "mixed") 606)] 0), #[]⟩
noncomputable def ob215 (P : Params) : Obj := ⟨.none, none, (.func { name := (Str.ofString "_law_pool"), qualname := (Str.ofString "_law_pool"), params := fArgs sd19, body := .stmts (fBody sd19), scope := fScope sd19, globals := 0, closure := [], defaults := .none, kwdefaults := .none, doc := .none, pyModule := .none, annotations := none, code := .none, closureTuple := .none, builtins := 0 }), #[]⟩
noncomputable def ob216 (P : Params) : Obj := ⟨(.type "code"), none, (.fields #[(.str (Str.ofString "_law_pool") 599), (.str (Str.ofString "_law_pool") 600), (.str (Str.ofString "/claim/cut.py") 601), (.int 115 0), (.int 2 0), (.int 0 0), (.int 0 0), (.int 3 0), (.ref 293), (.bool true), (.int 181 0), (.ref 294), .none, (.ref 295), (.ref 296), (.ref 297), (.int 607 0), (.int 115 0), (.str (Str.ofString "/claim/cut.py") 608)]), #[]⟩
noncomputable def ob217 (P : Params) : Obj := ⟨(.type "function"), none, (.func { name := (Str.ofString "_law_pool"), qualname := (Str.ofString "_law_pool"), params := fArgs sd19, body := .stmts (fBody sd19), scope := fScope sd19, globals := 3, closure := [], defaults := .none, kwdefaults := .none, doc := .none, pyModule := (.str (Str.ofString "law_og0001_01") 597), annotations := none, code := (.ref 298), closureTuple := .none, builtins := 0 }), #[]⟩
noncomputable def ob218 (P : Params) : Obj := ⟨(.type "tuple"), none, (.seq #[(.str (Str.ofString "source") 613), (.str (Str.ofString "top") 614), (.str (Str.ofString "digit") 615)] 0), #[]⟩
noncomputable def ob219 (P : Params) : Obj := ⟨.none, none, (.func { name := (Str.ofString "_law_take"), qualname := (Str.ofString "_law_take"), params := fArgs sd20, body := .stmts (fBody sd20), scope := fScope sd20, globals := 0, closure := [], defaults := .none, kwdefaults := .none, doc := .none, pyModule := .none, annotations := none, code := .none, closureTuple := .none, builtins := 0 }), #[]⟩
noncomputable def ob220 (P : Params) : Obj := ⟨(.type "code"), none, (.fields #[(.str (Str.ofString "_law_take") 610), (.str (Str.ofString "_law_take") 611), (.str (Str.ofString "/claim/cut.py") 612), (.int 122 0), (.int 2 0), (.int 0 0), (.int 0 0), (.int 3 0), (.ref 300), (.bool true), (.int 181 0), (.ref 301), .none, (.ref 302), (.ref 303), (.ref 304), (.int 616 0), (.int 122 0), (.str (Str.ofString "/claim/cut.py") 617)]), #[]⟩
noncomputable def ob221 (P : Params) : Obj := ⟨(.type "function"), none, (.func { name := (Str.ofString "_law_take"), qualname := (Str.ofString "_law_take"), params := fArgs sd20, body := .stmts (fBody sd20), scope := fScope sd20, globals := 3, closure := [], defaults := .none, kwdefaults := .none, doc := .none, pyModule := (.str (Str.ofString "law_og0001_01") 597), annotations := none, code := (.ref 305), closureTuple := .none, builtins := 0 }), #[]⟩
noncomputable def ob222 (P : Params) : Obj := ⟨(.type "tuple"), none, (.seq #[(.str (Str.ofString "source") 622), (.str (Str.ofString "things") 623)] 0), #[]⟩
noncomputable def ob223 (P : Params) : Obj := ⟨.none, none, (.func { name := (Str.ofString "_law_one"), qualname := (Str.ofString "_law_one"), params := fArgs sd21, body := .stmts (fBody sd21), scope := fScope sd21, globals := 0, closure := [], defaults := .none, kwdefaults := .none, doc := .none, pyModule := .none, annotations := none, code := .none, closureTuple := .none, builtins := 0 }), #[]⟩
noncomputable def ob224 (P : Params) : Obj := ⟨(.type "code"), none, (.fields #[(.str (Str.ofString "_law_one") 619), (.str (Str.ofString "_law_one") 620), (.str (Str.ofString "/claim/cut.py") 621), (.int 129 0), (.int 2 0), (.int 0 0), (.int 0 0), (.int 3 0), (.ref 307), (.bool true), (.int 181 0), (.ref 308), .none, (.ref 309), (.ref 310), (.ref 311), (.int 624 0), (.int 129 0), (.str (Str.ofString "/claim/cut.py") 625)]), #[]⟩
noncomputable def ob225 (P : Params) : Obj := ⟨(.type "function"), none, (.func { name := (Str.ofString "_law_one"), qualname := (Str.ofString "_law_one"), params := fArgs sd21, body := .stmts (fBody sd21), scope := fScope sd21, globals := 3, closure := [], defaults := .none, kwdefaults := .none, doc := .none, pyModule := (.str (Str.ofString "law_og0001_01") 597), annotations := none, code := (.ref 312), closureTuple := .none, builtins := 0 }), #[]⟩
noncomputable def ob226 (P : Params) : Obj := ⟨(.type "tuple"), none, (.seq #[(.str (Str.ofString "source") 630), (.str (Str.ofString "way") 631)] 0), #[]⟩
noncomputable def ob227 (P : Params) : Obj := ⟨.none, none, (.func { name := (Str.ofString "_law_atom"), qualname := (Str.ofString "_law_atom"), params := fArgs sd22, body := .stmts (fBody sd22), scope := fScope sd22, globals := 0, closure := [], defaults := .none, kwdefaults := .none, doc := .none, pyModule := .none, annotations := none, code := .none, closureTuple := .none, builtins := 0 }), #[]⟩
noncomputable def ob228 (P : Params) : Obj := ⟨(.type "code"), none, (.fields #[(.str (Str.ofString "_law_atom") 627), (.str (Str.ofString "_law_atom") 628), (.str (Str.ofString "/claim/cut.py") 629), (.int 131 0), (.int 1 0), (.int 0 0), (.int 0 0), (.int 3 0), (.ref 314), (.bool true), (.int 181 0), (.ref 315), .none, (.ref 316), (.ref 317), (.ref 318), (.int 632 0), (.int 131 0), (.str (Str.ofString "/claim/cut.py") 633)]), #[]⟩
noncomputable def ob229 (P : Params) : Obj := ⟨(.type "function"), none, (.func { name := (Str.ofString "_law_atom"), qualname := (Str.ofString "_law_atom"), params := fArgs sd22, body := .stmts (fBody sd22), scope := fScope sd22, globals := 3, closure := [], defaults := .none, kwdefaults := .none, doc := .none, pyModule := (.str (Str.ofString "law_og0001_01") 597), annotations := none, code := (.ref 319), closureTuple := .none, builtins := 0 }), #[]⟩
noncomputable def ob230 (P : Params) : Obj := ⟨.none, none, (.func { name := (Str.ofString "_law_atoms"), qualname := (Str.ofString "_law_atoms"), params := fArgs sd23, body := .stmts (fBody sd23), scope := fScope sd23, globals := 0, closure := [], defaults := .none, kwdefaults := .none, doc := .none, pyModule := .none, annotations := none, code := .none, closureTuple := .none, builtins := 0 }), #[]⟩
noncomputable def ob231 (P : Params) : Obj := ⟨(.type "code"), none, (.fields #[(.str (Str.ofString "_law_atoms") 635), (.str (Str.ofString "_law_atoms") 636), (.str (Str.ofString "/claim/cut.py") 637), (.int 138 0), (.int 2 0), (.int 0 0), (.int 0 0), (.int 3 0), (.ref 321), (.bool true), (.int 181 0), (.ref 322), .none, .none, .none, (.ref 323), (.int 638 0), (.int 138 0), (.str (Str.ofString "/claim/cut.py") 639)]), #[]⟩
noncomputable def ob232 (P : Params) : Obj := ⟨(.type "function"), none, (.func { name := (Str.ofString "_law_atoms"), qualname := (Str.ofString "_law_atoms"), params := fArgs sd23, body := .stmts (fBody sd23), scope := fScope sd23, globals := 3, closure := [], defaults := .none, kwdefaults := .none, doc := .none, pyModule := (.str (Str.ofString "law_og0001_01") 597), annotations := none, code := (.ref 324), closureTuple := .none, builtins := 0 }), #[]⟩
noncomputable def ob233 (P : Params) : Obj := ⟨(.type "tuple"), none, (.seq #[(.str (Str.ofString "source") 644), (.str (Str.ofString "deep") 645), (.str (Str.ofString "free") 646), (.str (Str.ofString "params") 647)] 0), #[]⟩
noncomputable def ob234 (P : Params) : Obj := ⟨.none, none, (.func { name := (Str.ofString "_law_closure"), qualname := (Str.ofString "_law_closure"), params := fArgs sd24, body := .stmts (fBody sd24), scope := fScope sd24, globals := 0, closure := [], defaults := .none, kwdefaults := .none, doc := .none, pyModule := .none, annotations := none, code := .none, closureTuple := .none, builtins := 0 }), #[]⟩
noncomputable def ob235 (P : Params) : Obj := ⟨(.type "code"), none, (.fields #[(.str (Str.ofString "_law_closure") 641), (.str (Str.ofString "_law_closure") 642), (.str (Str.ofString "/claim/cut.py") 643), (.int 140 0), (.int 2 0), (.int 0 0), (.int 0 0), (.int 3 0), (.ref 326), (.bool true), (.int 181 0), (.ref 327), .none, (.ref 328), (.ref 329), (.ref 330), (.int 648 0), (.int 140 0), (.str (Str.ofString "/claim/cut.py") 649)]), #[]⟩
noncomputable def ob236 (P : Params) : Obj := ⟨(.type "function"), none, (.func { name := (Str.ofString "_law_closure"), qualname := (Str.ofString "_law_closure"), params := fArgs sd24, body := .stmts (fBody sd24), scope := fScope sd24, globals := 3, closure := [], defaults := .none, kwdefaults := .none, doc := .none, pyModule := (.str (Str.ofString "law_og0001_01") 597), annotations := none, code := (.ref 331), closureTuple := .none, builtins := 0 }), #[]⟩
noncomputable def ob237 (P : Params) : Obj := ⟨(.type "tuple"), none, (.seq #[(.str (Str.ofString "source") 654), (.str (Str.ofString "deep") 655), (.str (Str.ofString "way") 656), (.str (Str.ofString "key") 657), (.str (Str.ofString "fields") 658)] 0), #[]⟩
noncomputable def ob238 (P : Params) : Obj := ⟨.none, none, (.func { name := (Str.ofString "_law_alt"), qualname := (Str.ofString "_law_alt"), params := fArgs sd25, body := .stmts (fBody sd25), scope := fScope sd25, globals := 0, closure := [], defaults := .none, kwdefaults := .none, doc := .none, pyModule := .none, annotations := none, code := .none, closureTuple := .none, builtins := 0 }), #[]⟩
noncomputable def ob239 (P : Params) : Obj := ⟨(.type "code"), none, (.fields #[(.str (Str.ofString "_law_alt") 651), (.str (Str.ofString "_law_alt") 652), (.str (Str.ofString "/claim/cut.py") 653), (.int 144 0), (.int 2 0), (.int 0 0), (.int 0 0), (.int 3 0), (.ref 333), (.bool true), (.int 181 0), (.ref 334), .none, (.ref 335), (.ref 336), (.ref 337), (.int 659 0), (.int 144 0), (.str (Str.ofString "/claim/cut.py") 660)]), #[]⟩
noncomputable def ob240 (P : Params) : Obj := ⟨(.type "function"), none, (.func { name := (Str.ofString "_law_alt"), qualname := (Str.ofString "_law_alt"), params := fArgs sd25, body := .stmts (fBody sd25), scope := fScope sd25, globals := 3, closure := [], defaults := .none, kwdefaults := .none, doc := .none, pyModule := (.str (Str.ofString "law_og0001_01") 597), annotations := none, code := (.ref 338), closureTuple := .none, builtins := 0 }), #[]⟩
noncomputable def ob241 (P : Params) : Obj := ⟨.none, none, (.func { name := (Str.ofString "_law_tree"), qualname := (Str.ofString "_law_tree"), params := fArgs sd26, body := .stmts (fBody sd26), scope := fScope sd26, globals := 0, closure := [], defaults := .none, kwdefaults := .none, doc := .none, pyModule := .none, annotations := none, code := .none, closureTuple := .none, builtins := 0 }), #[]⟩
noncomputable def ob242 (P : Params) : Obj := ⟨(.type "code"), none, (.fields #[(.str (Str.ofString "_law_tree") 662), (.str (Str.ofString "_law_tree") 663), (.str (Str.ofString "/claim/cut.py") 664), (.int 151 0), (.int 2 0), (.int 0 0), (.int 0 0), (.int 3 0), (.ref 340), (.bool true), (.int 181 0), (.ref 341), .none, .none, .none, (.ref 342), (.int 665 0), (.int 151 0), (.str (Str.ofString "/claim/cut.py") 666)]), #[]⟩
noncomputable def ob243 (P : Params) : Obj := ⟨(.type "function"), none, (.func { name := (Str.ofString "_law_tree"), qualname := (Str.ofString "_law_tree"), params := fArgs sd26, body := .stmts (fBody sd26), scope := fScope sd26, globals := 3, closure := [], defaults := .none, kwdefaults := .none, doc := .none, pyModule := (.str (Str.ofString "law_og0001_01") 597), annotations := none, code := (.ref 343), closureTuple := .none, builtins := 0 }), #[]⟩
noncomputable def ob244 (P : Params) : Obj := ⟨(.type "tuple"), none, (.seq #[(.str (Str.ofString "told") 671)] 0), #[]⟩
noncomputable def ob245 (P : Params) : Obj := ⟨.none, none, (.func { name := (Str.ofString "_law_lambda"), qualname := (Str.ofString "_law_lambda"), params := fArgs sd27, body := .stmts (fBody sd27), scope := fScope sd27, globals := 0, closure := [], defaults := .none, kwdefaults := .none, doc := .none, pyModule := .none, annotations := none, code := .none, closureTuple := .none, builtins := 0 }), #[]⟩
noncomputable def ob246 (P : Params) : Obj := ⟨(.type "code"), none, (.fields #[(.str (Str.ofString "_law_lambda") 668), (.str (Str.ofString "_law_lambda") 669), (.str (Str.ofString "/claim/cut.py") 670), (.int 167 0), (.int 1 0), (.int 0 0), (.int 0 0), (.int 3 0), (.ref 345), (.bool true), (.int 181 0), (.ref 346), .none, (.ref 347), (.ref 348), (.ref 349), (.int 672 0), (.int 167 0), (.str (Str.ofString "/claim/cut.py") 673)]), #[]⟩
noncomputable def ob247 (P : Params) : Obj := ⟨(.type "function"), none, (.func { name := (Str.ofString "_law_lambda"), qualname := (Str.ofString "_law_lambda"), params := fArgs sd27, body := .stmts (fBody sd27), scope := fScope sd27, globals := 3, closure := [], defaults := .none, kwdefaults := .none, doc := .none, pyModule := (.str (Str.ofString "law_og0001_01") 597), annotations := none, code := (.ref 350), closureTuple := .none, builtins := 0 }), #[]⟩
noncomputable def ob248 (P : Params) : Obj := ⟨.none, none, (.func { name := (Str.ofString "_law_node"), qualname := (Str.ofString "_law_node"), params := fArgs sd28, body := .stmts (fBody sd28), scope := fScope sd28, globals := 0, closure := [], defaults := .none, kwdefaults := .none, doc := .none, pyModule := .none, annotations := none, code := .none, closureTuple := .none, builtins := 0 }), #[]⟩
noncomputable def ob249 (P : Params) : Obj := ⟨(.type "code"), none, (.fields #[(.str (Str.ofString "_law_node") 675), (.str (Str.ofString "_law_node") 676), (.str (Str.ofString "/claim/cut.py") 677), (.int 169 0), (.int 1 0), (.int 0 0), (.int 0 0), (.int 3 0), (.ref 352), (.bool true), (.int 181 0), (.ref 353), .none, .none, .none, (.ref 354), (.int 678 0), (.int 169 0), (.str (Str.ofString "/claim/cut.py") 679)]), #[]⟩
noncomputable def ob250 (P : Params) : Obj := ⟨(.type "function"), none, (.func { name := (Str.ofString "_law_node"), qualname := (Str.ofString "_law_node"), params := fArgs sd28, body := .stmts (fBody sd28), scope := fScope sd28, globals := 3, closure := [], defaults := .none, kwdefaults := .none, doc := .none, pyModule := (.str (Str.ofString "law_og0001_01") 597), annotations := none, code := (.ref 355), closureTuple := .none, builtins := 0 }), #[]⟩
noncomputable def ob251 (P : Params) : Obj := ⟨(.type "tuple"), none, (.seq #[(.str (Str.ofString "word") 684)] 0), #[]⟩
noncomputable def ob252 (P : Params) : Obj := ⟨.none, none, (.func { name := (Str.ofString "_law_read_atom"), qualname := (Str.ofString "_law_read_atom"), params := fArgs sd29, body := .stmts (fBody sd29), scope := fScope sd29, globals := 0, closure := [], defaults := .none, kwdefaults := .none, doc := .none, pyModule := .none, annotations := none, code := .none, closureTuple := .none, builtins := 0 }), #[]⟩
noncomputable def ob253 (P : Params) : Obj := ⟨(.type "code"), none, (.fields #[(.str (Str.ofString "_law_read_atom") 681), (.str (Str.ofString "_law_read_atom") 682), (.str (Str.ofString "/claim/cut.py") 683), (.int 182 0), (.int 1 0), (.int 0 0), (.int 0 0), (.int 3 0), (.ref 357), (.bool true), (.int 181 0), (.ref 358), .none, (.ref 359), (.ref 360), (.ref 361), (.int 685 0), (.int 182 0), (.str (Str.ofString "/claim/cut.py") 686)]), #[]⟩
noncomputable def ob254 (P : Params) : Obj := ⟨(.type "function"), none, (.func { name := (Str.ofString "_law_read_atom"), qualname := (Str.ofString "_law_read_atom"), params := fArgs sd29, body := .stmts (fBody sd29), scope := fScope sd29, globals := 3, closure := [], defaults := .none, kwdefaults := .none, doc := .none, pyModule := (.str (Str.ofString "law_og0001_01") 597), annotations := none, code := (.ref 362), closureTuple := .none, builtins := 0 }), #[]⟩
noncomputable def tr11 (P : Params) : BT := (.node (boot_o_0 P) (.node (boot_o_1 P) (.node (ob204 P) (.node (boot_o_7 P) (.node (boot_o_7 P) (.node (ob15 P) (.node (ob42 P) (.node (boot_o_7 P) (.node (ob186 P) .nil .nil) .nil) (.node (boot_o_8 P) (.node (ob228 P) .nil .nil) .nil)) (.node (ob67 P) (.node (ob119 P) (.node (boot_o_8 P) .nil .nil) .nil) (.node (boot_o_7 P) (.node (ob247 P) .nil .nil) .nil))) (.node (ob27 P) (.node (ob4 P) (.node (ob107 P) (.node (ob199 P) .nil .nil) .nil) (.node (boot_o_7 P) (.node (ob237 P) .nil .nil) .nil)) (.node (ob79 P) (.node (ob131 P) (.node (boot_o_7 P) .nil .nil) .nil) (.node (ob177 P) .nil .nil)))) (.node (boot_o_8 P) (.node (boot_o_7 P) (.node (ob47 P) (.node (ob99 P) (.node (ob191 P) .nil .nil) .nil) (.node (ob151 P) (.node (boot_o_8 P) .nil .nil) .nil)) (.node (ob74 P) (.node (ob126 P) (.node (ob214 P) .nil .nil) .nil) (.node (boot_o_8 P) (.node (ob251 P) .nil .nil) .nil))) (.node (ob35 P) (.node (ob60 P) (.node (boot_o_7 P) (.node (boot_o_7 P) .nil .nil) .nil) (.node (ob161 P) (.node (ob242 P) .nil .nil) .nil)) (.node (ob87 P) (.node (boot_o_7 P) (.node (ob223 P) .nil .nil) .nil) (.node (boot_o_7 P) .nil .nil))))) (.node (boot_o_7 P) (.node (ob6 P) (.node (ob19 P) (.node (boot_o_7 P) (.node (ob95 P) (.node (boot_o_8 P) .nil .nil) .nil) (.node (ob147 P) (.node (ob230 P) .nil .nil) .nil)) (.node (boot_o_7 P) (.node (ob4 P) (.node (ob212 P) .nil .nil) .nil) (.node (ob170 P) (.node (ob249 P) .nil .nil) .nil))) (.node (ob31 P) (.node (ob58 P) (.node (ob110 P) (.node (boot_o_7 P) .nil .nil) .nil) (.node (boot_o_7 P) (.node (ob240 P) .nil .nil) .nil)) (.node (ob83 P) (.node (ob135 P) (.node (boot_o_7 P) .nil .nil) .nil) (.node (ob180 P) .nil .nil)))) (.node (ob11 P) (.node (boot_o_7 P) (.node (ob51 P) (.node (ob103 P) (.node (ob195 P) .nil .nil) .nil) (.node (ob155 P) (.node (ob235 P) .nil .nil) .nil)) (.node (boot_o_8 P) (.node (ob128 P) (.node (ob217 P) .nil .nil) .nil) (.node (ob175 P) (.node (ob254 P) .nil .nil) .nil))) (.node (ob39 P) (.node (ob63 P) (.node (ob115 P) (.node (ob207 P) .nil .nil) .nil) (.node (boot_o_8 P) (.node (ob244 P) .nil .nil) .nil)) (.node (boot_o_7 P) (.node (ob142 P) (.node (boot_o_8 P) .nil .nil) .nil) (.node (boot_o_7 P) .nil .nil)))))) (.node (boot_o_5 P) (.node (boot_o_9 P) (.node (ob5 P) (.node (ob17 P) (.node (boot_o_8 P) (.node (ob94 P) (.node (ob188 P) .nil .nil) .nil) (.node (boot_o_7 P) (.node (boot_o_7 P) .nil .nil) .nil)) (.node (ob69 P) (.node (ob121 P) (.node (boot_o_7 P) .nil .nil) .nil) (.node (ob169 P) (.node (boot_o_8 P) .nil .nil) .nil))) (.node (ob29 P) (.node (boot_o_7 P) (.node (ob108 P) (.node (boot_o_8 P) .nil .nil) .nil) (.node (ob158 P) (.node (ob238 P) .nil .nil) .nil)) (.node (ob81 P) (.node (ob133 P) (.node (ob220 P) .nil .nil) .nil) (.node (ob178 P) .nil .nil)))) (.node (boot_o_7 P) (.node (ob24 P) (.node (ob49 P) (.node (ob101 P) (.node (ob193 P) .nil .nil) .nil) (.node (ob153 P) (.node (boot_o_7 P) .nil .nil) .nil)) (.node (ob76 P) (.node (boot_o_7 P) (.node (ob215 P) .nil .nil) .nil) (.node (boot_o_7 P) (.node (ob252 P) .nil .nil) .nil))) (.node (boot_o_7 P) (.node (ob61 P) (.node (ob113 P) (.node (ob206 P) .nil .nil) .nil) (.node (ob163 P) (.node (boot_o_7 P) .nil .nil) .nil)) (.node (ob4 P) (.node (ob141 P) (.node (ob225 P) .nil .nil) .nil) (.node (ob183 P) .nil .nil))))) (.node (ob0 P) (.node (ob8 P) (.node (ob4 P) (.node (ob45 P) (.node (ob97 P) (.node (boot_o_7 P) .nil .nil) .nil) (.node (ob149 P) (.node (ob232 P) .nil .nil) .nil)) (.node (ob73 P) (.node (boot_o_7 P) (.node (boot_o_7 P) .nil .nil) .nil) (.node (ob172 P) (.node (boot_o_7 P) .nil .nil) .nil))) (.node (ob33 P) (.node (boot_o_7 P) (.node (boot_o_8 P) (.node (ob202 P) .nil .nil) .nil) (.node (ob160 P) (.node (boot_o_8 P) .nil .nil) .nil)) (.node (ob85 P) (.node (ob137 P) (.node (ob222 P) .nil .nil) .nil) (.node (boot_o_8 P) .nil .nil)))) (.node (ob13 P) (.node (ob26 P) (.node (ob53 P) (.node (boot_o_7 P) (.node (ob197 P) .nil .nil) .nil) (.node (boot_o_8 P) (.node (boot_o_7 P) .nil .nil) .nil)) (.node (boot_o_7 P) (.node (ob129 P) (.node (boot_o_8 P) .nil .nil) .nil) (.node (boot_o_7 P) .nil .nil))) (.node (ob40 P) (.node (ob65 P) (.node (ob117 P) (.node (ob209 P) .nil .nil) .nil) (.node (ob165 P) (.node (ob245 P) .nil .nil) .nil)) (.node (ob92 P) (.node (ob144 P) (.node (boot_o_7 P) .nil .nil) .nil) (.node (ob185 P) .nil .nil))))))) (.node (boot_o_2 P) (.node (boot_o_4 P) (.node (boot_o_8 P) (.node (ob4 P) (.node (ob16 P) (.node (boot_o_7 P) (.node (boot_o_8 P) (.node (ob187 P) .nil .nil) .nil) (.node (ob145 P) (.node (ob229 P) .nil .nil) .nil)) (.node (ob68 P) (.node (ob120 P) (.node (ob210 P) .nil .nil) .nil) (.node (ob4 P) (.node (boot_o_7 P) .nil .nil) .nil))) (.node (ob28 P) (.node (ob56 P) (.node (boot_o_7 P) (.node (boot_o_7 P) .nil .nil) .nil) (.node (ob157 P) (.node (boot_o_7 P) .nil .nil) .nil)) (.node (ob80 P) (.node (ob132 P) (.node (ob219 P) .nil .nil) .nil) (.node (boot_o_7 P) .nil .nil)))) (.node (ob9 P) (.node (ob23 P) (.node (ob48 P) (.node (ob100 P) (.node (ob192 P) .nil .nil) .nil) (.node (ob152 P) (.node (ob233 P) .nil .nil) .nil)) (.node (ob75 P) (.node (ob127 P) (.node (boot_o_7 P) .nil .nil) .nil) (.node (ob173 P) (.node (boot_o_7 P) .nil .nil) .nil))) (.node (ob36 P) (.node (boot_o_7 P) (.node (ob112 P) (.node (boot_o_8 P) .nil .nil) .nil) (.node (ob162 P) (.node (ob243 P) .nil .nil) .nil)) (.node (boot_o_7 P) (.node (ob4 P) (.node (ob224 P) .nil .nil) .nil) (.node (ob182 P) .nil .nil))))) (.node (ob205 P) (.node (ob7 P) (.node (boot_o_7 P) (.node (ob44 P) (.node (ob96 P) (.node (ob189 P) .nil .nil) .nil) (.node (ob148 P) (.node (ob231 P) .nil .nil) .nil)) (.node (ob4 P) (.node (ob124 P) (.node (ob213 P) .nil .nil) .nil) (.node (ob171 P) (.node (ob250 P) .nil .nil) .nil))) (.node (ob32 P) (.node (ob59 P) (.node (boot_o_7 P) (.node (ob201 P) .nil .nil) .nil) (.node (boot_o_8 P) (.node (boot_o_7 P) .nil .nil) .nil)) (.node (ob84 P) (.node (ob136 P) (.node (boot_o_8 P) .nil .nil) .nil) (.node (boot_o_7 P) .nil .nil)))) (.node (ob12 P) (.node (boot_o_8 P) (.node (ob52 P) (.node (ob104 P) (.node (ob196 P) .nil .nil) .nil) (.node (boot_o_7 P) (.node (ob236 P) .nil .nil) .nil)) (.node (ob77 P) (.node (boot_o_7 P) (.node (boot_o_7 P) .nil .nil) .nil) (.node (ob176 P) .nil .nil))) (.node (boot_o_7 P) (.node (ob64 P) (.node (ob116 P) (.node (ob208 P) .nil .nil) .nil) (.node (ob164 P) (.node (boot_o_7 P) .nil .nil) .nil)) (.node (ob91 P) (.node (ob143 P) (.node (ob226 P) .nil .nil) .nil) (.node (boot_o_8 P) .nil .nil)))))) (.node (boot_o_6 P) (.node (boot_o_10 P) (.node (boot_o_7 P) (.node (ob18 P) (.node (ob43 P) (.node (boot_o_7 P) (.node (boot_o_7 P) .nil .nil) .nil) (.node (ob146 P) (.node (boot_o_8 P) .nil .nil) .nil)) (.node (ob70 P) (.node (boot_o_7 P) (.node (ob211 P) .nil .nil) .nil) (.node (boot_o_7 P) (.node (ob248 P) .nil .nil) .nil))) (.node (ob30 P) (.node (ob57 P) (.node (ob109 P) (.node (ob200 P) .nil .nil) .nil) (.node (ob159 P) (.node (ob239 P) .nil .nil) .nil)) (.node (ob82 P) (.node (ob134 P) (.node (ob221 P) .nil .nil) .nil) (.node (ob179 P) .nil .nil)))) (.node (ob10 P) (.node (ob25 P) (.node (ob50 P) (.node (ob102 P) (.node (ob194 P) .nil .nil) .nil) (.node (ob154 P) (.node (ob234 P) .nil .nil) .nil)) (.node (boot_o_7 P) (.node (boot_o_8 P) (.node (ob216 P) .nil .nil) .nil) (.node (ob174 P) (.node (ob253 P) .nil .nil) .nil))) (.node (ob4 P) (.node (ob62 P) (.node (ob114 P) (.node (boot_o_7 P) .nil .nil) .nil) (.node (boot_o_7 P) (.node (boot_o_8 P) .nil .nil) .nil)) (.node (ob90 P) (.node (boot_o_7 P) (.node (boot_o_7 P) .nil .nil) .nil) (.node (ob184 P) .nil .nil))))) (.node (ob1 P) (.node (boot_o_7 P) (.node (ob22 P) (.node (ob46 P) (.node (ob98 P) (.node (ob190 P) .nil .nil) .nil) (.node (ob150 P) (.node (boot_o_7 P) .nil .nil) .nil)) (.node (boot_o_7 P) (.node (ob125 P) (.node (boot_o_8 P) .nil .nil) .nil) (.node (boot_o_7 P) (.node (boot_o_8 P) .nil .nil) .nil))) (.node (ob34 P) (.node (boot_o_8 P) (.node (ob111 P) (.node (ob203 P) .nil .nil) .nil) (.node (boot_o_7 P) (.node (ob241 P) .nil .nil) .nil)) (.node (ob86 P) (.node (ob138 P) (.node (boot_o_7 P) .nil .nil) .nil) (.node (ob181 P) .nil .nil)))) (.node (ob14 P) (.node (boot_o_7 P) (.node (boot_o_7 P) (.node (ob4 P) (.node (ob198 P) .nil .nil) .nil) (.node (ob156 P) (.node (boot_o_8 P) .nil .nil) .nil)) (.node (ob78 P) (.node (ob130 P) (.node (ob218 P) .nil .nil) .nil) (.node (boot_o_8 P) .nil .nil))) (.node (ob41 P) (.node (ob66 P) (.node (ob118 P) (.node (boot_o_7 P) .nil .nil) .nil) (.node (ob166 P) (.node (ob246 P) .nil .nil) .nil)) (.node (ob93 P) (.node (boot_o_7 P) (.node (ob227 P) .nil .nil) .nil) (.node (boot_o_7 P) .nil .nil))))))))
noncomputable def ob255 (P : Params) : Obj := ⟨(.type "dict"), none, (.dict #[⟨(PyData.keyHash P (Str.ofString "__name__")), (.str (Str.ofString "__name__") 165), (.str (Str.ofString "law_og0001_01") 597)⟩, ⟨(PyData.keyHash P (Str.ofString "__doc__")), (.str (Str.ofString "__doc__") 166), .none⟩, ⟨(PyData.keyHash P (Str.ofString "__package__")), (.str (Str.ofString "__package__") 167), .none⟩, ⟨(PyData.keyHash P (Str.ofString "__loader__")), (.str (Str.ofString "__loader__") 168), (.builtin "__main__.__loader__#opaque")⟩, ⟨(PyData.keyHash P (Str.ofString "__spec__")), (.str (Str.ofString "__spec__") 169), .none⟩, ⟨(PyData.keyHash P (Str.ofString "__annotations__")), (.str (Str.ofString "__annotations__") 170), (.ref 6)⟩, ⟨(PyData.keyHash P (Str.ofString "__builtins__")), (.str (Str.ofString "__builtins__") 171), (.ref 4)⟩, ⟨(PyData.keyHash P (Str.ofString "__file__")), (.str (Str.ofString "__file__") 173), (.str (Str.ofString "/claim/cut.py") 172)⟩, ⟨(PyData.keyHash P (Str.ofString "__cached__")), (.str (Str.ofString "__cached__") 174), .none⟩, ⟨(PyData.keyHash P (Str.ofString "SAtom")), (.str (Str.ofString "SAtom") 217), (.ref 31)⟩, ⟨(PyData.keyHash P (Str.ofString "SApp")), (.str (Str.ofString "SApp") 248), (.ref 52)⟩, ⟨(PyData.keyHash P (Str.ofString "SCon")), (.str (Str.ofString "SCon") 279), (.ref 73)⟩, ⟨(PyData.keyHash P (Str.ofString "SPrim")), (.str (Str.ofString "SPrim") 310), (.ref 94)⟩, ⟨(PyData.keyHash P (Str.ofString "SCase")), (.str (Str.ofString "SCase") 345), (.ref 115)⟩, ⟨(PyData.keyHash P (Str.ofString "SAlt")), (.str (Str.ofString "SAlt") 378), (.ref 136)⟩, ⟨(PyData.keyHash P (Str.ofString "SLet")), (.str (Str.ofString "SLet") 409), (.ref 157)⟩, ⟨(PyData.keyHash P (Str.ofString "Lambda")), (.str (Str.ofString "Lambda") 444), (.ref 178)⟩, ⟨(PyData.keyHash P (Str.ofString "StgProgram")), (.str (Str.ofString "StgProgram") 477), (.ref 199)⟩, ⟨(PyData.keyHash P (Str.ofString "literal_text")), (.str (Str.ofString "literal_text") 487), (.ref 210)⟩, ⟨(PyData.keyHash P (Str.ofString "atom_text")), (.str (Str.ofString "atom_text") 494), (.ref 217)⟩, ⟨(PyData.keyHash P (Str.ofString "row_text")), (.str (Str.ofString "row_text") 500), (.ref 222)⟩, ⟨(PyData.keyHash P (Str.ofString "Lines")), (.str (Str.ofString "Lines") 571), (.ref 267)⟩, ⟨(PyData.keyHash P (Str.ofString "key_text")), (.str (Str.ofString "key_text") 579), (.ref 278)⟩, ⟨(PyData.keyHash P (Str.ofString "stg_text")), (.str (Str.ofString "stg_text") 587), (.ref 285)⟩, ⟨(PyData.keyHash P (Str.ofString "stg_program_text")), (.str (Str.ofString "stg_program_text") 596), (.ref 292)⟩, ⟨(PyData.keyHash P (Str.ofString "_law_pool")), (.str (Str.ofString "_law_pool") 609), (.ref 299)⟩, ⟨(PyData.keyHash P (Str.ofString "_law_take")), (.str (Str.ofString "_law_take") 618), (.ref 306)⟩, ⟨(PyData.keyHash P (Str.ofString "_law_one")), (.str (Str.ofString "_law_one") 626), (.ref 313)⟩, ⟨(PyData.keyHash P (Str.ofString "_law_atom")), (.str (Str.ofString "_law_atom") 634), (.ref 320)⟩, ⟨(PyData.keyHash P (Str.ofString "_law_atoms")), (.str (Str.ofString "_law_atoms") 640), (.ref 325)⟩, ⟨(PyData.keyHash P (Str.ofString "_law_closure")), (.str (Str.ofString "_law_closure") 650), (.ref 332)⟩, ⟨(PyData.keyHash P (Str.ofString "_law_alt")), (.str (Str.ofString "_law_alt") 661), (.ref 339)⟩, ⟨(PyData.keyHash P (Str.ofString "_law_tree")), (.str (Str.ofString "_law_tree") 667), (.ref 344)⟩, ⟨(PyData.keyHash P (Str.ofString "_law_lambda")), (.str (Str.ofString "_law_lambda") 674), (.ref 351)⟩, ⟨(PyData.keyHash P (Str.ofString "_law_node")), (.str (Str.ofString "_law_node") 680), (.ref 356)⟩, ⟨(PyData.keyHash P (Str.ofString "_law_read_atom")), (.str (Str.ofString "_law_read_atom") 687), (.ref 363)⟩, ⟨(PyData.keyHash P (Str.ofString "_law_next")), (.str (Str.ofString "_law_next") 694), (.ref 370)⟩, ⟨(PyData.keyHash P (Str.ofString "_law_is_at")), (.str (Str.ofString "_law_is_at") 704), (.ref 377)⟩, ⟨(PyData.keyHash P (Str.ofString "_law_read_closure")), (.str (Str.ofString "_law_read_closure") 719), (.ref 384)⟩, ⟨(PyData.keyHash P (Str.ofString "_law_read_key")), (.str (Str.ofString "_law_read_key") 728), (.ref 391)⟩, ⟨(PyData.keyHash P (Str.ofString "_law_read")), (.str (Str.ofString "_law_read") 734), (.ref 396)⟩, ⟨(PyData.keyHash P (Str.ofString "_law_box")), (.str (Str.ofString "_law_box") 744), (.ref 403)⟩, ⟨(PyData.keyHash P (Str.ofString "law")), (.str (Str.ofString "law") 750), (.ref 408)⟩] 43), #[]⟩
noncomputable def ob256 (P : Params) : Obj := ⟨.none, none, (.fields #[(.int 2 0), (.int 0 0), (.ref 20), (.int 6 0), (.int 0 0), (.ref 41), (.int 11 0), (.int 0 0), (.ref 62), (.int 16 0), (.int 0 0), (.ref 83), (.int 21 0), (.int 0 0), (.ref 104), (.int 28 0), (.int 0 0), (.ref 125), (.int 34 0), (.int 0 0), (.ref 146), (.int 39 0), (.int 0 0), (.ref 167), (.int 46 0), (.int 0 0), (.ref 188), (.int 53 0), (.int 0 0), (.ref 209), (.int 55 0), (.int 0 0), (.ref 216), (.int 57 0), (.int 0 0), (.ref 221), (.int 59 0), (.int 0 0), (.ref 228), (.int 100 0), (.int 0 0), (.ref 277), (.int 104 0), (.int 0 0), (.ref 284), (.int 108 0), (.int 0 0), (.ref 291), (.int 115 0), (.int 0 0), (.ref 298), (.int 122 0), (.int 0 0), (.ref 305), (.int 129 0), (.int 0 0), (.ref 312), (.int 131 0), (.int 0 0), (.ref 319), (.int 138 0), (.int 0 0), (.ref 324), (.int 140 0), (.int 0 0), (.ref 331), (.int 144 0), (.int 0 0), (.ref 338), (.int 151 0), (.int 0 0), (.ref 343), (.int 167 0), (.int 0 0), (.ref 350), (.int 169 0), (.int 0 0), (.ref 355), (.int 182 0), (.int 0 0), (.ref 362), (.int 188 0), (.int 0 0), (.ref 369), (.int 191 0), (.int 0 0), (.ref 376), (.int 196 0), (.int 0 0), (.ref 383), (.int 206 0), (.int 0 0), (.ref 390), (.int 210 0), (.int 0 0), (.ref 395), (.int 240 0), (.int 0 0), (.ref 402), (.int 246 0), (.int 0 0), (.ref 407)]), #[]⟩
noncomputable def ob257 (P : Params) : Obj := ⟨(.type "tuple"), none, (.seq #[(.str (Str.ofString "box") 691)] 0), #[]⟩
noncomputable def ob258 (P : Params) : Obj := ⟨.none, none, (.func { name := (Str.ofString "_law_next"), qualname := (Str.ofString "_law_next"), params := fArgs sd30, body := .stmts (fBody sd30), scope := fScope sd30, globals := 0, closure := [], defaults := .none, kwdefaults := .none, doc := .none, pyModule := .none, annotations := none, code := .none, closureTuple := .none, builtins := 0 }), #[]⟩
noncomputable def ob259 (P : Params) : Obj := ⟨(.type "code"), none, (.fields #[(.str (Str.ofString "_law_next") 688), (.str (Str.ofString "_law_next") 689), (.str (Str.ofString "/claim/cut.py") 690), (.int 188 0), (.int 1 0), (.int 0 0), (.int 0 0), (.int 3 0), (.ref 364), (.bool true), (.int 181 0), (.ref 365), .none, (.ref 366), (.ref 367), (.ref 368), (.int 692 0), (.int 188 0), (.str (Str.ofString "/claim/cut.py") 693)]), #[]⟩
noncomputable def ob260 (P : Params) : Obj := ⟨(.type "function"), none, (.func { name := (Str.ofString "_law_next"), qualname := (Str.ofString "_law_next"), params := fArgs sd30, body := .stmts (fBody sd30), scope := fScope sd30, globals := 3, closure := [], defaults := .none, kwdefaults := .none, doc := .none, pyModule := (.str (Str.ofString "law_og0001_01") 597), annotations := none, code := (.ref 369), closureTuple := .none, builtins := 0 }), #[]⟩
noncomputable def ob261 (P : Params) : Obj := ⟨(.type "tuple"), none, (.seq #[(.str (Str.ofString "box") 698), (.str (Str.ofString "indent") 699), (.str (Str.ofString "head") 700), (.str (Str.ofString "here") 701)] 0), #[]⟩
noncomputable def ob262 (P : Params) : Obj := ⟨.none, none, (.func { name := (Str.ofString "_law_is_at"), qualname := (Str.ofString "_law_is_at"), params := fArgs sd31, body := .stmts (fBody sd31), scope := fScope sd31, globals := 0, closure := [], defaults := .none, kwdefaults := .none, doc := .none, pyModule := .none, annotations := none, code := .none, closureTuple := .none, builtins := 0 }), #[]⟩
noncomputable def ob263 (P : Params) : Obj := ⟨(.type "code"), none, (.fields #[(.str (Str.ofString "_law_is_at") 695), (.str (Str.ofString "_law_is_at") 696), (.str (Str.ofString "/claim/cut.py") 697), (.int 191 0), (.int 3 0), (.int 0 0), (.int 0 0), (.int 3 0), (.ref 371), (.bool true), (.int 181 0), (.ref 372), .none, (.ref 373), (.ref 374), (.ref 375), (.int 702 0), (.int 191 0), (.str (Str.ofString "/claim/cut.py") 703)]), #[]⟩
noncomputable def ob264 (P : Params) : Obj := ⟨(.type "function"), none, (.func { name := (Str.ofString "_law_is_at"), qualname := (Str.ofString "_law_is_at"), params := fArgs sd31, body := .stmts (fBody sd31), scope := fScope sd31, globals := 3, closure := [], defaults := .none, kwdefaults := .none, doc := .none, pyModule := (.str (Str.ofString "law_og0001_01") 597), annotations := none, code := (.ref 376), closureTuple := .none, builtins := 0 }), #[]⟩
noncomputable def ob265 (P : Params) : Obj := ⟨(.type "tuple"), none, (.seq #[(.str (Str.ofString "box") 708), (.str (Str.ofString "indent") 709), (.str (Str.ofString "words") 710), (.str (Str.ofString "first") 711), (.str (Str.ofString "rest") 712), (.str (Str.ofString "captured") 713), (.str (Str.ofString "mark") 714), (.str (Str.ofString "roster") 715), (.str (Str.ofString "body") 716)] 0), #[]⟩
noncomputable def ob266 (P : Params) : Obj := ⟨.none, none, (.func { name := (Str.ofString "_law_read_closure"), qualname := (Str.ofString "_law_read_closure"), params := fArgs sd32, body := .stmts (fBody sd32), scope := fScope sd32, globals := 0, closure := [], defaults := .none, kwdefaults := .none, doc := .none, pyModule := .none, annotations := none, code := .none, closureTuple := .none, builtins := 0 }), #[]⟩
noncomputable def ob267 (P : Params) : Obj := ⟨(.type "code"), none, (.fields #[(.str (Str.ofString "_law_read_closure") 705), (.str (Str.ofString "_law_read_closure") 706), (.str (Str.ofString "/claim/cut.py") 707), (.int 196 0), (.int 2 0), (.int 0 0), (.int 0 0), (.int 3 0), (.ref 378), (.bool true), (.int 181 0), (.ref 379), .none, (.ref 380), (.ref 381), (.ref 382), (.int 717 0), (.int 196 0), (.str (Str.ofString "/claim/cut.py") 718)]), #[]⟩
noncomputable def ob268 (P : Params) : Obj := ⟨(.type "function"), none, (.func { name := (Str.ofString "_law_read_closure"), qualname := (Str.ofString "_law_read_closure"), params := fArgs sd32, body := .stmts (fBody sd32), scope := fScope sd32, globals := 3, closure := [], defaults := .none, kwdefaults := .none, doc := .none, pyModule := (.str (Str.ofString "law_og0001_01") 597), annotations := none, code := (.ref 383), closureTuple := .none, builtins := 0 }), #[]⟩
noncomputable def ob269 (P : Params) : Obj := ⟨(.type "tuple"), none, (.seq #[(.str (Str.ofString "text") 723), (.str (Str.ofString "words") 724), (.str (Str.ofString "told") 725)] 0), #[]⟩
noncomputable def ob270 (P : Params) : Obj := ⟨.none, none, (.func { name := (Str.ofString "_law_read_key"), qualname := (Str.ofString "_law_read_key"), params := fArgs sd33, body := .stmts (fBody sd33), scope := fScope sd33, globals := 0, closure := [], defaults := .none, kwdefaults := .none, doc := .none, pyModule := .none, annotations := none, code := .none, closureTuple := .none, builtins := 0 }), #[]⟩
noncomputable def ob271 (P : Params) : Obj := ⟨(.type "code"), none, (.fields #[(.str (Str.ofString "_law_read_key") 720), (.str (Str.ofString "_law_read_key") 721), (.str (Str.ofString "/claim/cut.py") 722), (.int 206 0), (.int 1 0), (.int 0 0), (.int 0 0), (.int 3 0), (.ref 385), (.bool true), (.int 181 0), (.ref 386), .none, (.ref 387), (.ref 388), (.ref 389), (.int 726 0), (.int 206 0), (.str (Str.ofString "/claim/cut.py") 727)]), #[]⟩
noncomputable def ob272 (P : Params) : Obj := ⟨(.type "function"), none, (.func { name := (Str.ofString "_law_read_key"), qualname := (Str.ofString "_law_read_key"), params := fArgs sd33, body := .stmts (fBody sd33), scope := fScope sd33, globals := 3, closure := [], defaults := .none, kwdefaults := .none, doc := .none, pyModule := (.str (Str.ofString "law_og0001_01") 597), annotations := none, code := (.ref 390), closureTuple := .none, builtins := 0 }), #[]⟩
noncomputable def ob273 (P : Params) : Obj := ⟨.none, none, (.func { name := (Str.ofString "_law_read"), qualname := (Str.ofString "_law_read"), params := fArgs sd34, body := .stmts (fBody sd34), scope := fScope sd34, globals := 0, closure := [], defaults := .none, kwdefaults := .none, doc := .none, pyModule := .none, annotations := none, code := .none, closureTuple := .none, builtins := 0 }), #[]⟩
noncomputable def ob274 (P : Params) : Obj := ⟨(.type "code"), none, (.fields #[(.str (Str.ofString "_law_read") 729), (.str (Str.ofString "_law_read") 730), (.str (Str.ofString "/claim/cut.py") 731), (.int 210 0), (.int 2 0), (.int 0 0), (.int 0 0), (.int 3 0), (.ref 392), (.bool true), (.int 181 0), (.ref 393), .none, .none, .none, (.ref 394), (.int 732 0), (.int 210 0), (.str (Str.ofString "/claim/cut.py") 733)]), #[]⟩
noncomputable def ob275 (P : Params) : Obj := ⟨(.type "function"), none, (.func { name := (Str.ofString "_law_read"), qualname := (Str.ofString "_law_read"), params := fArgs sd34, body := .stmts (fBody sd34), scope := fScope sd34, globals := 3, closure := [], defaults := .none, kwdefaults := .none, doc := .none, pyModule := (.str (Str.ofString "law_og0001_01") 597), annotations := none, code := (.ref 395), closureTuple := .none, builtins := 0 }), #[]⟩
noncomputable def ob276 (P : Params) : Obj := ⟨(.type "tuple"), none, (.seq #[(.str (Str.ofString "text") 738), (.str (Str.ofString "rows") 739), (.str (Str.ofString "row") 740), (.str (Str.ofString "bare") 741)] 0), #[]⟩
noncomputable def ob277 (P : Params) : Obj := ⟨.none, none, (.func { name := (Str.ofString "_law_box"), qualname := (Str.ofString "_law_box"), params := fArgs sd35, body := .stmts (fBody sd35), scope := fScope sd35, globals := 0, closure := [], defaults := .none, kwdefaults := .none, doc := .none, pyModule := .none, annotations := none, code := .none, closureTuple := .none, builtins := 0 }), #[]⟩
noncomputable def ob278 (P : Params) : Obj := ⟨(.type "code"), none, (.fields #[(.str (Str.ofString "_law_box") 735), (.str (Str.ofString "_law_box") 736), (.str (Str.ofString "/claim/cut.py") 737), (.int 240 0), (.int 1 0), (.int 0 0), (.int 0 0), (.int 3 0), (.ref 397), (.bool true), (.int 181 0), (.ref 398), .none, (.ref 399), (.ref 400), (.ref 401), (.int 742 0), (.int 240 0), (.str (Str.ofString "/claim/cut.py") 743)]), #[]⟩
noncomputable def ob279 (P : Params) : Obj := ⟨(.type "function"), none, (.func { name := (Str.ofString "_law_box"), qualname := (Str.ofString "_law_box"), params := fArgs sd35, body := .stmts (fBody sd35), scope := fScope sd35, globals := 3, closure := [], defaults := .none, kwdefaults := .none, doc := .none, pyModule := (.str (Str.ofString "law_og0001_01") 597), annotations := none, code := (.ref 402), closureTuple := .none, builtins := 0 }), #[]⟩
noncomputable def ob280 (P : Params) : Obj := ⟨.none, none, (.func { name := (Str.ofString "law"), qualname := (Str.ofString "law"), params := fArgs sd36, body := .stmts (fBody sd36), scope := fScope sd36, globals := 0, closure := [], defaults := .none, kwdefaults := .none, doc := .none, pyModule := .none, annotations := none, code := .none, closureTuple := .none, builtins := 0 }), #[]⟩
noncomputable def ob281 (P : Params) : Obj := ⟨(.type "code"), none, (.fields #[(.str (Str.ofString "law") 745), (.str (Str.ofString "law") 746), (.str (Str.ofString "/claim/cut.py") 747), (.int 246 0), (.int 1 0), (.int 0 0), (.int 0 0), (.int 3 0), (.ref 404), (.bool true), (.int 181 0), (.ref 405), .none, .none, .none, (.ref 406), (.int 748 0), (.int 246 0), (.str (Str.ofString "/claim/cut.py") 749)]), #[]⟩
noncomputable def ob282 (P : Params) : Obj := ⟨(.type "function"), none, (.func { name := (Str.ofString "law"), qualname := (Str.ofString "law"), params := fArgs sd36, body := .stmts (fBody sd36), scope := fScope sd36, globals := 3, closure := [], defaults := .none, kwdefaults := .none, doc := .none, pyModule := (.str (Str.ofString "law_og0001_01") 597), annotations := none, code := (.ref 407), closureTuple := .none, builtins := 0 }), #[]⟩
noncomputable def tr12 (P : Params) : BT := (.node (boot_o_0 P) (.node (boot_o_1 P) (.node (ob255 P) (.node (boot_o_7 P) (.node (boot_o_7 P) (.node (ob15 P) (.node (ob42 P) (.node (boot_o_7 P) (.node (ob186 P) .nil .nil) (.node (ob267 P) .nil .nil)) (.node (boot_o_8 P) (.node (ob228 P) .nil .nil) .nil)) (.node (ob67 P) (.node (ob119 P) (.node (boot_o_8 P) .nil .nil) .nil) (.node (boot_o_7 P) (.node (ob247 P) .nil .nil) .nil))) (.node (ob27 P) (.node (ob4 P) (.node (ob107 P) (.node (ob199 P) .nil .nil) (.node (ob276 P) .nil .nil)) (.node (boot_o_7 P) (.node (ob237 P) .nil .nil) .nil)) (.node (ob79 P) (.node (ob131 P) (.node (boot_o_7 P) .nil .nil) .nil) (.node (ob177 P) (.node (boot_o_7 P) .nil .nil) .nil)))) (.node (boot_o_8 P) (.node (boot_o_7 P) (.node (ob47 P) (.node (ob99 P) (.node (ob191 P) .nil .nil) (.node (ob272 P) .nil .nil)) (.node (ob151 P) (.node (boot_o_8 P) .nil .nil) .nil)) (.node (ob74 P) (.node (ob126 P) (.node (ob214 P) .nil .nil) .nil) (.node (boot_o_8 P) (.node (ob251 P) .nil .nil) .nil))) (.node (ob35 P) (.node (ob60 P) (.node (boot_o_7 P) (.node (boot_o_7 P) .nil .nil) (.node (ob281 P) .nil .nil)) (.node (ob161 P) (.node (ob242 P) .nil .nil) .nil)) (.node (ob87 P) (.node (boot_o_7 P) (.node (ob223 P) .nil .nil) .nil) (.node (boot_o_7 P) (.node (ob262 P) .nil .nil) .nil))))) (.node (boot_o_7 P) (.node (ob6 P) (.node (ob19 P) (.node (boot_o_7 P) (.node (ob95 P) (.node (boot_o_8 P) .nil .nil) (.node (ob269 P) .nil .nil)) (.node (ob147 P) (.node (ob230 P) .nil .nil) .nil)) (.node (boot_o_7 P) (.node (ob4 P) (.node (ob212 P) .nil .nil) .nil) (.node (ob170 P) (.node (ob249 P) .nil .nil) .nil))) (.node (ob31 P) (.node (ob58 P) (.node (ob110 P) (.node (boot_o_7 P) .nil .nil) (.node (ob279 P) .nil .nil)) (.node (boot_o_7 P) (.node (ob240 P) .nil .nil) .nil)) (.node (ob83 P) (.node (ob135 P) (.node (boot_o_7 P) .nil .nil) .nil) (.node (ob180 P) (.node (boot_o_7 P) .nil .nil) .nil)))) (.node (ob11 P) (.node (boot_o_7 P) (.node (ob51 P) (.node (ob103 P) (.node (ob195 P) .nil .nil) (.node (ob274 P) .nil .nil)) (.node (ob155 P) (.node (ob235 P) .nil .nil) .nil)) (.node (boot_o_8 P) (.node (ob128 P) (.node (ob217 P) .nil .nil) .nil) (.node (ob175 P) (.node (ob254 P) .nil .nil) .nil))) (.node (ob39 P) (.node (ob63 P) (.node (ob115 P) (.node (ob207 P) .nil .nil) .nil) (.node (boot_o_8 P) (.node (ob244 P) .nil .nil) .nil)) (.node (boot_o_7 P) (.node (ob142 P) (.node (boot_o_8 P) .nil .nil) .nil) (.node (boot_o_7 P) (.node (boot_o_8 P) .nil .nil) .nil)))))) (.node (boot_o_5 P) (.node (boot_o_9 P) (.node (ob5 P) (.node (ob17 P) (.node (boot_o_8 P) (.node (ob94 P) (.node (ob188 P) .nil .nil) (.node (boot_o_7 P) .nil .nil)) (.node (boot_o_7 P) (.node (boot_o_7 P) .nil .nil) .nil)) (.node (ob69 P) (.node (ob121 P) (.node (boot_o_7 P) .nil .nil) .nil) (.node (ob169 P) (.node (boot_o_8 P) .nil .nil) .nil))) (.node (ob29 P) (.node (boot_o_7 P) (.node (ob108 P) (.node (boot_o_8 P) .nil .nil) (.node (ob277 P) .nil .nil)) (.node (ob158 P) (.node (ob238 P) .nil .nil) .nil)) (.node (ob81 P) (.node (ob133 P) (.node (ob220 P) .nil .nil) .nil) (.node (ob178 P) (.node (ob259 P) .nil .nil) .nil)))) (.node (boot_o_7 P) (.node (ob24 P) (.node (ob49 P) (.node (ob101 P) (.node (ob193 P) .nil .nil) (.node (boot_o_8 P) .nil .nil)) (.node (ob153 P) (.node (boot_o_7 P) .nil .nil) .nil)) (.node (ob76 P) (.node (boot_o_7 P) (.node (ob215 P) .nil .nil) .nil) (.node (boot_o_7 P) (.node (ob252 P) .nil .nil) .nil))) (.node (boot_o_7 P) (.node (ob61 P) (.node (ob113 P) (.node (ob206 P) .nil .nil) .nil) (.node (ob163 P) (.node (boot_o_7 P) .nil .nil) .nil)) (.node (ob4 P) (.node (ob141 P) (.node (ob225 P) .nil .nil) .nil) (.node (ob183 P) (.node (ob264 P) .nil .nil) .nil))))) (.node (ob0 P) (.node (ob8 P) (.node (ob4 P) (.node (ob45 P) (.node (ob97 P) (.node (boot_o_7 P) .nil .nil) (.node (ob270 P) .nil .nil)) (.node (ob149 P) (.node (ob232 P) .nil .nil) .nil)) (.node (ob73 P) (.node (boot_o_7 P) (.node (boot_o_7 P) .nil .nil) .nil) (.node (ob172 P) (.node (boot_o_7 P) .nil .nil) .nil))) (.node (ob33 P) (.node (boot_o_7 P) (.node (boot_o_8 P) (.node (ob202 P) .nil .nil) (.node (boot_o_8 P) .nil .nil)) (.node (ob160 P) (.node (boot_o_8 P) .nil .nil) .nil)) (.node (ob85 P) (.node (ob137 P) (.node (ob222 P) .nil .nil) .nil) (.node (boot_o_8 P) (.node (ob261 P) .nil .nil) .nil)))) (.node (ob13 P) (.node (ob26 P) (.node (ob53 P) (.node (boot_o_7 P) (.node (ob197 P) .nil .nil) (.node (boot_o_7 P) .nil .nil)) (.node (boot_o_8 P) (.node (boot_o_7 P) .nil .nil) .nil)) (.node (boot_o_7 P) (.node (ob129 P) (.node (boot_o_8 P) .nil .nil) .nil) (.node (boot_o_7 P) (.node (boot_o_8 P) .nil .nil) .nil))) (.node (ob40 P) (.node (ob65 P) (.node (ob117 P) (.node (ob209 P) .nil .nil) .nil) (.node (ob165 P) (.node (ob245 P) .nil .nil) .nil)) (.node (ob92 P) (.node (ob144 P) (.node (boot_o_7 P) .nil .nil) .nil) (.node (ob185 P) (.node (boot_o_7 P) .nil .nil) .nil))))))) (.node (boot_o_2 P) (.node (boot_o_4 P) (.node (boot_o_8 P) (.node (ob4 P) (.node (ob16 P) (.node (boot_o_7 P) (.node (boot_o_8 P) (.node (ob187 P) .nil .nil) (.node (ob268 P) .nil .nil)) (.node (ob145 P) (.node (ob229 P) .nil .nil) .nil)) (.node (ob68 P) (.node (ob120 P) (.node (ob210 P) .nil .nil) .nil) (.node (ob4 P) (.node (boot_o_7 P) .nil .nil) .nil))) (.node (ob28 P) (.node (ob56 P) (.node (boot_o_7 P) (.node (boot_o_7 P) .nil .nil) (.node (boot_o_7 P) .nil .nil)) (.node (ob157 P) (.node (boot_o_7 P) .nil .nil) .nil)) (.node (ob80 P) (.node (ob132 P) (.node (ob219 P) .nil .nil) .nil) (.node (boot_o_7 P) (.node (ob258 P) .nil .nil) .nil)))) (.node (ob9 P) (.node (ob23 P) (.node (ob48 P) (.node (ob100 P) (.node (ob192 P) .nil .nil) (.node (boot_o_7 P) .nil .nil)) (.node (ob152 P) (.node (ob233 P) .nil .nil) .nil)) (.node (ob75 P) (.node (ob127 P) (.node (boot_o_7 P) .nil .nil) .nil) (.node (ob173 P) (.node (boot_o_7 P) .nil .nil) .nil))) (.node (ob36 P) (.node (boot_o_7 P) (.node (ob112 P) (.node (boot_o_8 P) .nil .nil) (.node (ob282 P) .nil .nil)) (.node (ob162 P) (.node (ob243 P) .nil .nil) .nil)) (.node (boot_o_7 P) (.node (ob4 P) (.node (ob224 P) .nil .nil) .nil) (.node (ob182 P) (.node (ob263 P) .nil .nil) .nil))))) (.node (ob256 P) (.node (ob7 P) (.node (boot_o_7 P) (.node (ob44 P) (.node (ob96 P) (.node (ob189 P) .nil .nil) (.node (boot_o_7 P) .nil .nil)) (.node (ob148 P) (.node (ob231 P) .nil .nil) .nil)) (.node (ob4 P) (.node (ob124 P) (.node (ob213 P) .nil .nil) .nil) (.node (ob171 P) (.node (ob250 P) .nil .nil) .nil))) (.node (ob32 P) (.node (ob59 P) (.node (boot_o_7 P) (.node (ob201 P) .nil .nil) (.node (boot_o_7 P) .nil .nil)) (.node (boot_o_8 P) (.node (boot_o_7 P) .nil .nil) .nil)) (.node (ob84 P) (.node (ob136 P) (.node (boot_o_8 P) .nil .nil) .nil) (.node (boot_o_7 P) (.node (boot_o_8 P) .nil .nil) .nil)))) (.node (ob12 P) (.node (boot_o_8 P) (.node (ob52 P) (.node (ob104 P) (.node (ob196 P) .nil .nil) (.node (ob275 P) .nil .nil)) (.node (boot_o_7 P) (.node (ob236 P) .nil .nil) .nil)) (.node (ob77 P) (.node (boot_o_7 P) (.node (boot_o_7 P) .nil .nil) .nil) (.node (ob176 P) (.node (boot_o_7 P) .nil .nil) .nil))) (.node (boot_o_7 P) (.node (ob64 P) (.node (ob116 P) (.node (ob208 P) .nil .nil) .nil) (.node (ob164 P) (.node (boot_o_7 P) .nil .nil) .nil)) (.node (ob91 P) (.node (ob143 P) (.node (ob226 P) .nil .nil) .nil) (.node (boot_o_8 P) (.node (ob265 P) .nil .nil) .nil)))))) (.node (boot_o_6 P) (.node (boot_o_10 P) (.node (boot_o_7 P) (.node (ob18 P) (.node (ob43 P) (.node (boot_o_7 P) (.node (boot_o_7 P) .nil .nil) (.node (boot_o_8 P) .nil .nil)) (.node (ob146 P) (.node (boot_o_8 P) .nil .nil) .nil)) (.node (ob70 P) (.node (boot_o_7 P) (.node (ob211 P) .nil .nil) .nil) (.node (boot_o_7 P) (.node (ob248 P) .nil .nil) .nil))) (.node (ob30 P) (.node (ob57 P) (.node (ob109 P) (.node (ob200 P) .nil .nil) (.node (ob278 P) .nil .nil)) (.node (ob159 P) (.node (ob239 P) .nil .nil) .nil)) (.node (ob82 P) (.node (ob134 P) (.node (ob221 P) .nil .nil) .nil) (.node (ob179 P) (.node (ob260 P) .nil .nil) .nil)))) (.node (ob10 P) (.node (ob25 P) (.node (ob50 P) (.node (ob102 P) (.node (ob194 P) .nil .nil) (.node (ob273 P) .nil .nil)) (.node (ob154 P) (.node (ob234 P) .nil .nil) .nil)) (.node (boot_o_7 P) (.node (boot_o_8 P) (.node (ob216 P) .nil .nil) .nil) (.node (ob174 P) (.node (ob253 P) .nil .nil) .nil))) (.node (ob4 P) (.node (ob62 P) (.node (ob114 P) (.node (boot_o_7 P) .nil .nil) .nil) (.node (boot_o_7 P) (.node (boot_o_8 P) .nil .nil) .nil)) (.node (ob90 P) (.node (boot_o_7 P) (.node (boot_o_7 P) .nil .nil) .nil) (.node (ob184 P) (.node (boot_o_7 P) .nil .nil) .nil))))) (.node (ob1 P) (.node (boot_o_7 P) (.node (ob22 P) (.node (ob46 P) (.node (ob98 P) (.node (ob190 P) .nil .nil) (.node (ob271 P) .nil .nil)) (.node (ob150 P) (.node (boot_o_7 P) .nil .nil) .nil)) (.node (boot_o_7 P) (.node (ob125 P) (.node (boot_o_8 P) .nil .nil) .nil) (.node (boot_o_7 P) (.node (boot_o_8 P) .nil .nil) .nil))) (.node (ob34 P) (.node (boot_o_8 P) (.node (ob111 P) (.node (ob203 P) .nil .nil) (.node (ob280 P) .nil .nil)) (.node (boot_o_7 P) (.node (ob241 P) .nil .nil) .nil)) (.node (ob86 P) (.node (ob138 P) (.node (boot_o_7 P) .nil .nil) .nil) (.node (ob181 P) (.node (boot_o_7 P) .nil .nil) .nil)))) (.node (ob14 P) (.node (boot_o_7 P) (.node (boot_o_7 P) (.node (ob4 P) (.node (ob198 P) .nil .nil) (.node (boot_o_8 P) .nil .nil)) (.node (ob156 P) (.node (boot_o_8 P) .nil .nil) .nil)) (.node (ob78 P) (.node (ob130 P) (.node (ob218 P) .nil .nil) .nil) (.node (boot_o_8 P) (.node (ob257 P) .nil .nil) .nil))) (.node (ob41 P) (.node (ob66 P) (.node (ob118 P) (.node (boot_o_7 P) .nil .nil) .nil) (.node (ob166 P) (.node (ob246 P) .nil .nil) .nil)) (.node (ob93 P) (.node (boot_o_7 P) (.node (ob227 P) .nil .nil) .nil) (.node (boot_o_7 P) (.node (ob266 P) .nil .nil) .nil))))))))
noncomputable def hpZ (P : Params) : Heap := ⟨⟨[boot_o_0 P, boot_o_1 P, boot_o_2 P, ob255 P, boot_o_4 P, boot_o_5 P, boot_o_6 P, boot_o_7 P, boot_o_8 P, boot_o_9 P, boot_o_10 P, boot_o_7 P, ob256 P, ob0 P, ob1 P, boot_o_7 P, ob4 P, ob5 P, boot_o_7 P, ob6 P, ob7 P, ob8 P, boot_o_7 P, boot_o_8 P, ob9 P, boot_o_7 P, ob10 P, ob11 P, ob12 P, ob13 P, ob14 P, ob15 P, ob16 P, ob17 P, ob18 P, ob19 P, boot_o_7 P, ob4 P, ob22 P, boot_o_7 P, ob23 P, ob24 P, ob25 P, boot_o_7 P, boot_o_8 P, ob26 P, boot_o_7 P, ob27 P, ob28 P, ob29 P, ob30 P, ob31 P, ob32 P, ob33 P, ob34 P, ob35 P, ob36 P, boot_o_7 P, ob4 P, ob39 P, boot_o_7 P, ob40 P, ob41 P, ob42 P, boot_o_7 P, boot_o_8 P, ob43 P, boot_o_7 P, ob44 P, ob45 P, ob46 P, ob47 P, ob48 P, ob49 P, ob50 P, ob51 P, ob52 P, ob53 P, boot_o_7 P, ob4 P, ob56 P, boot_o_7 P, ob57 P, ob58 P, ob59 P, boot_o_7 P, boot_o_8 P, ob60 P, boot_o_7 P, ob61 P, ob62 P, ob63 P, ob64 P, ob65 P, ob66 P, ob67 P, ob68 P, ob69 P, ob70 P, boot_o_7 P, ob4 P, ob73 P, boot_o_7 P, ob74 P, ob75 P, ob76 P, boot_o_7 P, boot_o_8 P, ob77 P, boot_o_7 P, ob78 P, ob79 P, ob80 P, ob81 P, ob82 P, ob83 P, ob84 P, ob85 P, ob86 P, ob87 P, boot_o_7 P, ob4 P, ob90 P, boot_o_7 P, ob91 P, ob92 P, ob93 P, boot_o_7 P, boot_o_8 P, ob94 P, boot_o_7 P, ob95 P, ob96 P, ob97 P, ob98 P, ob99 P, ob100 P, ob101 P, ob102 P, ob103 P, ob104 P, boot_o_7 P, ob4 P, ob107 P, boot_o_7 P, ob108 P, ob109 P, ob110 P, boot_o_7 P, boot_o_8 P, ob111 P, boot_o_7 P, ob112 P, ob113 P, ob114 P, ob115 P, ob116 P, ob117 P, ob118 P, ob119 P, ob120 P, ob121 P, boot_o_7 P, ob4 P, ob124 P, boot_o_7 P, ob125 P, ob126 P, ob127 P, boot_o_7 P, boot_o_8 P, ob128 P, boot_o_7 P, ob129 P, ob130 P, ob131 P, ob132 P, ob133 P, ob134 P, ob135 P, ob136 P, ob137 P, ob138 P, boot_o_7 P, ob4 P, ob141 P, boot_o_7 P, ob142 P, ob143 P, ob144 P, boot_o_7 P, boot_o_8 P, ob145 P, boot_o_7 P, ob146 P, ob147 P, ob148 P, ob149 P, ob150 P, ob151 P, ob152 P, ob153 P, ob154 P, ob155 P, boot_o_7 P, boot_o_8 P, ob156 P, boot_o_7 P, ob157 P, ob158 P, ob159 P, boot_o_7 P, boot_o_8 P, ob160 P, boot_o_7 P, ob161 P, ob162 P, ob163 P, boot_o_7 P, boot_o_8 P, ob164 P, ob165 P, ob166 P, boot_o_7 P, ob4 P, ob169 P, boot_o_7 P, ob170 P, ob171 P, ob172 P, boot_o_7 P, boot_o_8 P, ob173 P, boot_o_7 P, ob174 P, ob175 P, ob176 P, boot_o_7 P, boot_o_8 P, ob177 P, boot_o_7 P, ob178 P, ob179 P, ob180 P, boot_o_7 P, boot_o_8 P, ob181 P, boot_o_7 P, ob182 P, ob183 P, ob184 P, boot_o_7 P, boot_o_8 P, ob185 P, boot_o_7 P, ob186 P, ob187 P, ob188 P, boot_o_7 P, boot_o_8 P, ob189 P, boot_o_7 P, ob190 P, ob191 P, ob192 P, ob193 P, ob194 P, ob195 P, ob196 P, ob197 P, ob198 P, ob199 P, boot_o_7 P, boot_o_8 P, ob200 P, boot_o_7 P, ob201 P, ob202 P, ob203 P, boot_o_7 P, boot_o_8 P, ob206 P, boot_o_7 P, ob207 P, ob208 P, ob209 P, boot_o_7 P, boot_o_8 P, ob210 P, boot_o_7 P, ob211 P, ob212 P, ob213 P, boot_o_7 P, boot_o_8 P, ob214 P, boot_o_7 P, ob215 P, ob216 P, ob217 P, boot_o_7 P, boot_o_8 P, ob218 P, boot_o_7 P, ob219 P, ob220 P, ob221 P, boot_o_7 P, boot_o_8 P, ob222 P, boot_o_7 P, ob223 P, ob224 P, ob225 P, boot_o_7 P, boot_o_8 P, ob226 P, boot_o_7 P, ob227 P, ob228 P, ob229 P, boot_o_7 P, boot_o_8 P, ob230 P, ob231 P, ob232 P, boot_o_7 P, boot_o_8 P, ob233 P, boot_o_7 P, ob234 P, ob235 P, ob236 P, boot_o_7 P, boot_o_8 P, ob237 P, boot_o_7 P, ob238 P, ob239 P, ob240 P, boot_o_7 P, boot_o_8 P, ob241 P, ob242 P, ob243 P, boot_o_7 P, boot_o_8 P, ob244 P, boot_o_7 P, ob245 P, ob246 P, ob247 P, boot_o_7 P, boot_o_8 P, ob248 P, ob249 P, ob250 P, boot_o_7 P, boot_o_8 P, ob251 P, boot_o_7 P, ob252 P, ob253 P, ob254 P, boot_o_7 P, boot_o_8 P, ob257 P, boot_o_7 P, ob258 P, ob259 P, ob260 P, boot_o_7 P, boot_o_8 P, ob261 P, boot_o_7 P, ob262 P, ob263 P, ob264 P, boot_o_7 P, boot_o_8 P, ob265 P, boot_o_7 P, ob266 P, ob267 P, ob268 P, boot_o_7 P, boot_o_8 P, ob269 P, boot_o_7 P, ob270 P, ob271 P, ob272 P, boot_o_7 P, boot_o_8 P, ob273 P, ob274 P, ob275 P, boot_o_7 P, boot_o_8 P, ob276 P, boot_o_7 P, ob277 P, ob278 P, ob279 P, boot_o_7 P, boot_o_8 P, ob280 P, ob281 P, ob282 P]⟩, {}⟩
noncomputable def KH (P : Params) : Frag := [(nat_lit 2, boot_o_2 P), (nat_lit 3, ob255 P), (nat_lit 22, boot_o_7 P), (nat_lit 24, ob9 P), (nat_lit 25, boot_o_7 P), (nat_lit 27, ob11 P), (nat_lit 28, ob12 P), (nat_lit 29, ob13 P), (nat_lit 30, ob14 P), (nat_lit 31, ob15 P), (nat_lit 32, ob16 P), (nat_lit 33, ob17 P), (nat_lit 43, boot_o_7 P), (nat_lit 45, ob26 P), (nat_lit 46, boot_o_7 P), (nat_lit 48, ob28 P), (nat_lit 49, ob29 P), (nat_lit 50, ob30 P), (nat_lit 51, ob31 P), (nat_lit 52, ob32 P), (nat_lit 53, ob33 P), (nat_lit 54, ob34 P), (nat_lit 64, boot_o_7 P), (nat_lit 66, ob43 P), (nat_lit 67, boot_o_7 P), (nat_lit 69, ob45 P), (nat_lit 70, ob46 P), (nat_lit 71, ob47 P), (nat_lit 72, ob48 P), (nat_lit 73, ob49 P), (nat_lit 74, ob50 P), (nat_lit 75, ob51 P), (nat_lit 85, boot_o_7 P), (nat_lit 87, ob60 P), (nat_lit 88, boot_o_7 P), (nat_lit 90, ob62 P), (nat_lit 91, ob63 P), (nat_lit 92, ob64 P), (nat_lit 93, ob65 P), (nat_lit 94, ob66 P), (nat_lit 95, ob67 P), (nat_lit 96, ob68 P), (nat_lit 106, boot_o_7 P), (nat_lit 108, ob77 P), (nat_lit 109, boot_o_7 P), (nat_lit 111, ob79 P), (nat_lit 112, ob80 P), (nat_lit 113, ob81 P), (nat_lit 114, ob82 P), (nat_lit 115, ob83 P), (nat_lit 116, ob84 P), (nat_lit 117, ob85 P), (nat_lit 127, boot_o_7 P), (nat_lit 129, ob94 P), (nat_lit 130, boot_o_7 P), (nat_lit 132, ob96 P), (nat_lit 133, ob97 P), (nat_lit 134, ob98 P), (nat_lit 135, ob99 P), (nat_lit 136, ob100 P), (nat_lit 137, ob101 P), (nat_lit 138, ob102 P), (nat_lit 148, boot_o_7 P), (nat_lit 150, ob111 P), (nat_lit 151, boot_o_7 P), (nat_lit 153, ob113 P), (nat_lit 154, ob114 P), (nat_lit 155, ob115 P), (nat_lit 156, ob116 P), (nat_lit 157, ob117 P), (nat_lit 158, ob118 P), (nat_lit 159, ob119 P), (nat_lit 169, boot_o_7 P), (nat_lit 171, ob128 P), (nat_lit 172, boot_o_7 P), (nat_lit 174, ob130 P), (nat_lit 175, ob131 P), (nat_lit 176, ob132 P), (nat_lit 177, ob133 P), (nat_lit 178, ob134 P), (nat_lit 179, ob135 P), (nat_lit 180, ob136 P), (nat_lit 190, boot_o_7 P), (nat_lit 192, ob145 P), (nat_lit 193, boot_o_7 P), (nat_lit 195, ob147 P), (nat_lit 196, ob148 P), (nat_lit 197, ob149 P), (nat_lit 198, ob150 P), (nat_lit 199, ob151 P), (nat_lit 200, ob152 P), (nat_lit 201, ob153 P), (nat_lit 204, boot_o_7 P), (nat_lit 206, ob156 P), (nat_lit 207, boot_o_7 P), (nat_lit 209, ob158 P), (nat_lit 210, ob159 P), (nat_lit 211, boot_o_7 P), (nat_lit 213, ob160 P), (nat_lit 214, boot_o_7 P), (nat_lit 216, ob162 P), (nat_lit 217, ob163 P), (nat_lit 218, boot_o_7 P), (nat_lit 221, ob165 P), (nat_lit 222, ob166 P), (nat_lit 230, boot_o_7 P), (nat_lit 232, ob173 P), (nat_lit 233, boot_o_7 P), (nat_lit 235, ob175 P), (nat_lit 236, ob176 P), (nat_lit 237, boot_o_7 P), (nat_lit 239, ob177 P), (nat_lit 240, boot_o_7 P), (nat_lit 242, ob179 P), (nat_lit 243, ob180 P), (nat_lit 244, boot_o_7 P), (nat_lit 246, ob181 P), (nat_lit 247, boot_o_7 P), (nat_lit 249, ob183 P), (nat_lit 250, ob184 P), (nat_lit 251, boot_o_7 P), (nat_lit 253, ob185 P), (nat_lit 254, boot_o_7 P), (nat_lit 256, ob187 P), (nat_lit 257, ob188 P), (nat_lit 258, boot_o_7 P), (nat_lit 260, ob189 P), (nat_lit 261, boot_o_7 P), (nat_lit 263, ob191 P), (nat_lit 264, ob192 P), (nat_lit 265, ob193 P), (nat_lit 266, ob194 P), (nat_lit 267, ob195 P), (nat_lit 268, ob196 P), (nat_lit 269, ob197 P), (nat_lit 272, boot_o_7 P), (nat_lit 274, ob200 P), (nat_lit 275, boot_o_7 P), (nat_lit 277, ob202 P), (nat_lit 278, ob203 P), (nat_lit 279, boot_o_7 P), (nat_lit 281, ob206 P), (nat_lit 282, boot_o_7 P), (nat_lit 284, ob208 P), (nat_lit 285, ob209 P), (nat_lit 286, boot_o_7 P), (nat_lit 288, ob210 P), (nat_lit 289, boot_o_7 P), (nat_lit 291, ob212 P), (nat_lit 292, ob213 P), (nat_lit 293, boot_o_7 P), (nat_lit 295, ob214 P), (nat_lit 296, boot_o_7 P), (nat_lit 298, ob216 P), (nat_lit 299, ob217 P), (nat_lit 300, boot_o_7 P), (nat_lit 302, ob218 P), (nat_lit 303, boot_o_7 P), (nat_lit 305, ob220 P), (nat_lit 306, ob221 P), (nat_lit 307, boot_o_7 P), (nat_lit 309, ob222 P), (nat_lit 310, boot_o_7 P), (nat_lit 312, ob224 P), (nat_lit 313, ob225 P), (nat_lit 314, boot_o_7 P), (nat_lit 316, ob226 P), (nat_lit 317, boot_o_7 P), (nat_lit 319, ob228 P), (nat_lit 320, ob229 P), (nat_lit 321, boot_o_7 P), (nat_lit 324, ob231 P), (nat_lit 325, ob232 P), (nat_lit 326, boot_o_7 P), (nat_lit 328, ob233 P), (nat_lit 329, boot_o_7 P), (nat_lit 331, ob235 P), (nat_lit 332, ob236 P), (nat_lit 333, boot_o_7 P), (nat_lit 335, ob237 P), (nat_lit 336, boot_o_7 P), (nat_lit 338, ob239 P), (nat_lit 339, ob240 P), (nat_lit 340, boot_o_7 P), (nat_lit 343, ob242 P), (nat_lit 344, ob243 P), (nat_lit 345, boot_o_7 P), (nat_lit 347, ob244 P), (nat_lit 348, boot_o_7 P), (nat_lit 350, ob246 P), (nat_lit 351, ob247 P), (nat_lit 352, boot_o_7 P), (nat_lit 355, ob249 P), (nat_lit 356, ob250 P), (nat_lit 357, boot_o_7 P), (nat_lit 359, ob251 P), (nat_lit 360, boot_o_7 P), (nat_lit 362, ob253 P), (nat_lit 363, ob254 P), (nat_lit 364, boot_o_7 P), (nat_lit 366, ob257 P), (nat_lit 367, boot_o_7 P), (nat_lit 369, ob259 P), (nat_lit 370, ob260 P), (nat_lit 371, boot_o_7 P), (nat_lit 373, ob261 P), (nat_lit 374, boot_o_7 P), (nat_lit 376, ob263 P), (nat_lit 377, ob264 P), (nat_lit 378, boot_o_7 P), (nat_lit 380, ob265 P), (nat_lit 381, boot_o_7 P), (nat_lit 383, ob267 P), (nat_lit 384, ob268 P), (nat_lit 385, boot_o_7 P), (nat_lit 387, ob269 P), (nat_lit 388, boot_o_7 P), (nat_lit 390, ob271 P), (nat_lit 391, ob272 P), (nat_lit 392, boot_o_7 P), (nat_lit 395, ob274 P), (nat_lit 396, ob275 P), (nat_lit 397, boot_o_7 P), (nat_lit 399, ob276 P), (nat_lit 400, boot_o_7 P), (nat_lit 402, ob278 P), (nat_lit 403, ob279 P), (nat_lit 404, boot_o_7 P), (nat_lit 407, ob281 P), (nat_lit 408, ob282 P)]
def khAs : List Nat := [nat_lit 2, nat_lit 3, nat_lit 22, nat_lit 24, nat_lit 25, nat_lit 27, nat_lit 28, nat_lit 29, nat_lit 30, nat_lit 31, nat_lit 32, nat_lit 33, nat_lit 43, nat_lit 45, nat_lit 46, nat_lit 48, nat_lit 49, nat_lit 50, nat_lit 51, nat_lit 52, nat_lit 53, nat_lit 54, nat_lit 64, nat_lit 66, nat_lit 67, nat_lit 69, nat_lit 70, nat_lit 71, nat_lit 72, nat_lit 73, nat_lit 74, nat_lit 75, nat_lit 85, nat_lit 87, nat_lit 88, nat_lit 90, nat_lit 91, nat_lit 92, nat_lit 93, nat_lit 94, nat_lit 95, nat_lit 96, nat_lit 106, nat_lit 108, nat_lit 109, nat_lit 111, nat_lit 112, nat_lit 113, nat_lit 114, nat_lit 115, nat_lit 116, nat_lit 117, nat_lit 127, nat_lit 129, nat_lit 130, nat_lit 132, nat_lit 133, nat_lit 134, nat_lit 135, nat_lit 136, nat_lit 137, nat_lit 138, nat_lit 148, nat_lit 150, nat_lit 151, nat_lit 153, nat_lit 154, nat_lit 155, nat_lit 156, nat_lit 157, nat_lit 158, nat_lit 159, nat_lit 169, nat_lit 171, nat_lit 172, nat_lit 174, nat_lit 175, nat_lit 176, nat_lit 177, nat_lit 178, nat_lit 179, nat_lit 180, nat_lit 190, nat_lit 192, nat_lit 193, nat_lit 195, nat_lit 196, nat_lit 197, nat_lit 198, nat_lit 199, nat_lit 200, nat_lit 201, nat_lit 204, nat_lit 206, nat_lit 207, nat_lit 209, nat_lit 210, nat_lit 211, nat_lit 213, nat_lit 214, nat_lit 216, nat_lit 217, nat_lit 218, nat_lit 221, nat_lit 222, nat_lit 230, nat_lit 232, nat_lit 233, nat_lit 235, nat_lit 236, nat_lit 237, nat_lit 239, nat_lit 240, nat_lit 242, nat_lit 243, nat_lit 244, nat_lit 246, nat_lit 247, nat_lit 249, nat_lit 250, nat_lit 251, nat_lit 253, nat_lit 254, nat_lit 256, nat_lit 257, nat_lit 258, nat_lit 260, nat_lit 261, nat_lit 263, nat_lit 264, nat_lit 265, nat_lit 266, nat_lit 267, nat_lit 268, nat_lit 269, nat_lit 272, nat_lit 274, nat_lit 275, nat_lit 277, nat_lit 278, nat_lit 279, nat_lit 281, nat_lit 282, nat_lit 284, nat_lit 285, nat_lit 286, nat_lit 288, nat_lit 289, nat_lit 291, nat_lit 292, nat_lit 293, nat_lit 295, nat_lit 296, nat_lit 298, nat_lit 299, nat_lit 300, nat_lit 302, nat_lit 303, nat_lit 305, nat_lit 306, nat_lit 307, nat_lit 309, nat_lit 310, nat_lit 312, nat_lit 313, nat_lit 314, nat_lit 316, nat_lit 317, nat_lit 319, nat_lit 320, nat_lit 321, nat_lit 324, nat_lit 325, nat_lit 326, nat_lit 328, nat_lit 329, nat_lit 331, nat_lit 332, nat_lit 333, nat_lit 335, nat_lit 336, nat_lit 338, nat_lit 339, nat_lit 340, nat_lit 343, nat_lit 344, nat_lit 345, nat_lit 347, nat_lit 348, nat_lit 350, nat_lit 351, nat_lit 352, nat_lit 355, nat_lit 356, nat_lit 357, nat_lit 359, nat_lit 360, nat_lit 362, nat_lit 363, nat_lit 364, nat_lit 366, nat_lit 367, nat_lit 369, nat_lit 370, nat_lit 371, nat_lit 373, nat_lit 374, nat_lit 376, nat_lit 377, nat_lit 378, nat_lit 380, nat_lit 381, nat_lit 383, nat_lit 384, nat_lit 385, nat_lit 387, nat_lit 388, nat_lit 390, nat_lit 391, nat_lit 392, nat_lit 395, nat_lit 396, nat_lit 397, nat_lit 399, nat_lit 400, nat_lit 402, nat_lit 403, nat_lit 404, nat_lit 407, nat_lit 408]
noncomputable def envH : Env := { scope := Challenge.pw_og0001_01.main.scope, locals := mainNs, globals := mainNs, cells := [], code := (.ref 13), frame := some 14 }
noncomputable def st1 : List Stmt := cutS Challenge.pw_og0001_01.main.body 0 2
noncomputable def st2 : List Stmt := cutS Challenge.pw_og0001_01.main.body 2 1
noncomputable def st3 : List Stmt := cutS Challenge.pw_og0001_01.main.body 3 1
noncomputable def st4 : List Stmt := cutS Challenge.pw_og0001_01.main.body 4 1
noncomputable def st5 : List Stmt := cutS Challenge.pw_og0001_01.main.body 5 1
noncomputable def st6 : List Stmt := cutS Challenge.pw_og0001_01.main.body 6 1
noncomputable def st7 : List Stmt := cutS Challenge.pw_og0001_01.main.body 7 1
noncomputable def st8 : List Stmt := cutS Challenge.pw_og0001_01.main.body 8 1
noncomputable def st9 : List Stmt := cutS Challenge.pw_og0001_01.main.body 9 5
noncomputable def st10 : List Stmt := cutS Challenge.pw_og0001_01.main.body 14 2
noncomputable def st11 : List Stmt := cutS Challenge.pw_og0001_01.main.body 16 14
noncomputable def st12 : List Stmt := cutS Challenge.pw_og0001_01.main.body 30 7
-- m0 11 ann (some (.ref 6)) pre 12 pos ⟨0, 0, 0, 0⟩ toks 187 n 15 block 0 pos ⟨0, 0, 0, 0⟩ toks 187 fin 1 toks 751 frame ⟨0, 0, 0, 0⟩
theorem hpre (w : World) (os : OsState) : topGo treeTable Challenge.pw_og0001_01 w 11 (some (.ref 6)) 12 ⟨boot_heap w.params, ⟨[]⟩, boot_drawn, boot_toks, os⟩ (topStub Challenge.pw_og0001_01) = some (⟨hpA w.params, ⟨[]⟩, {}, 187, os⟩, ⟨denote treeTable (Code.body (behindTheImports Challenge.pw_og0001_01) envH), (Code.body (behindTheImports Challenge.pw_og0001_01) envH), ⟨0, 0, 0, 0⟩, [topFrame ⟨0, 0, 0, 0⟩]⟩) := by
  walk_at "hrw"
  kernel_rfl
theorem hblock (w : World) (os : OsState) : segRun treeTable Challenge.pw_og0001_01 w 11 (some (.ref 6)) 1 1 ⟨hpA w.params, ⟨[]⟩, {}, 187, os⟩ (blockOf (behindTheImports Challenge.pw_og0001_01) envH (Code.body (behindTheImports Challenge.pw_og0001_01) envH) ⟨0, 0, 0, 0⟩ [topFrame ⟨0, 0, 0, 0⟩]) = some (Flow.next, ({ tree := tr0 w.params, n := 15, life := {}, gens := ⟨[]⟩, drawn := {}, toks := 187, os := os } : SharedT).abs, (Code.body (behindTheImports Challenge.pw_og0001_01) envH), ⟨0, 0, 0, 0⟩) := by
  walk_at "hrw"
  kernel_rfl
theorem hp1 (w : World) (os : OsState) : segRunT treeTable Challenge.pw_og0001_01 w 11 (some (.ref 6)) 1 232 ({ tree := tr0 w.params, n := 15, life := {}, gens := ⟨[]⟩, drawn := {}, toks := 187, os := os } : SharedT) (piecesOf st1 envH (Code.body (behindTheImports Challenge.pw_og0001_01) envH) ⟨0, 0, 0, 0⟩ [topFrame ⟨0, 0, 0, 0⟩]) = some (Flow.next, ({ tree := tr1 w.params, n := 36, life := {}, gens := ⟨[]⟩, drawn := {}, toks := 218, os := os } : SharedT), (Code.body (behindTheImports Challenge.pw_og0001_01) envH), ⟨2, 0, 5, 24⟩) := by
  walk_at "hrw"
  kernel_rfl
theorem hp2 (w : World) (os : OsState) : segRunT treeTable Challenge.pw_og0001_01 w 11 (some (.ref 6)) 1 225 ({ tree := tr1 w.params, n := 36, life := {}, gens := ⟨[]⟩, drawn := {}, toks := 218, os := os } : SharedT) (piecesOf st2 envH (Code.body (behindTheImports Challenge.pw_og0001_01) envH) ⟨2, 0, 5, 24⟩ [topFrame ⟨0, 0, 0, 0⟩]) = some (Flow.next, ({ tree := tr2 w.params, n := 57, life := {}, gens := ⟨[]⟩, drawn := {}, toks := 249, os := os } : SharedT), (Code.body (behindTheImports Challenge.pw_og0001_01) envH), ⟨6, 0, 10, 26⟩) := by
  walk_at "hrw"
  kernel_rfl
theorem hp3 (w : World) (os : OsState) : segRunT treeTable Challenge.pw_og0001_01 w 11 (some (.ref 6)) 1 225 ({ tree := tr2 w.params, n := 57, life := {}, gens := ⟨[]⟩, drawn := {}, toks := 249, os := os } : SharedT) (piecesOf st3 envH (Code.body (behindTheImports Challenge.pw_og0001_01) envH) ⟨6, 0, 10, 26⟩ [topFrame ⟨0, 0, 0, 0⟩]) = some (Flow.next, ({ tree := tr3 w.params, n := 78, life := {}, gens := ⟨[]⟩, drawn := {}, toks := 280, os := os } : SharedT), (Code.body (behindTheImports Challenge.pw_og0001_01) envH), ⟨11, 0, 15, 26⟩) := by
  walk_at "hrw"
  kernel_rfl
theorem hp4 (w : World) (os : OsState) : segRunT treeTable Challenge.pw_og0001_01 w 11 (some (.ref 6)) 1 225 ({ tree := tr3 w.params, n := 78, life := {}, gens := ⟨[]⟩, drawn := {}, toks := 280, os := os } : SharedT) (piecesOf st4 envH (Code.body (behindTheImports Challenge.pw_og0001_01) envH) ⟨11, 0, 15, 26⟩ [topFrame ⟨0, 0, 0, 0⟩]) = some (Flow.next, ({ tree := tr4 w.params, n := 99, life := {}, gens := ⟨[]⟩, drawn := {}, toks := 311, os := os } : SharedT), (Code.body (behindTheImports Challenge.pw_og0001_01) envH), ⟨16, 0, 20, 26⟩) := by
  walk_at "hrw"
  kernel_rfl
theorem hp5 (w : World) (os : OsState) : segRunT treeTable Challenge.pw_og0001_01 w 11 (some (.ref 6)) 1 229 ({ tree := tr4 w.params, n := 99, life := {}, gens := ⟨[]⟩, drawn := {}, toks := 311, os := os } : SharedT) (piecesOf st5 envH (Code.body (behindTheImports Challenge.pw_og0001_01) envH) ⟨16, 0, 20, 26⟩ [topFrame ⟨0, 0, 0, 0⟩]) = some (Flow.next, ({ tree := tr5 w.params, n := 120, life := {}, gens := ⟨[]⟩, drawn := {}, toks := 346, os := os } : SharedT), (Code.body (behindTheImports Challenge.pw_og0001_01) envH), ⟨21, 0, 27, 26⟩) := by
  walk_at "hrw"
  kernel_rfl
theorem hp6 (w : World) (os : OsState) : segRunT treeTable Challenge.pw_og0001_01 w 11 (some (.ref 6)) 1 227 ({ tree := tr5 w.params, n := 120, life := {}, gens := ⟨[]⟩, drawn := {}, toks := 346, os := os } : SharedT) (piecesOf st6 envH (Code.body (behindTheImports Challenge.pw_og0001_01) envH) ⟨21, 0, 27, 26⟩ [topFrame ⟨0, 0, 0, 0⟩]) = some (Flow.next, ({ tree := tr6 w.params, n := 141, life := {}, gens := ⟨[]⟩, drawn := {}, toks := 379, os := os } : SharedT), (Code.body (behindTheImports Challenge.pw_og0001_01) envH), ⟨28, 0, 33, 24⟩) := by
  walk_at "hrw"
  kernel_rfl
theorem hp7 (w : World) (os : OsState) : segRunT treeTable Challenge.pw_og0001_01 w 11 (some (.ref 6)) 1 225 ({ tree := tr6 w.params, n := 141, life := {}, gens := ⟨[]⟩, drawn := {}, toks := 379, os := os } : SharedT) (piecesOf st7 envH (Code.body (behindTheImports Challenge.pw_og0001_01) envH) ⟨28, 0, 33, 24⟩ [topFrame ⟨0, 0, 0, 0⟩]) = some (Flow.next, ({ tree := tr7 w.params, n := 162, life := {}, gens := ⟨[]⟩, drawn := {}, toks := 410, os := os } : SharedT), (Code.body (behindTheImports Challenge.pw_og0001_01) envH), ⟨34, 0, 38, 24⟩) := by
  walk_at "hrw"
  kernel_rfl
theorem hp8 (w : World) (os : OsState) : segRunT treeTable Challenge.pw_og0001_01 w 11 (some (.ref 6)) 1 229 ({ tree := tr7 w.params, n := 162, life := {}, gens := ⟨[]⟩, drawn := {}, toks := 410, os := os } : SharedT) (piecesOf st8 envH (Code.body (behindTheImports Challenge.pw_og0001_01) envH) ⟨34, 0, 38, 24⟩ [topFrame ⟨0, 0, 0, 0⟩]) = some (Flow.next, ({ tree := tr8 w.params, n := 183, life := {}, gens := ⟨[]⟩, drawn := {}, toks := 445, os := os } : SharedT), (Code.body (behindTheImports Challenge.pw_og0001_01) envH), ⟨39, 0, 45, 36⟩) := by
  walk_at "hrw"
  kernel_rfl
theorem hp9 (w : World) (os : OsState) : segRunT treeTable Challenge.pw_og0001_01 w 11 (some (.ref 6)) 1 321 ({ tree := tr8 w.params, n := 183, life := {}, gens := ⟨[]⟩, drawn := {}, toks := 445, os := os } : SharedT) (piecesOf st9 envH (Code.body (behindTheImports Challenge.pw_og0001_01) envH) ⟨39, 0, 45, 36⟩ [topFrame ⟨0, 0, 0, 0⟩]) = some (Flow.next, ({ tree := tr9 w.params, n := 223, life := {}, gens := ⟨[]⟩, drawn := {}, toks := 501, os := os } : SharedT), (Code.body (behindTheImports Challenge.pw_og0001_01) envH), ⟨57, 0, 58, 65⟩) := by
  walk_at "hrw"
  kernel_rfl
theorem hp10 (w : World) (os : OsState) : segRunT treeTable Challenge.pw_og0001_01 w 11 (some (.ref 6)) 1 391 ({ tree := tr9 w.params, n := 223, life := {}, gens := ⟨[]⟩, drawn := {}, toks := 501, os := os } : SharedT) (piecesOf st10 envH (Code.body (behindTheImports Challenge.pw_og0001_01) envH) ⟨57, 0, 58, 65⟩ [topFrame ⟨0, 0, 0, 0⟩]) = some (Flow.next, ({ tree := tr10 w.params, n := 279, life := {}, gens := ⟨[]⟩, drawn := {}, toks := 580, os := os } : SharedT), (Code.body (behindTheImports Challenge.pw_og0001_01) envH), ⟨100, 0, 103, 39⟩) := by
  walk_at "hrw"
  kernel_rfl
theorem hp11 (w : World) (os : OsState) : segRunT treeTable Challenge.pw_og0001_01 w 11 (some (.ref 6)) 1 396 ({ tree := tr10 w.params, n := 279, life := {}, gens := ⟨[]⟩, drawn := {}, toks := 580, os := os } : SharedT) (piecesOf st11 envH (Code.body (behindTheImports Challenge.pw_og0001_01) envH) ⟨100, 0, 103, 39⟩ [topFrame ⟨0, 0, 0, 0⟩]) = some (Flow.next, ({ tree := tr11 w.params, n := 364, life := {}, gens := ⟨[]⟩, drawn := {}, toks := 688, os := os } : SharedT), (Code.body (behindTheImports Challenge.pw_og0001_01) envH), ⟨182, 0, 187, 25⟩) := by
  walk_at "hrw"
  kernel_rfl
theorem hp12 (w : World) (os : OsState) : segRunT treeTable Challenge.pw_og0001_01 w 11 (some (.ref 6)) 1 214 ({ tree := tr11 w.params, n := 364, life := {}, gens := ⟨[]⟩, drawn := {}, toks := 688, os := os } : SharedT) (piecesOf st12 envH (Code.body (behindTheImports Challenge.pw_og0001_01) envH) ⟨182, 0, 187, 25⟩ [topFrame ⟨0, 0, 0, 0⟩]) = some (Flow.next, ({ tree := tr12 w.params, n := 409, life := {}, gens := ⟨[]⟩, drawn := {}, toks := 751, os := os } : SharedT), (Code.body (behindTheImports Challenge.pw_og0001_01) envH), ⟨246, 0, 260, 84⟩) := by
  walk_at "hrw"
  kernel_rfl
theorem hfin (w : World) (os : OsState) : topRun treeTable Challenge.pw_og0001_01 w 11 (some (.ref 6)) 2 ({ tree := tr12 w.params, n := 409, life := {}, gens := ⟨[]⟩, drawn := {}, toks := 751, os := os } : SharedT).abs ⟨doneF .next, (Code.body (behindTheImports Challenge.pw_og0001_01) envH), ⟨246, 0, 260, 84⟩, [topFrame ⟨0, 0, 0, 0⟩]⟩ = some ⟨hpZ w.params, ⟨[]⟩, {}, 751, os⟩ := by
  walk_at "hrw"
  kernel_rfl
-- keep [1, 2, 3, 4, 5, 6, 7, 8, 9, 11, 12, 13, 14, 15, 16, 17, 19, 20, 21, 22, 23, 24, 25, 26, 27, 28, 29, 30, 31, 32, 33, 34, 35, 36] of 37 steps 3140
-- steps [232, 225, 225, 225, 229, 227, 225, 229, 321, 391, 396, 214]

theorem hbody : behindTheImports Challenge.pw_og0001_01 = (st1 ++ (st2 ++ (st3 ++ (st4 ++ (st5 ++ (st6 ++ (st7 ++ (st8 ++ (st9 ++ (st10 ++ (st11 ++ (st12 ++ [])))))))))))) := by kernel_rfl
theorem restEq {tb : String → Option Builtin} {p : Program} {w : World} {n₀ N : Nat} {ann : Option Value} {s r : Shared} {b b' : List Stmt} {env : Env} {c : Code} {pos : Pos} {B : List Frame} (e : b = b') (k : topRun tb p w n₀ ann N s (restOf b' env c pos B) = some r) : topRun tb p w n₀ ann N s (restOf b env c pos B) = some r := by rw [e]; exact k
theorem hrun (w : World) (os : OsState) : topRun treeTable Challenge.pw_og0001_01 w 11 (some (.ref 6)) (12 + (1 + (232 + (225 + (225 + (225 + (229 + (227 + (225 + (229 + (321 + (391 + (396 + (214 + 2)))))))))))))) ⟨boot_heap w.params, ⟨[]⟩, boot_drawn, boot_toks, os⟩ (topStub Challenge.pw_og0001_01) = some ⟨hpZ w.params, ⟨[]⟩, {}, 751, os⟩ :=
  go_top (hpre w os) (piece_block (hblock w os) (restEq hbody (piece_app (segRun_of (hp1 w os)) (piece_app (segRun_of (hp2 w os)) (piece_app (segRun_of (hp3 w os)) (piece_app (segRun_of (hp4 w os)) (piece_app (segRun_of (hp5 w os)) (piece_app (segRun_of (hp6 w os)) (piece_app (segRun_of (hp7 w os)) (piece_app (segRun_of (hp8 w os)) (piece_app (segRun_of (hp9 w os)) (piece_app (segRun_of (hp10 w os)) (piece_app (segRun_of (hp11 w os)) (piece_app (segRun_of (hp12 w os)) (hfin w os)))))))))))))))
noncomputable def viewH : Program := { Challenge.pw_og0001_01 with main := { Challenge.pw_og0001_01.main with body := cutS Challenge.pw_og0001_01.main.body 1 9 ++ (cutS Challenge.pw_og0001_01.main.body 11 7 ++ cutS Challenge.pw_og0001_01.main.body 19 18) } }
noncomputable def hkH : Hook := kHook KH khAs (fun _ => by kernel_rfl)
noncomputable def dH : DefRec := ⟨Str.ofString "law", fArgs sd36, fBody sd36, fScope sd36, fPos sd36⟩
theorem hopen : ∀ w : World, (fencedOpening treeTable Challenge.pw_og0001_01 w 6380).map (fun s => (s.heap, s.gens, s.drawn, s.toks)) = some (boot_heap w.params, Array.mk [], boot_drawn, boot_toks) :=
  boot_open (by kernel_rfl) (by kernel_rfl) (fun s => by kernel_rfl)
theorem hsize : ∀ w : World, ((boot_heap w.params).isNs mainGlobals && (Array.mk [] : Array GenState).size == 0, (boot_heap w.params).objs.size, (boot_heap w.params).nsMap mainGlobals "__annotations__") = (true, 11, some (.ref 6)) := fun w => by
  rw [PySem.W.Fast.te8920871248978507458]
  kernel_rfl
noncomputable abbrev shZ (w : World) (os : OsState) : Shared := ⟨hpZ w.params, ⟨[]⟩, {}, 751, os⟩
theorem hl1 (w : World) : staticsOk (importedModules Challenge.pw_og0001_01.main.body) (boot_heap w.params) (hpZ w.params) = true := by
  rw [PySem.W.Fast.te5923862056798008813]
  kernel_rfl
theorem hl2 (w : World) : namesBound Challenge.pw_og0001_01 (hpZ w.params) = true := by kernel_rfl
theorem hl3 (w : World) (os : OsState) : gensDone (shZ w os) = true := by kernel_rfl
theorem hl4 (w : World) : laidKept (boot_heap w.params) (hpZ w.params) = true := by kernel_rfl
theorem hl5 (w : World) (os : OsState) : hkH.obs (shZ w os) = hkH.val w := by kernel_rfl
theorem hm1 (w : World) (os : OsState) : Fast.tw5160383126252970620 (R.mapR (fun x => x.name) (Fast.tw3399658132070893891 viewH)) (Fast.tw5991557255702980513 viewH) [] { heap := (hpZ w.params), drawn := {}, toks := 751, os := os } = expectedOf viewH := by kernel_rfl
theorem hm2 (w : World) : (hpZ w.params).bltView = bltViewBooted := by kernel_rfl
theorem hm3 (w : World) : Fast.tw10880121769531294198 (hpZ w.params) (Fast.tw821141287760084731 viewH []) (R.mapR (fun x => x.name) (Fast.tw3399658132070893891 viewH)) (R.mapR (fun x => x.fst) (Fast.tw7409074990110511671 viewH)) (R.mapR (fun x => x.name) (Fast.tw13664370479719496447 viewH (Fast.tw821141287760084731 viewH []))) = true := by kernel_rfl
theorem hm4 (w : World) : Fast.tw14722251495701143533 (hpZ w.params) (Fast.tw5923862056798008813 Challenge.pw_og0001_01.main.body) = true := by kernel_rfl
theorem hm5 (w : World) : Fast.tw10994771534591457954 viewH (hpZ w.params) = true := by kernel_rfl
theorem hm6 (w : World) (os : OsState) : (xlAt viewH [] (shZ w os) && recOk (RowW.records Challenge.rw_og0001_01.row.toRowW) (shZ w os)) = true := by kernel_rfl
theorem hmB (w : World) (os : OsState) : (Fast.tw10880121769531294198 (hpZ w.params) (Fast.tw821141287760084731 viewH []) (R.mapR (fun x => x.name) (Fast.tw3399658132070893891 viewH)) (R.mapR (fun x => x.fst) (Fast.tw7409074990110511671 viewH)) (R.mapR (fun x => x.name) (Fast.tw13664370479719496447 viewH (Fast.tw821141287760084731 viewH []))) && Fast.tw14722251495701143533 (hpZ w.params) (Fast.tw5923862056798008813 Challenge.pw_og0001_01.main.body) && (hpZ w.params).isNs mainGlobals && (hpZ w.params).isNs builtinsNs && Fast.tw10994771534591457954 viewH (hpZ w.params) && (xlAt viewH [] (shZ w os) && recOk (RowW.records Challenge.rw_og0001_01.row.toRowW) (shZ w os)) && (if true = true then (shZ w os).gens.size == 0 else !leftWithCleanup (shZ w os).gens)) = true := by
  rw [hm3 w, hm4 w, hm5 w, hm6 w os]
  kernel_rfl
theorem hm7 (w : World) (os : OsState) : Fast.tw479339242167458305 viewH (shZ w os) = true := by kernel_rfl
theorem hm8 (w : World) (os : OsState) : Fast.tw16090120013241838585 viewH (Fast.tw3247288618530077131 viewH) (shZ w os) = pinGoodD (drecsOf viewH) := by kernel_rfl
theorem hm9 (w : World) (os : OsState) : Fast.tw2386780881361962483 viewH (Fast.tw821141287760084731 viewH []) (shZ w os) = plainGoodE viewH (looseW viewH []) := by kernel_rfl
theorem hm10 (w : World) (os : OsState) : Fast.tw11698064438423848299 viewH [] (shZ w os) = plainGoodD viewH [] := by kernel_rfl
theorem hm11 (w : World) (os : OsState) : Fast.tw7317090234206586261 viewH (shZ w os) = wideGood viewH := by kernel_rfl
theorem hm12 (w : World) (os : OsState) : Fast.tw7369524293546568484 viewH [] (shZ w os) = clsGoodW viewH [] := by kernel_rfl
theorem pairs {α β : Type} {a a' : α} {b b' : β} (e : a = a') (f : b = b') : (a, b) = (a', b') := by rw [e, f]
theorem hseen (w : World) (os : OsState) : openSeen viewH [] (importedModules Challenge.pw_og0001_01.main.body) (fun s => xlAt viewH [] s && recOk (RowW.records Challenge.rw_og0001_01.row.toRowW) s) true (shZ w os) = openGood viewH [] := by
  rw [PySem.W.Fast.te4187177175401517315, PySem.W.Fast.te5923862056798008813]
  exact pairs (hm1 w os) (pairs (hm2 w) (pairs (hmB w os) (pairs (hm7 w os) (pairs (hm8 w os) (pairs (hm9 w os) (pairs (hm10 w os) (pairs (hm11 w os) (hm12 w os))))))))
theorem hlooks : ∀ w : World, (fun os : OsState => ((staticsOk (importedModules Challenge.pw_og0001_01.main.body) (boot_heap w.params) (hpZ w.params) && namesBound Challenge.pw_og0001_01 (hpZ w.params) && gensDone ⟨hpZ w.params, ⟨[]⟩, {}, 751, os⟩ && laidKept (boot_heap w.params) (hpZ w.params)),
    openSeen viewH [] (importedModules Challenge.pw_og0001_01.main.body) (fun s => xlAt viewH [] s && recOk (RowW.records Challenge.rw_og0001_01.row.toRowW) s) true ⟨hpZ w.params, ⟨[]⟩, {}, 751, os⟩, hkH.obs ⟨hpZ w.params, ⟨[]⟩, {}, 751, os⟩)) = fun _ => (true, openGood viewH [], hkH.val w) := fun w => funext fun os => by
  rw [hl1 w, hl2 w, hl3 w os, hl4 w, hl5 w os, hseen w os]
  rfl
theorem hleft : LeftO Challenge.pw_og0001_01 viewH [] (fun s => xlAt viewH [] s && recOk (RowW.records Challenge.rw_og0001_01.row.toRowW) s) hkH.obs hkH.val 6380 true :=
  LeftO.of_pieces hopen hsize hrun (by kernel_rfl) hlooks
theorem hk1 : Fast.tw11788848310118352699 Challenge.pw_og0001_01.main = true := by kernel_rfl
theorem hk2 : ((Fast.tw9807087744658564304 Challenge.pw_og0001_01.main.body).isEmpty || Fast.tw12862048085361865435 (Fast.tw9807087744658564304 Challenge.pw_og0001_01.main.body) Challenge.pw_og0001_01.main.body) = true := by kernel_rfl
theorem hk3 : Fast.tw8377067652309620493 Challenge.pw_og0001_01 = true := by kernel_rfl
theorem hk4 : (R.allR (Fast.tw18344453789297297638 Challenge.pw_og0001_01) fun n => !Fast.tw3471404346716756564 Fast.tw14412699480532031325 n) = true := by kernel_rfl
theorem hk5 : Fast.tw8326940854005059898 { strict := !R.allR (Fast.tw5923862056798008813 Challenge.pw_og0001_01.main.body) (Fast.tw3471404346716756564 Fast.tw17691160309236699985), foot := none, bare := R.filterR (Fast.tw13343964577679436407 Challenge.pw_og0001_01 Challenge.pw_og0001_01.main.body) [⟨⟨[118, 97, 114, 115]⟩⟩, ⟨⟨[100, 105, 114]⟩⟩, ⟨⟨[108, 111, 99, 97, 108, 115]⟩⟩] } Challenge.pw_og0001_01.main.body = true := by kernel_rfl
theorem hk6 : (Fast.tw17119622794617984870 Challenge.pw_og0001_01 Challenge.pw_og0001_01.main.body fun x n => Fast.tw17868728402115742887 n) = true := by kernel_rfl
theorem hk7 : Fast.tw12908688711261696721 Challenge.pw_og0001_01 = true := by
  unfold Fast.tw12908688711261696721
  simp only [Bool.and_eq_true]
  exact ⟨⟨⟨⟨⟨hk1, hk2⟩, hk3⟩, hk4⟩, hk5⟩, hk6⟩
theorem hk8 : Fast.tw17960256430627541270 (Fast.tw2368527892694137696 Challenge.rw_og0001_01) = true := by
  unfold Fast.tw17960256430627541270 Fast.tw2436336058641802641
  simp only [Bool.and_eq_true]
  refine ⟨⟨⟨⟨⟨⟨⟨⟨⟨⟨⟨⟨⟨⟨⟨hk7, ?_⟩, ?_⟩, ?_⟩, ?_⟩, ?_⟩, ?_⟩, ?_⟩, ?_⟩, ?_⟩, ?_⟩, ?_⟩, ?_⟩, ?_⟩, ?_⟩, ?_⟩
  all_goals kernel_rfl
theorem hsaid : Challenge.rw_og0001_01.wellSaid = true := by
  rw [PySem.W.Fast.te9446332074065402090]
  unfold PySem.W.Fast.tw9446332074065402090
  simp only [Bool.and_eq_true]
  refine ⟨⟨⟨⟨⟨⟨⟨⟨⟨⟨⟨⟨⟨⟨⟨⟨⟨⟨hk8, ?_⟩, ?_⟩, ?_⟩, ?_⟩, ?_⟩, ?_⟩, ?_⟩, ?_⟩, ?_⟩, ?_⟩, ?_⟩, ?_⟩, ?_⟩, ?_⟩, ?_⟩, ?_⟩, ?_⟩, ?_⟩
  all_goals kernel_rfl
theorem hok : (chainsOk viewH && opensWell Challenge.rw_og0001_01.row.prog && (frees Challenge.rw_og0001_01.row.toRowW && Challenge.rw_og0001_01.row.within.isEmpty)) = true := by kernel_rfl
theorem hdef : defOf viewH Challenge.rw_og0001_01.row.name = some (dH, []) := by kernel_rfl
theorem hthe : Challenge.rw_og0001_01.row.prog.theDef Challenge.rw_og0001_01.row.name = some (dH.params, dH.body, dH.scope) := by kernel_rfl
theorem hkw : kwWritten? dH.params.kwonlyargs dH.params.kw_defaults = some [] := by kernel_rfl
theorem hwr : (!Challenge.rw_og0001_01.row.writes || Challenge.rw_og0001_01.row.records.isEmpty) = true := by kernel_rfl
theorem hbare : Challenge.rw_og0001_01.row.prog.bare := ⟨rfl, rfl, rfl, rfl, rfl, by decide +kernel⟩
theorem hwit : Challenge.rw_og0001_01.row.toRowW.promised := ⟨[WData.list []], by decide +kernel, by decide +kernel⟩
theorem hdH (walk : WalkO viewH [] (XL viewH []) hkH.says Challenge.rw_og0001_01.row.toRowW dH [] fun f vs => PySem.call f vs) : Challenge.rw_og0001_01.Holds :=
  holds_law hsaid fun said => holds_open (r := Challenge.rw_og0001_01.row) (q := viewH) (loose := []) (Xt := fun s => xlAt viewH [] s && recOk (RowW.records Challenge.rw_og0001_01.row.toRowW) s) (XP := XL viewH []) (Yf := hkH.obs) (Ya := hkH.val) (YP := hkH.says) (N := 6380)
    hleft hkH.of hkH.keeps (fun s e => xl_of s (Bool.and_eq_true_iff.mp e).1) XL.keeps hdef hthe hkw (fun s e => recFacts_of (Bool.and_eq_true_iff.mp e).2) hwr said hok hbare hwit walk
end

section
/-- plain values: what a Python value is, no heap in sight -/
inductive PV where
  | none
  | bool (b : Bool)
  | int (i : Int)
  | str (x : Str)
  | tup (xs : List PV)
  | list (xs : List PV)
  | inst (C : Addr) (ns : List Str) (xs : List PV)
  | dict (ns : List Str) (xs : List PV)
  | cell (i : Nat)
  | rng (n : Int)
  | top (v : Value)

/-- what may still be turned: a list, a dict by written names; or nothing any more -/
inductive Cell where
  | lst (xs : List PV)
  | arr (xs : List PV)
  | dct (ns : List Str) (xs : List PV)
  | dead

/-- what the whole run knows -/
structure Gc where
  prog : Program
  w : World
  K : Frag
  hb : Heap
  p : Program
  loose : List Str
  mean : ExcName → Option Value
  mg : Str → Option Value
  mb : Str → Option Value
  X : K.In hb
  T : Top p loose mean mg mb hb

inductive Ents (P : Params) : List DictEntry → List Str → List Value → Prop
  | nil : Ents P [] [] []
  | cons {es ns vs n t v} : Ents P es ns vs → Ents P (⟨PyData.keyHash P n, .str n t, v⟩ :: es) (n :: ns) (v :: vs)

abbrev tupObj (vs : List Value) (n : Nat) : Obj := { cls := .type "tuple", data := .seq vs.toArray n }

mutual
inductive RV (G : Gc) (ok : Addr → Prop) (as : List Addr) (h : Heap) : Value → PV → Prop
  | none : RV G ok as h Value.none PV.none
  | bool (b : Bool) : RV G ok as h (Value.bool b) (PV.bool b)
  | int (i : Int) (t : Tok) : RV G ok as h (Value.int i t) (PV.int i)
  | str (x : Str) (t : Tok) : RV G ok as h (Value.str x t) (PV.str x)
  | tup {a : Addr} {vs : List Value} {n : Nat} {xs : List PV} : h.get? a = some (tupObj vs n) → ok a → RVs G ok as h vs xs → RV G ok as h (Value.ref a) (PV.tup xs)
  | list {a : Addr} {vs : List Value} {n : Nat} {xs : List PV} : h.get? a = some (listOf vs.toArray n) → ok a → RVs G ok as h vs xs → RV G ok as h (Value.ref a) (PV.list xs)
  | inst {x dx C : Addr} {es : List DictEntry} {n : Nat} {ns : List Str} {vs : List Value} {xs : List PV} : h.get? x = some (instObj C dx) → h.get? dx = some (dictOf es n) → ok x → ok dx →
      Ents G.w.params es ns vs → RVs G ok as h vs xs → RV G ok as h (Value.ref x) (PV.inst C ns xs)
  | dict {d : Addr} {o : Obj} {ns : List Str} {vs : List Value} {xs : List PV} : h.get? d = some o → ok d →
      o.IsDictOf (PySem.strKind G.prog G.w) (ns.zip vs) → RVs G ok as h vs xs → (d == sysModules) = false → RV G ok as h (Value.ref d) (PV.dict ns xs)
  | cell {a : Addr} {i : Nat} : as[i]? = some a → RV G ok as h (Value.ref a) (PV.cell i)
  | rng {r : Addr} {n : Int} {t u v : Tok} : IsRange h r 0 n 1 t u v → ok r → RV G ok as h (Value.ref r) (PV.rng n)
  | top (v : Value) : RV G ok as h v (PV.top v)
inductive RVs (G : Gc) (ok : Addr → Prop) (as : List Addr) (h : Heap) : List Value → List PV → Prop
  | nil : RVs G ok as h [] []
  | cons {v : Value} {vs : List Value} {x : PV} {xs : List PV} : RV G ok as h v x → RVs G ok as h vs xs → RVs G ok as h (v :: vs) (x :: xs)
end

section
variable {G : Gc} {ok ok' : Addr → Prop} {as as' : List Addr} {h h' : Heap}
mutual
theorem RV.mono (hs : ∀ b o, h.get? b = some o → ok b → h'.get? b = some o ∧ ok' b) (ha : ∀ (i : Nat) (a : Addr), as[i]? = some a → as'[i]? = some a) : ∀ {v : Value} {x : PV}, RV G ok as h v x → RV G ok' as' h' v x
  | _, _, .none => .none
  | _, _, .bool b => .bool b
  | _, _, .int i t => .int i t
  | _, _, .str x t => .str x t
  | _, _, .tup e k r => .tup (hs _ _ e k).1 (hs _ _ e k).2 (RVs.mono hs ha r)
  | _, _, .list e k r => .list (hs _ _ e k).1 (hs _ _ e k).2 (RVs.mono hs ha r)
  | _, _, .inst e1 e2 k1 k2 E r => .inst (hs _ _ e1 k1).1 (hs _ _ e2 k2).1 (hs _ _ e1 k1).2 (hs _ _ e2 k2).2 E (RVs.mono hs ha r)
  | _, _, .dict e k E r l => .dict (hs _ _ e k).1 (hs _ _ e k).2 E (RVs.mono hs ha r) l
  | _, _, .cell e => .cell (ha _ _ e)
  | _, _, .rng e k => .rng (hs _ _ e k).1 (hs _ _ e k).2
  | _, _, .top v => .top v
theorem RVs.mono (hs : ∀ b o, h.get? b = some o → ok b → h'.get? b = some o ∧ ok' b) (ha : ∀ (i : Nat) (a : Addr), as[i]? = some a → as'[i]? = some a) : ∀ {vs : List Value} {xs : List PV}, RVs G ok as h vs xs → RVs G ok' as' h' vs xs
  | _, _, .nil => .nil
  | _, _, .cons r rs => .cons (RV.mono hs ha r) (RVs.mono hs ha rs)
end
theorem RVs.length {vs : List Value} {xs : List PV} (r : RVs G ok as h vs xs) : vs.length = xs.length := by
  induction vs generalizing xs with
  | nil => cases r; rfl
  | cons v vs ih => cases r with | cons _ r => rw [List.length_cons, List.length_cons, ih r]
theorem RVs.append {vs ws : List Value} {xs ys : List PV} (r : RVs G ok as h vs xs) (q : RVs G ok as h ws ys) : RVs G ok as h (vs ++ ws) (xs ++ ys) := by
  induction vs generalizing xs with
  | nil => cases r; exact q
  | cons v vs ih => cases r with | cons r rs => exact .cons r (ih rs)
theorem RVs.get {vs : List Value} {xs : List PV} (r : RVs G ok as h vs xs) {i : Nat} {x : PV} (e : xs[i]? = some x) : ∃ v, vs[i]? = some v ∧ RV G ok as h v x := by
  induction vs generalizing xs i with
  | nil => cases r; cases e
  | cons v vs ih =>
    cases r with
    | cons r rs =>
      cases i with
      | zero => cases e; exact ⟨v, rfl, r⟩
      | succ i => exact ih rs e
theorem RVs.take {vs : List Value} {xs : List PV} (r : RVs G ok as h vs xs) (k : Nat) : RVs G ok as h (vs.take k) (xs.take k) := by
  induction vs generalizing xs k with
  | nil => cases r; simp only [List.take_nil]; exact .nil
  | cons v vs ih =>
    cases r with
    | cons r rs =>
      cases k with
      | zero => exact .nil
      | succ k => exact .cons r (ih rs k)
theorem RVs.drop {vs : List Value} {xs : List PV} (r : RVs G ok as h vs xs) (k : Nat) : RVs G ok as h (vs.drop k) (xs.drop k) := by
  induction vs generalizing xs k with
  | nil => cases r; simp only [List.drop_nil]; exact .nil
  | cons v vs ih =>
    cases r with
    | cons r rs =>
      cases k with
      | zero => exact .cons r rs
      | succ k => exact ih rs k
theorem RVs.set {vs : List Value} {xs : List PV} (r : RVs G ok as h vs xs) (k : Nat) {v : Value} {x : PV} (q : RV G ok as h v x) : RVs G ok as h (vs.set k v) (xs.set k x) := by
  induction vs generalizing xs k with
  | nil => cases r; exact .nil
  | cons v vs ih =>
    cases r with
    | cons r rs =>
      cases k with
      | zero => exact .cons q rs
      | succ k => exact .cons r (ih rs k)
end

def Live (as : List Addr) (σ : List Cell) (a : Addr) : Prop := ∃ (i : Nat) (c : Cell), as[i]? = some a ∧ σ[i]? = some c ∧ c ≠ Cell.dead
def okOf (Y as : List Addr) (σ : List Cell) (a : Addr) : Prop := a ∉ Y ∧ ¬ Live as σ a

def CellRep (G : Gc) (ok : Addr → Prop) (as : List Addr) (h : Heap) (a : Addr) : Cell → Prop
  | .lst xs => ∃ vs n, h.get? a = some (listOf vs.toArray n) ∧ RVs G ok as h vs xs
  | .arr xs => ∃ vs o, h.get? a = some o ∧ (o.cls = .type "list" ∧ ∃ n, o.data = .seq vs.toArray n) ∧ RVs G ok as h vs xs
  | .dct ns xs => ∃ o vs, h.get? a = some o ∧ o.IsDictOf (PySem.strKind G.prog G.w) (ns.zip vs) ∧ RVs G ok as h vs xs
  | .dead => True

structure Rep (G : Gc) (Y as : List Addr) (σ : List Cell) (h : Heap) : Prop where
  base : ∀ b o, G.hb.get? b = some o → h.get? b = some o
  yal : ∀ y ∈ Y, h.get? y ≠ none
  ylo : ∀ y ∈ Y, G.hb.get? y = none
  len : as.length = σ.length
  lo : ∀ a ∈ as, G.hb.get? a = none
  al : ∀ a ∈ as, h.get? a ≠ none
  ny : ∀ a ∈ as, a ∉ Y
  nd : as.Nodup
  cells : ∀ (i : Nat) (a : Addr) (c : Cell), as[i]? = some a → σ[i]? = some c → CellRep G (okOf Y as σ) as h a c

structure Ext (as : List Addr) (σ : List Cell) (h : Heap) (as' : List Addr) (σ' : List Cell) (h' : Heap) (F : Addr → Prop) : Prop where
  pre : ∃ l, as' = as ++ l
  live : ∀ a, Live as' σ' a → Live as σ a ∨ h.get? a = none ∨ F a
  keep : ∀ b o, h.get? b = some o → ¬ Live as σ b → ¬ F b → h'.get? b = some o

abbrev noF : Addr → Prop := fun _ => False

section
variable {as as' as'' : List Addr} {σ σ' σ'' : List Cell} {h h' h'' : Heap} {F : Addr → Prop}
theorem Ext.refl : Ext as σ h as σ h F := ⟨⟨[], by simp⟩, fun _ x => .inl x, fun _ _ e _ _ => e⟩
theorem Ext.idx (x : Ext as σ h as' σ' h' F) {i : Nat} {a : Addr} (e : as[i]? = some a) : as'[i]? = some a := by
  obtain ⟨l, rfl⟩ := x.pre
  rw [List.getElem?_append_left (List.getElem?_eq_some_iff.mp e).1]; exact e
theorem Ext.nlive (x : Ext as σ h as' σ' h' F) {b : Addr} {o : Obj} (e : h.get? b = some o) (n : ¬ Live as σ b) (f : ¬ F b) : ¬ Live as' σ' b := fun q => by
  rcases x.live b q with z | z | z
  · exact n z
  · rw [e] at z; cases z
  · exact f z
theorem Ext.trans (x : Ext as σ h as' σ' h' F) (y : Ext as' σ' h' as'' σ'' h'' F) : Ext as σ h as'' σ'' h'' F where
  pre := by obtain ⟨l, rfl⟩ := x.pre; obtain ⟨l', rfl⟩ := y.pre; exact ⟨l ++ l', by simp⟩
  live := fun a q => by
    rcases y.live a q with z | z | z
    · exact x.live a z
    · by_cases f : F a
      · exact .inr (.inr f)
      · by_cases n : Live as σ a
        · exact .inl n
        · cases e : h.get? a with
          | none => exact .inr (.inl rfl)
          | some o => rw [x.keep a o e n f] at z; cases z
    · exact .inr (.inr z)
  keep := fun b o e n f => y.keep b o (x.keep b o e n f) (x.nlive e n f) f
theorem Ext.weaken {F' : Addr → Prop} (x : Ext as σ h as' σ' h' F) (w : ∀ b, F b → F' b) : Ext as σ h as' σ' h' F' :=
  ⟨x.pre, fun a q => (x.live a q).imp id (·.imp id (w a)), fun b o e n f => x.keep b o e n fun z => f (w b z)⟩
theorem Ext.no (x : Ext as σ h as' σ' h' noF) : Ext as σ h as' σ' h' F := x.weaken fun _ f => f.elim
/-- a heap that only grew -/
theorem Ext.grown (k : ∀ b o, h.get? b = some o → h'.get? b = some o) : Ext as σ h as σ h' F := ⟨⟨[], by simp⟩, fun _ x => .inl x, fun b o e _ _ => k b o e⟩
variable {G : Gc} {Y : List Addr} {v : Value} {x : PV} {vs : List Value} {xs : List PV}
theorem Ext.okk (e : Ext as σ h as' σ' h' F) (hF : ∀ b, F b → b ∈ Y) : ∀ b o, h.get? b = some o → okOf Y as σ b → h'.get? b = some o ∧ okOf Y as' σ' b :=
  fun b o q k => ⟨e.keep b o q k.2 fun f => k.1 (hF b f), k.1, e.nlive q k.2 fun f => k.1 (hF b f)⟩
theorem RV.ext (e : Ext as σ h as' σ' h' F) (hF : ∀ b, F b → b ∈ Y) (r : RV G (okOf Y as σ) as h v x) : RV G (okOf Y as' σ') as' h' v x := RV.mono (e.okk hF) (fun _ _ => e.idx) r
theorem RVs.ext (e : Ext as σ h as' σ' h' F) (hF : ∀ b, F b → b ∈ Y) (r : RVs G (okOf Y as σ) as h vs xs) : RVs G (okOf Y as' σ') as' h' vs xs := RVs.mono (e.okk hF) (fun _ _ => e.idx) r
theorem RV.up (e : Ext as σ h as' σ' h' noF) (r : RV G (okOf Y as σ) as h v x) : RV G (okOf Y as' σ') as' h' v x := RV.ext e (fun _ f => f.elim) r
theorem RVs.up (e : Ext as σ h as' σ' h' noF) (r : RVs G (okOf Y as σ) as h vs xs) : RVs G (okOf Y as' σ') as' h' vs xs := RVs.ext e (fun _ f => f.elim) r
end

section
variable {G : Gc} {Y as : List Addr} {σ : List Cell} {h h' : Heap}
theorem Rep.lowNotLive (R : Rep G Y as σ h) {b : Addr} (z : G.hb.get? b ≠ none) : ¬ Live as σ b := fun ⟨_, _, e, _, _⟩ => z (R.lo b (List.mem_of_getElem? e))
theorem Rep.X (R : Rep G Y as σ h) : G.K.In h := G.X.keeps R.base
theorem Rep.top (R : Rep G Y as σ h) : Top G.p G.loose G.mean G.mg G.mb h := G.T.keeps R.base
/-- nothing but the frames' own places was touched -/
theorem Rep.touch (R : Rep G Y as σ h) (k : ∀ b o, h.get? b = some o → b ∉ Y → h'.get? b = some o) (ky : ∀ y ∈ Y, h'.get? y ≠ none) : Rep G Y as σ h' where
  base := fun b o e => k b o (R.base b o e) fun m => by rw [R.ylo b m] at e; cases e
  yal := ky
  ylo := R.ylo
  len := R.len
  lo := R.lo
  al := fun a m => by
    cases e : h.get? a with
    | none => exact absurd e (R.al a m)
    | some o => rw [k a o e (R.ny a m)]; exact fun x => nomatch x
  ny := R.ny
  nd := R.nd
  cells := fun i a c e1 e2 => by
    have q := R.cells i a c e1 e2
    have mo : ∀ {vs : List Value} {xs : List PV}, RVs G (okOf Y as σ) as h vs xs → RVs G (okOf Y as σ) as h' vs xs := fun r => RVs.mono (fun b o e kk => ⟨k b o e kk.1, kk⟩) (fun _ _ e => e) r
    have na := R.ny a (List.mem_of_getElem? e1)
    cases c with
    | lst xs => obtain ⟨vs, n, g, r⟩ := q; exact ⟨vs, n, k _ _ g na, mo r⟩
    | arr xs => obtain ⟨vs, o, g, E, r⟩ := q; exact ⟨vs, o, k _ _ g na, E, mo r⟩
    | dct ns xs => obtain ⟨o, vs, g, E, r⟩ := q; exact ⟨o, vs, k _ _ g na, E, mo r⟩
    | dead => trivial
/-- the heap only grew -/
theorem Rep.grown (R : Rep G Y as σ h) (k : ∀ b o, h.get? b = some o → h'.get? b = some o) : Rep G Y as σ h' :=
  R.touch (fun b o e _ => k b o e) fun y m => by
    cases e : h.get? y with
    | none => exact absurd e (R.yal y m)
    | some o => rw [k y o e]; exact fun x => nomatch x
theorem Rep.fresh (R : Rep G Y as σ h) {a : Addr} (e : h.get? a = none) : a ∉ Y ∧ a ∉ as ∧ okOf Y as σ a ∧ G.hb.get? a = none := by
  have n1 : a ∉ Y := fun m => R.yal a m e
  have n2 : a ∉ as := fun m => R.al a m e
  refine ⟨n1, n2, ⟨n1, fun ⟨_, _, e1, _, _⟩ => n2 (List.mem_of_getElem? e1)⟩, ?_⟩
  cases q : G.hb.get? a with
  | none => rfl
  | some o => rw [R.base a o q] at e; cases e
end

structure AOk (A : Around) (d : Nat) : Prop where
  hh : A.handled = none
  dep : A.depth + 2 * d + 10 < recursionLimit
  un : A.units + 20 * d + 200 < cLine

structure EnvOk (sc : Scope) (env : Env) (Y : List Addr) : Prop where
  sce : env.scope = sc
  kind : sc.kind = ScopeKind.function
  glob : env.globals = mainGlobals
  blt : env.builtins = builtinsNs
  loc : env.locals ∈ Y
  cl : ∀ x c, env.cells.lookup x = some c → c ∈ Y

structure LocRep (G : Gc) (env : Env) (ρ : List (Str × PV)) (Y as : List Addr) (σ : List Cell) (h : Heap) : Prop where
  at_ : ∃ m, h.Ns env.locals m ∧ ∀ x pv, ρ.lookup x = some pv → ∃ v, RV G (okOf Y as σ) as h v pv ∧
    ((env.kindOf x = some .local ∧ m x = some v) ∨ ((env.kindOf x = some .cell ∨ env.kindOf x = some .free) ∧ ∃ c, env.cells.lookup x = some c ∧ h.IsCell c (some v)))
  apart : env.cells.Pairwise fun x y => x.2 ≠ y.2
  cl : ∀ x c, env.cells.lookup x = some c → c ≠ env.locals ∧ ∃ v₀, h.IsCell c v₀

/-- each captured name has its place -/
def CkOk (sc : Scope) (env : Env) : Prop := ∀ x, sc.names.lookup x = some NameKind.cell → ∃ c, env.cells.lookup x = some c

/-- the frame's own places -/
def own (env : Env) (b : Addr) : Prop := b = env.locals ∨ ∃ x, env.cells.lookup x = some b
theorem EnvOk.own {sc : Scope} {env : Env} {Y : List Addr} (e : EnvOk sc env Y) : ∀ b, own env b → b ∈ Y := fun b o => by
  rcases o with rfl | ⟨x, m⟩
  · exact e.loc
  · exact e.cl x b m

section
variable {G : Gc} {env : Env} {ρ : List (Str × PV)} {Y as as' : List Addr} {σ σ' : List Cell} {h h' : Heap} {sc : Scope}
theorem LocRep.up (l : LocRep G env ρ Y as σ h) (R : Rep G Y as σ h) (en : EnvOk sc env Y) (e : Ext as σ h as' σ' h' noF) : LocRep G env ρ Y as' σ' h' := by
  have nl : ∀ b ∈ Y, ¬ Live as σ b := fun b m ⟨i, c, e1, _, _⟩ => R.ny b (List.mem_of_getElem? e1) m
  have ce : ∀ c v, c ∈ Y → h.IsCell c v → h'.IsCell c v := fun c v m ⟨o, ho, hd⟩ => ⟨o, e.keep c o ho (nl c m) (fun f => f.elim), hd⟩
  obtain ⟨m, ⟨o, es, ep, ho, r⟩, f⟩ := l.at_
  refine ⟨⟨m, ⟨o, es, ep, e.keep _ o ho (nl _ en.loc) (fun f => f.elim), r⟩, fun x pv q => ?_⟩, l.apart, fun x c q => ⟨(l.cl x c q).1, ?_⟩⟩
  · obtain ⟨v, rv, k⟩ := f x pv q
    refine ⟨v, rv.up e, k.imp id fun ⟨k1, c, k2, k3⟩ => ⟨k1, c, k2, ce c _ (en.cl x c k2) k3⟩⟩
  · obtain ⟨v₀, q'⟩ := (l.cl x c q).2
    exact ⟨v₀, ce c v₀ (en.cl x c q) q'⟩
end

/-- an expression's run: from every state that bears (ρ, σ), Q holds of what it gives -/
def EV (G : Gc) (d : Nat) (sc : Scope) (e : Expr) (ρ : List (Str × PV)) (σ : List Cell) (Q : PV → List Cell → Prop) : Prop :=
  ∀ (A : Around) (env : Env) (Y as : List Addr) (s : Shared) (QQ E : Value → Shared → Prop), AOk A d → EnvOk sc env Y → Rep G Y as σ s.heap → LocRep G env ρ Y as σ s.heap →
    (∀ v pv as' σ' h' tk, Q pv σ' → Ext as σ s.heap as' σ' h' noF → Rep G Y as' σ' h' → RV G (okOf Y as' σ') as' h' v pv → QQ v { s with heap := h', toks := tk }) →
    wpAny (model G.prog G.w) A (eval e env) QQ E s

/-- a list of expressions, left to right, as a call's or a display's items are reckoned -/
def EVs (G : Gc) (d : Nat) (sc : Scope) (es : List Expr) (ρ : List (Str × PV)) (σ : List Cell) (Q : List PV → List Cell → Prop) : Prop :=
  ∀ (A : Around) (env : Env) (Y as : List Addr) (s : Shared) (pos : Pos) (QQ : List Value → Shared → Prop) (E : Value → Shared → Prop), AOk A d → EnvOk sc env Y → Rep G Y as σ s.heap → LocRep G env ρ Y as σ s.heap →
    (∀ vs xs as' σ' h' tk, Q xs σ' → Ext as σ s.heap as' σ' h' noF → Rep G Y as' σ' h' → RVs G (okOf Y as' σ') as' h' vs xs → QQ vs { s with heap := h', toks := tk }) →
    wpAny (model G.prog G.w) A (spliced (backTo pos (starEach es env))) QQ E s

/-- a test -/
def BV (G : Gc) (d : Nat) (sc : Scope) (e : Expr) (ρ : List (Str × PV)) (σ : List Cell) (Q : Bool → List Cell → Prop) : Prop :=
  ∀ (A : Around) (env : Env) (Y as : List Addr) (s : Shared) (QQ : Bool → Shared → Prop) (E : Value → Shared → Prop), AOk A d → EnvOk sc env Y → Rep G Y as σ s.heap → LocRep G env ρ Y as σ s.heap →
    (∀ b as' σ' h' tk, Q b σ' → Ext as σ s.heap as' σ' h' noF → Rep G Y as' σ' h' → QQ b { s with heap := h', toks := tk }) →
    wpAny (model G.prog G.w) A (isTrue e env (eval e env)) QQ E s

/-- a reckoning upon values at hand -/
def VC (G : Gc) (d : Nat) (f : List Value → Sem Value) (xs : List PV) (σ : List Cell) (Q : PV → List Cell → Prop) : Prop :=
  ∀ (A : Around) (Y as : List Addr) (s : Shared) (vs : List Value) (QQ E : Value → Shared → Prop), AOk A d → Rep G Y as σ s.heap → RVs G (okOf Y as σ) as s.heap vs xs →
    (∀ v pv as' σ' h' tk, Q pv σ' → Ext as σ s.heap as' σ' h' noF → Rep G Y as' σ' h' → RV G (okOf Y as' σ') as' h' v pv → QQ v { s with heap := h', toks := tk }) →
    wpAny (model G.prog G.w) A (f vs) QQ E s

def TC (G : Gc) (d : Nat) (x : PV) (σ : List Cell) (Q : Bool → List Cell → Prop) : Prop :=
  ∀ (A : Around) (Y as : List Addr) (s : Shared) (v : Value) (QQ : Bool → Shared → Prop) (E : Value → Shared → Prop), AOk A d → Rep G Y as σ s.heap → RV G (okOf Y as σ) as s.heap v x →
    (∀ b as' σ' h' tk, Q b σ' → Ext as σ s.heap as' σ' h' noF → Rep G Y as' σ' h' → QQ b { s with heap := h', toks := tk }) →
    wpAny (model G.prog G.w) A (truthy v) QQ E s

/-- statements: Qn behind the last, Qr at a return -/
def EX (G : Gc) (d : Nat) (sc : Scope) (ss : List Stmt) (ρ : List (Str × PV)) (σ : List Cell) (Qn : List (Str × PV) → List Cell → Prop) (Qr : PV → List Cell → Prop) : Prop :=
  ∀ (A : Around) (env : Env) (Y as : List Addr) (s : Shared) (QQ : Flow → Shared → Prop) (E : Value → Shared → Prop), AOk A d → EnvOk sc env Y → CkOk sc env → Rep G Y as σ s.heap → LocRep G env ρ Y as σ s.heap →
    (∀ ρ' as' σ' h' tk, Qn ρ' σ' → Ext as σ s.heap as' σ' h' (own env) → Rep G Y as' σ' h' → LocRep G env ρ' Y as' σ' h' → QQ .next { s with heap := h', toks := tk }) →
    (∀ v pv as' σ' h' tk, Qr pv σ' → Ext as σ s.heap as' σ' h' (own env) → Rep G Y as' σ' h' → RV G (okOf Y as' σ') as' h' v pv → QQ (.ret v) { s with heap := h', toks := tk }) →
    wpAny (model G.prog G.w) A (execs ss env) QQ E s
end

section
variable {G : Gc} {d : Nat} {sc : Scope} {ρ : List (Str × PV)} {σ : List Cell} {Q : PV → List Cell → Prop}

theorem Live.set_dead {as : List Addr} {i : Nat} {a : Addr} (q : Live as (σ.set i .dead) a) : Live as σ a := by
  obtain ⟨j, c, e1, e2, n⟩ := q
  by_cases hij : i = j
  · subst hij
    rw [List.getElem?_set] at e2
    split at e2
    · split at e2
      · cases e2; exact absurd rfl n
      · cases e2
    · exact ⟨i, c, e1, e2, n⟩
  · rw [List.getElem?_set_ne hij] at e2; exact ⟨j, c, e1, e2, n⟩
theorem nodup_idx {α : Type} {as : List α} (nd : as.Nodup) {i j : Nat} {a : α} (e1 : as[i]? = some a) (e2 : as[j]? = some a) : i = j := by
  obtain ⟨h1, e1⟩ := List.getElem?_eq_some_iff.mp e1
  obtain ⟨h2, e2⟩ := List.getElem?_eq_some_iff.mp e2
  exact (List.getElem_inj nd).mp (e1.trans e2.symm)
theorem Live.not_dead {as : List Addr} (nd : as.Nodup) {i : Nat} {a : Addr} (e : as[i]? = some a) : ¬ Live as (σ.set i .dead) a := by
  rintro ⟨j, c, e1, e2, n⟩
  have hij : i = j := nodup_idx nd e e1
  subst hij
  rw [List.getElem?_set] at e2
  simp only [if_true] at e2
  split at e2
  · cases e2; exact n rfl
  · cases e2

/-- a list at hand is turned no more -/
theorem Rep.freeze {Y as : List Addr} {h : Heap} {i : Nat} (R : Rep G Y as σ h) : Ext as σ h as (σ.set i .dead) h noF ∧ Rep G Y as (σ.set i .dead) h := by
  have x : Ext as σ h as (σ.set i .dead) h noF := ⟨⟨[], by simp⟩, fun a q => .inl q.set_dead, fun b o e _ _ => e⟩
  refine ⟨x, R.base, R.yal, R.ylo, by rw [List.length_set]; exact R.len, R.lo, R.al, R.ny, R.nd, fun j a c e1 e2 => ?_⟩
  by_cases hij : i = j
  · subst hij
    rw [List.getElem?_set] at e2
    simp only [if_true] at e2
    split at e2
    · cases e2; trivial
    · cases e2
  · rw [List.getElem?_set_ne hij] at e2
    have q := R.cells j a c e1 e2
    cases c with
    | lst xs => obtain ⟨vs, n, g, r⟩ := q; exact ⟨vs, n, g, r.up x⟩
    | arr xs => obtain ⟨vs, o, g, E, r⟩ := q; exact ⟨vs, o, g, E, r.up x⟩
    | dct ns xs => obtain ⟨o, vs, g, E, r⟩ := q; exact ⟨o, vs, g, E, r.up x⟩
    | dead => trivial

theorem EV.mono {e : Expr} {Q' : PV → List Cell → Prop} (h : EV G d sc e ρ σ Q) (k : ∀ x σ', Q x σ' → Q' x σ') : EV G d sc e ρ σ Q' :=
  fun A env Y as s QQ E hA hE R L f => h A env Y as s QQ E hA hE R L fun v pv as' σ' h' tk q => f v pv as' σ' h' tk (k _ _ q)
theorem VC.mono {f : List Value → Sem Value} {xs : List PV} {Q' : PV → List Cell → Prop} (h : VC G d f xs σ Q) (k : ∀ x σ', Q x σ' → Q' x σ') : VC G d f xs σ Q' :=
  fun A Y as s vs QQ E hA R r g => h A Y as s vs QQ E hA R r fun v pv as' σ' h' tk q => g v pv as' σ' h' tk (k _ _ q)

theorem EV.int {i : Int} {k : Nat} {pos : Pos} (h : Q (.int i) σ) : EV G d sc (.Constant (.int i) k pos) ρ σ Q :=
  fun A env Y as s QQ E hA hE R L f => wpAny_Constant_int (f _ _ as σ s.heap _ h .refl R (.int _ _))
theorem EV.str {x : Str} {k : Nat} {pos : Pos} (h : Q (.str x) σ) : EV G d sc (.Constant (.str x) k pos) ρ σ Q :=
  fun A env Y as s QQ E hA hE R L f => Calls.Constant_str (f _ _ as σ s.heap _ h .refl R (.str _ _))
theorem EV.bool {b : Bool} {k : Nat} {pos : Pos} (h : Q (.bool b) σ) : EV G d sc (.Constant (.bool b) k pos) ρ σ Q :=
  fun A env Y as s QQ E hA hE R L f => Constant_bool (f _ _ as σ s.heap _ h .refl R (.bool _))
theorem EV.cnone {k : Nat} {pos : Pos} (h : Q .none σ) : EV G d sc (.Constant .none k pos) ρ σ Q :=
  fun A env Y as s QQ E hA hE R L f => Constant_none (f _ _ as σ s.heap _ h .refl R .none)

theorem EnvOk.ekind {env : Env} {Y : List Addr} (e : EnvOk sc env Y) : env.scope.kind = .function := by rw [e.sce]; exact e.kind

theorem load_at {env : Env} {A : Around} {Y as : List Addr} {s : Shared} {QQ : Value → Shared → Prop} {E : Value → Shared → Prop} {x : Str} {v : Value} {m : Str → Option Value} (hE : EnvOk sc env Y) (hn : s.heap.Ns env.locals m)
    (hk : (env.kindOf x = some .local ∧ m x = some v) ∨ ((env.kindOf x = some .cell ∨ env.kindOf x = some .free) ∧ ∃ c, env.cells.lookup x = some c ∧ s.heap.IsCell c (some v)))
    (hc : (x == ("__classdict__" : Str)) = false) (q : QQ v s) : wpAny (model G.prog G.w) A (loadName env x) QQ E s := by
  rcases hk with ⟨hl, hm⟩ | ⟨hl | hl, c, h1, h2⟩
  · exact wpAny_loadName_local hE.ekind hl hn hm q
  · exact wpAny_loadName_cell hE.ekind hl h1 h2 q
  · exact wpAny_loadName_free hE.ekind hl h1 h2 q hc

theorem EV.name {x : Str} {pos : Pos} {pv : PV} (hv : ρ.lookup x = some pv) (h : Q pv σ) (hd : (x == ("__debug__" : Str)) = false := by decide +kernel) (hc : (x == ("__classdict__" : Str)) = false := by decide +kernel) :
    EV G d sc (.Name x pos) ρ σ Q := fun A env Y as s QQ E hA hE R L f => by
  obtain ⟨m, hn, g⟩ := L.at_
  obtain ⟨v, rv, hk⟩ := g x pv hv
  exact wpAny_Name (load_at (as := as) hE hn hk hc (f v pv as σ s.heap _ h .refl R rv)) hd

theorem EV.freeze {x : Str} {pos : Pos} {i : Nat} {xs : List PV} (hv : ρ.lookup x = some (.cell i)) (hσ : σ[i]? = some (.lst xs)) (h : Q (.list xs) (σ.set i .dead)) (hd : (x == ("__debug__" : Str)) = false := by decide +kernel) (hc : (x == ("__classdict__" : Str)) = false := by decide +kernel) :
    EV G d sc (.Name x pos) ρ σ Q := fun A env Y as s QQ E hA hE R L f => by
  obtain ⟨m, hn, g⟩ := L.at_
  obtain ⟨v, rv, hk⟩ := g x _ hv
  obtain ⟨X, R'⟩ := R.freeze (i := i)
  cases rv with
  | cell e =>
    obtain ⟨vs, n, hg, r⟩ := R.cells i _ _ e hσ
    exact wpAny_Name (load_at (as := as) hE hn hk hc (f _ _ as _ s.heap _ h X R' (.list hg ⟨R.ny _ (List.mem_of_getElem? e), Live.not_dead R.nd e⟩ (r.up X)))) hd

theorem EV.global {x : Str} {pos : Pos} {v : Value} (hx : sc.names.lookup x = some .globalImplicit) (e : nsIn G.K mainGlobals x = some (some v)) (h : Q (.top v) σ) (hd : (x == ("__debug__" : Str)) = false := by decide +kernel) :
    EV G d sc (.Name x pos) ρ σ Q := fun A env Y as s QQ E hA hE R L f => by
  refine Name_function_global hE.ekind (by unfold Env.kindOf; rw [hE.sce]; exact hx) (loadGlobal_global (mg := G.mg) (by rw [hE.glob]; exact R.top.g) (mg_of G.X G.T.g e) ?_) hd
  exact f _ _ as σ s.heap _ h .refl R (.top v)

theorem EV.builtin {x : Str} {pos : Pos} {v : Value} (hx : sc.names.lookup x = some .globalImplicit) (e : nsIn G.K mainGlobals x = some none) (hv : bootBuiltins x = some v) (hn : x ≠ "__name__") (h : Q (.top v) σ)
    (hd : (x == ("__debug__" : Str)) = false := by decide +kernel) : EV G d sc (.Name x pos) ρ σ Q := fun A env Y as s QQ E hA hE R L f => by
  refine Name_function_global hE.ekind (by unfold Env.kindOf; rw [hE.sce]; exact hx) (loadGlobal_builtin (mg := G.mg) (mb := G.mb) (by rw [hE.glob]; exact R.top.g) (mg_none_of G.X G.T.g e) (by rw [hE.blt]; exact R.top.b)
    ((G.T.builtins x hn).trans hv) ?_) hd
  exact f _ _ as σ s.heap _ h .refl R (.top v)

abbrev bin2 (op : Operator) : List Value → Sem Value := fun vs => binaryOp op (vs.getD 0 .none) (vs.getD 1 .none)
abbrev cmp2 (op : CmpOp) : List Value → Sem Value := fun vs => compareOp op (vs.getD 0 .none) (vs.getD 1 .none)
abbrev un1 (op : UnaryOp) : List Value → Sem Value := fun vs => unaryOp op (vs.getD 0 .none)

theorem EV.binop {l r : Expr} {op : Operator} {pos : Pos} (h : EV G d sc l ρ σ fun a σ1 => EV G d sc r ρ σ1 fun b σ2 => VC G d (bin2 op) [a, b] σ2 Q) : EV G d sc (.BinOp l op r pos) ρ σ Q :=
  fun A env Y as s QQ E hA hE R L f => by
  refine wpAny_BinOp (h A env Y as s _ E hA hE R L fun va a as1 σ1 h1 tk1 q1 x1 R1 r1 => ?_)
  refine q1 A env Y as1 _ _ E hA hE R1 (L.up R hE x1) fun vb b as2 σ2 h2 tk2 q2 x2 R2 r2 => ?_
  exact q2 A Y as2 _ [va, vb] QQ E hA R2 (.cons (r1.up x2) (.cons r2 .nil)) fun v pv as3 σ3 h3 tk3 q3 x3 R3 r3 => f v pv as3 σ3 h3 tk3 q3 (x1.trans (x2.trans x3)) R3 r3

theorem EV.unop {x : Expr} {op : UnaryOp} {pos : Pos} (h : EV G d sc x ρ σ fun a σ1 => VC G d (un1 op) [a] σ1 Q) : EV G d sc (.UnaryOp op x pos) ρ σ Q :=
  fun A env Y as s QQ E hA hE R L f => by
  refine UnaryOp_ (h A env Y as s _ E hA hE R L fun va a as1 σ1 h1 tk1 q1 x1 R1 r1 => ?_)
  exact q1 A Y as1 _ [va] QQ E hA R1 (.cons r1 .nil) fun v pv as3 σ3 h3 tk3 q3 x3 R3 r3 => f v pv as3 σ3 h3 tk3 q3 (x1.trans x3) R3 r3

theorem EV.compare {l r : Expr} {op : CmpOp} {pos : Pos} (h : EV G d sc l ρ σ fun a σ1 => EV G d sc r ρ σ1 fun b σ2 => VC G d (cmp2 op) [a, b] σ2 Q) (hm : behindInMarks op r = false := by with_unfolding_all rfl) :
    EV G d sc (.Compare l [op] [r] pos) ρ σ Q := fun A env Y as s QQ E hA hE R L f => by
  refine wpAny_Compare1 (h A env Y as s _ E hA hE R L fun va a as1 σ1 h1 tk1 q1 x1 R1 r1 => ?_) hm
  refine q1 A env Y as1 _ _ E hA hE R1 (L.up R hE x1) fun vb b as2 σ2 h2 tk2 q2 x2 R2 r2 => ?_
  exact q2 A Y as2 _ [va, vb] QQ E hA R2 (.cons (r1.up x2) (.cons r2 .nil)) fun v pv as3 σ3 h3 tk3 q3 x3 R3 r3 => f v pv as3 σ3 h3 tk3 q3 (x1.trans (x2.trans x3)) R3 r3

theorem EV.ifexp {t b o : Expr} {pos : Pos} (h : BV G d sc t ρ σ fun c σ1 => if c then EV G d sc b ρ σ1 Q else EV G d sc o ρ σ1 Q) : EV G d sc (.IfExp t b o pos) ρ σ Q :=
  fun A env Y as s QQ E hA hE R L f => by
  refine IfExp_ (h A env Y as s _ E hA hE R L fun c as1 σ1 h1 tk1 q1 x1 R1 => ?_)
  cases c with
  | true => exact q1 A env Y as1 _ QQ E hA hE R1 (L.up R hE x1) fun v pv as3 σ3 h3 tk3 q3 x3 R3 r3 => f v pv as3 σ3 h3 tk3 q3 (x1.trans x3) R3 r3
  | false => exact q1 A env Y as1 _ QQ E hA hE R1 (L.up R hE x1) fun v pv as3 σ3 h3 tk3 q3 x3 R3 r3 => f v pv as3 σ3 h3 tk3 q3 (x1.trans x3) R3 r3

theorem EV.bool1 {x : Expr} {op : BoolOp} {pos : Pos} (h : EV G d sc x ρ σ Q) : EV G d sc (.BoolOp op [x] pos) ρ σ Q :=
  fun A env Y as s QQ E hA hE R L f => BoolOp_one (h A env Y as s QQ E hA hE R L f)
theorem EV.and {x y : Expr} {rest : List Expr} {pos : Pos} (h : EV G d sc x ρ σ fun a σ1 => TC G d a σ1 fun c σ2 => if c then EV G d sc (.BoolOp .And (y :: rest) pos) ρ σ2 Q else Q a σ2) :
    EV G d sc (.BoolOp .And (x :: y :: rest) pos) ρ σ Q := fun A env Y as s QQ E hA hE R L f => by
  refine BoolOp_and (h A env Y as s _ E hA hE R L fun va a as1 σ1 h1 tk1 q1 x1 R1 r1 => ?_)
  refine q1 A Y as1 _ va _ E hA R1 r1 fun c as2 σ2 h2 tk2 q2 x2 R2 => ?_
  cases c with
  | true => exact q2 A env Y as2 _ QQ E hA hE R2 (L.up R hE (x1.trans x2)) fun v pv as3 σ3 h3 tk3 q3 x3 R3 r3 => f v pv as3 σ3 h3 tk3 q3 (x1.trans (x2.trans x3)) R3 r3
  | false => exact f _ _ _ _ _ _ q2 (x1.trans x2) R2 (r1.up x2)
theorem EV.or {x y : Expr} {rest : List Expr} {pos : Pos} (h : EV G d sc x ρ σ fun a σ1 => TC G d a σ1 fun c σ2 => if c then Q a σ2 else EV G d sc (.BoolOp .Or (y :: rest) pos) ρ σ2 Q) :
    EV G d sc (.BoolOp .Or (x :: y :: rest) pos) ρ σ Q := fun A env Y as s QQ E hA hE R L f => by
  refine BoolOp_or (h A env Y as s _ E hA hE R L fun va a as1 σ1 h1 tk1 q1 x1 R1 r1 => ?_)
  refine q1 A Y as1 _ va _ E hA R1 r1 fun c as2 σ2 h2 tk2 q2 x2 R2 => ?_
  cases c with
  | false => exact q2 A env Y as2 _ QQ E hA hE R2 (L.up R hE (x1.trans x2)) fun v pv as3 σ3 h3 tk3 q3 x3 R3 r3 => f v pv as3 σ3 h3 tk3 q3 (x1.trans (x2.trans x3)) R3 r3
  | true => exact f _ _ _ _ _ _ q2 (x1.trans x2) R2 (r1.up x2)

section
variable {QB : Bool → List Cell → Prop}
theorem BV.plain {e : Expr} (h : EV G d sc e ρ σ fun a σ1 => TC G d a σ1 QB) (he : ∀ env whole, isTrue e env whole = (do let v ← whole; standAt e.pos; holding [v] (truthy v)) := by intros; rfl) : BV G d sc e ρ σ QB :=
  fun A env Y as s QQ E hA hE R L f => by
  refine isTrue_plain (h A env Y as s _ E hA hE R L fun va a as1 σ1 h1 tk1 q1 x1 R1 r1 => ?_) (he _ _)
  exact q1 A Y as1 _ va _ E hA R1 r1 fun c as2 σ2 h2 tk2 q2 x2 R2 => f c as2 σ2 h2 tk2 q2 (x1.trans x2) R2
theorem BV.compare {l r : Expr} {op : CmpOp} {pos : Pos} (h : EV G d sc l ρ σ fun a σ1 => EV G d sc r ρ σ1 fun b σ2 => VC G d (cmp2 op) [a, b] σ2 fun c σ3 => TC G d c σ3 QB) (hm : behindInMarks op r = false := by with_unfolding_all rfl) :
    BV G d sc (.Compare l [op] [r] pos) ρ σ QB := fun A env Y as s QQ E hA hE R L f => by
  refine wpAny_isTrue_Compare1 (h A env Y as s _ E hA hE R L fun va a as1 σ1 h1 tk1 q1 x1 R1 r1 => ?_) hm
  refine q1 A env Y as1 _ _ E hA hE R1 (L.up R hE x1) fun vb b as2 σ2 h2 tk2 q2 x2 R2 r2 => ?_
  refine q2 A Y as2 _ [va, vb] _ E hA R2 (.cons (r1.up x2) (.cons r2 .nil)) fun v pv as3 σ3 h3 tk3 q3 x3 R3 r3 => ?_
  exact q3 A Y as3 _ v _ E hA R3 r3 fun c as4 σ4 h4 tk4 q4 x4 R4 => f c as4 σ4 h4 tk4 q4 (x1.trans (x2.trans (x3.trans x4))) R4
theorem BV.not {x : Expr} {pos : Pos} (h : BV G d sc x ρ σ fun c σ1 => QB (!c) σ1) : BV G d sc (.UnaryOp .Not x pos) ρ σ QB := fun A env Y as s QQ E hA hE R L f =>
  isTrue_not (h A env Y as s _ E hA hE R L fun c as1 σ1 h1 tk1 q1 x1 R1 => f (!c) as1 σ1 h1 tk1 q1 x1 R1)
theorem BV.and_nil {pos : Pos} (h : QB true σ) : BV G d sc (.BoolOp .And [] pos) ρ σ QB := fun A env Y as s QQ E hA hE R L f => isTrue_and_nil (f true as σ s.heap _ h .refl R)
theorem BV.or_nil {pos : Pos} (h : QB false σ) : BV G d sc (.BoolOp .Or [] pos) ρ σ QB := fun A env Y as s QQ E hA hE R L f => isTrue_or_nil (f false as σ s.heap _ h .refl R)
theorem BV.and {x : Expr} {rest : List Expr} {pos : Pos} (h : BV G d sc x ρ σ fun c σ1 => if c then BV G d sc (.BoolOp .And rest pos) ρ σ1 QB else QB false σ1) : BV G d sc (.BoolOp .And (x :: rest) pos) ρ σ QB :=
  fun A env Y as s QQ E hA hE R L f => by
  refine isTrue_and (h A env Y as s _ E hA hE R L fun c as1 σ1 h1 tk1 q1 x1 R1 => ?_)
  cases c with
  | true => exact q1 A env Y as1 _ _ E hA hE R1 (L.up R hE x1) fun c as2 σ2 h2 tk2 q2 x2 R2 => f c as2 σ2 h2 tk2 q2 (x1.trans x2) R2
  | false => exact f false as1 σ1 h1 tk1 q1 x1 R1
theorem BV.or {x : Expr} {rest : List Expr} {pos : Pos} (h : BV G d sc x ρ σ fun c σ1 => if c then QB true σ1 else BV G d sc (.BoolOp .Or rest pos) ρ σ1 QB) : BV G d sc (.BoolOp .Or (x :: rest) pos) ρ σ QB :=
  fun A env Y as s QQ E hA hE R L f => by
  refine isTrue_or (h A env Y as s _ E hA hE R L fun c as1 σ1 h1 tk1 q1 x1 R1 => ?_)
  cases c with
  | false => exact q1 A env Y as1 _ _ E hA hE R1 (L.up R hE x1) fun c as2 σ2 h2 tk2 q2 x2 R2 => f c as2 σ2 h2 tk2 q2 (x1.trans x2) R2
  | true => exact f true as1 σ1 h1 tk1 q1 x1 R1

theorem TC.bool {b : Bool} (h : QB b σ) : TC G d (.bool b) σ QB := fun A Y as s v QQ E hA R r f => by
  cases r; exact wpAny_truthy_bool (f b as σ s.heap _ h .refl R)
end

section
variable {QL : List PV → List Cell → Prop}
theorem EVs.nil (h : QL [] σ) : EVs G d sc [] ρ σ QL := fun A env Y as s pos QQ E hA hE R L f => args_nil (f [] [] as σ s.heap _ h .refl R .nil)
theorem EVs.cons {e : Expr} {rest : List Expr} (h : EV G d sc e ρ σ fun a σ1 => EVs G d sc rest ρ σ1 fun xs σ2 => QL (a :: xs) σ2) (he : ∀ env, starEach (e :: rest) env = (false, eval e env) :: starEach rest env := by intro _; rfl) :
    EVs G d sc (e :: rest) ρ σ QL := fun A env Y as s pos QQ E hA hE R L f => by
  refine args_cons (h A env Y as s _ E hA hE R L fun va a as1 σ1 h1 tk1 q1 x1 R1 r1 => ?_) (he env)
  exact q1 A env Y as1 _ pos _ E hA hE R1 (L.up R hE x1) fun vs xs as2 σ2 h2 tk2 q2 x2 R2 r2 => f (va :: vs) (a :: xs) as2 σ2 h2 tk2 q2 (x1.trans x2) R2 (.cons (r1.up x2) r2)
end

theorem get_size (h : Heap) : h.get? h.objs.size = none := by
  cases e : h.get? h.objs.size with
  | none => rfl
  | some o => exact absurd (Heap.lt_size e) (Nat.lt_irrefl _)
/-- a new object that no old one names -/
theorem Rep.push {Y as : List Addr} {h : Heap} (R : Rep G Y as σ h) (o : Obj) : Ext as σ h as σ (h.push o) noF ∧ Rep G Y as σ (h.push o) ∧ okOf Y as σ h.objs.size :=
  ⟨Ext.grown (fun _ _ e => Heap.get?_push_of_some _ e), R.grown (fun _ _ e => Heap.get?_push_of_some _ e), (R.fresh (get_size h)).2.2.1⟩

theorem EV.tuple {es : List Expr} {k : Nat} {pos : Pos} (h : EVs G d sc es ρ σ fun xs σ1 => xs.length ≤ 1000 ∧ Q (.tup xs) σ1) : EV G d sc (.Tuple es k pos) ρ σ Q :=
  fun A env Y as s QQ E hA hE R L f => by
  refine Tuple_ (h A env Y as s pos _ E hA hE R L fun vs xs as1 σ1 h1 tk1 q1 x1 R1 r1 => ?_)
  obtain ⟨x2, R2, k2⟩ := R1.push { cls := .type "tuple", data := .seq vs.toArray }
  refine wpAny_newObj_type (f _ _ as1 σ1 _ _ q1.2 (x1.trans x2) R2 (.tup (Heap.get?_push_size _ rfl) k2 (r1.up x2))) ?_
  show vs.toArray.size ≤ sizeLine
  rw [List.size_toArray, r1.length, sizeLine_eq]; have := q1.1; omega
/-- a list display whose list is turned no more -/
theorem EV.list {es : List Expr} {pos : Pos} (h : EVs G d sc es ρ σ fun xs σ1 => xs.length ≤ 1000 ∧ Q (.list xs) σ1) : EV G d sc (.List es pos) ρ σ Q :=
  fun A env Y as s QQ E hA hE R L f => by
  refine List_ (h A env Y as s pos _ E hA hE R L fun vs xs as1 σ1 h1 tk1 q1 x1 R1 r1 => ?_)
  obtain ⟨x2, R2, k2⟩ := R1.push { cls := .type "list", data := .seq vs.toArray }
  refine wpAny_newObj_type (f _ _ as1 σ1 _ _ q1.2 (x1.trans x2) R2 (.list (Heap.get?_push_size _ rfl) k2 (r1.up x2))) ?_
  show vs.toArray.size ≤ sizeLine
  rw [List.size_toArray, r1.length, sizeLine_eq]; have := q1.1; omega
end

section
variable {G : Gc} {d : Nat} {sc : Scope} {ρ : List (Str × PV)} {σ : List Cell} {Qn : List (Str × PV) → List Cell → Prop} {Qr : PV → List Cell → Prop}

theorem same_rep {Y as : List Addr} {h h' : Heap} {c : Addr} (R : Rep G Y as σ h) (hY : c ∈ Y) (hs : Heap.SameBut c h h') (hc : h'.get? c ≠ none) : Rep G Y as σ h' :=
  R.touch (fun b o e n => (hs.2 b fun z => n (z ▸ hY)).trans e) fun y m => by
    by_cases z : y = c
    · subst z; exact hc
    · rw [hs.2 y z]; exact R.yal y m
theorem lookup_cons (x y : Str) (pv : PV) (ρ : List (Str × PV)) : ((x, pv) :: ρ).lookup y = if y = x then some pv else ρ.lookup y := by
  rw [List.lookup_cons]
  by_cases e : y = x
  · subst e; simp
  · have : (y == x) = false := by simpa using e
    rw [this, if_neg e]

/-- the places a store may touch -/
def Tch (sc : Scope) (env : Env) (Y : List Addr) (F : Addr → Prop) (x : Str) : Prop := F env.locals ∧ (∀ b, F b → b ∈ Y) ∧ (sc.names.lookup x = some .cell → ∀ c, env.cells.lookup x = some c → F c)
theorem Tch.own {env : Env} {Y : List Addr} {x : Str} (hE : EnvOk sc env Y) : Tch sc env Y (own env) x := ⟨.inl rfl, hE.own, fun _ c e => .inr ⟨x, e⟩⟩
theorem Tch.loc {env : Env} {Y : List Addr} {x : Str} (hE : EnvOk sc env Y) (h : sc.names.lookup x = some .local) : Tch sc env Y (· = env.locals) x := ⟨rfl, fun b e => e ▸ hE.loc, fun e => by rw [h] at e; cases e⟩

theorem store_at {F : Addr → Prop} {env : Env} {A : Around} {Y as : List Addr} {s : Shared} {QQ : Unit → Shared → Prop} {E : Value → Shared → Prop} {x : Str} {v : Value} {pv : PV}
    (hk : sc.names.lookup x = some .local ∨ sc.names.lookup x = some .cell) (hE : EnvOk sc env Y) (hC : CkOk sc env) (T : Tch sc env Y F x) (R : Rep G Y as σ s.heap) (L : LocRep G env ρ Y as σ s.heap) (rv : RV G (okOf Y as σ) as s.heap v pv)
    (q : ∀ h' tk, Ext as σ s.heap as σ h' F → Rep G Y as σ h' → LocRep G env ((x, pv) :: ρ) Y as σ h' → QQ () { s with heap := h', toks := tk }) :
    wpAny (model G.prog G.w) A (storeName env x v) QQ E s := by
  obtain ⟨m, hn, g⟩ := L.at_
  rcases hk with hk | hk
  · have hl : env.kindOf x = some .local := by unfold Env.kindOf; rw [hE.sce]; exact hk
    refine wpAny_storeName_local hl hn (fun h' hn' hs => ?_) (by rw [hE.ekind]; rfl)
    have X : Ext as σ s.heap as σ h' F := ⟨⟨[], by simp⟩, fun a q => .inl q, fun b o e _ f => (hs.2 b fun z => f (z ▸ T.1)).trans e⟩
    refine q h' _ X (same_rep R hE.loc hs (by obtain ⟨o, _, _, ho, _⟩ := hn'; rw [ho]; exact fun x => nomatch x)) ⟨⟨_, hn', fun y pw e => ?_⟩, L.apart, fun y c mm => ?_⟩
    · rw [lookup_cons] at e
      by_cases z : y = x
      · rw [if_pos z] at e; cases e; subst z
        exact ⟨v, RV.ext X T.2.1 rv, .inl ⟨hl, if_pos rfl⟩⟩
      · rw [if_neg z] at e
        obtain ⟨u, ru, k⟩ := g y pw e
        refine ⟨u, RV.ext X T.2.1 ru, k.imp (fun ⟨k1, k2⟩ => ⟨k1, (if_neg z).trans k2⟩) fun ⟨k1, c, k2, k3⟩ => ⟨k1, c, k2, k3.sameBut hs (L.cl y c k2).1⟩⟩
    · obtain ⟨n, v₀, k⟩ := L.cl y c mm
      exact ⟨n, v₀, k.sameBut hs n⟩
  · have hl : env.kindOf x = some .cell := by unfold Env.kindOf; rw [hE.sce]; exact hk
    obtain ⟨c, hc⟩ := hC x hk
    obtain ⟨nL, v₀, k₀⟩ := L.cl x c hc
    refine wpAny_storeName_cell hE.ekind hl hc k₀ fun h' hc' hs => ?_
    have X : Ext as σ s.heap as σ h' F := ⟨⟨[], by simp⟩, fun a q => .inl q, fun b o e _ f => (hs.2 b fun z => f (z ▸ T.2.2 hk c hc)).trans e⟩
    refine q h' _ X (same_rep R (hE.cl x c hc) hs (by obtain ⟨o, ho, _⟩ := hc'; rw [ho]; exact fun x => nomatch x)) ⟨⟨_, hn.sameBut hs (Ne.symm nL), fun y pw e => ?_⟩, L.apart, fun y c₂ mm => ?_⟩
    · rw [lookup_cons] at e
      by_cases z : y = x
      · rw [if_pos z] at e; cases e; subst z
        exact ⟨v, RV.ext X T.2.1 rv, .inr ⟨.inl hl, c, hc, hc'⟩⟩
      · rw [if_neg z] at e
        obtain ⟨u, ru, k⟩ := g y pw e
        refine ⟨u, RV.ext X T.2.1 ru, k.imp id fun ⟨k1, c₂, k2, k3⟩ => ⟨k1, c₂, k2, k3.sameBut hs fun ee => z (name_of_addr L.apart (mem_of_lookup k2) (ee ▸ mem_of_lookup hc))⟩⟩
    · obtain ⟨n, v₁, k⟩ := L.cl y c₂ mm
      refine ⟨n, ?_⟩
      by_cases ee : c₂ = c
      · subst ee; exact ⟨_, hc'⟩
      · exact ⟨v₁, k.sameBut hs ee⟩

theorem EX.mono {ss : List Stmt} {Qn' : List (Str × PV) → List Cell → Prop} {Qr' : PV → List Cell → Prop} (h : EX G d sc ss ρ σ Qn Qr) (k : ∀ r σ', Qn r σ' → Qn' r σ') (k' : ∀ x σ', Qr x σ' → Qr' x σ') : EX G d sc ss ρ σ Qn' Qr' :=
  fun A env Y as s QQ E hA hE hC R L f g => h A env Y as s QQ E hA hE hC R L (fun ρ' as' σ' h' tk q => f ρ' as' σ' h' tk (k _ _ q)) fun v pv as' σ' h' tk q => g v pv as' σ' h' tk (k' _ _ q)

theorem EX.nil (h : Qn ρ σ) : EX G d sc [] ρ σ Qn Qr := fun A env Y as s QQ E hA hE hC R L f g => wpAny_execs_nil (f ρ as σ s.heap _ h .refl R L)
theorem EX.ret {e : Expr} {pos : Pos} {rest : List Stmt} (h : EV G d sc e ρ σ Qr) : EX G d sc (.Return (some e) pos :: rest) ρ σ Qn Qr := fun A env Y as s QQ E hA hE hC R L f g =>
  wpAny_execs_cons (wpAny_Return_some (h A env Y as s _ E hA hE R L fun v pv as' σ' h' tk q X R' r => g v pv as' σ' h' tk q X.no R' r))

theorem EX.assign {x : Str} {pos' pos : Pos} {e : Expr} {rest : List Stmt} (h : EV G d sc e ρ σ fun v σ1 => EX G d sc rest ((x, v) :: ρ) σ1 Qn Qr) (hk : sc.names.lookup x = some .local ∨ sc.names.lookup x = some .cell)
    (hs : ∀ env, swapsWith e (some (.Name x pos')) pos.line env = pure false := by intro _; rfl) : EX G d sc (.Assign [.Name x pos'] e pos :: rest) ρ σ Qn Qr := fun A env Y as s QQ E hA hE hC R L f g => by
  refine wpAny_execs_cons (wpAny_Assign_Name (h A env Y as s _ E hA hE R L fun v pv as1 σ1 h1 tk1 q1 x1 R1 r1 => ?_) (hs env))
  refine store_at hk hE hC (.own hE) R1 (L.up R hE x1) r1 fun h2 tk2 x2 R2 L2 => ?_
  have x12 := x1.no.trans x2
  exact q1 A env Y as1 _ QQ E hA hE hC R2 L2 (fun ρ' as' σ' h' tk q x3 => f ρ' as' σ' h' tk q (x12.trans x3)) fun v pv as' σ' h' tk q x3 => g v pv as' σ' h' tk q (x12.trans x3)

theorem EX.expr {e : Expr} {pos : Pos} {rest : List Stmt} (h : EV G d sc e ρ σ fun v σ1 => v = .none ∧ EX G d sc rest ρ σ1 Qn Qr) (hs : ∀ env, swapsWith e Option.none pos.line env = pure false := by intro _; rfl) :
    EX G d sc (.Expr e pos :: rest) ρ σ Qn Qr := fun A env Y as s QQ E hA hE hC R L f g => by
  refine wpAny_execs_cons (wpAny_Expr (h A env Y as s _ E hA hE R L fun v pv as1 σ1 h1 tk1 q1 x1 R1 r1 => ?_) (by unfold interactive; rw [hE.ekind]; rfl) (hs env))
  obtain ⟨rfl, q1⟩ := q1
  cases r1
  exact q1 A env Y as1 _ QQ E hA hE hC R1 (L.up R hE x1) (fun ρ' as' σ' h' tk q x3 => f ρ' as' σ' h' tk q (x1.no.trans x3)) fun v pv as' σ' h' tk q x3 => g v pv as' σ' h' tk q (x1.no.trans x3)

theorem EX.ite {t : Expr} {body orelse : List Stmt} {pos : Pos} {rest : List Stmt} (h : BV G d sc t ρ σ fun b σ1 => EX G d sc (if b then body else orelse) ρ σ1 (fun ρ2 σ2 => EX G d sc rest ρ2 σ2 Qn Qr) Qr) :
    EX G d sc (.If t body orelse pos :: rest) ρ σ Qn Qr := fun A env Y as s QQ E hA hE hC R L f g => by
  refine wpAny_execs_cons (wpAny_If (h A env Y as s _ E hA hE R L fun b as1 σ1 h1 tk1 q1 x1 R1 => ?_))
  have go : wpAny (model G.prog G.w) A (execs (if b then body else orelse) env) (fun fl s' => match fl with | .next => wpAny (model G.prog G.w) A (execs rest env) QQ E s' | fl => QQ fl s') E { s with heap := h1, toks := tk1 } := by
    refine q1 A env Y as1 _ _ E hA hE hC R1 (L.up R hE x1) (fun ρ2 as2 σ2 h2 tk2 q2 x2 R2 L2 => ?_) fun v pv as' σ' h' tk q x3 => g v pv as' σ' h' tk q (x1.no.trans x3)
    have x12 := (x1.no (F := own env)).trans x2
    exact q2 A env Y as2 _ QQ E hA hE hC R2 L2 (fun ρ' as' σ' h' tk q x3 => f ρ' as' σ' h' tk q (x12.trans x3)) fun v pv as' σ' h' tk q x3 => g v pv as' σ' h' tk q (x12.trans x3)
  cases b with
  | true => exact go
  | false => exact go
end

section
variable {G : Gc} {d : Nat} {sc : Scope} {ρ : List (Str × PV)} {σ : List Cell} {Q : PV → List Cell → Prop}

section
variable {Y Z as : List Addr} {h h' : Heap} {v : Value} {x : PV} {vs : List Value} {xs : List PV}
theorem ok_enter (k : ∀ b o, h.get? b = some o → h'.get? b = some o) (hz : ∀ z ∈ Z, h.get? z = none) : ∀ b o, h.get? b = some o → okOf Y as σ b → h'.get? b = some o ∧ okOf (Z ++ Y) as σ b :=
  fun b o e q => ⟨k b o e, fun m => (List.mem_append.mp m).elim (fun m => by rw [hz b m] at e; cases e) q.1, q.2⟩
theorem RVs.enter (k : ∀ b o, h.get? b = some o → h'.get? b = some o) (hz : ∀ z ∈ Z, h.get? z = none) (r : RVs G (okOf Y as σ) as h vs xs) : RVs G (okOf (Z ++ Y) as σ) as h' vs xs :=
  RVs.mono (ok_enter k hz) (fun _ _ e => e) r
theorem RV.leave (r : RV G (okOf (Z ++ Y) as σ) as h v x) : RV G (okOf Y as σ) as h v x :=
  RV.mono (fun b o e q => ⟨e, fun m => q.1 (List.mem_append_right _ m), q.2⟩) (fun _ _ e => e) r
theorem RVs.leave (r : RVs G (okOf (Z ++ Y) as σ) as h vs xs) : RVs G (okOf Y as σ) as h vs xs :=
  RVs.mono (fun b o e q => ⟨e, fun m => q.1 (List.mem_append_right _ m), q.2⟩) (fun _ _ e => e) r

theorem Rep.enter (R : Rep G Y as σ h) (k : ∀ b o, h.get? b = some o → h'.get? b = some o) (hz : ∀ z ∈ Z, h.get? z = none ∧ h'.get? z ≠ none) : Rep G (Z ++ Y) as σ h' where
  base := fun b o e => k b o (R.base b o e)
  yal := fun y m => (List.mem_append.mp m).elim (fun m => (hz y m).2) ((R.grown k).yal y)
  ylo := fun y m => (List.mem_append.mp m).elim (fun m => (R.fresh (hz y m).1).2.2.2) (R.ylo y)
  len := R.len
  lo := R.lo
  al := (R.grown k).al
  ny := fun a m q => (List.mem_append.mp q).elim (fun q => (R.fresh (hz a q).1).2.1 m) (R.ny a m)
  nd := R.nd
  cells := fun i a c e1 e2 => by
    have q := R.cells i a c e1 e2
    have z := fun z m => (hz z m).1
    cases c with
    | lst xs => obtain ⟨vs, n, g, r⟩ := q; exact ⟨vs, n, k _ _ g, r.enter k z⟩
    | arr xs => obtain ⟨vs, o, g, E, r⟩ := q; exact ⟨vs, o, k _ _ g, E, r.enter k z⟩
    | dct ns xs => obtain ⟨o, vs, g, E, r⟩ := q; exact ⟨o, vs, k _ _ g, E, r.enter k z⟩
    | dead => trivial
theorem Rep.leave (R : Rep G (Z ++ Y) as σ h) : Rep G Y as σ h where
  base := R.base
  yal := fun y m => R.yal y (List.mem_append_right _ m)
  ylo := fun y m => R.ylo y (List.mem_append_right _ m)
  len := R.len
  lo := R.lo
  al := R.al
  ny := fun a m q => R.ny a m (List.mem_append_right _ q)
  nd := R.nd
  cells := fun i a c e1 e2 => by
    have q := R.cells i a c e1 e2
    cases c with
    | lst xs => obtain ⟨vs, n, g, r⟩ := q; exact ⟨vs, n, g, r.leave⟩
    | arr xs => obtain ⟨vs, o, g, E, r⟩ := q; exact ⟨vs, o, g, E, r.leave⟩
    | dct ns xs => obtain ⟨o, vs, g, E, r⟩ := q; exact ⟨o, vs, g, E, r.leave⟩
    | dead => trivial
end

theorem AOk.le {A : Around} {d d' : Nat} (h : AOk A d) (z : d' ≤ d) : AOk A d' := ⟨h.hh, by have := h.dep; omega, by have := h.un; omega⟩
theorem AOk.deeper {A : Around} {env : Env} (h : AOk A (d + 1)) : AOk (A.deeper env) d :=
  ⟨h.hh, by have := h.dep; show A.depth + 1 + 2 * d + 10 < _; omega, by have := h.un; show A.units + 3 + 20 * d + 200 < _; omega⟩

theorem bindL_out {k : Str → Option NameKind} {y : Str} : ∀ {bs : List (Str × Value)} {m : Str → Option Value}, (∀ b ∈ bs, b.1 ≠ y) → bindL k bs m y = m y
  | [], _, _ => rfl
  | (n, v) :: r, m, h => by
    unfold bindL
    rw [bindL_out fun b hb => h b (.tail _ hb)]
    split
    · exact if_neg (Ne.symm (h _ (.head _)))
    · rfl
theorem bindC_out {k : Str → Option NameKind} {y : Str} : ∀ {bs : List (Str × Value)} {m : Str → Option Value}, (∀ b ∈ bs, b.1 ≠ y) → bindC k bs m y = m y
  | [], _, _ => rfl
  | (n, v) :: r, m, h => by
    unfold bindC
    rw [bindC_out fun b hb => h b (.tail _ hb)]
    split
    · rfl
    · exact if_neg (Ne.symm (h _ (.head _)))
theorem bind_at {ok : Addr → Prop} {as : List Addr} {h : Heap} {k : Str → Option NameKind} {y : Str} {pv : PV} : ∀ {ns : List Str} {vs : List Value} {xs : List PV} {m cm : Str → Option Value}, ns.Nodup → RVs G ok as h vs xs → (ns.zip xs).lookup y = some pv →
    ∃ v, RV G ok as h v pv ∧ (k y = some .local → bindL k (ns.zip vs) m y = some v) ∧ (k y ≠ some .local → bindC k (ns.zip vs) cm y = some v)
  | [], _, _, _, _, _, _, e => by simp at e
  | n :: ns, _, _, m, cm, nd, .nil, e => by simp at e
  | n :: ns, v :: vs, x :: xs, m, cm, nd, .cons r rs, e => by
    rw [List.zip_cons_cons, lookup_cons] at e
    obtain ⟨n1, n2⟩ := List.nodup_cons.mp nd
    by_cases z : y = n
    · subst z
      rw [if_pos rfl] at e; cases e
      have out : ∀ b ∈ ns.zip vs, b.1 ≠ y := fun b hb q => n1 (q ▸ (List.of_mem_zip hb).1)
      refine ⟨v, r, fun hk => ?_, fun hk => ?_⟩
      · rw [List.zip_cons_cons]; unfold bindL; rw [bindL_out out, if_pos hk]; exact if_pos rfl
      · rw [List.zip_cons_cons]; unfold bindC; rw [bindC_out out, if_neg hk]; exact if_pos rfl
    · rw [if_neg z] at e
      obtain ⟨u, ru, h1, h2⟩ := bind_at (k := k) (m := if k n = some .local then fun y => if y = n then some v else m y else m) (cm := if k n = some .local then cm else fun y => if y = n then some v else cm y) n2 rs e
      exact ⟨u, ru, fun hk => by rw [List.zip_cons_cons]; unfold bindL; exact h1 hk, fun hk => by rw [List.zip_cons_cons]; unfold bindC; exact h2 hk⟩

theorem cellsFrom_names : ∀ (l : List (Str × NameKind)) (n n' : Nat) (acc acc' : List (Str × Addr)), acc.map (·.1) = acc'.map (·.1) → (cellsFrom n l acc).map (·.1) = (cellsFrom n' l acc').map (·.1)
  | [], _, _, _, _, e => e
  | (x, k) :: r, n, n', acc, acc', e => by
    unfold cellsFrom
    split
    · exact cellsFrom_names r _ _ _ _ (by simp [e])
    · exact cellsFrom_names r _ _ _ _ e
theorem cellsFrom_nodup {l : List (Str × NameKind)} {n : Nat} (h : ((cellsFrom 0 l []).map (·.1)).Nodup) : ((cellsFrom n l []).map (·.1)).Nodup := by
  rw [cellsFrom_names l n 0 [] [] rfl]; exact h

/-- a def of the top -/
structure FnK (K : Frag) (a : Addr) (ns : List Str) (body : List Stmt) (scope : Scope) : Prop where
  ex : ∃ fd oc od osl, K.lookup a = some ⟨oc, od, .func fd, osl⟩ ∧ codeIn K fd.code fd.qualname = true ∧ fd.body = .stmts body ∧ fd.scope = scope ∧ fd.globals = mainGlobals ∧ fd.closure = [] ∧ fd.builtins = builtinsNs ∧
    ∀ vs : List Value, vs.length = ns.length → bindArgs fd ⟨vs, []⟩ = pure (ns.zip vs)
  kinds : (ns.all fun y => scope.names.lookup y == some .local || scope.names.lookup y == some .cell) = true
  nd : ns.Nodup
  cnd : ((cellsFrom 0 scope.names []).map (·.1)).Nodup
  co : scope.isCoroutine = false
  gen : scope.isGenerator = false
  kind : scope.kind = .function

theorem cells_isSome {n : Nat} {sc : Scope} {x : Str} (h : sc.names.lookup x = some .cell) : ((cellsFrom n sc.names []).lookup x).isSome = true := cellsFrom_some _ _ _ (.inl h)

theorem VC.fn {a : Addr} {ns : List Str} {body : List Stmt} {xs : List PV} (F : FnK G.K a ns body sc) (hl : xs.length = ns.length) (h : EX G d sc body (ns.zip xs) σ (fun _ σ' => Q .none σ') Q) :
    VC G (d + 1) (fun vs => call (.ref a) vs) xs σ Q := fun A Y as s vs QQ E hA R r f => by
  obtain ⟨fd, oc, od, osl, ho, hcd, hb, rfl, hg, hcl, hbt, hba⟩ := F.ex
  have X := R.X
  refine wpAny_call (codeAny_call_cells (binds := ns.zip vs) (by have := hA.dep; omega) (X _ _ ho) rfl R.top.nolimit (codeRec_of X hcd) hb (hba vs (by rw [r.length, hl])) hcl (fun y hy => ?_) (fun s₁ I => ?_) F.co F.gen F.kind)
  · have q := List.all_eq_true.mp F.kinds y.1 (List.of_mem_zip hy).1
    rcases Bool.or_eq_true_iff.mp q with q | q
    · exact .inl (by simpa using q)
    · exact .inr ⟨by simpa using q, cells_isSome (by simpa using q)⟩
  generalize hen : callEnvC fd s.heap.objs.size a = env at I
  have eL : env.locals = s.heap.objs.size := by rw [← hen]; rfl
  have eC : env.cells = cellsFrom (s.heap.objs.size + 1) fd.scope.names [] := by rw [← hen]; rfl
  have eS : env.scope = fd.scope := by rw [← hen]; rfl
  obtain ⟨h₁, tk, rfl⟩ := I.toInCall.same
  have fresh : ∀ b, s.heap.objs.size ≤ b → s.heap.get? b = none := fun b z => by
    cases e : s.heap.get? b with
    | none => rfl
    | some o => exact absurd (Heap.lt_size e) (Nat.not_lt.mpr z)
  have hz : ∀ z ∈ env.locals :: env.cells.map (·.2), s.heap.get? z = none ∧ h₁.get? z ≠ none := fun z m => by
    rcases List.mem_cons.mp m with rfl | m
    · refine ⟨fresh _ I.toInCall.fresh, ?_⟩
      obtain ⟨o, _, _, e, _⟩ := I.toInCall.ns
      rw [show h₁.get? env.locals = some o from e]; exact fun x => nomatch x
    · obtain ⟨⟨n, c⟩, hm, rfl⟩ := List.mem_map.mp m
      have hlt := I.above n c hm
      refine ⟨fresh _ (Nat.le_of_lt (Nat.lt_of_le_of_lt I.toInCall.fresh hlt)), ?_⟩
      have cn : (env.cells.map (·.1)).Nodup := by rw [eC]; exact cellsFrom_nodup F.cnd
      obtain ⟨o, e, _⟩ := I.cell n c (lookup_of_mem_nodup cn hm)
      rw [show h₁.get? c = some o from e]; exact fun x => nomatch x
  have R₁ : Rep G ((env.locals :: env.cells.map (·.2)) ++ Y) as σ h₁ := R.enter I.toInCall.keep hz
  have r₁ := r.enter (Z := env.locals :: env.cells.map (·.2)) I.toInCall.keep fun z m => (hz z m).1
  have hE : EnvOk fd.scope env ((env.locals :: env.cells.map (·.2)) ++ Y) := by
    refine ⟨eS, F.kind, by rw [← hen]; exact hg, by rw [← hen]; exact hbt, by simp, fun x c e => List.mem_append_left _ (.tail _ (List.mem_map.mpr ⟨_, mem_of_lookup e, rfl⟩))⟩
  have hC : CkOk fd.scope env := fun x e => by rw [eC]; exact Option.isSome_iff_exists.mp (cells_isSome e)
  have kOf : ∀ x, env.kindOf x = fd.scope.names.lookup x := fun x => by unfold Env.kindOf; rw [eS]
  have L₁ : LocRep G env (ns.zip xs) ((env.locals :: env.cells.map (·.2)) ++ Y) as σ h₁ := by
    refine ⟨⟨_, I.toInCall.ns, fun x pv e => ?_⟩, I.apart, fun x c e => ⟨Nat.ne_of_gt (I.above x c (mem_of_lookup e)), _, I.cell x c e⟩⟩
    obtain ⟨v, rv, q1, q2⟩ := bind_at (k := env.kindOf) (m := fun _ => Option.none) (cm := fun _ => Option.none) F.nd r₁ e
    refine ⟨v, rv, ?_⟩
    have hm : x ∈ ns := by
      have := mem_of_lookup e
      exact (List.of_mem_zip this).1
    have q := List.all_eq_true.mp F.kinds x hm
    rcases Bool.or_eq_true_iff.mp q with q | q
    · have hk : env.kindOf x = some .local := by rw [kOf]; simpa using q
      exact .inl ⟨hk, q1 hk⟩
    · have hk : env.kindOf x = some .cell := by rw [kOf]; simpa using q
      obtain ⟨c, hc⟩ := hC x (by simpa using q)
      refine .inr ⟨.inl hk, c, hc, ?_⟩
      have := I.cell x c hc
      rwa [q2 (by rw [hk]; decide)] at this
  have out : ∀ {as' : List Addr} {σ' : List Cell} {h' : Heap}, Ext as σ h₁ as' σ' h' (own env) → Rep G ((env.locals :: env.cells.map (·.2)) ++ Y) as' σ' h' → Ext as σ s.heap as' σ' h' noF := fun x R' => by
    have nf : ∀ b, own env b → s.heap.get? b = none := fun b o => by
      rcases o with rfl | ⟨n, e⟩
      · exact (hz _ (.head _)).1
      · exact (hz _ (.tail _ (List.mem_map.mpr ⟨_, mem_of_lookup e, rfl⟩))).1
    have x' := (Ext.grown (F := own env) (as := as) (σ := σ) I.toInCall.keep).trans x
    refine ⟨x'.pre, fun a q => ?_, fun b o e n _ => x'.keep b o e n fun f => by rw [nf b f] at e; cases e⟩
    rcases x'.live a q with z | z | z
    · exact .inl z
    · exact .inr (.inl z)
    · exact .inr (.inl (nf a z))
  refine h (A.deeper env) env _ as _ _ _ hA.deeper hE hC R₁ L₁ (fun ρ' as' σ' h' tk q x R' L' => ?_) fun v pv as' σ' h' tk q x R' rv => ?_
  · exact f _ _ as' σ' h' tk q (out x R') R'.leave .none
  · exact f v pv as' σ' h' tk q (out x R') R'.leave rv.leave
end

section
variable {G : Gc} {d : Nat} {sc : Scope} {ρ : List (Str × PV)} {σ : List Cell} {Q : PV → List Cell → Prop}

inductive Callee (K : Frag) : Value → Prop
  | ref {a : Addr} : keepIn K (.ref a) = true → Callee K (.ref a)
  | builtin (id : String) : Callee K (.builtin id)
  | type (T : String) : Callee K (.type T)

theorem callWith_any {M : Model} {A : Around} {E : Value → Shared → Prop} {s : Shared} {env : Env} {pos : Pos} {f : Value} {first : List Value} {QQ : Value → Shared → Prop} {K : Frag} (c : Callee K f) {e : Expr} {rest : List Expr}
    (h : wpAny M A (spliced (backTo pos (starEach (e :: rest) env))) (fun vs s₁ => K.In s₁.heap ∧ wpAny M A (call f (first ++ vs)) QQ E s₁) E s)
    (he : starEach (e :: rest) env = (false, eval e env) :: starEach rest env) (hplain : (backTo pos (starEach rest env)).any (·.1) = false) :
    wpAny M A (callWith pos f first (backTo pos (starEach (e :: rest) env)) []) QQ E s := by
  cases c with
  | ref hk => rw [he] at h ⊢; exact callWith_of (by show ((false || (backTo pos (starEach rest env)).any (·.1)) || false) = false; rw [hplain]; rfl) (keeps_K hk) (evalArgs_plain h)
  | builtin id =>
    rw [he] at h ⊢
    exact Calls.callWith_builtin (by show (false || (backTo pos (starEach rest env)).any (·.1)) = false; rw [hplain]; rfl) (evalArgs_plain (wpAny_mono h (fun _ _ x => x.2) fun _ _ x => x))
  | type T =>
    rw [he] at h ⊢
    exact PyProof.Rows.callWith_type (by show (false || (backTo pos (starEach rest env)).any (·.1)) = false; rw [hplain]; rfl) (evalArgs_plain (wpAny_mono h (fun _ _ x => x.2) fun _ _ x => x))
theorem callWith_any0 {M : Model} {A : Around} {E : Value → Shared → Prop} {s : Shared} {env : Env} {pos : Pos} {f : Value} {first : List Value} {QQ : Value → Shared → Prop} {K : Frag} (c : Callee K f) (X : K.In s.heap)
    (h : wpAny M A (call f (first ++ [])) QQ E s) : wpAny M A (callWith pos f first (backTo pos (starEach [] env)) []) QQ E s := by
  cases c with
  | ref hk => exact callWith_of rfl (keeps_K hk) (evalArgs_nil3 ⟨X, h⟩)
  | builtin id => exact Calls.callWith_builtin (args := []) rfl (evalArgs_nil3 h)
  | type T => exact PyProof.Rows.callWith_type (args := []) rfl (evalArgs_nil3 h)

theorem EV.call {func e : Expr} {rest : List Expr} {pos : Pos} (h : EV G d sc func ρ σ fun f σ1 => ∃ v, f = .top v ∧ Callee G.K v ∧ EVs G d sc (e :: rest) ρ σ1 fun xs σ2 => VC G d (fun vs => call v vs) xs σ2 Q)
    (hf : ∀ env, eval (.Call func (e :: rest) [] pos) env = (do callWith pos (← eval func env) [] (backTo pos (starEach (e :: rest) env)) (backToKw pos (keywordEach [] env))) := by intro _; rfl)
    (he : ∀ env, starEach (e :: rest) env = (false, eval e env) :: starEach rest env := by intro _; rfl) (hp : ∀ env pos, (backTo pos (starEach rest env)).any (·.1) = false := by intro _ _; rfl) :
    EV G d sc (.Call func (e :: rest) [] pos) ρ σ Q := fun A env Y as s QQ E hA hE R L f => by
  refine Call_ (h A env Y as s _ E hA hE R L fun v pv as1 σ1 h1 tk1 q1 x1 R1 r1 => ?_) (hf env)
  obtain ⟨u, rfl, c, q1⟩ := q1
  cases r1
  refine callWith_any c (q1 A env Y as1 _ pos _ E hA hE R1 (L.up R hE x1) fun vs xs as2 σ2 h2 tk2 q2 x2 R2 r2 => ⟨R2.X, ?_⟩) (he env) (hp env pos)
  exact q2 A Y as2 _ vs QQ E hA R2 r2 fun v pv as3 σ3 h3 tk3 q3 x3 R3 r3 => f v pv as3 σ3 h3 tk3 q3 (x1.trans (x2.trans x3)) R3 r3
theorem EV.call0 {func : Expr} {pos : Pos} (h : EV G d sc func ρ σ fun f σ1 => ∃ v, f = .top v ∧ Callee G.K v ∧ VC G d (fun vs => PySem.call v vs) [] σ1 Q)
    (hf : ∀ env, eval (.Call func [] [] pos) env = (do callWith pos (← eval func env) [] (backTo pos (starEach [] env)) (backToKw pos (keywordEach [] env))) := by intro _; rfl) :
    EV G d sc (.Call func [] [] pos) ρ σ Q := fun A env Y as s QQ E hA hE R L f => by
  refine Call_ (h A env Y as s _ E hA hE R L fun v pv as1 σ1 h1 tk1 q1 x1 R1 r1 => ?_) (hf env)
  obtain ⟨u, rfl, c, q1⟩ := q1
  cases r1
  refine callWith_any0 c R1.X ?_
  exact q1 A Y as1 _ [] QQ E hA R1 .nil fun v pv as3 σ3 h3 tk3 q3 x3 R3 r3 => f v pv as3 σ3 h3 tk3 q3 (x1.trans x3) R3 r3

/-- how a value hands out a method: of itself, as a thing of the top -/
def MethAt (G : Gc) (σ : List Cell) (o : PV) (name : Str) (fv : Value) : Prop :=
  ∀ (A : Around) (Y as : List Addr) (s : Shared) (v : Value) (pl : Sem Bool) (QQ : Value × List Value → Shared → Prop) (E : Value → Shared → Prop), Rep G Y as σ s.heap → RV G (okOf Y as σ) as s.heap v o → QQ (fv, [v]) s →
    wpAny (model G.prog G.w) A (getMethod v name pl) QQ E s
theorem EV.meth {o e : Expr} {name : Str} {apos pos : Pos} {rest : List Expr}
    (h : EV G d sc o ρ σ fun ov σ1 => ∃ fv, MethAt G σ1 ov name fv ∧ Callee G.K fv ∧ EVs G d sc (e :: rest) ρ σ1 fun xs σ2 => VC G d (fun vs => PySem.call fv vs) (ov :: xs) σ2 Q)
    (hf : ∀ env, ∃ pl : Sem Bool, eval (.Call (.Attribute o name apos) (e :: rest) [] pos) env = (do
      let ov ← eval o env
      standAt apos.atName
      let (f, first) ← holding [ov] (getMethod ov name pl)
      callWith pos f first (backTo pos (starEach (e :: rest) env)) []) := by intro _; exact ⟨_, rfl⟩)
    (he : ∀ env, starEach (e :: rest) env = (false, eval e env) :: starEach rest env := by intro _; rfl) (hp : ∀ env pos, (backTo pos (starEach rest env)).any (·.1) = false := by intro _ _; rfl) :
    EV G d sc (.Call (.Attribute o name apos) (e :: rest) [] pos) ρ σ Q := fun A env Y as s QQ E hA hE R L f => by
  obtain ⟨pl, hf⟩ := hf env
  refine MethodCall_ (h A env Y as s _ E hA hE R L fun v pv as1 σ1 h1 tk1 q1 x1 R1 r1 => ?_) hf
  obtain ⟨fv, m, c, q1⟩ := q1
  refine m A Y as1 _ v pl _ E R1 r1 ?_
  refine callWith_any c (q1 A env Y as1 _ pos _ E hA hE R1 (L.up R hE x1) fun vs xs as2 σ2 h2 tk2 q2 x2 R2 r2 => ⟨R2.X, ?_⟩) (he env) (hp env pos)
  exact q2 A Y as2 _ (v :: vs) QQ E hA R2 (.cons (r1.up x2) r2) fun v pv as3 σ3 h3 tk3 q3 x3 R3 r3 => f v pv as3 σ3 h3 tk3 q3 (x1.trans (x2.trans x3)) R3 r3
theorem EV.meth0 {o : Expr} {name : Str} {apos pos : Pos}
    (h : EV G d sc o ρ σ fun ov σ1 => ∃ fv, MethAt G σ1 ov name fv ∧ Callee G.K fv ∧ VC G d (fun vs => PySem.call fv vs) [ov] σ1 Q)
    (hf : ∀ env, ∃ pl : Sem Bool, eval (.Call (.Attribute o name apos) [] [] pos) env = (do
      let ov ← eval o env
      standAt apos.atName
      let (f, first) ← holding [ov] (getMethod ov name pl)
      callWith pos f first (backTo pos (starEach [] env)) []) := by intro _; exact ⟨_, rfl⟩) :
    EV G d sc (.Call (.Attribute o name apos) [] [] pos) ρ σ Q := fun A env Y as s QQ E hA hE R L f => by
  obtain ⟨pl, hf⟩ := hf env
  refine MethodCall_ (h A env Y as s _ E hA hE R L fun v pv as1 σ1 h1 tk1 q1 x1 R1 r1 => ?_) hf
  obtain ⟨fv, m, c, q1⟩ := q1
  refine m A Y as1 _ v pl _ E R1 r1 (callWith_any0 c R1.X ?_)
  exact q1 A Y as1 _ [v] QQ E hA R1 (.cons r1 .nil) fun v pv as3 σ3 h3 tk3 q3 x3 R3 r3 => f v pv as3 σ3 h3 tk3 q3 (x1.trans x3) R3 r3

theorem MethAt.split {x : Str} : MethAt G σ (.str x) "split" (.builtin "str.split") := fun A Y as s v pl QQ E R r q => by cases r; exact GM.split q
theorem MethAt.join {x : Str} : MethAt G σ (.str x) "join" (.builtin "str.join") := fun A Y as s v pl QQ E R r q => by cases r; exact GM.join q
theorem MethAt.lstrip {x : Str} : MethAt G σ (.str x) "lstrip" (.builtin "str.lstrip") := fun A Y as s v pl QQ E R r q => by cases r; exact GM.lstrip q
theorem MethAt.append {i : Nat} {xs : List PV} (e : σ[i]? = some (.lst xs)) : MethAt G σ (.cell i) "append" (.builtin "list.append") := fun A Y as s v pl QQ E R r q => by
  cases r with
  | cell ea =>
    obtain ⟨vs, n, g, r⟩ := R.cells i _ _ ea e
    exact getMethod_list_append g rfl rfl q

theorem getL_none {name : Str} : ∀ {es : List DictEntry} {ns : List Str} {vs : List Value}, Ents G.w.params es ns vs → name ∉ ns → getL name es = some Option.none
  | _, _, _, .nil, _ => rfl
  | _, _, _, .cons (n := n) (t := t) (v := v) (es := es) r, h => by
    have ih := getL_none r fun m => h (.tail _ m)
    have e : (Value.str n t).isStr name = false := by
      show (n == name) = false
      exact beq_eq_false_iff_ne.mpr fun z => h (z ▸ .head _)
    unfold getL at ih ⊢
    rw [List.find?_cons]
    simp only [e]
    rw [List.any_cons]
    simpa [DictEntry.refKey] using ih
theorem getL_some {name : Str} : ∀ {es : List DictEntry} {ns : List Str} {vs : List Value} {ok : Addr → Prop} {as : List Addr} {h : Heap} {xs : List PV} {x : PV}, Ents G.w.params es ns vs → RVs G ok as h vs xs → (ns.zip xs).lookup name = some x →
    ∃ v, getL name es = some (some v) ∧ RV G ok as h v x
  | _, _, _, _, _, _, _, _, .nil, _, e => by simp at e
  | _, _, _, _, _, _, _, x, .cons (n := n) (t := t) (v := v) (es := es) r, .cons q qs, e => by
    rw [List.zip_cons_cons, lookup_cons] at e
    by_cases z : name = n
    · subst z; rw [if_pos rfl] at e; cases e
      refine ⟨v, ?_, q⟩
      unfold getL
      rw [List.find?_cons]
      simp [Value.isStr]
    · rw [if_neg z] at e
      obtain ⟨u, hu, ru⟩ := getL_some r qs e
      refine ⟨u, ?_, ru⟩
      have ee : (Value.str n t).isStr name = false := by
        show (n == name) = false
        exact beq_eq_false_iff_ne.mpr fun z' => z z'.symm
      unfold getL at hu ⊢
      rw [List.find?_cons]
      simp only [ee]
      rw [List.any_cons]
      simpa [DictEntry.refKey] using hu

theorem inst_at {h : Heap} {x dx C : Addr} {es : List DictEntry} {n : Nat} (h1 : h.get? x = some (instObj C dx)) (h2 : h.get? dx = some (dictOf es n)) : InstAt h x (instObj C dx) C (some (dictOf es n)) := ⟨h1, rfl, rfl, h2⟩

theorem MethAt.inst {C f : Addr} {ns : List Str} {xs : List PV} {name : Str} (hg : plainGet G.K C name = true) (hf : findIn G.K (.ref C) name = some (some (.ref f))) (ht : isFn G.K (.ref f) = true) (hn : name ∉ ns) :
    MethAt G σ (.inst C ns xs) name (.ref f) := fun A Y as s v pl QQ E R r q => by
  cases r with
  | inst e1 e2 k1 k2 Es rs =>
    exact method_fn R.X (inst_at e1 e2) (plainGet_of hg).1 (plainGet_of hg).2 hf (beq_iff_eq.mp ht) (by show (lookIn name (dictOf _ _)).map _ = _; rw [lookIn_dict, getL_none Es hn]; rfl) q
end

section
variable {G : Gc} {d : Nat} {sc : Scope} {ρ : List (Str × PV)} {σ : List Cell} {Q : PV → List Cell → Prop}

section
variable {ok : Addr → Prop} {as : List Addr} {h : Heap} {vs : List Value}
theorem RVs.one {x : PV} (r : RVs G ok as h vs [x]) : ∃ v, vs = [v] ∧ RV G ok as h v x := by cases r with | cons r q => cases q; exact ⟨_, rfl, r⟩
theorem RVs.two {x y : PV} (r : RVs G ok as h vs [x, y]) : ∃ v u, vs = [v, u] ∧ RV G ok as h v x ∧ RV G ok as h u y := by
  cases r with | cons r q => obtain ⟨u, e, q'⟩ := q.one; subst e; exact ⟨_, u, rfl, r, q'⟩
theorem RVs.three {x y z : PV} (r : RVs G ok as h vs [x, y, z]) : ∃ v u t, vs = [v, u, t] ∧ RV G ok as h v x ∧ RV G ok as h u y ∧ RV G ok as h t z := by
  cases r with | cons r q => obtain ⟨u, t, e, q', q''⟩ := q.two; subst e; exact ⟨_, u, t, rfl, r, q', q''⟩
theorem RV.int_inv {v : Value} {i : Int} (r : RV G ok as h v (.int i)) : ∃ t, v = .int i t := by cases r; exact ⟨_, rfl⟩
theorem RV.str_inv {v : Value} {x : Str} (r : RV G ok as h v (.str x)) : ∃ t, v = .str x t := by cases r; exact ⟨_, rfl⟩
theorem RVs.strs {ys : List Str} (r : RVs G ok as h vs (ys.map PV.str)) : StrsAre vs ys := by
  induction ys generalizing vs with
  | nil => cases r; exact .nil
  | cons y ys ih => cases r with | cons r q => obtain ⟨t, rfl⟩ := r.str_inv; exact .cons y t (ih q)
theorem StrsAre.rvs {ys : List Str} (r : StrsAre vs ys) : RVs G ok as h vs (ys.map PV.str) := by
  induction r with
  | nil => exact .nil
  | cons y t _ ih => exact .cons (.str y t) ih
theorem rvs_strsFrom : ∀ (k : Nat) (ys : List Str), RVs G ok as h (strsFrom k ys) (ys.map PV.str)
  | _, [] => .nil
  | k, y :: ys => .cons (.str y k) (rvs_strsFrom (k + 1) ys)
end

section
variable {a b : Int}
theorem VC.add (h : Q (.int (a + b)) σ) : VC G d (bin2 .Add) [.int a, .int b] σ Q := fun A Y as s vs QQ E hA R r f => by
  obtain ⟨v, u, rfl, r1, r2⟩ := r.two
  obtain ⟨t, rfl⟩ := r1.int_inv; obtain ⟨t', rfl⟩ := r2.int_inv
  exact add_int (f _ _ as σ s.heap _ h .refl R (.int _ _))
theorem VC.sub (h : Q (.int (a - b)) σ) : VC G d (bin2 .Sub) [.int a, .int b] σ Q := fun A Y as s vs QQ E hA R r f => by
  obtain ⟨v, u, rfl, r1, r2⟩ := r.two
  obtain ⟨t, rfl⟩ := r1.int_inv; obtain ⟨t', rfl⟩ := r2.int_inv
  exact sub_int (f _ _ as σ s.heap _ h .refl R (.int _ _))
theorem VC.mul (hm : IntMulOk a b) (h : Q (.int (a * b)) σ) : VC G d (bin2 .Mult) [.int a, .int b] σ Q := fun A Y as s vs QQ E hA R r f => by
  obtain ⟨v, u, rfl, r1, r2⟩ := r.two
  obtain ⟨t, rfl⟩ := r1.int_inv; obtain ⟨t', rfl⟩ := r2.int_inv
  exact mul_int (f _ _ as σ s.heap _ h .refl R (.int _ _)) hm
theorem VC.fdiv (hb : b ≠ 0) (hp : Builtin.divisionGoesByPylong a b = false) (h : Q (.int (a.fdiv b)) σ) : VC G d (bin2 .FloorDiv) [.int a, .int b] σ Q := fun A Y as s vs QQ E hA R r f => by
  obtain ⟨v, u, rfl, r1, r2⟩ := r.two
  obtain ⟨t, rfl⟩ := r1.int_inv; obtain ⟨t', rfl⟩ := r2.int_inv
  exact floordiv_int hb (f _ _ as σ s.heap _ h .refl R (.int _ _)) (.inl hp)
theorem VC.fmod (hb : b ≠ 0) (h : Q (.int (a.fmod b)) σ) : VC G d (bin2 .Mod) [.int a, .int b] σ Q := fun A Y as s vs QQ E hA R r f => by
  obtain ⟨v, u, rfl, r1, r2⟩ := r.two
  obtain ⟨t, rfl⟩ := r1.int_inv; obtain ⟨t', rfl⟩ := r2.int_inv
  exact mod_int hb (f _ _ as σ s.heap _ h .refl R (.int _ _))
theorem VC.neg (h : Q (.int (-a)) σ) : VC G d (un1 .USub) [.int a] σ Q := fun A Y as s vs QQ E hA R r f => by
  obtain ⟨v, rfl, r1⟩ := r.one
  obtain ⟨t, rfl⟩ := r1.int_inv
  exact neg_int (f _ _ as σ s.heap _ h .refl R (.int _ _))
theorem VC.eq_int (h : Q (.bool (a == b)) σ) : VC G d (cmp2 .Eq) [.int a, .int b] σ Q := fun A Y as s vs QQ E hA R r f => by
  obtain ⟨v, u, rfl, r1, r2⟩ := r.two
  obtain ⟨t, rfl⟩ := r1.int_inv; obtain ⟨t', rfl⟩ := r2.int_inv
  exact PyProof.Rows.eq_int (f _ _ as σ s.heap _ h .refl R (.bool _))
theorem VC.ne_int (h : Q (.bool (a != b)) σ) : VC G d (cmp2 .NotEq) [.int a, .int b] σ Q := fun A Y as s vs QQ E hA R r f => by
  obtain ⟨v, u, rfl, r1, r2⟩ := r.two
  obtain ⟨t, rfl⟩ := r1.int_inv; obtain ⟨t', rfl⟩ := r2.int_inv
  exact PyProof.Rows.ne_int (f _ _ as σ s.heap _ h .refl R (.bool _))
theorem VC.lt_int (h : Q (.bool (decide (a < b))) σ) : VC G d (cmp2 .Lt) [.int a, .int b] σ Q := fun A Y as s vs QQ E hA R r f => by
  obtain ⟨v, u, rfl, r1, r2⟩ := r.two
  obtain ⟨t, rfl⟩ := r1.int_inv; obtain ⟨t', rfl⟩ := r2.int_inv
  exact PyProof.Rows.lt_int (f _ _ as σ s.heap _ h .refl R (.bool _))
theorem VC.gt_int (h : Q (.bool (decide (b < a))) σ) : VC G d (cmp2 .Gt) [.int a, .int b] σ Q := fun A Y as s vs QQ E hA R r f => by
  obtain ⟨v, u, rfl, r1, r2⟩ := r.two
  obtain ⟨t, rfl⟩ := r1.int_inv; obtain ⟨t', rfl⟩ := r2.int_inv
  exact PyProof.Rows.gt_int (f _ _ as σ s.heap _ h .refl R (.bool _))
end

section
variable {x y : Str}
theorem VC.adds (hl : x.length + y.length ≤ 100000) (h : Q (.str (x ++ y)) σ) : VC G d (bin2 .Add) [.str x, .str y] σ Q := fun A Y as s vs QQ E hA R r f => by
  obtain ⟨v, u, rfl, r1, r2⟩ := r.two
  obtain ⟨t, rfl⟩ := r1.str_inv; obtain ⟨t', rfl⟩ := r2.str_inv
  exact add_str (fun t tk => f _ _ as σ s.heap _ h .refl R (.str _ _)) (by rw [sizeLine_eq]; omega)
theorem VC.muls {n : Int} (hm : MulOk x n) (h : Q (.str (Txt.mul x n)) σ) : VC G d (bin2 .Mult) [.str x, .int n] σ Q := fun A Y as s vs QQ E hA R r f => by
  obtain ⟨v, u, rfl, r1, r2⟩ := r.two
  obtain ⟨t, rfl⟩ := r1.str_inv; obtain ⟨t', rfl⟩ := r2.int_inv
  exact SB.mul hm fun t tk => f _ _ as σ s.heap _ h .refl R (.str _ _)
theorem VC.eq_str (h : Q (.bool (x == y)) σ) : VC G d (cmp2 .Eq) [.str x, .str y] σ Q := fun A Y as s vs QQ E hA R r f => by
  obtain ⟨v, u, rfl, r1, r2⟩ := r.two
  obtain ⟨t, rfl⟩ := r1.str_inv; obtain ⟨t', rfl⟩ := r2.str_inv
  exact PyProof.Rows.eq_str (f _ _ as σ s.heap _ h .refl R (.bool _))
theorem VC.ne_str (h : Q (.bool (x != y)) σ) : VC G d (cmp2 .NotEq) [.str x, .str y] σ Q := fun A Y as s vs QQ E hA R r f => by
  obtain ⟨v, u, rfl, r1, r2⟩ := r.two
  obtain ⟨t, rfl⟩ := r1.str_inv; obtain ⟨t', rfl⟩ := r2.str_inv
  exact PyProof.Rows.ne_str (f _ _ as σ s.heap _ h .refl R (.bool _))
theorem VC.in_str (h : Q (.bool (Txt.contains y x)) σ) : VC G d (cmp2 .In) [.str x, .str y] σ Q := fun A Y as s vs QQ E hA R r f => by
  obtain ⟨v, u, rfl, r1, r2⟩ := r.two
  obtain ⟨t, rfl⟩ := r1.str_inv; obtain ⟨t', rfl⟩ := r2.str_inv
  exact P.in_str (f _ _ as σ s.heap _ h .refl R (.bool _))
theorem VC.in_list {ys : List Str} (h : Q (.bool (ys.any fun z => z == x)) σ) : VC G d (cmp2 .In) [.str x, .list (ys.map PV.str)] σ Q := fun A Y as s vs QQ E hA R r f => by
  obtain ⟨v, u, rfl, r1, r2⟩ := r.two
  obtain ⟨t, rfl⟩ := r1.str_inv
  cases r2 with
  | list g k rs => exact in_list_strs ⟨_, g, rfl, _, rfl⟩ rs.strs (f _ _ as σ s.heap _ h .refl R (.bool _))
theorem VC.notin_list {ys : List Str} (h : Q (.bool (!ys.any fun z => z == x)) σ) : VC G d (cmp2 .NotIn) [.str x, .list (ys.map PV.str)] σ Q := fun A Y as s vs QQ E hA R r f => by
  obtain ⟨v, u, rfl, r1, r2⟩ := r.two
  obtain ⟨t, rfl⟩ := r1.str_inv
  cases r2 with
  | list g k rs => exact notin_list_strs ⟨_, g, rfl, _, rfl⟩ rs.strs (f _ _ as σ s.heap _ h .refl R (.bool _))
end

/-- is it None? -/
def PV.isNone : PV → Bool
  | .none => true
  | .top v => v == .none
  | _ => false
theorem isNone_of {ok : Addr → Prop} {as : List Addr} {h : Heap} {v : Value} {x : PV} (r : RV G ok as h v x) : (v == Value.none) = x.isNone := by cases r <;> rfl
theorem VC.is_none {x : PV} (h : Q (.bool x.isNone) σ) : VC G d (cmp2 .Is) [x, .none] σ Q := fun A Y as s vs QQ E hA R r f => by
  obtain ⟨v, u, rfl, r1, r2⟩ := r.two
  cases r2
  refine is_none_gen ?_
  show QQ (.bool (v == Value.none)) s
  rw [isNone_of r1]; exact f _ _ as σ s.heap _ h .refl R (.bool _)
theorem VC.isnot_none {x : PV} (h : Q (.bool (!x.isNone)) σ) : VC G d (cmp2 .IsNot) [x, .none] σ Q := fun A Y as s vs QQ E hA R r f => by
  obtain ⟨v, u, rfl, r1, r2⟩ := r.two
  cases r2
  refine isNot_none ?_
  show QQ (.bool (!(v == Value.none))) s
  rw [isNone_of r1]; exact f _ _ as σ s.heap _ h .refl R (.bool _)

mutual
def pd : PV → PyData
  | .bool b => .bool b
  | .int i => .int i
  | .str x => .str x
  | .tup xs => .tuple (pds xs)
  | .list xs => .list (pds xs)
  | _ => .none
def pds : List PV → List PyData
  | [] => []
  | x :: xs => pd x :: pds xs
end
mutual
def isD : PV → Bool
  | .none | .bool _ | .int _ | .str _ => true
  | .tup xs | .list xs => isDs xs
  | _ => false
def isDs : List PV → Bool
  | [] => true
  | x :: xs => isD x && isDs xs
end
section
variable {ok : Addr → Prop} {as : List Addr} {h : Heap}
theorem reads_both : ∀ n : Nat, (∀ (x : PV) {v : Value}, sizeOf x ≤ n → RV G ok as h v x → isD x = true → ∃ bs, Reads h v (pd x) bs) ∧ (∀ (xs : List PV) {vs : List Value}, sizeOf xs ≤ n → RVs G ok as h vs xs → isDs xs = true → ∃ bs, ReadsAll h vs (pds xs) bs) := by
  intro n
  induction n with
  | zero => exact ⟨fun x v q => by cases x <;> simp at q, fun xs vs q => by cases xs <;> simp at q⟩
  | succ n ih =>
    refine ⟨fun x v q r hd => ?_, fun xs vs q r hd => ?_⟩
    · cases r with
      | none => exact ⟨_, Reads.none⟩
      | bool b => exact ⟨_, Reads.bool b⟩
      | int i t => exact ⟨_, Reads.int i _⟩
      | str x t => exact ⟨_, Reads.str x _⟩
      | tup e k r =>
        obtain ⟨bs, q⟩ := ih.2 _ (by simp at q; omega) r hd
        exact ⟨bs, reads_tuple_at e rfl rfl (by simpa using q)⟩
      | list e k r =>
        obtain ⟨bs, q⟩ := ih.2 _ (by simp at q; omega) r hd
        exact ⟨_, reads_list_at e rfl rfl (by simpa [PySem.W.listOf] using q)⟩
      | _ => exact absurd hd Bool.false_ne_true
    · cases r with
      | nil => exact ⟨_, ReadsAll.nil⟩
      | cons r rs =>
        obtain ⟨q1, q2⟩ := Bool.and_eq_true_iff.mp hd
        obtain ⟨bs, p⟩ := ih.1 _ (by simp at q; omega) r q1
        obtain ⟨cs, p'⟩ := ih.2 _ (by simp at q; omega) rs q2
        exact ⟨_, ReadsAll.cons p p'⟩
theorem reads_of (x : PV) {v : Value} (r : RV G ok as h v x) (q : isD x = true) : ∃ bs, Reads h v (pd x) bs := (reads_both _).1 x (Nat.le_refl _) r q
end
theorem VC.eq_data {x y : PV} (hx : isD x = true) (hy : isD y = true) (sx : SeqAt.shaped (pd x) = true) (sy : SeqAt.shaped (pd y) = true) (h : Q (.bool ((pd x).eqv (pd y))) σ) : VC G d (cmp2 .Eq) [x, y] σ Q := fun A Y as s vs QQ E hA R r f => by
  obtain ⟨v, u, rfl, r1, r2⟩ := r.two
  obtain ⟨_, p1⟩ := reads_of x r1 hx
  obtain ⟨_, p2⟩ := reads_of y r2 hy
  exact SeqAt.compareEq_shaped p1 p2 sx sy (by have := hA.un; omega) (f _ _ as σ s.heap _ h .refl R (.bool _))
theorem VC.ne_data {x y : PV} (hx : isD x = true) (hy : isD y = true) (sx : SeqAt.shaped (pd x) = true) (sy : SeqAt.shaped (pd y) = true) (h : Q (.bool (!(pd x).eqv (pd y))) σ) : VC G d (cmp2 .NotEq) [x, y] σ Q := fun A Y as s vs QQ E hA R r f => by
  obtain ⟨v, u, rfl, r1, r2⟩ := r.two
  obtain ⟨_, p1⟩ := reads_of x r1 hx
  obtain ⟨_, p2⟩ := reads_of y r2 hy
  exact SeqAt.compareNe_shaped p1 p2 sx sy (by have := hA.un; omega) (f _ _ as σ s.heap _ h .refl R (.bool _))

theorem VC.add_list {xs ys : List PV} (hl : xs.length + ys.length ≤ 100000) (h : Q (.list (xs ++ ys)) σ) : VC G d (bin2 .Add) [.list xs, .list ys] σ Q := fun A Y as s vs QQ E hA R r f => by
  obtain ⟨v, u, rfl, r1, r2⟩ := r.two
  cases r1 with
  | list g1 k1 q1 =>
    cases r2 with
    | list g2 k2 q2 =>
      rename_i l vs n b ws m
      have e : vs.toArray ++ ws.toArray = (vs ++ ws).toArray := by simp
      refine concat_meets ⟨_, g1, rfl⟩ ⟨_, g2, rfl⟩ noFill_list_add seq_list_add PySem.F.slot_list_add PySem.F.entry_list_add (PySem.F.args_list_add_2 _ _)
        (list_addW l b vs.toArray ws.toArray n m Option.none Option.none #[] #[] (by rw [List.size_toArray, List.size_toArray, q1.length, q2.length, sizeLine_eq]; omega)) ⟨g1, g2, ?_⟩
      rw [e]
      obtain ⟨x2, R2, k2⟩ := R.push { cls := .type "list", data := .seq (vs ++ ws).toArray }
      exact f _ _ as σ _ _ h x2 R2 (.list (Heap.get?_push_size _ rfl) k2 ((q1.append q2).up x2))

/-- calls of what is built in -/
abbrev callB (id : String) : List Value → Sem Value := fun vs => call (.builtin id) vs
abbrev callT (T : String) : List Value → Sem Value := fun vs => call (.type T) vs

theorem VC.len_list {xs : List PV} (hl : xs.length ≤ 100000) (h : Q (.int xs.length) σ) : VC G d (callB "len") [.list xs] σ Q := fun A Y as s vs QQ E hA R r f => by
  obtain ⟨v, rfl, r1⟩ := r.one
  cases r1 with
  | list g k q =>
    have e := q.length
    refine PyProof.Rows.len_list ⟨_, g, rfl, _, rfl⟩ (by rw [List.size_toArray, e]; omega) ?_
    rw [List.size_toArray, e]
    exact f _ _ as σ s.heap _ h .refl R (.int _ _)
theorem VC.len_str {x : Str} (hl : x.length ≤ 100000) (h : Q (.int x.length) σ) : VC G d (callB "len") [.str x] σ Q := fun A Y as s vs QQ E hA R r f => by
  obtain ⟨v, rfl, r1⟩ := r.one
  obtain ⟨t, rfl⟩ := r1.str_inv
  exact P.len_str (by omega) (f _ _ as σ s.heap _ h .refl R (.int _ _))
theorem VC.int_int {i : Int} (h : Q (.int i) σ) : VC G d (callT "int") [.int i] σ Q := fun A Y as s vs QQ E hA R r f => by
  obtain ⟨v, rfl, r1⟩ := r.one
  obtain ⟨t, rfl⟩ := r1.int_inv
  exact call_int_int (f _ _ as σ s.heap _ h .refl R (.int _ _))
theorem VC.int_str {x : Str} {n : Int} (hn : PySem.intText? x = some n) (hl : x.length ≤ 640) (h : Q (.int n) σ) : VC G d (callT "int") [.str x] σ Q := fun A Y as s vs QQ E hA R r f => by
  obtain ⟨v, rfl, r1⟩ := r.one
  obtain ⟨t, rfl⟩ := r1.str_inv
  exact KIN.call_text hn hl (f _ _ as σ s.heap _ h .refl R (.int _ _))
theorem VC.str_int {i : Int} (hi : i.natAbs < 1000000000) (h : Q (.str (Str.ofString (toString i))) σ) : VC G d (callT "str") [.int i] σ Q := fun A Y as s vs QQ E hA R r f => by
  obtain ⟨v, rfl, r1⟩ := r.one
  obtain ⟨t, rfl⟩ := r1.int_inv
  refine P.str_of_int ?_ (f _ _ as σ s.heap _ h .refl R (.str _ _))
  by_cases h0 : i.natAbs = 0
  · rw [h0]; decide +kernel
  · exact Nat.lt_of_lt_of_le ((Nat.log2_lt h0).mpr (by omega : i.natAbs < 2 ^ 30)) (by decide)
theorem VC.ord {c : Nat} (h : Q (.int c) σ) : VC G d (callB "ord") [.str ⟨#[c]⟩] σ Q := fun A Y as s vs QQ E hA R r f => by
  obtain ⟨v, rfl, r1⟩ := r.one
  obtain ⟨t, rfl⟩ := r1.str_inv
  exact P.ord_of_char (f _ _ as σ s.heap _ h .refl R (.int _ _))
theorem VC.chr {i : Int} (hi : (decide (i < 0) || decide (i > 1114111)) = false) (h : Q (.str ⟨#[i.toNat]⟩) σ) : VC G d (callB "chr") [.int i] σ Q := fun A Y as s vs QQ E hA R r f => by
  obtain ⟨v, rfl, r1⟩ := r.one
  obtain ⟨t, rfl⟩ := r1.int_inv
  exact P.chr_of_int hi (f _ _ as σ s.heap _ h .refl R (.str _ _))

theorem VC.lstrip {x y : Str} (hl : x.length ≤ 100000) (h : Q (.str (Txt.lstripChars x y)) σ) : VC G d (callB "str.lstrip") [.str x, .str y] σ Q := fun A Y as s vs QQ E hA R r f => by
  obtain ⟨v, u, rfl, r1, r2⟩ := r.two
  obtain ⟨t, rfl⟩ := r1.str_inv; obtain ⟨t', rfl⟩ := r2.str_inv
  exact SC.lstripChars (fun t k => f _ _ as σ s.heap _ h .refl R (.str _ _)) (by rw [sizeLine_eq]; omega)

theorem strValues_of {vs : List Value} {ys : List Str} (r : StrsAre vs ys) : ∃ l : List (Str × Tok), vs = strValues l ∧ l.map (·.1) = ys := by
  induction r with
  | nil => exact ⟨[], rfl, rfl⟩
  | cons y t _ ih => obtain ⟨l, rfl, rfl⟩ := ih; exact ⟨(y, t) :: l, rfl, rfl⟩
theorem VC.join {x : Str} {ys : List Str} (hj : JoinOk x ys = true) (h : Q (.str (Txt.join x ys)) σ) : VC G d (callB "str.join") [.str x, .list (ys.map PV.str)] σ Q := fun A Y as s vs QQ E hA R r f => by
  obtain ⟨v, u, rfl, r1, r2⟩ := r.two
  obtain ⟨t, rfl⟩ := r1.str_inv
  cases r2 with
  | list g k q =>
    obtain ⟨l, rfl, e⟩ := strValues_of q.strs
    exact SC.join ⟨_, g, rfl, _, rfl⟩ e hj fun t k => f _ _ as σ s.heap _ h .refl R (.str _ _)
/-- the list may still be one that is turned -/
theorem VC.join_cell {x : Str} {i : Nat} {ys : List Str} (e : σ[i]? = some (.lst (ys.map PV.str))) (hj : JoinOk x ys = true) (h : Q (.str (Txt.join x ys)) σ) : VC G d (callB "str.join") [.str x, .cell i] σ Q := fun A Y as s vs QQ E hA R r f => by
  obtain ⟨v, u, rfl, r1, r2⟩ := r.two
  obtain ⟨t, rfl⟩ := r1.str_inv
  cases r2 with
  | cell ea =>
    obtain ⟨vs, n, g, q⟩ := R.cells i _ _ ea e
    obtain ⟨l, rfl, el⟩ := strValues_of q.strs
    exact SC.join ⟨_, g, rfl, _, rfl⟩ el hj fun t k => f _ _ as σ s.heap _ h .refl R (.str _ _)
end

section
open PySem.Builtin PySem.Builtin.Str
variable {G : Gc} {d : Nat} {sc : Scope} {ρ : List (Str × PV)} {σ : List Cell} {Q : PV → List Cell → Prop}

theorem rvs_strValues {ok : Addr → Prop} {as : List Addr} {h : Heap} : ∀ (l : List (PySem.Str × Tok)), RVs G ok as h (strValues l) ((l.map (·.1)).map PV.str)
  | [] => .nil
  | (y, t) :: r => .cons (.str y t) (rvs_strValues r)

/-- a fresh list of texts -/
theorem new_strs {Y as : List Addr} {s : Shared} {QQ : Value → Shared → Prop} {l : List (PySem.Str × Tok)} {ys : List PySem.Str} (R : Rep G Y as σ s.heap) (e : l.map (·.1) = ys) (h : Q (.list (ys.map PV.str)) σ) (tk : Nat)
    (f : ∀ v pv as' σ' h' tk, Q pv σ' → Ext as σ s.heap as' σ' h' noF → Rep G Y as' σ' h' → RV G (okOf Y as' σ') as' h' v pv → QQ v { s with heap := h', toks := tk }) :
    QQ (.ref s.heap.objs.size) { s with heap := s.heap.push { cls := .type "list", data := .seq (strValues l).toArray }, toks := tk } := by
  obtain ⟨x2, R2, k2⟩ := R.push { cls := .type "list", data := .seq (strValues l).toArray }
  subst e
  exact f _ _ as σ _ _ h x2 R2 (.list (Heap.get?_push_size _ rfl) k2 (rvs_strValues l))

theorem VC.split0 {x : PySem.Str} (hl : x.length ≤ 100000) (h : Q (.list ((Txt.words x).map PV.str)) σ) : VC G d (callB "str.split") [.str x] σ Q := fun A Y as s vs QQ E hA R r f => by
  obtain ⟨v, rfl, r1⟩ := r.one
  obtain ⟨t, rfl⟩ := r1.str_inv
  have hn : (spaceWords x (x.length + 1)).length ≤ sizeLine := by
    have e1 := (StrLaws.sw_weight x).1
    have e2 := StrLaws.len_le_wsum (spaceWords x (x.length + 1))
    rw [sizeLine_eq]; omega
  refine call_meets PySem.F.slot_str_split (typeIs_str _ _ _) PySem.F.entry_str_split (PySem.F.args_str_split_1 _) (meets_str_split_space x t (by rw [sizeLine_eq]; omega) hn) ?_
  cases hw : spaceWords x (x.length + 1) == [(0, x.length)]
  · simp only [Bool.false_eq_true, if_false]
    rw [strsFrom_eq]
    exact new_strs (l := numbered s.toks (PySem.wordsOf x)) R ((numbered_texts _ _).trans (if_neg (ne_true_of_eq_false hw)).symm) h _ f
  · simp only [if_true]
    exact new_strs (l := [(x, t)]) R (if_pos hw).symm h s.toks f

theorem VC.split1 {x y : PySem.Str} (hy : (y.length == 0) = false) (hl : x.length ≤ 100000) (h : Q (.list ((Txt.split x y).map PV.str)) σ) : VC G d (callB "str.split") [.str x, .str y] σ Q := fun A Y as s vs QQ E hA R r f => by
  obtain ⟨v, u, rfl, r1, r2⟩ := r.two
  obtain ⟨t, rfl⟩ := r1.str_inv; obtain ⟨u, rfl⟩ := r2.str_inv
  have hn : (partsBetween x (occurrences x y 0 x.length (x.length + 1)) y.length).length ≤ sizeLine := by
    have e1 := StrLaws.occ_length_le x y 0 x.length (x.length + 1)
    rw [length_partsBetween, sizeLine_eq]; omega
  have hx : x.length ≤ sizeLine := by rw [sizeLine_eq]; omega
  cases h1 : (decide (x.length < y.length) || decide (strKind x < strKind y))
  · cases hf : (occurrences x y 0 x.length (x.length + 1)).isEmpty
    · refine call_meets PySem.F.slot_str_split (typeIs_str _ _ _) PySem.F.entry_str_split (PySem.F.args_str_split_2 _ _) (meets_str_split_sep x y t u h1 hy hf hx hn) ?_
      show wants QQ E _ { s with toks := _, heap := s.heap.push { cls := .type "list", data := .seq (strsFrom s.toks (partsBetween x (occurrences x y 0 x.length (x.length + 1)) y.length)).toArray } }
      rw [strsFrom_eq]
      exact new_strs (l := numbered s.toks _) R ((numbered_texts _ _).trans ((if_neg (ne_true_of_eq_false h1)).trans (if_neg (ne_true_of_eq_false hf))).symm) h _ f
    · exact call_meets PySem.F.slot_str_split (typeIs_str _ _ _) PySem.F.entry_str_split (PySem.F.args_str_split_2 _ _) (meets_str_split_not_found x y t u h1 hy hf)
        (new_strs (l := [(x, t)]) R ((if_neg (ne_true_of_eq_false h1)).trans (if_pos hf)).symm h s.toks f)
  · exact call_meets PySem.F.slot_str_split (typeIs_str _ _ _) PySem.F.entry_str_split (PySem.F.args_str_split_2 _ _) (meets_str_split_cannot_occur x y t u h1)
      (new_strs (l := [(x, t)]) R (if_pos h1).symm h s.toks f)

theorem VC.split2 {x y : PySem.Str} {k : Int} (hy : (y.length == 0) = false) (hk : (decide (k < -(2 ^ 63 : Int)) || decide (k ≥ 2 ^ 63)) = false) (hl : x.length ≤ 100000) (h : Q (.list ((Txt.splitMax x y k).map PV.str)) σ) :
    VC G d (callB "str.split") [.str x, .str y, .int k] σ Q := fun A Y as s vs QQ E hA R r f => by
  obtain ⟨v, u, w, rfl, r1, r2, r3⟩ := r.three
  obtain ⟨t, rfl⟩ := r1.str_inv; obtain ⟨u, rfl⟩ := r2.str_inv; obtain ⟨v, rfl⟩ := r3.int_inv
  have hn : (partsBetween x (occurrences x y 0 x.length (limitOf x k)) y.length).length ≤ sizeLine := by
    have e1 := StrLaws.occ_length_le_len x y 0 x.length (limitOf x k)
    rw [length_partsBetween, sizeLine_eq]; omega
  have hx : x.length ≤ sizeLine := by rw [sizeLine_eq]; omega
  cases h1 : (decide (x.length < y.length) || decide (strKind x < strKind y))
  · cases hf : (occurrences x y 0 x.length (limitOf x k)).isEmpty
    · refine call_meets PySem.F.slot_str_split (typeIs_str _ _ _) PySem.F.entry_str_split (PySem.F.args_str_split_3 _ _ _) (meets_str_split_sep_max x y k t u v hk h1 hy hf hx hn) ?_
      show wants QQ E _ { s with toks := _, heap := s.heap.push { cls := .type "list", data := .seq (strsFrom s.toks (partsBetween x (occurrences x y 0 x.length (limitOf x k)) y.length)).toArray } }
      rw [strsFrom_eq]
      exact new_strs (l := numbered s.toks _) R ((numbered_texts _ _).trans ((if_neg (ne_true_of_eq_false h1)).trans (if_neg (ne_true_of_eq_false hf))).symm) h _ f
    · exact call_meets PySem.F.slot_str_split (typeIs_str _ _ _) PySem.F.entry_str_split (PySem.F.args_str_split_3 _ _ _) (meets_str_split_max_not_found x y k t u v hk h1 hy hf)
        (new_strs (l := [(x, t)]) R ((if_neg (ne_true_of_eq_false h1)).trans (if_pos hf)).symm h s.toks f)
  · exact call_meets PySem.F.slot_str_split (typeIs_str _ _ _) PySem.F.entry_str_split (PySem.F.args_str_split_3 _ _ _) (meets_str_split_max_cannot_occur x y k t u v hk h1)
      (new_strs (l := [(x, t)]) R (if_pos h1).symm h s.toks f)

/-- what a cell is set to -/
theorem Live.set {as : List Addr} {i : Nat} {c c' : Cell} {a : Addr} (e : σ[i]? = some c) (n : c ≠ .dead) (q : Live as (σ.set i c') a) : Live as σ a := by
  obtain ⟨j, c₂, e1, e2, n2⟩ := q
  by_cases hij : i = j
  · subst hij; exact ⟨i, c, e1, e, n⟩
  · rw [List.getElem?_set_ne hij] at e2; exact ⟨j, c₂, e1, e2, n2⟩
theorem Rep.put {Y as : List Addr} {h h' : Heap} {i : Nat} {a : Addr} {c c' : Cell} (R : Rep G Y as σ h) (ea : as[i]? = some a) (e : σ[i]? = some c) (n : c ≠ .dead) (hs : Heap.SameBut a h h')
    (hc : Ext as σ h as (σ.set i c') h' noF → CellRep G (okOf Y as (σ.set i c')) as h' a c') (ha : h'.get? a ≠ none) : Ext as σ h as (σ.set i c') h' noF ∧ Rep G Y as (σ.set i c') h' := by
  have la : Live as σ a := ⟨i, c, ea, e, n⟩
  have x : Ext as σ h as (σ.set i c') h' noF := ⟨⟨[], by simp⟩, fun b q => .inl (q.set e n), fun b o eb nb _ => (hs.2 b fun z => nb (z ▸ la)).trans eb⟩
  have ya : a ∉ Y := R.ny a (List.mem_of_getElem? ea)
  refine ⟨x, fun b o eb => x.keep b o (R.base b o eb) (R.lowNotLive (by rw [eb]; exact fun z => nomatch z)) (fun f => f.elim), fun y m => ?_, R.ylo, by rw [List.length_set]; exact R.len, R.lo, fun b m => ?_, R.ny, R.nd, fun j b c₂ e1 e2 => ?_⟩
  · rw [hs.2 y fun z => ya (z ▸ m)]; exact R.yal y m
  · by_cases z : b = a
    · subst z; exact ha
    · rw [hs.2 b z]; exact R.al b m
  · by_cases hij : i = j
    · subst hij
      rw [List.getElem?_set] at e2
      simp only [if_true] at e2
      have : b = a := by rw [ea] at e1; exact (Option.some.inj e1).symm
      subst this
      split at e2
      · cases e2; exact hc x
      · cases e2
    · rw [List.getElem?_set_ne hij] at e2
      have q := R.cells j b c₂ e1 e2
      have ba : b ≠ a := fun z => hij (nodup_idx R.nd ea (z ▸ e1))
      cases c₂ with
      | lst xs => obtain ⟨vs, k, g, r⟩ := q; exact ⟨vs, k, (hs.2 b ba).trans g, r.up x⟩
      | arr xs => obtain ⟨vs, o, g, E, r⟩ := q; exact ⟨vs, o, (hs.2 b ba).trans g, E, r.up x⟩
      | dct ns xs => obtain ⟨o, vs, g, E, r⟩ := q; exact ⟨o, vs, (hs.2 b ba).trans g, E, r.up x⟩
      | dead => trivial

theorem VC.append {i : Nat} {xs : List PV} {x : PV} (e : σ[i]? = some (.lst xs)) (hl : xs.length ≤ 100000) (h : Q .none (σ.set i (.lst (xs ++ [x])))) : VC G d (callB "list.append") [.cell i, x] σ Q := fun A Y as s vs QQ E hA R r f => by
  obtain ⟨v, u, rfl, r1, r2⟩ := r.two
  cases r1 with
  | cell ea =>
    obtain ⟨vs, n, g, q⟩ := R.cells i _ _ ea e
    refine append_at g (fun h' hs ho => ?_) (by rw [List.size_toArray, q.length, sizeLine_eq]; omega)
    obtain ⟨x1, R1⟩ := R.put (c' := .lst (xs ++ [x])) ea e (fun z => nomatch z) hs (fun X => ⟨vs ++ [u], n + 1, by rw [ho]; simp [PySem.W.listOf], (q.append (.cons r2 .nil)).up X⟩) (by rw [ho]; exact fun z => nomatch z)
    exact f _ _ as _ h' _ h x1 R1 .none

/-- a value that hands out items -/
def GI (G : Gc) (d : Nat) (o i : PV) (σ : List Cell) (Q : PV → List Cell → Prop) : Prop :=
  ∀ (A : Around) (Y as : List Addr) (s : Shared) (v u : Value) (QQ E : Value → Shared → Prop), AOk A d → Rep G Y as σ s.heap → RV G (okOf Y as σ) as s.heap v o → RV G (okOf Y as σ) as s.heap u i →
    (∀ v pv as' σ' h' tk, Q pv σ' → Ext as σ s.heap as' σ' h' noF → Rep G Y as' σ' h' → RV G (okOf Y as' σ') as' h' v pv → QQ v { s with heap := h', toks := tk }) →
    ItemOn (model G.prog G.w) A E v u QQ s
theorem subs_ops (slice : Expr) (o i : Value) : ∃ ops, subscripted slice false o i = operate ops (getItem o i) := by
  unfold subscripted
  split
  · exact ⟨_, rfl⟩
  · rename_i h; exact absurd h Bool.false_ne_true
  · exact ⟨_, rfl⟩
theorem tail_item {prog : Program} {w : World} {A : Around} {E : Value → Shared → Prop} {s : Shared} {value slice : Expr} {o i : Value} {QQ : Value → Shared → Prop} (h : ItemOn (model prog w) A E o i QQ s) :
    wpAny (model prog w) A (subscriptTail value slice o i) QQ E s := by
  obtain ⟨T, id, hl, hT, hg⟩ := h
  obtain ⟨ops, e⟩ := subs_ops slice o i
  exact tail_any hT hl hg e
theorem EV.sub {value slice : Expr} {pos : Pos} (h : EV G d sc value ρ σ fun o σ1 => EV G d sc slice ρ σ1 fun i σ2 => GI G d o i σ2 Q) : EV G d sc (.Subscript value slice pos) ρ σ Q := fun A env Y as s QQ E hA hE R L f => by
  refine Subscript_ (h A env Y as s _ E hA hE R L fun vo o as1 σ1 h1 tk1 q1 x1 R1 r1 => ?_)
  refine q1 A env Y as1 _ _ E hA hE R1 (L.up R hE x1) fun vi i as2 σ2 h2 tk2 q2 x2 R2 r2 => ?_
  exact tail_item (q2 A Y as2 _ vo vi QQ E hA R2 (r1.up x2) r2 fun v pv as3 σ3 h3 tk3 q3 x3 R3 r3 => f v pv as3 σ3 h3 tk3 q3 (x1.trans (x2.trans x3)) R3 r3)

theorem seq_index {k : Int} {n : Nat} (h0 : 0 ≤ k) (hk : k.toNat < n) : seqIndex? k n = some k.toNat := by
  have e : (decide (0 ≤ k) && decide (k < (n : Int))) = true := by rw [decide_eq_true h0, decide_eq_true (by omega : k < (n : Int))]; rfl
  unfold seqIndex?
  simp only [if_neg (by omega : ¬ k < 0)]
  rw [if_pos e]
theorem GI.tup {xs : List PV} {k : Int} {x : PV} (h0 : 0 ≤ k) (hk : k < 2 ^ 63) (hx : xs[k.toNat]? = some x) (h : Q x σ) : GI G d (.tup xs) (.int k) σ Q := fun A Y as s v u QQ E hA R r1 r2 f => by
  obtain ⟨t, rfl⟩ := r2.int_inv
  cases r1 with
  | tup g kk q =>
    obtain ⟨y, hy, ry⟩ := q.get hx
    exact ⟨"tuple", _, PySem.F.slot_tuple_getitem.lookup, ⟨_, g, rfl⟩, PyProof.Rows.getItem_tuple (j := k.toNat) ⟨_, g, rfl, _, rfl⟩ (by omega) hk (seq_index h0 (by simpa using (List.getElem?_eq_some_iff.mp hy).1)) (by simpa using hy) (f _ _ as σ s.heap _ h .refl R ry)⟩
theorem GI.list {xs : List PV} {k : Int} {x : PV} (h0 : 0 ≤ k) (hk : k < 2 ^ 63) (hx : xs[k.toNat]? = some x) (h : Q x σ) : GI G d (.list xs) (.int k) σ Q := fun A Y as s v u QQ E hA R r1 r2 f => by
  obtain ⟨t, rfl⟩ := r2.int_inv
  cases r1 with
  | list g kk q =>
    obtain ⟨y, hy, ry⟩ := q.get hx
    exact ⟨"list", _, slot_list_getitem.lookup, ⟨_, g, rfl⟩, wpAny_getItem_list ⟨_, g, rfl, _, rfl⟩ h0 hk (by simpa using hy) (f _ _ as σ s.heap _ h .refl R ry)⟩
theorem GI.cell {j : Nat} {xs : List PV} {k : Int} {x : PV} (e : σ[j]? = some (.lst xs)) (h0 : 0 ≤ k) (hk : k < 2 ^ 63) (hx : xs[k.toNat]? = some x) (h : Q x σ) : GI G d (.cell j) (.int k) σ Q := fun A Y as s v u QQ E hA R r1 r2 f => by
  obtain ⟨t, rfl⟩ := r2.int_inv
  cases r1 with
  | cell ea =>
    obtain ⟨vs, n, g, q⟩ := R.cells j _ _ ea e
    obtain ⟨y, hy, ry⟩ := q.get hx
    exact ⟨"list", _, slot_list_getitem.lookup, ⟨_, g, rfl⟩, wpAny_getItem_list ⟨_, g, rfl, _, rfl⟩ h0 hk (by simpa using hy) (f _ _ as σ s.heap _ h .refl R ry)⟩
theorem GI.arr {j : Nat} {xs : List PV} {k : Int} {x : PV} (e : σ[j]? = some (.arr xs)) (h0 : 0 ≤ k) (hk : k < 2 ^ 63) (hx : xs[k.toNat]? = some x) (h : Q x σ) : GI G d (.cell j) (.int k) σ Q := fun A Y as s v u QQ E hA R r1 r2 f => by
  obtain ⟨t, rfl⟩ := r2.int_inv
  cases r1 with
  | cell ea =>
    obtain ⟨vs, o, g, E, q⟩ := R.cells j _ _ ea e
    obtain ⟨y, hy, ry⟩ := q.get hx
    exact ⟨"list", _, slot_list_getitem.lookup, ⟨_, g, E.1⟩, wpAny_getItem_list ⟨_, g, E⟩ h0 hk (by simpa using hy) (f _ _ as σ s.heap _ h .refl R ry)⟩
theorem GI.str {x : PySem.Str} {k : Int} (hk : fitsSsize k = true) (hx : (Txt.charAt x k).isSome = true) (h : Q (.str (Txt.item x k)) σ) : GI G d (.str x) (.int k) σ Q := fun A Y as s v u QQ E hA R r1 r2 f => by
  obtain ⟨t, rfl⟩ := r1.str_inv
  obtain ⟨t', rfl⟩ := r2.int_inv
  exact SB.item hk hx (f _ _ as σ s.heap _ h .refl R (.str _ _))

theorem valueAt_zip {ok : Addr → Prop} {as : List Addr} {h : Heap} {x : PySem.Str} {pv : PV} : ∀ {ns : List PySem.Str} {vs : List Value} {xs : List PV}, RVs G ok as h vs xs → (ns.zip xs).lookup x = some pv → ∃ v, valueAt (ns.zip vs) x = some v ∧ RV G ok as h v pv
  | [], _, _, _, e => by simp at e
  | n :: ns, _, _, .nil, e => by simp at e
  | n :: ns, v :: vs, y :: xs, .cons r rs, e => by
    rw [List.zip_cons_cons, lookup_cons] at e
    by_cases z : x = n
    · subst z; rw [if_pos rfl] at e; cases e
      exact ⟨v, by simp [valueAt], r⟩
    · rw [if_neg z] at e
      obtain ⟨u, hu, ru⟩ := valueAt_zip rs e
      refine ⟨u, ?_, ru⟩
      unfold valueAt at hu ⊢
      simpa [List.find?_cons, Ne.symm z] using hu
theorem GI.dict {ns : List PySem.Str} {xs : List PV} {x : PySem.Str} {pv : PV} (hx : (ns.zip xs).lookup x = some pv) (h : Q pv σ) : GI G d (.dict ns xs) (.str x) σ Q := fun A Y as s v u QQ E hA R r1 r2 f => by
  obtain ⟨t, rfl⟩ := r2.str_inv
  cases r1 with
  | dict g kk D q lo =>
    obtain ⟨y, hy, ry⟩ := valueAt_zip q hx
    have hD := Heap.dictOf_iff.mpr ⟨_, g, D⟩
    exact ⟨"dict", _, slot_dict_getitem.lookup, hD.typeIs, wpAny_getItem_of (strKind_is _ _ x t) hD.mapOf hy (f _ _ as σ s.heap _ h .refl R ry)⟩
theorem GI.dct {j : Nat} {ns : List PySem.Str} {xs : List PV} {x : PySem.Str} {pv : PV} (e : σ[j]? = some (.dct ns xs)) (hx : (ns.zip xs).lookup x = some pv) (h : Q pv σ) : GI G d (.cell j) (.str x) σ Q := fun A Y as s v u QQ E hA R r1 r2 f => by
  obtain ⟨t, rfl⟩ := r2.str_inv
  cases r1 with
  | cell ea =>
    obtain ⟨o, vs, g, D, q⟩ := R.cells j _ _ ea e
    obtain ⟨y, hy, ry⟩ := valueAt_zip q hx
    have hD := Heap.dictOf_iff.mpr ⟨_, g, D⟩
    exact ⟨"dict", _, slot_dict_getitem.lookup, hD.typeIs, wpAny_getItem_of (strKind_is _ _ x t) hD.mapOf hy (f _ _ as σ s.heap _ h .refl R ry)⟩
end

section
variable {G : Gc} {d : Nat} {sc : Scope} {ρ : List (Str × PV)} {σ : List Cell} {Q : PV → List Cell → Prop}

/-- a slice's end -/
def EP (G : Gc) (d : Nat) (sc : Scope) (e : Option Expr) (ρ : List (Str × PV)) (σ : List Cell) (Q : Option Int → List Cell → Prop) : Prop :=
  match e with
  | .none => Q .none σ
  | some e => EV G d sc e ρ σ fun v σ1 => ∃ i, v = .int i ∧ Q (some i) σ1
theorem EP.no {Q : Option Int → List Cell → Prop} (h : Q .none σ) : EP G d sc .none ρ σ Q := h
theorem EP.yes {e : Expr} {Q : Option Int → List Cell → Prop} (h : EV G d sc e ρ σ fun v σ1 => ∃ i, v = .int i ∧ Q (some i) σ1) : EP G d sc (some e) ρ σ Q := h

theorem EP.run {e : Option Expr} {Q : Option Int → List Cell → Prop} (h : EP G d sc e ρ σ Q) {A : Around} {env : Env} {Y as : List Addr} {s : Shared} {QQ E : Value → Shared → Prop} (hA : AOk A d) (hE : EnvOk sc env Y) (R : Rep G Y as σ s.heap) (L : LocRep G env ρ Y as σ s.heap)
    (f : ∀ v i as' σ' h' tk, IsPart v i → Q i σ' → Ext as σ s.heap as' σ' h' noF → Rep G Y as' σ' h' → QQ v { s with heap := h', toks := tk }) : wpAny (model G.prog G.w) A (evalPart e env) QQ E s := by
  cases e with
  | none => rw [evalPart_none]; exact wpAny_pure (f _ _ as σ s.heap s.toks .none h .refl R)
  | some e =>
    rw [evalPart_some]
    refine h A env Y as s _ E hA hE R L fun v pv as1 σ1 h1 tk1 q1 x1 R1 r1 => ?_
    obtain ⟨i, rfl, q1⟩ := q1
    obtain ⟨t, rfl⟩ := r1.int_inv
    exact f _ _ as1 σ1 h1 tk1 (.int i t) q1 x1 R1

/-- what the slice picks -/
def pickP {α : Type} (xs : List α) (lo hi : Option Int) : List α := (sliceRange (sliceBounds lo hi .none xs.length).1 (sliceBounds lo hi .none xs.length).2.1 (sliceBounds lo hi .none xs.length).2.2).filterMap fun i => xs[i]?
theorem rvs_pick {ok : Addr → Prop} {as : List Addr} {h : Heap} {vs : List Value} {xs : List PV} (r : RVs G ok as h vs xs) : ∀ l : List Nat, RVs G ok as h (l.filterMap fun i => vs[i]?) (l.filterMap fun i => xs[i]?)
  | [] => .nil
  | i :: l => by
    have ih := rvs_pick r l
    rw [List.filterMap_cons, List.filterMap_cons]
    cases e : xs[i]? with
    | none =>
      have e2 : vs[i]? = Option.none := by rw [List.getElem?_eq_none_iff] at e ⊢; rw [r.length]; exact e
      rw [e2]; exact ih
    | some x =>
      obtain ⟨v, hv, rv⟩ := r.get e
      rw [hv]; exact .cons rv ih
theorem slicePick_eq (vs : List Value) (lo hi : Option Int) : slicePick vs.toArray lo hi .none = (pickP vs lo hi).toArray := by
  unfold slicePick pickP
  rw [List.size_toArray]
  congr 2
  funext i
  simp
theorem RVs.pick {ok : Addr → Prop} {as : List Addr} {h : Heap} {vs : List Value} {xs : List PV} (r : RVs G ok as h vs xs) (lo hi : Option Int) : RVs G ok as h (pickP vs lo hi) (pickP xs lo hi) := by
  unfold pickP
  rw [r.length]
  exact rvs_pick r _

theorem EV.slice_list {value : Expr} {lo hi : Option Expr} {p pos : Pos} (h : EV G d sc value ρ σ fun o σ1 => ∃ xs, o = .list xs ∧ xs.length ≤ 100000 ∧ EP G d sc lo ρ σ1 fun l σ2 => EP G d sc hi ρ σ2 fun u σ3 => Q (.list (pickP xs l u)) σ3) :
    EV G d sc (.Subscript value (.Slice lo hi .none p) pos) ρ σ Q := fun A env Y as s QQ E hA hE R L f => by
  refine Subscript_ (h A env Y as s _ E hA hE R L fun vo o as1 σ1 h1 tk1 q1 x1 R1 r1 => ?_)
  obtain ⟨xs, rfl, hl, q1⟩ := q1
  refine wpAny_Slice (q1.run hA hE R1 (L.up R hE x1) fun vl l as2 σ2 h2 tk2 pl q2 x2 R2 => ?_)
  refine q2.run hA hE R2 (L.up R hE (x1.trans x2)) fun vu u as3 σ3 h3 tk3 pu q3 x3 R3 => ?_
  rw [evalPart_none]
  refine wpAny_pure (tail_item ?_)
  have r3 := (r1.up x2).up x3
  cases r3 with
  | list g k rs =>
    rename_i a vs n
    obtain ⟨x4, R4, k4⟩ := R3.push { cls := .type "slice", data := .fields #[vl, vu, .none] }
    refine ⟨"list", _, slot_list_getitem.lookup, ⟨_, Heap.get?_push_of_some _ g, rfl⟩, wpAny_getItem_list_slice (items := vs.toArray) ⟨_, Heap.get?_push_of_some _ g, rfl, _, rfl⟩ (Heap.IsSliceOf.new ..) pl pu .none (by simp) ?_ ?_⟩
    · rw [slicePick_eq]
      obtain ⟨x5, R5, k5⟩ := R4.push { cls := .type "list", data := .seq (pickP vs l u).toArray }
      exact f _ _ as3 σ3 _ _ q3 (x1.trans (x2.trans (x3.trans (x4.trans x5)))) R5 (.list (Heap.get?_push_size _ rfl) k5 (((rs.pick l u).up x4).up x5))
    · rw [List.size_toArray, rs.length, sizeLine_eq]; omega

theorem EV.slice_str {value : Expr} {lo hi : Option Expr} {p pos : Pos} (h : EV G d sc value ρ σ fun o σ1 => ∃ x, o = .str x ∧ x.length ≤ 100000 ∧ EP G d sc lo ρ σ1 fun l σ2 => EP G d sc hi ρ σ2 fun u σ3 => Q (.str (Txt.slice x l u)) σ3) :
    EV G d sc (.Subscript value (.Slice lo hi .none p) pos) ρ σ Q := fun A env Y as s QQ E hA hE R L f => by
  refine Subscript_ (h A env Y as s _ E hA hE R L fun vo o as1 σ1 h1 tk1 q1 x1 R1 r1 => ?_)
  obtain ⟨x, rfl, hl, q1⟩ := q1
  obtain ⟨t, rfl⟩ := r1.str_inv
  refine wpAny_Slice (q1.run hA hE R1 (L.up R hE x1) fun vl l as2 σ2 h2 tk2 pl q2 x2 R2 => ?_)
  refine q2.run hA hE R2 (L.up R hE (x1.trans x2)) fun vu u as3 σ3 h3 tk3 pu q3 x3 R3 => ?_
  rw [evalPart_none]
  refine wpAny_pure (tail_item ?_)
  have hk : KeptH fun h' => ∀ b o, h3.get? b = some o → h'.get? b = some o := fun h o q b o' e => Heap.get?_push_of_some _ (q b o' e)
  have out : ∀ (h' : Heap) (t' : Tok) (k : Nat), (∀ b o, h3.get? b = some o → h'.get? b = some o) → QQ (.str (Txt.slice x l u) t') { s with heap := h', toks := k } := fun h' t' k q =>
    f _ _ as3 σ3 h' k q3 (x1.trans (x2.trans (x3.trans (Ext.grown q)))) (R3.grown q) (.str _ _)
  have hz : x.length ≤ sizeLine := by rw [sizeLine_eq]; omega
  cases pl with
  | none =>
    cases pu with
    | none => exact SBH.sliceItem_nn (s := { s with heap := h3, toks := tk3 }) hk (fun _ _ e => e) out hz
    | int j uj => exact SBH.sliceItem_ns (s := { s with heap := h3, toks := tk3 }) hk (fun _ _ e => e) out hz
  | int i ui =>
    cases pu with
    | none => exact SBH.sliceItem_sn (s := { s with heap := h3, toks := tk3 }) hk (fun _ _ e => e) out hz
    | int j uj => exact SBH.sliceItem_ss (s := { s with heap := h3, toks := tk3 }) hk (fun _ _ e => e) out hz

/-- is it a thing of the top? -/
def PV.isTop : PV → Bool
  | .top _ => true
  | _ => false
theorem handed_of {ok : Addr → Prop} {as : List Addr} {h : Heap} {v : Value} {x : PV} (r : RV G ok as h v x) (n : x.isTop = false) : handedIn v = true := by cases r <;> first | rfl | cases n

theorem EV.attr {value : Expr} {attr : Str} {pos : Pos} (h : EV G d sc value ρ σ fun o σ1 => ∃ C ns xs x, o = .inst C ns xs ∧ plainGet G.K C attr = true ∧ hasDictIn G.K C = true ∧ findIn G.K (.ref C) attr = some Option.none ∧
      (ns.zip xs).lookup attr = some x ∧ x.isTop = false ∧ Q x σ1)
    (he : ∀ env, eval (.Attribute value attr pos) env = (do
      let o ← eval value env
      standAt pos.atName
      let r ← holding [o] (getAttr o attr true)
      letTemporaryGo value o r
      pure r) := by intro _; with_unfolding_all rfl) : EV G d sc (.Attribute value attr pos) ρ σ Q := fun A env Y as s QQ E hA hE R L f => by
  refine Attribute_any_ (h A env Y as s _ E hA hE R L fun vo o as1 σ1 h1 tk1 q1 x1 R1 r1 => ?_) (he env)
  obtain ⟨C, ns, xs, x, rfl, hg, hd, hf, hx, hn, q1⟩ := q1
  cases r1 with
  | inst e1 e2 k1 k2 Es rs =>
    obtain ⟨v, hv, rv⟩ := getL_some Es rs hx
    refine get_value R1.X (inst_at e1 e2) (plainGet_of hg).1 (findObj_own hd hf rfl hv) (handed_of rv hn) ?_
    exact f _ _ as1 σ1 h1 _ q1 x1 R1 rv

/-- isinstance against an own class -/
structure IsiK (K : Frag) (D : Addr) : Prop where
  hg : plainGet K D "__class__" = true
  hdct : hasDictIn K D = true
  ha : findIn K (.ref D) "__class__" = some (some (.builtin "object.__class__"))
  hn : specialIn K (.builtin "object.__class__") "__get__" = some (some (.builtin "getset_descriptor.__get__"))
  htk : takesIn K (.builtin "object.__class__") = some true
  hm : mroIn K D (.type "object") = some true
theorem VC.isi_yes {C : Addr} {ns : List Str} {xs : List PV} (hi : isIn G.K (.ref C) C = true) (h : Q (.bool true) σ) : VC G d (callB "isinstance") [.inst C ns xs, .top (.ref C)] σ Q := fun A Y as s vs QQ E hA R r f => by
  obtain ⟨v, u, rfl, r1, r2⟩ := r.two
  cases r2
  cases r1 with
  | inst e1 e2 k1 k2 Es rs =>
    exact isi_call R.X (fun M => (inst_at e1 e2).type) hi (by intro e; cases e) (f _ _ as σ s.heap _ h .refl R (.bool _))
theorem VC.isi_no {C D : Addr} {ns : List Str} {xs : List PV} (I : IsiK G.K D) (hi : kin_not G.K D C = true) (h : Q (.bool false) σ) : VC G d (callB "isinstance") [.inst D ns xs, .top (.ref C)] σ Q := fun A Y as s vs QQ E hA R r f => by
  obtain ⟨v, u, rfl, r1, r2⟩ := r.two
  cases r2
  cases r1 with
  | inst e1 e2 k1 k2 Es rs =>
    exact kin_callC R.X (inst_at e1 e2) hi I.hg I.hdct I.ha I.hn I.htk I.hm (f _ _ as σ s.heap _ h .refl R (.bool _))
end

section
variable {G : Gc} {d : Nat} {sc : Scope} {ρ : List (Str × PV)} {σ : List Cell} {Qn : List (Str × PV) → List Cell → Prop} {Qr : PV → List Cell → Prop}

def nameOf : Expr → Option Str
  | .Name x _ => some x
  | _ => .none
def namesOf : List Expr → Option (List Str)
  | [] => some []
  | e :: r => match nameOf e with | some x => (namesOf r).map (x :: ·) | .none => .none
def StoreTree (env : Env) (t : Value → Sem Unit) (x : Str) : Prop := ∀ (M : Model) (A : Around) (v : Value) (Q : Unit → Shared → Prop) (E : Value → Shared → Prop) (s : Shared), wpAny M A (storeName env x v) Q E s → wpAny M A (t v) Q E s
inductive Sts (env : Env) : List (Value → Sem Unit) → List Str → Prop
  | nil : Sts env [] []
  | cons {t ts x xs} : StoreTree env t x → Sts env ts xs → Sts env (t :: ts) (x :: xs)
theorem nameOf_some {e : Expr} {x : Str} (h : nameOf e = some x) : ∃ p, e = .Name x p := by
  unfold nameOf at h
  split at h
  · cases h; exact ⟨_, rfl⟩
  · cases h
theorem sts_names (env : Env) : ∀ (es : List Expr) {ns : List Str}, namesOf es = some ns → Sts env ((assignEach es env).map (·.2)) ns ∧ (assignEach es env).length = ns.length ∧ (assignEach es env).findIdx? (·.1) = Option.none := by
  intro es
  induction es with
  | nil => intro _ e; cases e; exact ⟨.nil, rfl, rfl⟩
  | cons e0 r ih =>
    intro _ e
    unfold namesOf at e
    cases hx : nameOf e0 with
    | none => rw [hx] at e; cases e
    | some x =>
      rw [hx] at e
      obtain ⟨p, rfl⟩ := nameOf_some hx
      obtain ⟨ns, hr, rfl⟩ := Option.map_eq_some_iff.mp e
      obtain ⟨a, b, c⟩ := ih hr
      have he : assignEach (.Name x p :: r) env = (false, assign (.Name x p) env) :: assignEach r env := rfl
      rw [he]
      refine ⟨.cons (fun M A v Q E s h => wpAny_assign_Name h) a, by simp [b], ?_⟩
      rw [List.findIdx?_cons, c]; rfl
theorem sts_bind (env : Env) : ∀ ns : List Str, Sts env (ns.map fun n => bindName env n) ns
  | [] => .nil
  | x :: r => .cons (fun M A v Q E s h => wpAny_bindName h) (sts_bind env r)

theorem stores_all {F : Addr → Prop} {A : Around} {env : Env} {Y as : List Addr} {E : Value → Shared → Prop} (hE : EnvOk sc env Y) (hC : CkOk sc env) :
    ∀ {ts : List (Value → Sem Unit)} {ns : List Str}, Sts env ts ns → ∀ {vs : List Value} {xs : List PV} {ρ : List (Str × PV)} {s : Shared} {QQ : Unit → Shared → Prop}, (∀ x ∈ ns, sc.names.lookup x = some .local ∨ sc.names.lookup x = some .cell) → (F env.locals ∧ ∀ x ∈ ns, Tch sc env Y F x) → ns.length = vs.length →
      Rep G Y as σ s.heap → LocRep G env ρ Y as σ s.heap → RVs G (okOf Y as σ) as s.heap vs xs →
      (∀ h' tk, Ext as σ s.heap as σ h' F → Rep G Y as σ h' → LocRep G env ((ns.zip xs).reverse ++ ρ) Y as σ h' → QQ () { s with heap := h', toks := tk }) →
      wpAny (model G.prog G.w) A (assignInOrder ts vs) QQ E s := by
  intro ts ns hS
  induction hS with
  | nil =>
    intro vs xs ρ s QQ hk hT hl R L r q
    cases vs with
    | nil => cases r; exact assignInOrder_nil (q s.heap _ .refl R L)
    | cons _ _ => cases hl
  | @cons t ts x ns ht hts ih =>
    intro vs xs ρ s QQ hk hT hl R L r q
    cases vs with
    | nil => cases hl
    | cons v vs =>
      cases r with
      | cons r rs =>
        refine assignInOrder_cons (ht _ _ _ _ _ _ (store_at (hk _ (.head _)) hE hC (hT.2 _ (.head _)) R L r fun h1 tk1 x1 R1 L1 => ?_))
        refine ih (fun y hy => hk y (.tail _ hy)) ⟨hT.1, fun y hy => hT.2 y (.tail _ hy)⟩ (by simpa using hl) R1 L1 (rs.ext x1 (hT.2 _ (.head _)).2.1) fun h2 tk2 x2 R2 L2 => ?_
        refine q h2 tk2 (x1.trans x2) R2 ?_
        rw [List.zip_cons_cons, List.reverse_cons, List.append_assoc]
        exact L2

/-- a value whose items can be unpacked -/
inductive Seqq (σ : List Cell) : PV → List PV → Prop
  | tup (xs : List PV) : Seqq σ (.tup xs) xs
  | list (xs : List PV) : Seqq σ (.list xs) xs
  | cell {i : Nat} {xs : List PV} : σ[i]? = some (.lst xs) → Seqq σ (.cell i) xs
theorem unpack_items {A : Around} {Y as : List Addr} {s : Shared} {v : Value} {x : PV} {xs : List PV} {n : Nat} {QQ : List Value → Shared → Prop} {E : Value → Shared → Prop} (hh : A.handled = .none) (R : Rep G Y as σ s.heap) (r : RV G (okOf Y as σ) as s.heap v x) (q : Seqq σ x xs) (hn : n = xs.length)
    (f : ∀ h' vs, RVs G (okOf Y as σ) as s.heap vs xs → (∀ b o, s.heap.get? b = some o → h'.get? b = some o) → QQ vs { s with heap := h' }) : wpAny (model G.prog G.w) A (unpackItems v n .none) QQ E s := by
  have up : ∀ {h' : Heap}, Heap.ExtBut s.heap.objs.size s.heap h' → ∀ b o, s.heap.get? b = some o → h'.get? b = some o := fun e b o eb => e b o (fun z => by rw [z, get_size] at eb; cases eb) eb
  have eq : ∀ {vs : List Value}, RVs G (okOf Y as σ) as s.heap vs xs → n = vs.toArray.size := fun r => by rw [hn, List.size_toArray, r.length]
  cases q with
  | tup =>
    cases r with
    | tup g k rs => rw [eq rs]; exact unpackItems_tuple hh ⟨_, g, rfl, _, rfl⟩ fun h' e => f h' _ (by simpa using rs) (up e)
  | list =>
    cases r with
    | list g k rs => rw [eq rs]; exact kun_itemsOf hh ⟨_, g, rfl, _, rfl⟩ fun h' e => f h' _ (by simpa using rs) (up e)
  | cell e =>
    cases r with
    | cell ea =>
      obtain ⟨vs, m, g, rs⟩ := R.cells _ _ _ ea e
      rw [eq rs]; exact kun_itemsOf hh ⟨_, g, rfl, _, rfl⟩ fun h' e => f h' _ (by simpa using rs) (up e)

/-- assigning to a target that is a tuple of names -/
theorem unpack_to {F : Addr → Prop} {A : Around} {env : Env} {Y as : List Addr} {s : Shared} {E : Value → Shared → Prop} {elts : List Expr} {k : Nat} {tpos : Pos} {ns : List Str} {v : Value} {x : PV} {xs : List PV} {QQ : Unit → Shared → Prop} (hA : AOk A d) (hE : EnvOk sc env Y) (hC : CkOk sc env)
    (R : Rep G Y as σ s.heap) (L : LocRep G env ρ Y as σ s.heap) (r : RV G (okOf Y as σ) as s.heap v x) (q : Seqq σ x xs) (hns : namesOf elts = some ns) (hl : ns.length = xs.length) (hk : ∀ x ∈ ns, sc.names.lookup x = some .local ∨ sc.names.lookup x = some .cell) (hT : F env.locals ∧ ∀ x ∈ ns, Tch sc env Y F x)
    (f : ∀ h' tk, Ext as σ s.heap as σ h' F → Rep G Y as σ h' → LocRep G env ((ns.zip xs).reverse ++ ρ) Y as σ h' → QQ () { s with heap := h', toks := tk }) : wpAny (model G.prog G.w) A (assign (.Tuple elts k tpos) env v) QQ E s := by
  obtain ⟨a, b, c⟩ := sts_names env _ hns
  rw [assign_Tuple]
  refine wpAny_bind (wpAny_standAt ?_)
  unfold unpack
  rw [b, c]
  refine wpAny_bind (wpAny_holding (unpack_items hA.hh R r q hl fun h' vs rs up => ?_))
  have x1 : Ext as σ s.heap as σ h' noF := Ext.grown up
  have rs' := rs.up x1
  exact stores_all hE hC a hk hT (by rw [hl, rs.length]) (R.grown up) (L.up R hE x1) rs' fun h2 tk x2 R2 L2 => f h2 tk (x1.no.trans x2) R2 L2

theorem EX.unpack {elts : List Expr} {k : Nat} {tpos pos : Pos} {e : Expr} {rest : List Stmt} {ns : List Str}
    (h : EV G d sc e ρ σ fun v σ1 => ∃ xs, Seqq σ1 v xs ∧ ns.length = xs.length ∧ EX G d sc rest ((ns.zip xs).reverse ++ ρ) σ1 Qn Qr) (hns : namesOf elts = some ns) (hk : ∀ x ∈ ns, sc.names.lookup x = some .local ∨ sc.names.lookup x = some .cell)
    (hw : ∀ env, env.scope = sc → swappedStores [.Tuple elts k tpos] e env = pure Option.none := by intro _ _; rfl) (hs : ∀ env, swapsWithSole [.Tuple elts k tpos] e pos.line env = pure false := by intro _; rfl) :
    EX G d sc (.Assign [.Tuple elts k tpos] e pos :: rest) ρ σ Qn Qr := fun A env Y as s QQ E hA hE hC R L f g => by
  refine wpAny_execs_cons (Assign_Tuple (h A env Y as s _ E hA hE R L fun v pv as1 σ1 h1 tk1 q1 x1 R1 r1 => ?_) (hs env) (hw env hE.sce))
  obtain ⟨xs, sq, hl, q1⟩ := q1
  refine unpack_to hA hE hC R1 (L.up R hE x1) r1 sq hns hl hk ⟨.inl rfl, fun _ _ => .own hE⟩ fun h2 tk2 x2 R2 L2 => ?_
  have x12 := (x1.no (F := own env)).trans x2
  exact q1 A env Y as1 _ QQ E hA hE hC R2 L2 (fun ρ' as' σ' h' tk q x3 => f ρ' as' σ' h' tk q (x12.trans x3)) fun v pv as' σ' h' tk q x3 => g v pv as' σ' h' tk q (x12.trans x3)

theorem zip_rev {α β : Type} : ∀ {l : List α} {m : List β}, l.length = m.length → (l.reverse.zip m.reverse).reverse = l.zip m
  | [], [], _ => rfl
  | a :: l, b :: m, h => by
    have hl : l.length = m.length := by simpa using h
    rw [List.reverse_cons, List.reverse_cons, List.zip_append (by simp [hl]), List.reverse_append, zip_rev hl]
    rfl
theorem RVs.rev {ok : Addr → Prop} {as : List Addr} {h : Heap} : ∀ {vs : List Value} {xs : List PV}, RVs G ok as h vs xs → RVs G ok as h vs.reverse xs.reverse
  | _, _, .nil => .nil
  | _, _, .cons r rs => by rw [List.reverse_cons, List.reverse_cons]; exact rs.rev.append (.cons r .nil)
theorem Sts.rev {env : Env} (ns : List Str) : Sts env (ns.reverse.map fun n => bindName env n) ns.reverse := sts_bind env ns.reverse

/-- two or three names at once, the last stored first -/
theorem EX.swapped {elts : List Expr} {k : Nat} {tpos pos : Pos} {e : Expr} {rest : List Stmt} {ns : List Str}
    (h : EV G d sc e ρ σ fun v σ1 => ∃ xs, Seqq σ1 v xs ∧ ns.length = xs.length ∧ EX G d sc rest (ns.zip xs ++ ρ) σ1 Qn Qr) (hk : ∀ x ∈ ns, sc.names.lookup x = some .local ∨ sc.names.lookup x = some .cell)
    (hw : ∀ env, env.scope = sc → swappedStores [.Tuple elts k tpos] e env = pure (some ns)) (hs : ∀ env, swapsWithSole [.Tuple elts k tpos] e pos.line env = pure false := by intro _; rfl) :
    EX G d sc (.Assign [.Tuple elts k tpos] e pos :: rest) ρ σ Qn Qr := fun A env Y as s QQ E hA hE hC R L f g => by
  refine wpAny_execs_cons (Assign_Tuple_swapped (h A env Y as s _ E hA hE R L fun v pv as1 σ1 h1 tk1 q1 x1 R1 r1 => ?_) (hs env) (hw env hE.sce))
  obtain ⟨xs, sq, hl, q1⟩ := q1
  refine unpack_items hA.hh R1 r1 sq hl fun h2 vs rs up => ?_
  have x2 : Ext as1 σ1 h1 as1 σ1 h2 noF := Ext.grown up
  have L1 := L.up R hE x1
  refine stores_all (F := own env) hE hC (Sts.rev ns) (fun y hy => hk y (List.mem_reverse.mp hy)) ⟨.inl rfl, fun _ _ => .own hE⟩ (by rw [List.length_reverse, List.length_reverse, hl, rs.length]) (R1.grown up) (L1.up R1 hE x2) (rs.up x2).rev fun h3 tk3 x3 R3 L3 => ?_
  rw [zip_rev hl] at L3
  have x13 := ((x1.trans x2).no (F := own env)).trans x3
  exact q1 A env Y as1 _ QQ E hA hE hC R3 L3 (fun ρ' as' σ' h' tk q x4 => f ρ' as' σ' h' tk q (x13.trans x4)) fun v pv as' σ' h' tk q x4 => g v pv as' σ' h' tk q (x13.trans x4)

theorem EX.set_arr {o i e : Expr} {pos' pos : Pos} {rest : List Stmt}
    (h : EV G d sc e ρ σ fun v σ1 => EV G d sc o ρ σ1 fun ov σ2 => EV G d sc i ρ σ2 fun iv σ3 => ∃ j xs k, ov = .cell j ∧ σ3[j]? = some (.arr xs) ∧ iv = .int k ∧ 0 ≤ k ∧ k < 2 ^ 63 ∧ k.toNat < xs.length ∧ EX G d sc rest ρ (σ3.set j (.arr (xs.set k.toNat v))) Qn Qr)
    (hs : ∀ env, swapsWith e (some (.Subscript o i pos')) pos.line env = pure false := by intro _; rfl) : EX G d sc (.Assign [.Subscript o i pos'] e pos :: rest) ρ σ Qn Qr := fun A env Y as s QQ E hA hE hC R L f g => by
  refine wpAny_execs_cons (wpAny_Assign_Subscript (h A env Y as s _ E hA hE R L fun v pv as1 σ1 h1 tk1 q1 x1 R1 r1 => ?_) (hs env))
  refine q1 A env Y as1 _ _ E hA hE R1 (L.up R hE x1) fun vo o as2 σ2 h2 tk2 q2 x2 R2 r2 => ?_
  refine q2 A env Y as2 _ _ E hA hE R2 (L.up R hE (x1.trans x2)) fun vi i as3 σ3 h3 tk3 q3 x3 R3 r3 => ?_
  obtain ⟨j, xs, k, rfl, e3, rfl, h0, hk, hj, q3⟩ := q3
  obtain ⟨t, rfl⟩ := r3.int_inv
  cases r2.up x3 with
  | cell ea =>
    obtain ⟨vs, ob, gg, En, rs⟩ := R3.cells j _ _ ea e3
    refine wpAny_setItem_list ⟨ob, gg, En⟩ h0 hk (by rw [List.size_toArray, rs.length]; omega) fun h4 hl hs4 => ?_
    obtain ⟨o4, ho4, E4⟩ := hl
    have x123 := x1.trans (x2.trans x3)
    obtain ⟨x4, R4⟩ := R3.put (c' := .arr (xs.set k.toNat pv)) ea e3 (fun z => nomatch z) hs4
      (fun X => ⟨vs.set k.toNat v, o4, ho4, ⟨E4.1, by obtain ⟨n, hn⟩ := E4.2; exact ⟨n, by rw [hn]; simp⟩⟩, (rs.set k.toNat (r1.up (x2.trans x3))).up X⟩) (by rw [ho4]; exact fun z => nomatch z)
    have x14 := (x123.trans x4).no (F := own env)
    exact q3 A env Y as3 _ QQ E hA hE hC R4 ((L.up R hE x123).up R3 hE x4) (fun ρ' as' σ' h' tk q x5 => f ρ' as' σ' h' tk q (x14.trans x5)) fun v pv as' σ' h' tk q x5 => g v pv as' σ' h' tk q (x14.trans x5)

theorem stored_zip {x : Str} {v : Value} : ∀ {ns : List Str} {vs : List Value} {k : Nat}, ns.Nodup → ns.length = vs.length → ns[k]? = some x → stored (ns.zip vs) x v = ns.zip (vs.set k v) := by
  intro ns vs k nd hl hk
  have hany : ((ns.zip vs).any fun kv => decide (kv.1 = x)) = true := by
    have hlt := (List.getElem?_eq_some_iff.mp hk).1
    refine List.any_eq_true.mpr ⟨(x, vs[k]'(hl ▸ hlt)), ?_, by simp⟩
    refine List.mem_iff_getElem?.mpr ⟨k, ?_⟩
    rw [List.getElem?_zip_eq_some]
    exact ⟨hk, List.getElem?_eq_getElem _⟩
  unfold stored
  rw [if_pos hany]
  refine List.ext_getElem? fun j => ?_
  rw [List.getElem?_map]
  by_cases hj : j < ns.length
  · have e1 : (ns.zip vs)[j]? = some (ns[j], vs[j]'(hl ▸ hj)) := by
      rw [List.getElem?_zip_eq_some]; exact ⟨List.getElem?_eq_getElem _, List.getElem?_eq_getElem _⟩
    rw [e1, Option.map_some]
    by_cases z : j = k
    · subst z
      have : ns[j] = x := by rw [List.getElem?_eq_getElem hj] at hk; exact Option.some.inj hk
      rw [if_pos this]
      symm
      rw [List.getElem?_zip_eq_some]
      refine ⟨List.getElem?_eq_getElem _, ?_⟩
      rw [List.getElem?_set]; simp [hl ▸ hj]
    · have : ns[j] ≠ x := fun q => z (nodup_idx nd (a := x) (by rw [List.getElem?_eq_getElem hj, q]) hk)
      rw [if_neg this]
      symm
      rw [List.getElem?_zip_eq_some]
      refine ⟨List.getElem?_eq_getElem _, ?_⟩
      rw [List.getElem?_set_ne (Ne.symm z)]; exact List.getElem?_eq_getElem _
  · have h1 : (ns.zip vs)[j]? = Option.none := List.getElem?_eq_none (by simp; omega)
    have h2 : (ns.zip (vs.set k v))[j]? = Option.none := List.getElem?_eq_none (by simp; omega)
    rw [h1, h2]; rfl

theorem EX.set_dct {o i e : Expr} {pos' pos : Pos} {rest : List Stmt}
    (h : EV G d sc e ρ σ fun v σ1 => EV G d sc o ρ σ1 fun ov σ2 => EV G d sc i ρ σ2 fun iv σ3 => ∃ j ns xs x k, ov = .cell j ∧ σ3[j]? = some (.dct ns xs) ∧ iv = .str x ∧ ns.Nodup ∧ ns.length = xs.length ∧ ns.length ≤ 1000 ∧ ns[k]? = some x ∧ EX G d sc rest ρ (σ3.set j (.dct ns (xs.set k v))) Qn Qr)
    (hs : ∀ env, swapsWith e (some (.Subscript o i pos')) pos.line env = pure false := by intro _; rfl) : EX G d sc (.Assign [.Subscript o i pos'] e pos :: rest) ρ σ Qn Qr := fun A env Y as s QQ E hA hE hC R L f g => by
  refine wpAny_execs_cons (wpAny_Assign_Subscript (h A env Y as s _ E hA hE R L fun v pv as1 σ1 h1 tk1 q1 x1 R1 r1 => ?_) (hs env))
  refine q1 A env Y as1 _ _ E hA hE R1 (L.up R hE x1) fun vo o as2 σ2 h2 tk2 q2 x2 R2 r2 => ?_
  refine q2 A env Y as2 _ _ E hA hE R2 (L.up R hE (x1.trans x2)) fun vi i as3 σ3 h3 tk3 q3 x3 R3 r3 => ?_
  obtain ⟨j, ns, xs, x, k, rfl, e3, rfl, nd, hl, hz, hj, q3⟩ := q3
  obtain ⟨t, rfl⟩ := r3.str_inv
  cases r2.up x3 with
  | cell ea =>
    obtain ⟨ob, vs, gg, D, rs⟩ := R3.cells j _ _ ea e3
    refine wpAny_setItem_pairs (strKind_is _ _ x t) (Heap.dictOf_iff.mpr ⟨ob, gg, D⟩) (fun h4 hD hs4 => ?_) (by rw [List.length_zip, sizeLine_eq]; omega)
    rw [stored_zip nd (by rw [hl, rs.length]) hj] at hD
    obtain ⟨o4, ho4, D4⟩ := Heap.dictOf_iff.mp hD
    have x123 := x1.trans (x2.trans x3)
    obtain ⟨x4, R4⟩ := R3.put (c' := .dct ns (xs.set k pv)) ea e3 (fun z => nomatch z) hs4
      (fun X => ⟨o4, vs.set k v, ho4, D4, (rs.set k (r1.up (x2.trans x3))).up X⟩) (by rw [ho4]; exact fun z => nomatch z)
    have x14 := (x123.trans x4).no (F := own env)
    exact q3 A env Y as3 _ QQ E hA hE hC R4 ((L.up R hE x123).up R3 hE x4) (fun ρ' as' σ' h' tk q x5 => f ρ' as' σ' h' tk q (x14.trans x5)) fun v pv as' σ' h' tk q x5 => g v pv as' σ' h' tk q (x14.trans x5)
end

section
variable {G : Gc} {d : Nat} {sc : Scope} {ρ : List (Str × PV)} {σ : List Cell} {Qn : List (Str × PV) → List Cell → Prop} {Qr : PV → List Cell → Prop}

theorem VC.range {n : Int} {Q : PV → List Cell → Prop} (h : Q (.rng n) σ) : VC G d (callT "range") [.int n] σ Q := fun A Y as s vs QQ E hA R r f => by
  obtain ⟨v, rfl, r1⟩ := r.one
  obtain ⟨t, rfl⟩ := r1.int_inv
  obtain ⟨x2, R2, k2⟩ := R.push { cls := .type "range", data := .fields #[.int 0 s.toks, .int n t, .int 1 (s.toks + 1)] }
  exact call_range_1 (f _ _ as σ _ _ h x2 R2 (.rng (IsRange.new ..) k2))

/-- an iterator that stands before these items -/
inductive ItAt (G : Gc) (Y as : List Addr) (σ : List Cell) (h : Heap) (I : Addr) : List PV → Prop
  | list {l : Addr} {i : Nat} {full : List PV} : h.IsListIter I l i → RV G (okOf Y as σ) as h (.ref l) (.list full) → ItAt G Y as σ h I (full.drop i)
  | range {a : Int} {n : Nat} : IsRangeIter h I a n 1 → ItAt G Y as σ h I ((List.range n).map fun j : Nat => PV.int (a + j))

section
variable {Y as as' : List Addr} {σ' : List Cell} {h h' : Heap} {I : Addr} {xs : List PV}
theorem ItAt.mono {Y' : List Addr} (t : ItAt G Y as σ h I xs) (hI : ∀ o, h.get? I = some o → h'.get? I = some o) (hr : ∀ v x, RV G (okOf Y as σ) as h v x → RV G (okOf Y' as' σ') as' h' v x) : ItAt G Y' as' σ' h' I xs := by
  cases t with
  | list hit r => obtain ⟨o, ho, q⟩ := hit; exact .list ⟨o, hI o ho, q⟩ (hr _ _ r)
  | range hit => exact .range (hI _ hit)
theorem ItAt.there (t : ItAt G Y as σ h I xs) : h.get? I ≠ .none := by
  cases t with
  | list hit r => obtain ⟨o, ho, q⟩ := hit; rw [ho]; exact fun z => nomatch z
  | range hit => rw [show h.get? I = some _ from hit]; exact fun z => nomatch z
end

section
variable {Y as : List Addr} {s : Shared} {A : Around} {I : Addr}
/-- to begin -/
theorem iter_begin {v : Value} {x : PV} {xs : List PV} {QQ E : Value → Shared → Prop} (R : Rep G Y as σ s.heap) (r : RV G (okOf Y as σ) as s.heap v x)
    (hx : x = .list xs ∨ ∃ n : Nat, n ≤ 100000 ∧ x = .rng n ∧ xs = (List.range n).map fun j : Nat => PV.int j)
    (f : ∀ h' I, s.heap.get? I = Option.none → (∀ b o, s.heap.get? b = some o → h'.get? b = some o) → Rep G ([I] ++ Y) as σ h' → ItAt G ([I] ++ Y) as σ h' I xs → QQ (.ref I) { s with heap := h' }) : wpAny (model G.prog G.w) A (pyIter v) QQ E s := by
  have fI : s.heap.get? s.heap.objs.size = Option.none := get_size s.heap
  have kk : ∀ (o : Obj) b o', s.heap.get? b = some o' → (s.heap.push o).get? b = some o' := fun o b o' e => Heap.get?_push_of_some o e
  have en : ∀ o : Obj, o.isFreed = false → Rep G ([s.heap.objs.size] ++ Y) as σ (s.heap.push o) := fun o ho => R.enter (kk o) fun z m => by
    rw [List.mem_singleton.mp m]; exact ⟨fI, by rw [Heap.get?_push_size s.heap ho]; exact fun z => nomatch z⟩
  have hz : ∀ z ∈ [s.heap.objs.size], s.heap.get? z = Option.none := fun z m => by rw [List.mem_singleton.mp m]; exact fI
  rcases hx with rfl | ⟨n, hn, rfl, rfl⟩
  · cases r with
    | list g k rs =>
      refine wpAny_pyIter_list ⟨_, g, rfl, _, rfl⟩ (f _ _ fI (kk _) (en _ rfl) ?_)
      exact .list (i := 0) ⟨_, Heap.get?_push_size _ rfl, rfl, rfl⟩ (RV.mono (ok_enter (kk _) hz) (fun _ _ e => e) (RV.list g k rs))
  · cases r with
    | rng g k =>
      have hs : Builtin.Range.small 0 (n : Int) 1 = true := small_one (by omega) (by omega) (by omega) (by omega)
      refine wpAny_pyIter_range g hs ?_
      have e : Builtin.Range.rangeSize 0 (n : Int) 1 = n := by rw [rangeSize_one]; split <;> omega
      rw [e]
      refine f _ _ fI (kk _) (en _ rfl) ?_
      have := ItAt.range (G := G) (Y := [s.heap.objs.size] ++ Y) (as := as) (σ := σ) (h := s.heap.push { cls := .type "range_iterator", data := .fields #[rawInt 0, rawInt (n : Int), rawInt 1] }) (I := s.heap.objs.size) (a := 0) (n := n) (Heap.get?_push_size _ rfl)
      simpa using this
/-- the same iterator again -/
theorem iter_self {xs : List PV} {QQ E : Value → Shared → Prop} (t : ItAt G Y as σ s.heap I xs) (f : QQ (.ref I) s) : wpAny (model G.prog G.w) A (pyIter (.ref I)) QQ E s := by
  cases t with
  | list hit r => exact wpAny_pyIter_listiter hit f
  | range hit => exact wpAny_pyIter_rangeiter hit f
theorem iter_end {QQ : Option Value → Shared → Prop} {E : Value → Shared → Prop} (hh : A.handled = .none) (t : ItAt G Y as σ s.heap I []) (f : ∀ h', Heap.ExtBut I s.heap h' → QQ .none { s with heap := h' }) :
    wpAny (model G.prog G.w) A (pyNext (.ref I)) QQ E s := by
  generalize e : ([] : List PV) = xs at t
  cases t with
  | list hit r =>
    cases r with
    | list g k rs =>
      refine wpAny_pyNext_list_end hh hit ⟨_, g, rfl, _, rfl⟩ ?_ f
      have := rs.length
      have e' := congrArg List.length e
      simp at e'
      simp; omega
  | range hit =>
    have e' := congrArg List.length e
    simp at e'
    exact wpAny_pyNext_range_end hh hit (by omega) f
theorem iter_item {x : PV} {xs : List PV} {QQ : Option Value → Shared → Prop} {E : Value → Shared → Prop} (R : Rep G Y as σ s.heap) (hI : I ∈ Y) (t : ItAt G Y as σ s.heap I (x :: xs))
    (f : ∀ v h' tk, Heap.SameBut I s.heap h' → ItAt G Y as σ h' I xs → RV G (okOf Y as σ) as h' v x → (∃ l i, h'.IsListIter I l i ∨ v.onHeap = false) → QQ (some v) { s with heap := h', toks := tk }) : wpAny (model G.prog G.w) A (pyNext (.ref I)) QQ E s := by
  have up : ∀ {h' : Heap}, Heap.SameBut I s.heap h' → ∀ v x, RV G (okOf Y as σ) as s.heap v x → RV G (okOf Y as σ) as h' v x := fun hs v x r => RV.mono (fun b o e k => ⟨(hs.2 b fun z => k.1 (z ▸ hI)).trans e, k⟩) (fun _ _ e => e) r
  generalize e : x :: xs = ys at t
  cases t with
  | @list l i full hit r =>
    have hx : full[i]? = some x := by
      have := congrArg (·[0]?) e
      simpa using this.symm
    have hxs : xs = full.drop (i + 1) := by
      have := congrArg List.tail e
      simpa using this
    have r' := r
    cases r' with
    | list g k rs =>
      obtain ⟨v, hv, rv⟩ := rs.get hx
      refine wpAny_pyNext_list_item hit ⟨_, g, rfl, _, rfl⟩ (x := v) (by simpa using hv) fun h' hit' hs => ?_
      exact f v h' s.toks hs (hxs ▸ .list hit' (up hs _ _ r)) (up hs _ _ rv) ⟨l, i + 1, .inl hit'⟩
  | @range a n hit =>
    cases n with
    | zero => simp at e
    | succ n =>
      rw [List.range_succ_eq_map, List.map_cons, List.map_map] at e
      obtain ⟨e1, e2⟩ := List.cons.inj e
      refine wpAny_pyNext_range_item hit (by omega) fun h' hit' hs => ?_
      have e3 : xs = (List.range n).map fun j : Nat => PV.int (a + 1 + j) := by
        rw [e2]; apply List.map_congr_left; intro j _; simp; omega
      refine f _ h' _ hs ?_ ?_ ⟨0, 0, .inr rfl⟩
      · rw [e3]; exact .range (by simpa using hit')
      · rw [e1]; simpa using RV.int (G := G) (ok := okOf Y as σ) (as := as) (h := h') a s.toks
end

/-- what a target makes of an item -/
inductive BindT (sc : Scope) (σ : List Cell) (ρ : List (Str × PV)) : Expr → PV → List (Str × PV) → Prop
  | name {x : Str} {p : Pos} {v : PV} : sc.names.lookup x = some .local → BindT sc σ ρ (.Name x p) v ((x, v) :: ρ)
  | tuple {elts : List Expr} {k : Nat} {p : Pos} {v : PV} {ns : List Str} {ys : List PV} : namesOf elts = some ns → (∀ x ∈ ns, sc.names.lookup x = some .local) → Seqq σ v ys → ns.length = ys.length →
      BindT sc σ ρ (.Tuple elts k p) v ((ns.zip ys).reverse ++ ρ)

theorem target_go {A : Around} {s : Shared} {I : Addr} {v : Value} {x : PV} {t : Expr} {ρ' : List (Str × PV)} {Y as : List Addr} {QQ : Unit → Shared → Prop} {E : Value → Shared → Prop} (b : BindT sc σ ρ t x ρ') (r : RV G (okOf Y as σ) as s.heap v x)
    (hi : ∃ l i, s.heap.IsListIter I l i ∨ v.onHeap = false) (q : QQ () s) : wpAny (model G.prog G.w) A (letOwnedTupleGo t (.ref I) v) QQ E s := by
  cases b with
  | name _ => exact wpAny_pure q
  | tuple _ _ sq _ =>
    obtain ⟨l, i, hi⟩ := hi
    have : ∃ T, v = .ref T := by
      cases sq with
      | tup => cases r; exact ⟨_, rfl⟩
      | list => cases r; exact ⟨_, rfl⟩
      | cell _ => cases r; exact ⟨_, rfl⟩
    obtain ⟨T, rfl⟩ := this
    rcases hi with hi | hi
    · exact wpAny_letOwnedTupleGo_listiter hi q
    · cases hi
theorem target_at {A : Around} {env : Env} {s : Shared} {v : Value} {x : PV} {t : Expr} {ρ' : List (Str × PV)} {Y as : List Addr} {QQ : Unit → Shared → Prop} {E : Value → Shared → Prop} (hA : AOk A d) (hE : EnvOk sc env Y) (hC : CkOk sc env)
    (R : Rep G Y as σ s.heap) (L : LocRep G env ρ Y as σ s.heap) (b : BindT sc σ ρ t x ρ') (r : RV G (okOf Y as σ) as s.heap v x)
    (f : ∀ h' tk, Ext as σ s.heap as σ h' (· = env.locals) → Rep G Y as σ h' → LocRep G env ρ' Y as σ h' → QQ () { s with heap := h', toks := tk }) : wpAny (model G.prog G.w) A (assign t env v) QQ E s := by
  cases b with
  | name hk => exact wpAny_assign_Name (store_at (.inl hk) hE hC (.loc hE hk) R L r f)
  | tuple hns hk sq hl => exact unpack_to (F := (· = env.locals)) hA hE hC R L r sq hns hl (fun x m => .inl (hk x m)) ⟨rfl, fun x m => .loc hE (hk x m)⟩ f

/-- leave a place out of sight again -/
theorem Rep.drop {Y Z as : List Addr} {h h' : Heap} (R : Rep G (Z ++ Y) as σ h) (hd : ∀ z ∈ Z, z ∉ Y) (k : ∀ b o, h.get? b = some o → b ∉ Z → h'.get? b = some o) : Rep G Y as σ h' where
  base := fun b o e => k b o (R.base b o e) fun m => by rw [R.ylo b (List.mem_append_left _ m)] at e; cases e
  yal := fun y m => by
    cases e : h.get? y with
    | none => exact absurd e (R.yal y (List.mem_append_right _ m))
    | some o => rw [k y o e fun z => hd y z m]; exact fun x => nomatch x
  ylo := fun y m => R.ylo y (List.mem_append_right _ m)
  len := R.len
  lo := R.lo
  al := fun a m => by
    cases e : h.get? a with
    | none => exact absurd e (R.al a m)
    | some o => rw [k a o e fun z => R.ny a m (List.mem_append_left _ z)]; exact fun x => nomatch x
  ny := fun a m q => R.ny a m (List.mem_append_right _ q)
  nd := R.nd
  cells := fun i a c e1 e2 => by
    have q := R.cells i a c e1 e2
    have mo : ∀ {vs : List Value} {xs : List PV}, RVs G (okOf (Z ++ Y) as σ) as h vs xs → RVs G (okOf Y as σ) as h' vs xs := fun r => RVs.mono (fun b o e kk => ⟨k b o e fun z => kk.1 (List.mem_append_left _ z), fun m => kk.1 (List.mem_append_right _ m), kk.2⟩) (fun _ _ e => e) r
    have na : a ∉ Z := fun z => R.ny a (List.mem_of_getElem? e1) (List.mem_append_left _ z)
    cases c with
    | lst xs => obtain ⟨vs, n, g, r⟩ := q; exact ⟨vs, n, k _ _ g na, mo r⟩
    | arr xs => obtain ⟨vs, o, g, E, r⟩ := q; exact ⟨vs, o, k _ _ g na, E, mo r⟩
    | dct ns xs => obtain ⟨o, vs, g, E, r⟩ := q; exact ⟨o, vs, k _ _ g na, E, mo r⟩
    | dead => trivial
theorem RV.drop {Y Z as : List Addr} {h h' : Heap} {v : Value} {x : PV} (k : ∀ b o, h.get? b = some o → b ∉ Z → h'.get? b = some o) (r : RV G (okOf (Z ++ Y) as σ) as h v x) : RV G (okOf Y as σ) as h' v x :=
  RV.mono (fun b o e kk => ⟨k b o e fun z => kk.1 (List.mem_append_left _ z), fun m => kk.1 (List.mem_append_right _ m), kk.2⟩) (fun _ _ e => e) r
theorem LocRep.drop {env : Env} {Y Z as : List Addr} {h h' : Heap} (L : LocRep G env ρ (Z ++ Y) as σ h) (hE : EnvOk sc env Y) (hd : ∀ z ∈ Z, z ∉ Y) (k : ∀ b o, h.get? b = some o → b ∉ Z → h'.get? b = some o) : LocRep G env ρ Y as σ h' := by
  have ce : ∀ c v, c ∈ Y → h.IsCell c v → h'.IsCell c v := fun c v m ⟨o, ho, hd'⟩ => ⟨o, k c o ho (fun z => hd c z m), hd'⟩
  obtain ⟨m, ⟨o, es, ep, ho, r⟩, f⟩ := L.at_
  refine ⟨⟨m, ⟨o, es, ep, k _ o ho (fun z => hd _ z hE.loc), r⟩, fun x pv q => ?_⟩, L.apart, fun x c q => ⟨(L.cl x c q).1, ?_⟩⟩
  · obtain ⟨v, rv, kk⟩ := f x pv q
    exact ⟨v, rv.drop k, kk.imp id fun ⟨k1, c, k2, k3⟩ => ⟨k1, c, k2, ce c _ (hE.cl x c k2) k3⟩⟩
  · obtain ⟨v₀, q'⟩ := (L.cl x c q).2
    exact ⟨v₀, ce c v₀ (hE.cl x c q) q'⟩
theorem LocRep.enter {env : Env} {Y Z as : List Addr} {h h' : Heap} (L : LocRep G env ρ Y as σ h) (k : ∀ b o, h.get? b = some o → h'.get? b = some o) (hz : ∀ z ∈ Z, h.get? z = .none) : LocRep G env ρ (Z ++ Y) as σ h' := by
  have ce : ∀ c v, h.IsCell c v → h'.IsCell c v := fun c v ⟨o, ho, hd'⟩ => ⟨o, k c o ho, hd'⟩
  obtain ⟨m, ⟨o, es, ep, ho, r⟩, f⟩ := L.at_
  refine ⟨⟨m, ⟨o, es, ep, k _ o ho, r⟩, fun x pv q => ?_⟩, L.apart, fun x c q => ⟨(L.cl x c q).1, ?_⟩⟩
  · obtain ⟨v, rv, kk⟩ := f x pv q
    exact ⟨v, RV.mono (ok_enter k hz) (fun _ _ e => e) rv, kk.imp id fun ⟨k1, c, k2, k3⟩ => ⟨k1, c, k2, ce c _ k3⟩⟩
  · obtain ⟨v₀, q'⟩ := (L.cl x c q).2
    exact ⟨v₀, ce c v₀ q'⟩
theorem EnvOk.more {env : Env} {Y Z : List Addr} (hE : EnvOk sc env Y) : EnvOk sc env (Z ++ Y) := ⟨hE.sce, hE.kind, hE.glob, hE.blt, List.mem_append_right _ hE.loc, fun x c e => List.mem_append_right _ (hE.cl x c e)⟩
theorem LocRep.same {env : Env} {Y as : List Addr} {h h' : Heap} {I : Addr} (L : LocRep G env ρ Y as σ h) (hE : EnvOk sc env Y) (hI : I ∈ Y) (n : ¬ own env I) (hs : Heap.SameBut I h h') : LocRep G env ρ Y as σ h' := by
  have k : ∀ b o, b ≠ I → h.get? b = some o → h'.get? b = some o := fun b o nb e => (hs.2 b nb).trans e
  obtain ⟨m, ⟨o, es, ep, ho, r⟩, f⟩ := L.at_
  refine ⟨⟨m, ⟨o, es, ep, k _ o (fun z => n (.inl z.symm)) ho, r⟩, fun x pv q => ?_⟩, L.apart, fun x c q => ⟨(L.cl x c q).1, ?_⟩⟩
  · obtain ⟨v, rv, kk⟩ := f x pv q
    refine ⟨v, RV.mono (fun b o e kk => ⟨k b o (fun z => kk.1 (z ▸ hI)) e, kk⟩) (fun _ _ e => e) rv, kk.imp id fun ⟨k1, c, k2, o, ho, hd⟩ => ⟨k1, c, k2, o, k c o (fun z => n (.inr ⟨x, z ▸ k2⟩)) ho, hd⟩⟩
  · obtain ⟨v₀, o, ho, hd⟩ := (L.cl x c q).2
    exact ⟨v₀, o, k c o (fun z => n (.inr ⟨x, z ▸ q⟩)) ho, hd⟩

/-- a loop over items at hand -/
def LoopL (G : Gc) (d : Nat) (sc : Scope) (t : Expr) (body rest : List Stmt) (Qn : List (Str × PV) → List Cell → Prop) (Qr : PV → List Cell → Prop) : List PV → List (Str × PV) → List Cell → Prop
  | [], ρ, σ => EX G d sc rest ρ σ Qn Qr
  | x :: xs, ρ, σ => ∃ ρ1, BindT sc σ ρ t x ρ1 ∧ EX G d sc body ρ1 σ (fun ρ' σ' => LoopL G d sc t body rest Qn Qr xs ρ' σ') Qr

theorem Ext.forget {as as' : List Addr} {σ σ' : List Cell} {h h' : Heap} {F : Addr → Prop} {I : Addr} (x : Ext as σ h as' σ' h' (fun b => F b ∨ b = I)) (n : h.get? I = .none) : Ext as σ h as' σ' h' F :=
  ⟨x.pre, fun a q => (x.live a q).elim .inl fun z => .inr (z.elim .inl fun z => z.elim .inr fun z => .inl (z ▸ n)), fun b o e n1 n2 => x.keep b o e n1 fun z => z.elim n2 fun z => by rw [z, n] at e; cases e⟩
theorem Ext.same {as : List Addr} {σ : List Cell} {h h' : Heap} {F : Addr → Prop} {I : Addr} (hs : ∀ b o, b ≠ I → h.get? b = some o → h'.get? b = some o) : Ext as σ h as σ h' (fun b => F b ∨ b = I) :=
  ⟨⟨[], by simp⟩, fun _ z => .inl z, fun b o e _ n => hs b o (fun z => n (.inr z)) e⟩

theorem EX.for {t iter : Expr} {body : List Stmt} {pos : Pos} {rest : List Stmt} (h : EV G d sc iter ρ σ fun v σ1 => ∃ xs, (v = .list xs ∨ ∃ n : Nat, n ≤ 100000 ∧ v = .rng n ∧ xs = (List.range n).map fun j : Nat => PV.int j) ∧ LoopL G d sc t body rest Qn Qr xs ρ σ1)
    (hs : ∀ env x, foldedSetIterable iter env x = pure x := by intro _ _; rfl) : EX G d sc (.For t iter body [] pos :: rest) ρ σ Qn Qr := fun A env Y as s QQ E hA hE hC R L f g => by
  refine wpAny_execs_cons (wpAny_For (h A env Y as s _ E hA hE R L fun v pv as1 σ1 h1 tk1 q1 x1 R1 r1 => ?_) (hs env))
  obtain ⟨xs, hx, q1⟩ := q1
  refine iter_begin R1 r1 hx fun h2 I fI kk R2 t2 => ?_
  have L1 := L.up R hE x1
  have L2 : LocRep G env ρ ([I] ++ Y) as1 σ1 h2 := L1.enter kk fun z m => by rw [List.mem_singleton.mp m]; exact fI
  have nI : I ∉ Y := (R1.fresh fI).1
  have hE' : EnvOk sc env ([I] ++ Y) := hE.more
  have nown : ¬ own env I := fun q => nI (hE.own I q)
  have hIm : I ∈ [I] ++ Y := List.mem_append_left _ (.head _)
  have fI0 : s.heap.get? I = .none := by
    cases e : s.heap.get? I with
    | none => rfl
    | some o =>
      by_cases lv : Live as σ I
      · obtain ⟨i, c, e1, _, _⟩ := lv
        exact absurd fI (R1.al I (List.mem_of_getElem? (x1.idx e1)))
      · rw [x1.keep I o e lv (fun z => z)] at fI; cases fI
  refine codeAny_forLoop_any (fun n s' => ∃ xs ρ' as' σ', xs.length = n ∧ LoopL G d sc t body rest Qn Qr xs ρ' σ' ∧ Rep G ([I] ++ Y) as' σ' s'.heap ∧ LocRep G env ρ' ([I] ++ Y) as' σ' s'.heap ∧ ItAt G ([I] ++ Y) as' σ' s'.heap I xs ∧
      Ext as σ s.heap as' σ' s'.heap (fun b => own env b ∨ b = I) ∧ ∃ tk, s' = { s with heap := s'.heap, toks := tk }) (fun n s' hI => ?_) xs.length
    ⟨xs, ρ, as1, σ1, rfl, q1, R2, L2, t2, x1.no.trans (Ext.grown kk), tk1, rfl⟩
  obtain ⟨ys, ρ', as', σ', rfl, lp, R', L', t', x', tk', es⟩ := hI
  obtain ⟨h', hh'⟩ : ∃ h', s'.heap = h' := ⟨_, rfl⟩
  rw [hh'] at es R' L' t' x'
  subst es
  cases ys with
  | nil =>
    refine iter_end hA.hh t' fun h3 hb => ?_
    refine wpAny_execs_nil ?_
    have k3 : ∀ b o, h'.get? b = some o → b ∉ [I] → h3.get? b = some o := fun b o e n => hb b o (fun z => n (by rw [z]; exact .head _)) e
    have hd : ∀ z ∈ [I], z ∉ Y := fun z m => by rw [List.mem_singleton.mp m]; exact nI
    have R3 := R'.drop hd k3
    have L3 := L'.drop hE hd k3
    have x3 : Ext as σ s.heap as' σ' h3 (own env) := (x'.trans (Ext.same hb)).forget fI0
    exact lp A env Y as' _ QQ E hA hE hC R3 L3 (fun ρ4 as4 σ4 h4 tk4 q x4 => f ρ4 as4 σ4 h4 tk4 q (x3.trans x4)) fun v pv as4 σ4 h4 tk4 q x4 => g v pv as4 σ4 h4 tk4 q (x3.trans x4)
  | cons y ys =>
    obtain ⟨ρ1, bt, lp⟩ := lp
    refine iter_item R' hIm t' fun v h3 tk3 hs3 t3 r3 gg => ?_
    have R3 : Rep G ([I] ++ Y) as' σ' h3 := same_rep R' hIm hs3 t3.there
    have L3 : LocRep G env ρ' ([I] ++ Y) as' σ' h3 := L'.same hE' hIm nown hs3
    refine target_go bt r3 gg ?_
    refine target_at hA hE' hC R3 L3 bt r3 fun h4 tk4 x4 R4 L4 => ?_
    have t4 : ItAt G ([I] ++ Y) as' σ' h4 I ys := t3.mono (fun o e => x4.keep I o e (fun ⟨i, c, e1, _, _⟩ => R3.ny I (List.mem_of_getElem? e1) hIm) fun z => nown (.inl z)) fun v x r => RV.ext x4 (fun b e => e ▸ hE'.loc) r
    have x34 : Ext as σ s.heap as' σ' h4 (fun b => own env b ∨ b = I) := (x'.trans (Ext.same fun b o n e => (hs3.2 b n).trans e)).trans (x4.weaken fun b z => .inl (.inl z))
    refine lp A env ([I] ++ Y) as' _ _ _ hA hE' hC R4 L4 (fun ρ5 as5 σ5 h5 tk5 q5 x5 R5 L5 => ?_) fun v5 pv5 as5 σ5 h5 tk5 q5 x5 R5 r5 => ?_
    · refine ⟨ys.length, by simp, ys, ρ5, as5, σ5, rfl, q5, R5, L5, ?_, x34.trans (x5.weaken fun b z => .inl z), tk5, rfl⟩
      exact t4.mono (fun o e => x5.keep I o e (fun ⟨i, c, e1, _, _⟩ => R4.ny I (List.mem_of_getElem? e1) hIm) nown) fun v x r => RV.ext x5 hE'.own r
    · exact g v5 pv5 as5 σ5 h5 tk5 q5 ((x34.trans (x5.weaken fun b z => .inl z)).forget fI0) R5.leave r5.leave

/-- a while -/
theorem EX.while {t : Expr} {body : List Stmt} {pos : Pos} {rest : List Stmt} (J : Nat → List (Str × PV) → List Cell → Prop)
    (turn : ∀ n ρ σ, J n ρ σ → BV G d sc t ρ σ fun b σ1 => if b then EX G d sc body ρ σ1 (fun ρ' σ' => ∃ m, m < n ∧ J m ρ' σ') Qr else EX G d sc rest ρ σ1 Qn Qr)
    (n : Nat) (h0 : J n ρ σ) : EX G d sc (.While t body [] pos :: rest) ρ σ Qn Qr := fun A env Y as s QQ E hA hE hC R L f g => by
  refine wpAny_execs_cons (wpAny_While ?_)
  refine codeAny_whileLoop (fun n s' => ∃ ρ' as' σ', J n ρ' σ' ∧ Rep G Y as' σ' s'.heap ∧ LocRep G env ρ' Y as' σ' s'.heap ∧
      Ext as σ s.heap as' σ' s'.heap (own env) ∧ ∃ tk, s' = { s with heap := s'.heap, toks := tk }) (fun n s' hI => ?_) n ⟨ρ, as, σ, h0, R, L, .refl, s.toks, rfl⟩
  obtain ⟨ρ', as', σ', j, R', L', x', tk', es⟩ := hI
  obtain ⟨h', hh'⟩ : ∃ h', s'.heap = h' := ⟨_, rfl⟩
  rw [hh'] at es R' L' x'
  subst es
  refine turn n ρ' σ' j A env Y as' _ _ _ hA hE R' L' fun b as2 σ2 h2 tk2 q2 x2 R2 => ?_
  have L2 := L'.up R' hE x2
  have x02 := x'.trans (x2.no (F := own env))
  cases b with
  | false =>
    rw [if_neg (by simp)] at q2 ⊢
    refine wpAny_execs_nil ?_
    exact q2 A env Y as2 _ QQ E hA hE hC R2 L2 (fun ρ4 as4 σ4 h4 tk4 q x4 => f ρ4 as4 σ4 h4 tk4 q (x02.trans x4)) fun v pv as4 σ4 h4 tk4 q x4 => g v pv as4 σ4 h4 tk4 q (x02.trans x4)
  | true =>
    rw [if_pos rfl] at q2 ⊢
    refine q2 A env Y as2 _ _ _ hA hE hC R2 L2 (fun ρ5 as5 σ5 h5 tk5 q5 x5 R5 L5 => ?_) fun v5 pv5 as5 σ5 h5 tk5 q5 x5 R5 r5 => g v5 pv5 as5 σ5 h5 tk5 q5 (x02.trans x5) R5 r5
    obtain ⟨m, hm, j'⟩ := q5
    exact ⟨m, hm, ρ5, as5, σ5, j', R5, L5, x02.trans x5, tk5, rfl⟩
end

section
variable {G : Gc} {d : Nat} {sc csc : Scope} {ρ : List (Str × PV)} {σ : List Cell} {Qn : List (Str × PV) → List Cell → Prop} {Qr : PV → List Cell → Prop} {Q : PV → List Cell → Prop}

theorem LocRep.sub {env : Env} {ρ' : List (Str × PV)} {Y as : List Addr} {h : Heap} (L : LocRep G env ρ' Y as σ h) (s : ∀ x pv, ρ.lookup x = some pv → ρ'.lookup x = some pv) : LocRep G env ρ Y as σ h :=
  ⟨let ⟨m, hn, f⟩ := L.at_; ⟨m, hn, fun x pv e => f x pv (s x pv e)⟩, L.apart, L.cl⟩
theorem EX.less {ss : List Stmt} {ρ' : List (Str × PV)} (h : EX G d sc ss ρ σ Qn Qr) (s : ∀ x pv, ρ.lookup x = some pv → ρ'.lookup x = some pv) : EX G d sc ss ρ' σ Qn Qr := fun A env Y as st QQ E hA hE hC R L f g => h A env Y as st QQ E hA hE hC R (L.sub s) f g
theorem EV.less {e : Expr} {ρ' : List (Str × PV)} (h : EV G d sc e ρ σ Q) (s : ∀ x pv, ρ.lookup x = some pv → ρ'.lookup x = some pv) : EV G d sc e ρ' σ Q := fun A env Y as st QQ E hA hE R L f => h A env Y as st QQ E hA hE R (L.sub s) f

/-- the scope that a comprehension runs in -/
def rel (csc sc : Scope) : Scope := { csc with names := csc.names.map fun (n, k) => if (k == .free && sc.kind == .function && sc.names.lookup n == some .cell) then (n, .cell) else (n, k) }
theorem relabel_eq {env : Env} (h : env.scope = sc) : relabel csc env = rel csc sc := by subst h; rfl

def clNames (env : Env) : List (Str × NameKind) → List (Str × Addr)
  | [] => []
  | (n, k) :: r => clNames env r ++ (if k == .free then match env.cells.lookup n with | some c => [(n, c)] | none => [] else [])
theorem forIn_clo (env : Env) : ∀ (l : List (Str × NameKind)) (acc : List (Str × Addr)), (∀ x, (x, NameKind.free) ∈ l → ∃ c, env.cells.lookup x = some c) →
    (forIn l acc fun (x : Str × NameKind) (cs : List (Str × Addr)) => (match x with | (name, kind) => if (kind == .free) = true then do let __do_lift ← cellOf env name; pure (ForInStep.yield ((name, __do_lift) :: cs)) else pure (ForInStep.yield cs) : Sem (ForInStep (List (Str × Addr))))) = pure (clNames env l ++ acc)
  | [], acc, _ => rfl
  | (n, k) :: r, acc, h => by
    rw [List.forIn_cons]
    dsimp only
    by_cases hk : (k == NameKind.free) = true
    · have hk' : k = .free := by simpa using hk
      subst hk'
      obtain ⟨c, hc⟩ := h n (.head _)
      rw [if_pos hk]
      have e : cellOf env n = pure c := by unfold cellOf; rw [hc]
      rw [e]
      simp only [pure_bind]
      rw [forIn_clo env r ((n, c) :: acc) fun x m => h x (.tail _ m)]
      have e2 : clNames env ((n, .free) :: r) = clNames env r ++ [(n, c)] := by
        show clNames env r ++ (if (NameKind.free == NameKind.free) = true then _ else _) = _
        rw [if_pos hk, hc]
      rw [e2, List.append_assoc]; rfl
    · rw [if_neg hk]
      simp only [pure_bind]
      rw [forIn_clo env r acc fun x m => h x (.tail _ m)]
      have e2 : clNames env ((n, k) :: r) = clNames env r := by
        show clNames env r ++ (if (k == NameKind.free) = true then _ else _) = _
        rw [if_neg hk, List.append_nil]
      rw [e2]
theorem closure_eq {env : Env} (h : ∀ x, (x, NameKind.free) ∈ csc.names → ∃ c, env.cells.lookup x = some c) : closureFor csc env = pure (clNames env csc.names) := by
  unfold closureFor
  have := forIn_clo env csc.names [] h
  rw [List.append_nil] at this
  simp only [bind_pure]
  exact this
theorem clNames_mem {env : Env} : ∀ {l : List (Str × NameKind)} {x : Str} {c : Addr}, (x, c) ∈ clNames env l ↔ (x, NameKind.free) ∈ l ∧ env.cells.lookup x = some c
  | [], x, c => by simp [clNames]
  | (n, k) :: r, x, c => by
    unfold clNames
    rw [List.mem_append, clNames_mem (l := r), List.mem_cons]
    constructor
    · rintro (⟨a, b⟩ | b)
      · exact ⟨.inr a, b⟩
      · split at b
        · rename_i hk
          have hk' : k = .free := by simpa using hk
          split at b
          · rename_i c' e
            rw [List.mem_singleton] at b
            cases b
            exact ⟨.inl (by rw [hk']), e⟩
          · cases b
        · cases b
    · rintro ⟨a | a, b⟩
      · cases a
        right
        simp [b]
      · exact .inl ⟨a, b⟩

/-- a block that takes in only places of the frame around it -/
def compOk (csc sc : Scope) (ρ : List (Str × PV)) : Bool :=
  csc.kind == .function && sc.kind == .function && csc.names.all (fun p => p.2 != .cell && (p.2 != .local || csc.names.lookup p.1 == some .local) && (p.2 != .free || (csc.names.lookup p.1 == some .free && sc.names.lookup p.1 == some .cell && (ρ.lookup p.1).isSome))) &&
    decide ((csc.names.map (·.1)).Nodup)
def frees (csc : Scope) (ρ : List (Str × PV)) : List (Str × PV) := ρ.filter fun p => csc.names.lookup p.1 == some .free

structure CompOk (csc sc : Scope) (ρ : List (Str × PV)) : Prop where
  k1 : csc.kind = .function
  k2 : sc.kind = .function
  nc : ∀ x ∈ csc.names, x.2 ≠ .cell
  lo : ∀ x ∈ csc.names, x.2 = .local → csc.names.lookup x.1 = some .local
  fr : ∀ x, (x, NameKind.free) ∈ csc.names → csc.names.lookup x = some .free ∧ sc.names.lookup x = some .cell ∧ ∃ pv, ρ.lookup x = some pv
  nd : (csc.names.map (·.1)).Nodup
theorem CompOk.of (h : compOk csc sc ρ = true) : CompOk csc sc ρ := by
  unfold compOk at h
  simp only [Bool.and_eq_true, decide_eq_true_eq, List.all_eq_true] at h
  obtain ⟨⟨⟨k1, k2⟩, al⟩, nd⟩ := h
  refine ⟨by simpa using k1, by simpa using k2, fun x m => by simpa using (al x m).1.1, fun x m e => ?_, fun x m => ?_, nd⟩
  · have := (al x m).1.2
    simpa [e] using this
  · have := (al _ m).2
    simp only [bne_self_eq_false, Bool.false_or, Bool.and_eq_true] at this
    exact ⟨by simpa using this.1.1, by simpa using this.1.2, Option.isSome_iff_exists.mp this.2⟩
theorem lookup_frees {x : Str} {pv : PV} : ∀ {ρ : List (Str × PV)}, (frees csc ρ).lookup x = some pv → ρ.lookup x = some pv ∧ csc.names.lookup x = some .free
  | [], e => by cases e
  | (y, v) :: r, e => by
    unfold frees at e
    rw [List.filter_cons] at e
    split at e
    · rename_i hy
      rw [lookup_cons] at e ⊢
      split at e
      · rename_i q; subst q
        rw [if_pos rfl]
        exact ⟨e, by simpa using hy⟩
      · rename_i q
        rw [if_neg q]
        exact lookup_frees e
    · rename_i hy
      obtain ⟨a, b⟩ := lookup_frees (ρ := r) e
      refine ⟨?_, b⟩
      rw [lookup_cons, if_neg]
      · exact a
      · intro q; subst q; simp at hy; exact hy b

theorem map_rel {l : List (Str × NameKind)} {x : Str} {k : NameKind} : l.lookup x = some k → (l.map fun (n, k) => if (k == NameKind.free && sc.kind == .function && sc.names.lookup n == some .cell) then (n, NameKind.cell) else (n, k)).lookup x =
    some (if (k == NameKind.free && sc.kind == .function && sc.names.lookup x == some .cell) then .cell else k) := by
  induction l with
  | nil => intro h; cases h
  | cons p r ih =>
    obtain ⟨n, k'⟩ := p
    intro h
    rw [List.map_cons]
    by_cases e : x = n
    · subst e
      simp only [List.lookup_cons, beq_self_eq_true] at h ⊢
      cases h
      split <;> simp
    · have e' : (x == n) = false := by simpa using e
      rw [List.lookup_cons, e'] at h
      rw [← ih h]
      by_cases hc : (k' == NameKind.free && sc.kind == .function && sc.names.lookup n == some .cell) = true
      · simp only [hc, if_true, List.lookup_cons, e']
      · simp only [hc, if_false, List.lookup_cons, e', Bool.false_eq_true]
theorem rel_local {x : Str} (h : csc.names.lookup x = some .local) : (rel csc sc).names.lookup x = some .local := by
  unfold rel; dsimp only; rw [map_rel h]; rfl
theorem rel_free {x : Str} (h : csc.names.lookup x = some .free) (k : sc.kind = .function) (e : sc.names.lookup x = some .cell) : (rel csc sc).names.lookup x = some .cell := by
  unfold rel; dsimp only; rw [map_rel h, k, e]; rfl

/-- the items' values, one by one -/
def CompL (G : Gc) (d : Nat) (sc : Scope) (t elt : Expr) (ρ : List (Str × PV)) (Q : PV → List Cell → Prop) : List PV → List PV → List Cell → Prop
  | [], acc, σ => Q (.list acc) σ
  | x :: xs, acc, σ => ∃ ρ1, BindT sc σ ρ t x ρ1 ∧ EV G d sc elt ρ1 σ (fun v σ' => CompL G d sc t elt ρ Q xs (acc ++ [v]) σ')

theorem BindT.keeps {t : Expr} {x : PV} {ρ1 : List (Str × PV)} (b : BindT sc σ ρ t x ρ1) (hf : ∀ x pv, ρ.lookup x = some pv → sc.names.lookup x ≠ some .local) : ∀ x pv, ρ.lookup x = some pv → ρ1.lookup x = some pv := by
  cases b with
  | name h =>
    intro y pv e
    rw [lookup_cons, if_neg]
    · exact e
    · rintro rfl; exact hf _ _ e h
  | @tuple elts k p v ns ys hns hl sq len =>
    intro y pv e
    have : ∀ (l : List (Str × PV)), (∀ p ∈ l, p.1 ≠ y) → (l ++ ρ).lookup y = ρ.lookup y := by
      intro l
      induction l with
      | nil => intro _; rfl
      | cons q r ih =>
        intro hq
        obtain ⟨n, w⟩ := q
        rw [List.cons_append, lookup_cons, if_neg (Ne.symm (hq _ (.head _))), ih fun p m => hq p (.tail _ m)]
    rw [this]
    · exact e
    · intro p hp q
      have := (List.of_mem_zip (List.mem_reverse.mp hp)).1
      exact hf _ _ e (hl _ (q ▸ this))

theorem codeAny_compLoop_any {prog : Program} {w : World} {A : Around} {elt target iter : Expr} {scope : Scope} {pos : Pos} {it acc : Value} {env : Env} {R : Result → Shared → Prop} {s : Shared} (I : Nat → Shared → Prop)
    (turn : ∀ n s, I n s → wpAny (model prog w) A (pyNext it) (fun r s₁ => match r with
      | none => R (.ok .next) s₁
      | some v => wpAny (model prog w) A (letOwnedTupleGo target it v) (fun _ s₁' => wpAny (model prog w) A (assign target env v) (fun _ s₂ => wpAny (model prog w) A (eval elt env) (fun x s₃ =>
          wpAny (model prog w) A (call (.builtin "list.append") [acc, x]) (fun _ s₄ => ∃ m, m < n ∧ I m s₄) (notedBy (model prog w) A env fun e s' => R (.error e) s') s₃)
          (notedBy (model prog w) A env fun e s' => R (.error e) s') s₂) (notedBy (model prog w) A env fun e s' => R (.error e) s') s₁') (notedBy (model prog w) A env fun e s' => R (.error e) s') s₁) (notedBy (model prog w) A env fun e s' => R (.error e) s') s)
    (n : Nat) (h : I n s) : codeAny (model prog w) A (.compLoop (.ListComp elt [⟨target, iter, [], 0⟩] scope pos) 0 it acc env) R s := by
  refine codeAny_loop rfl I (fun n s hI => ?_) n h
  show wpAny _ _ ((compTurn (.ListComp elt [⟨target, iter, [], 0⟩] scope pos) 0 it acc env).onRaise (fun x => do noteFrame x env; theTreesLotGoes x)) _ _ s
  refine wpAny_noted ?_
  rw [compTurn_list1]
  refine wpAny_bind (wpAny_standAt (wpAny_bind (wpAny_mono (turn n s hI) (fun r s₁ h₁ => ?_) fun _ _ h' => h')))
  cases r with
  | none => exact wpAny_pure h₁
  | some v =>
    refine wpAny_bind (wpAny_mono h₁ (fun _ s₁' h₁' => ?_) fun _ _ h' => h')
    exact wpAny_bind (wpAny_mono h₁' (fun _ s₂ h₂ => wpAny_bind (wpAny_bind (wpAny_mono h₂ (fun x s₃ h₃ => wpAny_bind (wpAny_mono h₃
      (fun _ s₄ h₄ => wpAny_pure (wpAny_pure ⟨rfl, h₄⟩)) fun _ _ h' => h')) fun _ _ h' => h'))) fun _ _ h' => h')
end

section
variable {G : Gc} {d : Nat} {sc csc : Scope} {ρ : List (Str × PV)} {σ : List Cell} {Qn : List (Str × PV) → List Cell → Prop} {Qr : PV → List Cell → Prop} {Q : PV → List Cell → Prop}

section
variable {W Y as : List Addr} {h h' : Heap}
theorem Rep.subY (R : Rep G W as σ h) (sub : ∀ y ∈ Y, y ∈ W) (k : ∀ b o, h.get? b = some o → (b ∈ W → b ∈ Y) → h'.get? b = some o) : Rep G Y as σ h' where
  base := fun b o e => k b o (R.base b o e) fun m => by rw [R.ylo b m] at e; cases e
  yal := fun y m => by
    cases e : h.get? y with
    | none => exact absurd e (R.yal y (sub y m))
    | some o => rw [k y o e fun _ => m]; exact fun x => nomatch x
  ylo := fun y m => R.ylo y (sub y m)
  len := R.len
  lo := R.lo
  al := fun a m => by
    cases e : h.get? a with
    | none => exact absurd e (R.al a m)
    | some o => rw [k a o e fun z => absurd z (R.ny a m)]; exact fun x => nomatch x
  ny := fun a m q => R.ny a m (sub a q)
  nd := R.nd
  cells := fun i a c e1 e2 => by
    have q := R.cells i a c e1 e2
    have mo : ∀ {vs : List Value} {xs : List PV}, RVs G (okOf W as σ) as h vs xs → RVs G (okOf Y as σ) as h' vs xs := fun r => RVs.mono (fun b o e kk => ⟨k b o e fun z => absurd z kk.1, fun m => kk.1 (sub b m), kk.2⟩) (fun _ _ e => e) r
    have na : a ∈ W → a ∈ Y := fun z => absurd z (R.ny a (List.mem_of_getElem? e1))
    cases c with
    | lst xs => obtain ⟨vs, n, g, r⟩ := q; exact ⟨vs, n, k _ _ g na, mo r⟩
    | arr xs => obtain ⟨vs, o, g, E, r⟩ := q; exact ⟨vs, o, k _ _ g na, E, mo r⟩
    | dct ns xs => obtain ⟨o, vs, g, E, r⟩ := q; exact ⟨o, vs, k _ _ g na, E, mo r⟩
    | dead => trivial
theorem RV.subY {v : Value} {x : PV} (sub : ∀ y ∈ Y, y ∈ W) (k : ∀ b o, h.get? b = some o → (b ∈ W → b ∈ Y) → h'.get? b = some o) (r : RV G (okOf W as σ) as h v x) : RV G (okOf Y as σ) as h' v x :=
  RV.mono (fun b o e kk => ⟨k b o e fun z => absurd z kk.1, fun m => kk.1 (sub b m), kk.2⟩) (fun _ _ e => e) r
theorem RVs.subY {v : List Value} {x : List PV} (sub : ∀ y ∈ Y, y ∈ W) (k : ∀ b o, h.get? b = some o → (b ∈ W → b ∈ Y) → h'.get? b = some o) (r : RVs G (okOf W as σ) as h v x) : RVs G (okOf Y as σ) as h' v x :=
  RVs.mono (fun b o e kk => ⟨k b o e fun z => absurd z kk.1, fun m => kk.1 (sub b m), kk.2⟩) (fun _ _ e => e) r
theorem LocRep.subY {env : Env} (L : LocRep G env ρ W as σ h) (hE : EnvOk sc env Y) (sub : ∀ y ∈ Y, y ∈ W) (k : ∀ b o, h.get? b = some o → (b ∈ W → b ∈ Y) → h'.get? b = some o) : LocRep G env ρ Y as σ h' := by
  have ce : ∀ c v, c ∈ Y → h.IsCell c v → h'.IsCell c v := fun c v m ⟨o, ho, hd'⟩ => ⟨o, k c o ho (fun z => m), hd'⟩
  obtain ⟨m, ⟨o, es, ep, ho, r⟩, f⟩ := L.at_
  refine ⟨⟨m, ⟨o, es, ep, k _ o ho (fun z => hE.loc), r⟩, fun x pv q => ?_⟩, L.apart, fun x c q => ⟨(L.cl x c q).1, ?_⟩⟩
  · obtain ⟨v, rv, kk⟩ := f x pv q
    exact ⟨v, rv.subY sub k, kk.imp id fun ⟨k1, c, k2, k3⟩ => ⟨k1, c, k2, ce c _ (hE.cl x c k2) k3⟩⟩
  · obtain ⟨v₀, q'⟩ := (L.cl x c q).2
    exact ⟨v₀, ce c v₀ (hE.cl x c q) q'⟩
/-- places of others among the forbidden ones changed -/
theorem LocRep.ext {env : Env} {as' : List Addr} {σ' : List Cell} {F : Addr → Prop} (l : LocRep G env ρ Y as σ h) (R : Rep G Y as σ h) (en : EnvOk sc env Y) (e : Ext as σ h as' σ' h' F) (hF : ∀ b, F b → b ∈ Y ∧ ¬ own env b) : LocRep G env ρ Y as' σ' h' := by
  have nl : ∀ b ∈ Y, ¬ Live as σ b := fun b m ⟨i, c, e1, _, _⟩ => R.ny b (List.mem_of_getElem? e1) m
  have ce : ∀ x c v, env.cells.lookup x = some c → h.IsCell c v → h'.IsCell c v := fun x c v m ⟨o, ho, hd⟩ => ⟨o, e.keep c o ho (nl c (en.cl x c m)) (fun f => (hF c f).2 (.inr ⟨x, m⟩)), hd⟩
  obtain ⟨m, ⟨o, es, ep, ho, r⟩, f⟩ := l.at_
  refine ⟨⟨m, ⟨o, es, ep, e.keep _ o ho (nl _ en.loc) (fun f => (hF _ f).2 (.inl rfl)), r⟩, fun x pv q => ?_⟩, l.apart, fun x c q => ⟨(l.cl x c q).1, ?_⟩⟩
  · obtain ⟨v, rv, k⟩ := f x pv q
    refine ⟨v, RV.ext e (fun b f => (hF b f).1) rv, k.imp id fun ⟨k1, c, k2, k3⟩ => ⟨k1, c, k2, ce x c _ k2 k3⟩⟩
  · obtain ⟨v₀, q'⟩ := (l.cl x c q).2
    exact ⟨v₀, ce x c v₀ q q'⟩
theorem Ext.forgets {as' : List Addr} {σ' : List Cell} {F : Addr → Prop} (x : Ext as σ h as' σ' h' F) (n : ∀ b, F b → h.get? b = .none) : Ext as σ h as' σ' h' noF :=
  ⟨x.pre, fun a q => (x.live a q).elim .inl fun z => .inr (z.elim .inl fun z => .inl (n a z)), fun b o e n1 n2 => x.keep b o e n1 fun z => by rw [n b z] at e; cases e⟩
end

theorem clNames_lookup {env : Env} {l : List (Str × NameKind)} {x : Str} {c : Addr} (h : (clNames env l).lookup x = some c) : env.cells.lookup x = some c := (clNames_mem.mp (mem_of_lookup h)).2
theorem clNames_some {env : Env} {l : List (Str × NameKind)} {x : Str} {c : Addr} (m : (x, NameKind.free) ∈ l) (h : env.cells.lookup x = some c) : (clNames env l).lookup x = some c := by
  cases e : (clNames env l).lookup x with
  | some c' => have := clNames_lookup e; rw [h] at this; exact this.symm
  | none =>
    have : ∀ {l : List (Str × Addr)}, (x, c) ∈ l → l.lookup x ≠ none := by
      intro l
      induction l with
      | nil => intro h; cases h
      | cons p r ih =>
        intro hm q
        obtain ⟨y, z⟩ := p
        rw [List.lookup_cons] at q
        split at q
        · cases q
        · rename_i ne
          rcases List.mem_cons.mp hm with e | hm
          · cases e; simp at ne
          · exact ih hm q
    exact absurd e (this (clNames_mem.mpr ⟨m, h⟩))
theorem clNames_keys {env : Env} : ∀ {l : List (Str × NameKind)} {p : Str × Addr}, p ∈ clNames env l → p.1 ∈ l.map (·.1) := fun {l p} m => List.mem_map.mpr ⟨(p.1, .free), (clNames_mem (x := p.1) (c := p.2).mp m).1, rfl⟩
theorem clNames_apart {env : Env} (ap : env.cells.Pairwise fun x y => x.2 ≠ y.2) : ∀ {l : List (Str × NameKind)}, (l.map (·.1)).Nodup → (clNames env l).Pairwise fun x y => x.2 ≠ y.2
  | [], _ => .nil
  | (n, k) :: r, nd => by
    rw [List.map_cons, List.nodup_cons] at nd
    have ih := clNames_apart ap nd.2
    unfold clNames
    refine List.pairwise_append.mpr ⟨ih, ?_, fun a ha b hb => ?_⟩
    · split
      · split <;> simp
      · simp
    · split at hb
      · split at hb
        · rename_i c e
          rw [List.mem_singleton] at hb
          subst hb
          intro q
          have m := clNames_mem (x := a.1) (c := a.2) |>.mp ha
          have := name_of_addr ap (mem_of_lookup m.2) (by rw [show a.2 = c from q]; exact mem_of_lookup e)
          exact nd.1 (this ▸ clNames_keys ha)
        · cases hb
      · cases hb

theorem comp_core {A : Around} {env : Env} {Y as : List Addr} {s : Shared} {E : Value → Shared → Prop} (hA : AOk A d) (hE : EnvOk sc env Y) (hK : CompOk csc sc ρ) {t elt iter : Expr} {pos : Pos} {v : Value} {pv : PV} {xs : List PV} (R : Rep G Y as σ s.heap) (L : LocRep G env ρ Y as σ s.heap)
    (rv : RV G (okOf Y as σ) as s.heap v pv) (hx : pv = .list xs ∨ ∃ n : Nat, n ≤ 100000 ∧ pv = .rng n ∧ xs = (List.range n).map fun j : Nat => PV.int j) (hlen : xs.length ≤ 100000) (hc : CompL G d (rel csc sc) t elt (frees csc ρ) Q xs [] σ)
    {RR : Value → Addr → Result → Shared → Prop}
    (f : ∀ D C h tk m as' σ' pv', Q pv' σ' → Ext as σ s.heap as' σ' h noF → Rep G ([C] ++ Y) as' σ' h → s.heap.get? C = .none → C ∉ Y → LocRep G env ρ ([C] ++ Y) as' σ' h → RV G (okOf ([C] ++ Y) as' σ') as' h (.ref D) pv' → h.Ns C m → RR (.ref D) C (.ok .next) { s with heap := h, toks := tk }) :
    wpAny (model G.prog G.w) A (pyIter v) (fun it s₂ => wpAny (model G.prog G.w) A (newList []) (fun acc s₃ => wpAny (model G.prog G.w) A (newFunctionEnv csc env.globals (clNames env csc.names) [] env.qual none .none (some env)) (fun cenv s₄ =>
      codeAny (model G.prog G.w) A (.compStart (.ListComp elt [⟨t, iter, [], 0⟩] csc pos) 0 it acc { cenv with scope := relabel csc env }) (RR acc cenv.locals) s₄) E s₃) E s₂) E s := by
  refine iter_begin R rv hx fun h2 I fI kk R2 t2 => ?_
  refine wpAny_newObj_type (wpAny_newFunctionEnv hK.nc (by intro y hy; simp at hy) (fun h1 hns1 hsb1 => ?_) hK.k1)
  dsimp only at hns1 hsb1 ⊢
  generalize hH2 : h2.push { cls := .type "list", dict := none, data := .seq ([] : List Value).toArray } = H2 at hns1 hsb1 ⊢
  generalize hD : h2.objs.size = D at *
  generalize hC : H2.objs.size = C at *
  have hCD : C = D + 1 := by rw [← hC, ← hH2, Heap.size_push, hD]
  have hDC : D ≠ C := by omega
  have fD : h2.get? D = .none := hD ▸ get_size h2
  have old : ∀ b o, h2.get? b = some o → h1.get? b = some o := fun b o e => by
    have lt : Nat.lt b D := hD ▸ Heap.lt_size e
    have : b ≠ C := fun z => Nat.ne_of_lt (Nat.lt_succ_of_lt lt) (z.trans hCD)
    exact hsb1.extBut b o this (Heap.get?_push_of_some _ (hH2 ▸ Heap.get?_push_of_some _ e))
  have fC : h2.get? C = .none := by
    cases e : h2.get? C with
    | none => rfl
    | some o =>
      have lt : Nat.lt C D := hD ▸ Heap.lt_size e
      exact absurd (Nat.lt_succ_of_lt lt) (by rw [hCD]; exact Nat.lt_irrefl _)
  have gD : h1.get? D = some (PySem.W.listOf ([] : List Value).toArray 0) := hsb1.extBut _ _ hDC (Heap.get?_push_of_some _ (hH2 ▸ hD ▸ Heap.get?_push_size _ rfl))
  have gC : h1.get? C ≠ .none := by obtain ⟨o, _, _, e, _⟩ := hns1; rw [show h1.get? C = some o from e]; exact fun z => nomatch z
  have hz : ∀ z ∈ [D, C], h2.get? z = none ∧ h1.get? z ≠ none := fun z m => by
    rcases List.mem_cons.mp m with rfl | m
    · exact ⟨fD, by rw [gD]; exact fun z => nomatch z⟩
    · rw [List.mem_singleton.mp m]; exact ⟨fC, gC⟩
  have R1 : Rep G ([D, C] ++ ([I] ++ Y)) as σ h1 := R2.enter old hz
  generalize hY' : [D, C] ++ ([I] ++ Y) = Y' at *
  have mD : D ∈ Y' := by rw [← hY']; simp
  have mC : C ∈ Y' := by rw [← hY']; simp
  have mI : I ∈ Y' := by rw [← hY']; simp
  have mY : ∀ y ∈ Y, y ∈ Y' := fun y m => by rw [← hY']; simp [m]
  have inY : ∀ b, b ∈ Y' → b = D ∨ b = C ∨ b = I ∨ b ∈ Y := fun b m => by rw [← hY'] at m; simpa using m
  have up : ∀ b o, s.heap.get? b = some o → h1.get? b = some o := fun b o e => old b o (kk b o e)
  have sD : s.heap.get? D = .none := by
    cases e : s.heap.get? D with
    | none => rfl
    | some o => rw [kk _ _ e] at fD; cases fD
  have sC : s.heap.get? C = .none := by
    cases e : s.heap.get? C with
    | none => rfl
    | some o => rw [kk _ _ e] at fC; cases fC
  have aI : h2.get? I ≠ .none := R2.yal I (by simp)
  have hDI : D ≠ I := fun z => aI (z ▸ fD)
  have hCI : C ≠ I := fun z => aI (z ▸ fC)
  have nD : D ∉ Y := (R.fresh sD).1
  have nC : C ∉ Y := (R.fresh sC).1
  have nI : I ∉ Y := (R.fresh fI).1
  have L1 : LocRep G env ρ Y' as σ h1 := by
    rw [← hY']
    rw [show [D, C] ++ ([I] ++ Y) = [D, C, I] ++ Y from rfl]
    exact L.enter up fun z m => by
      simp at m
      rcases m with rfl | rfl | rfl
      · exact sD
      · exact sC
      · exact fI
  have t1 : ItAt G Y' as σ h1 I xs := t2.mono (fun o e => old _ o e) fun v x r => by
    rw [← hY']
    exact RV.mono (ok_enter old fun z m => (hz z m).1) (fun _ _ e => e) r
  have hEY : EnvOk sc env Y' := ⟨hE.sce, hE.kind, hE.glob, hE.blt, mY _ hE.loc, fun x c e => mY _ (hE.cl x c e)⟩
  -- the block's own frame
  have hE' : EnvOk (rel csc sc) (compEnvC csc (clNames env csc.names) C env) Y' :=
    ⟨relabel_eq hE.sce, hK.k1, hE.glob, hE.blt, mC, fun x c e => mY _ (hE.cl x c (clNames_lookup e))⟩
  have kOf : ∀ x, (compEnvC csc (clNames env csc.names) C env).kindOf x = (rel csc sc).names.lookup x := fun x => by unfold Env.kindOf; rw [hE'.sce]
  have frc : ∀ x, (x, NameKind.free) ∈ csc.names → ∃ c pv v, env.cells.lookup x = some c ∧ ρ.lookup x = some pv ∧ RV G (okOf Y' as σ) as h1 v pv ∧ h1.IsCell c (some v) := fun x m => by
    obtain ⟨_, q2, pv, q3⟩ := hK.fr x m
    obtain ⟨mm, hn, ff⟩ := L1.at_
    obtain ⟨v, r, kq⟩ := ff x pv q3
    rcases kq with ⟨k1, _⟩ | ⟨_, c, k2, k3⟩
    · unfold Env.kindOf at k1; rw [hE.sce, q2] at k1; cases k1
    · exact ⟨c, pv, v, k2, q3, r, k3⟩
  have memF : ∀ x, csc.names.lookup x = some .free → (x, NameKind.free) ∈ csc.names := fun x e => mem_of_lookup e
  have hC' : CkOk (rel csc sc) (compEnvC csc (clNames env csc.names) C env) := fun x e => by
    cases q : csc.names.lookup x with
    | none =>
      exfalso
      have : ∀ {l : List (Str × NameKind)}, l.lookup x = none → (l.map fun (n, k) => if (k == NameKind.free && sc.kind == .function && sc.names.lookup n == some .cell) then (n, NameKind.cell) else (n, k)).lookup x = none := by
        intro l
        induction l with
        | nil => intro _; rfl
        | cons p r ih =>
          obtain ⟨n, k⟩ := p
          intro hq
          rw [List.lookup_cons] at hq
          split at hq
          · cases hq
          · rename_i ne
            rw [List.map_cons]
            by_cases hcc : (k == NameKind.free && sc.kind == .function && sc.names.lookup n == some .cell) = true
            · simp only [hcc, if_true, List.lookup_cons, ne]; exact ih hq
            · simp only [hcc, if_false, List.lookup_cons, ne, Bool.false_eq_true]; exact ih hq
      have := this q
      rw [show (rel csc sc).names.lookup x = none from this] at e
      cases e
    | some k =>
      have e' : (rel csc sc).names.lookup x = _ := map_rel q
      rw [e'] at e
      have hk : k = .free := by
        by_cases z : k = .free
        · exact z
        · have : (k == NameKind.free) = false := by simpa using z
          rw [this] at e
          simp only [Bool.false_and, Bool.false_eq_true, if_false] at e
          cases e
          exact absurd rfl (hK.nc _ (mem_of_lookup q))
      subst hk
      obtain ⟨c, _, _, e1, _⟩ := frc x (memF x q)
      exact ⟨c, clNames_some (memF x q) e1⟩
  have L1' : LocRep G (compEnvC csc (clNames env csc.names) C env) (frees csc ρ) Y' as σ h1 := by
    refine ⟨⟨_, hns1, fun x pv e => ?_⟩, clNames_apart L.apart hK.nd, fun x c e => ?_⟩
    · obtain ⟨e1, e2⟩ := lookup_frees e
      obtain ⟨c, pv', v, q1, q2, q3, q4⟩ := frc x (memF x e2)
      rw [e1] at q2
      cases q2
      refine ⟨v, q3, .inr ⟨.inl ?_, c, clNames_some (memF x e2) q1, q4⟩⟩
      rw [kOf]
      exact rel_free e2 hK.k2 (hK.fr x (memF x e2)).2.1
    · have e' := clNames_lookup e
      exact ⟨fun z => nC ((show c = C from z) ▸ hE.cl x c e'), (L1.cl x c e').2⟩
  have nown : ∀ b, b = D ∨ b = I → ¬ own (compEnvC csc (clNames env csc.names) C env) b := fun b hb o => by
    rcases o with o | ⟨x, o⟩
    · rcases hb with rfl | rfl
      · exact hDC o
      · exact hCI o.symm
    · have := hE.cl x b (clNames_lookup o)
      rcases hb with rfl | rfl
      · exact nD this
      · exact nI this
  have hfree : ∀ x pv, (frees csc ρ).lookup x = some pv → (rel csc sc).names.lookup x ≠ some .local := fun x pv e q => by
    obtain ⟨e1, e2⟩ := lookup_frees e
    rw [rel_free e2 hK.k2 (hK.fr x (memF x e2)).2.1] at q
    cases q
  have loop : ∀ s' : Shared, (∃ tk, s' = { s with heap := h1, toks := tk }) → codeAny (model G.prog G.w) A (.compLoop (.ListComp elt [⟨t, iter, [], 0⟩] csc pos) 0 (.ref I) (.ref D) (compEnvC csc (clNames env csc.names) C env)) (RR (.ref D) C) s' := by
    rintro s' ⟨tk0, rfl⟩
    refine codeAny_compLoop_any (fun n s' => ∃ ys acc as' σ', ys.length = n ∧ acc.length + ys.length ≤ 100000 ∧ CompL G d (rel csc sc) t elt (frees csc ρ) Q ys acc σ' ∧ Rep G Y' as' σ' s'.heap ∧ LocRep G (compEnvC csc (clNames env csc.names) C env) (frees csc ρ) Y' as' σ' s'.heap ∧
      ItAt G Y' as' σ' s'.heap I ys ∧ (∃ vs n, s'.heap.get? D = some (PySem.W.listOf vs.toArray n) ∧ RVs G (okOf Y' as' σ') as' s'.heap vs acc) ∧ Ext as σ h1 as' σ' s'.heap (fun b => b = D ∨ b = C ∨ b = I) ∧ ∃ tk, s' = { s with heap := s'.heap, toks := tk })
      (fun n s' hI => ?_) xs.length ⟨xs, [], as, σ, rfl, by simpa using hlen, hc, R1, L1', t1, ⟨[], 0, gD, .nil⟩, .refl, tk0, rfl⟩
    obtain ⟨ys, acc, as', σ', rfl, hl, lp, R', L', t', ⟨vs, nn, gD', rs⟩, x', tk', es⟩ := hI
    obtain ⟨h', hh'⟩ : ∃ h', s'.heap = h' := ⟨_, rfl⟩
    rw [hh'] at es R' L' t' x' gD' rs
    subst es
    cases ys with
    | nil =>
      refine iter_end hA.hh t' fun h3 hb => ?_
      have sub : ∀ y ∈ [C] ++ Y, y ∈ Y' := fun y m => (List.mem_append.mp m).elim (fun m => by rw [List.mem_singleton.mp m]; exact mC) (mY y)
      have kI : ∀ b o, h'.get? b = some o → b ≠ I → h3.get? b = some o := fun b o e n => hb b o n e
      have k3 : ∀ b o, h'.get? b = some o → (b ∈ Y' → b ∈ [C] ++ Y) → h3.get? b = some o := fun b o e n => kI b o e fun z => by
        subst z
        rcases List.mem_append.mp (n mI) with q | q
        · exact hCI (List.mem_singleton.mp q).symm
        · exact nI q
      have R3 := R'.subY sub k3
      have lastX : Ext as σ h1 as' σ' h' (fun b => b = D ∨ b = C ∨ b = I) := x'
      have Lo : LocRep G env ρ Y' as' σ' h' := L1.ext R1 hEY lastX fun b hb => ⟨by rcases hb with rfl | rfl | rfl <;> assumption, fun o => by
        have := hE.own b o
        rcases hb with rfl | rfl | rfl
        · exact nD this
        · exact nC this
        · exact nI this⟩
      have Lo3 : LocRep G env ρ ([C] ++ Y) as' σ' h3 := Lo.subY hE.more sub k3
      have rD : RV G (okOf ([C] ++ Y) as' σ') as' h3 (.ref D) (.list acc) := .list (kI _ _ gD' hDI) ⟨fun m => (List.mem_append.mp m).elim (fun m => hDC (List.mem_singleton.mp m)) nD, fun ⟨i, c, e1, _, _⟩ => R'.ny D (List.mem_of_getElem? e1) mD⟩ (rs.subY sub k3)
      obtain ⟨mm, ⟨oC, esC, epC, hoC, rC⟩, _⟩ := L'.at_
      have nsC : h3.Ns C mm := ⟨oC, esC, epC, kI _ _ hoC hCI, rC⟩
      have x3 : Ext as σ s.heap as' σ' h3 noF := by
        have : Ext as σ s.heap as' σ' h3 (fun b => b = D ∨ b = C ∨ b = I) := ((Ext.grown up).trans lastX).trans ⟨⟨[], by simp⟩, fun _ z => .inl z, fun b o e _ n => kI b o e fun z => n (.inr (.inr z))⟩
        exact this.forgets fun b hb => by rcases hb with rfl | rfl | rfl <;> assumption
      exact f D C h3 _ mm as' σ' (.list acc) lp x3 R3 sC nC Lo3 rD nsC
    | cons y ys =>
      obtain ⟨ρ1, bt, ev⟩ := lp
      refine iter_item R' mI t' fun v3 h3 tk3 hs3 t3 r3 gg => ?_
      have R3 : Rep G Y' as' σ' h3 := same_rep R' mI hs3 t3.there
      have L3 := L'.same hE' mI (nown I (.inr rfl)) hs3
      have X3 : Ext as' σ' h' as' σ' h3 (fun b => b = D ∨ b = C ∨ b = I) := ⟨⟨[], by simp⟩, fun _ z => .inl z, fun b o e _ n => (hs3.2 b fun z => n (.inr (.inr z))).trans e⟩
      have inF : ∀ b, (b = D ∨ b = C ∨ b = I) → b ∈ Y' := fun b hb => by rcases hb with rfl | rfl | rfl <;> assumption
      have nl : ∀ b, b ∈ Y' → ∀ {a' s' h'}, Rep G Y' a' s' h' → ¬ Live a' s' b := fun b m _ _ _ R ⟨i, c, e1, _, _⟩ => R.ny b (List.mem_of_getElem? e1) m
      have gD3 : h3.get? D = some (PySem.W.listOf vs.toArray nn) := (hs3.2 D hDI).trans gD'
      have rs3 := RVs.ext X3 inF rs
      refine target_go bt r3 gg ?_
      refine target_at hA hE' hC' R3 L3 bt r3 fun h4 tk4 x4 R4 L4 => ?_
      have hcl : ∀ b, b = (compEnvC csc (clNames env csc.names) C env).locals → b ∈ Y' := fun b e => e ▸ mC
      have t4 : ItAt G Y' as' σ' h4 I ys := t3.mono (fun o e => x4.keep I o e (nl I mI R3) fun z => hCI z.symm) fun v x r => RV.ext x4 hcl r
      have gD4 : h4.get? D = some (PySem.W.listOf vs.toArray nn) := x4.keep D _ gD3 (nl D mD R3) fun z => hDC z
      have rs4 := RVs.ext x4 hcl rs3
      refine ev A _ Y' as' _ _ _ hA hE' R4 L4 fun v5 pv5 as5 σ5 h5 tk5 q5 x5 R5 r5 => ?_
      have L5 := L4.up R4 hE' x5
      have t5 : ItAt G Y' as5 σ5 h5 I ys := t4.mono (fun o e => x5.keep I o e (nl I mI R4) fun z => z) fun v x r => r.up x5
      have gD5 : h5.get? D = some (PySem.W.listOf vs.toArray nn) := x5.keep D _ gD4 (nl D mD R4) fun z => z
      have rs5 := rs4.up x5
      refine append_at gD5 (fun h6 hs6 ho6 => ?_) (by rw [List.size_toArray, rs5.length, sizeLine_eq]; simp at hl; omega)
      have X6 : Ext as5 σ5 h5 as5 σ5 h6 (fun b => b = D ∨ b = C ∨ b = I) := ⟨⟨[], by simp⟩, fun _ z => .inl z, fun b o e _ n => (hs6.2 b fun z => n (.inl z)).trans e⟩
      refine ⟨ys.length, by simp, ys, acc ++ [pv5], as5, σ5, rfl, by simp at hl ⊢; omega, q5, same_rep R5 mD hs6 (by rw [ho6]; exact fun z => nomatch z), ?_, t5.mono (fun o e => (hs6.2 I (Ne.symm hDI)).trans e) fun v x r => RV.ext X6 inF r,
        ⟨vs ++ [v5], _, by rw [ho6]; simp [PySem.W.listOf]; rfl, (RVs.ext X6 inF rs5).append (.cons (RV.ext X6 inF r5) .nil)⟩, ?_, _, rfl⟩
      · exact (L5.sub (bt.keeps hfree)).same hE' mD (nown D (.inl rfl)) hs6
      · exact (((x'.trans X3).trans (x4.weaken fun b e => .inr (.inl e))).trans x5.no).trans X6
  exact codeAny_compStart_list (loop _ ⟨_, rfl⟩) (iter_self t1 (loop _ ⟨_, rfl⟩))
end

section
variable {G : Gc} {d : Nat} {sc csc : Scope} {ρ : List (Str × PV)} {σ : List Cell} {Qn : List (Str × PV) → List Cell → Prop} {Qr : PV → List Cell → Prop} {Q : PV → List Cell → Prop}

theorem clo_at {env : Env} {Y as : List Addr} {h : Heap} (hE : EnvOk sc env Y) (hK : CompOk csc sc ρ) (L : LocRep G env ρ Y as σ h) : closureFor csc env = pure (clNames env csc.names) := closure_eq fun x m => by
  obtain ⟨_, q2, pv, q3⟩ := hK.fr x m
  obtain ⟨mm, hn, ff⟩ := L.at_
  obtain ⟨v, r, kq⟩ := ff x pv q3
  rcases kq with ⟨k1, _⟩ | ⟨_, c, k2, k3⟩
  · unfold Env.kindOf at k1; rw [hE.sce, q2] at k1; cases k1
  · exact ⟨c, k2⟩

theorem out_C {Y as as' : List Addr} {σ' : List Cell} {h h1 h' : Heap} {C : Addr} {v : Value} {x : PV} (X : Ext as σ h as' σ' h1 noF) (R : Rep G ([C] ++ Y) as' σ' h1) (fC : h.get? C = .none) (nC : C ∉ Y) (r : RV G (okOf ([C] ++ Y) as' σ') as' h1 v x) (hs : Heap.SameBut C h1 h') :
    Ext as σ h as' σ' h' noF ∧ Rep G Y as' σ' h' ∧ RV G (okOf Y as' σ') as' h' v x := by
  have sub : ∀ y ∈ Y, y ∈ [C] ++ Y := fun y m => List.mem_append_right _ m
  have k : ∀ b o, h1.get? b = some o → (b ∈ [C] ++ Y → b ∈ Y) → h'.get? b = some o := fun b o e n => (hs.2 b fun z => nC (z ▸ n (z ▸ List.mem_append_left _ (.head _)))).trans e
  refine ⟨(X.no.trans (⟨⟨[], by simp⟩, fun _ z => .inl z, fun b o e _ n => (hs.2 b n).trans e⟩ : Ext as' σ' h1 as' σ' h' (· = C))).forgets fun b e => e ▸ fC, R.subY sub k, r.subY sub k⟩

theorem EV.comp {t elt iter : Expr} {pos : Pos} (h : EV G d sc iter ρ σ fun v σ1 => ∃ xs, (v = .list xs ∨ ∃ n : Nat, n ≤ 100000 ∧ v = .rng n ∧ xs = (List.range n).map fun j : Nat => PV.int j) ∧ xs.length ≤ 100000 ∧ CompL G d (rel csc sc) t elt (frees csc ρ) Q xs [] σ1)
    (hK : compOk csc sc ρ = true) (hs : ∀ env x, foldedSetIterable iter env x = pure x := by intro _ _; rfl) : EV G d sc (.ListComp elt [⟨t, iter, [], 0⟩] csc pos) ρ σ Q := fun A env Y as s QQ E hA hE R L f => by
  have hK' := CompOk.of hK
  rw [eval_ListComp]
  refine wpAny_comprehension_free (use := Option.none) rfl (hs env) (clo_at hE hK' L) hK'.k1 hK'.lo (h A env Y as s _ E hA hE R L fun v pv as1 σ1 h1 tk1 q1 x1 R1 r1 => ?_)
  obtain ⟨xs, hx, hl, hc⟩ := q1
  refine comp_core (RR := fun acc C => compPost (model G.prog G.w) A E Option.none QQ acc C) hA hE hK' R1 (L.up R hE x1) r1 hx hl hc fun D C h2 tk m as2 σ2 pv2 q2 x2 R2 fC nC L2 r2 hn => ⟨m, hn, fun h3 hs3 => ?_⟩
  obtain ⟨x3, R3, r3⟩ := out_C x2 R2 fC nC r2 hs3
  exact f _ pv2 as2 σ2 h3 tk q2 (x1.trans x3) R3 r3

theorem EX.assign_comp {t elt iter : Expr} {y : Str} {py pos spos : Pos} {rest : List Stmt}
    (h : EV G d sc iter ρ σ fun v σ1 => ∃ xs, (v = .list xs ∨ ∃ n : Nat, n ≤ 100000 ∧ v = .rng n ∧ xs = (List.range n).map fun j : Nat => PV.int j) ∧ xs.length ≤ 100000 ∧
      CompL G d (rel csc sc) t elt (frees csc ρ) (fun v σ' => EX G d sc rest ((y, v) :: ρ) σ' Qn Qr) xs [] σ1)
    (hK : compOk csc sc ρ = true) (hk : sc.names.lookup y = some .local ∨ sc.names.lookup y = some .cell)
    (hsw : ∀ env, env.scope = sc → swapsWith (.ListComp elt [⟨t, iter, [], 0⟩] csc pos) (some (.Name y py)) spos.line env = pure true := by intro env h; unfold swapsWith Env.blockKind Env.kindOf; rw [h]; rfl) (hs : ∀ env x, foldedSetIterable iter env x = pure x := by intro _ _; rfl) :
    EX G d sc (.Assign [.Name y py] (.ListComp elt [⟨t, iter, [], 0⟩] csc pos) spos :: rest) ρ σ Qn Qr := fun A env Y as s QQ E hA hE hC R L f g => by
  have hK' := CompOk.of hK
  refine wpAny_execs_cons ?_
  rw [exec_Assign_Name_used _ _ _ _ (hsw env hE.sce)]
  refine wpAny_bind (wpAny_standAt (wpAny_bind ?_))
  show wpAny _ A (do let _ ← comprehension (.ListComp elt [⟨t, iter, [], 0⟩] csc pos) csc env _ (newList []) false (eval iter env) (some (PySem.assign (.Name y py) env))) _ _ s
  refine wpAny_bind (wpAny_mono (wpAny_comprehension_free (use := some (PySem.assign (.Name y py) env)) (Q := fun _ s' => wpAny (model G.prog G.w) A (execs rest env) QQ E s') rfl (hs env) (clo_at hE hK' L) hK'.k1 hK'.lo
    (h A env Y as s _ E hA hE R L fun v pv as1 σ1 h1 tk1 q1 x1 R1 r1 => ?_)) (fun _ s' hq => wpAny_pure (wpAny_pure hq)) fun _ _ e => e)
  obtain ⟨xs, hx, hl, hc⟩ := q1
  refine comp_core (RR := fun acc C => compPost (model G.prog G.w) A E (some (PySem.assign (.Name y py) env)) (fun _ s' => wpAny (model G.prog G.w) A (execs rest env) QQ E s') acc C) hA hE hK' R1 (L.up R hE x1) r1 hx hl hc
    fun D C h2 tk m as2 σ2 pv2 q2 x2 R2 fC nC L2 r2 hn => ?_
  show wpAny _ A (PySem.assign (.Name y py) env (.ref D)) _ _ _
  have hE2 : EnvOk sc env ([C] ++ Y) := hE.more
  refine wpAny_assign_Name (store_at hk hE2 hC (.own hE2) R2 L2 r2 fun h3 tk3 x3 R3 L3 => ?_)
  have nown : ¬ own env C := fun o => nC (hE.own C o)
  obtain ⟨oC, es, ep, ho, hr⟩ := hn
  refine ⟨m, ⟨oC, es, ep, x3.keep C _ ho (fun ⟨i, c, e1, _, _⟩ => R2.ny C (List.mem_of_getElem? e1) (List.mem_append_left _ (.head _))) nown, hr⟩, fun h4 hs4 => ?_⟩
  have sub : ∀ y ∈ Y, y ∈ [C] ++ Y := fun y m => List.mem_append_right _ m
  have k : ∀ b o, h3.get? b = some o → (b ∈ [C] ++ Y → b ∈ Y) → h4.get? b = some o := fun b o e n => (hs4.2 b fun z => nC (z ▸ n (z ▸ List.mem_append_left _ (.head _)))).trans e
  have R4 := R3.subY sub k
  have L4 := L3.subY hE sub k
  have X4 : Ext as σ s.heap as2 σ2 h4 (own env) := by
    have a : Ext as1 σ1 h1 as2 σ2 h4 (fun b => own env b ∨ b = C) := (x2.no.trans (x3.weaken fun b o => .inl o)).trans ⟨⟨[], by simp⟩, fun _ z => .inl z, fun b o e _ n => (hs4.2 b fun z => n (.inr z)).trans e⟩
    exact x1.no.trans (a.forget fC)
  exact q2 A env Y as2 _ QQ E hA hE hC R4 L4 (fun ρ' as' σ' h' tk q x5 => f ρ' as' σ' h' tk q (X4.trans x5)) fun v pv as' σ' h' tk q x5 => g v pv as' σ' h' tk q (X4.trans x5)
end

section
variable {G : Gc} {d : Nat} {sc csc : Scope} {ρ : List (Str × PV)} {σ : List Cell} {Qn : List (Str × PV) → List Cell → Prop} {Qr : PV → List Cell → Prop} {Q : PV → List Cell → Prop}

/-- what a body's frame is, at its begin -/
structure Begun (G : Gc) (sc : Scope) (A : Around) (ns : List Str) (xs : List PV) (Y as : List Addr) (σ : List Cell) (h : Heap) (env : Env) (Z : List Addr) (h₁ : Heap) : Prop where
  hE : EnvOk sc env (Z ++ Y)
  hC : CkOk sc env
  R : Rep G (Z ++ Y) as σ h₁
  L : LocRep G env (ns.zip xs) (Z ++ Y) as σ h₁
  keep : ∀ b o, h.get? b = some o → h₁.get? b = some o
  own : ∀ b, own env b → h.get? b = none
  hz : ∀ z ∈ Z, h.get? z = none

theorem fn_core {A : Around} {a : Addr} {ns : List Str} {body : List Stmt} {xs : List PV} {Y as : List Addr} {s : Shared} {vs : List Value} {RR : Result → Shared → Prop} (F : FnK G.K a ns body sc) (hl : xs.length = ns.length) (hA : AOk A (d + 1)) (R : Rep G Y as σ s.heap) (r : RVs G (okOf Y as σ) as s.heap vs xs)
    (h : ∀ env Z h₁ tk E, Begun G sc A ns xs Y as σ s.heap env Z h₁ → wpAny (model G.prog G.w) (A.deeper env) (execs body env) (fun f s' => RR (.ok (.ret (match f with | .ret v => v | _ => .none))) s') E { s with heap := h₁, toks := tk }) :
    codeAny (model G.prog G.w) A (.call (.ref a) ⟨vs, []⟩) RR s := by
  obtain ⟨fd, oc, od, osl, ho, hcd, hb, rfl, hg, hcl, hbt, hba⟩ := F.ex
  have X := R.X
  refine codeAny_call_cells (binds := ns.zip vs) (by have := hA.dep; omega) (X _ _ ho) rfl R.top.nolimit (codeRec_of X hcd) hb (hba vs (by rw [r.length, hl])) hcl (fun y hy => ?_) (fun s₁ I => ?_) F.co F.gen F.kind
  · have q := List.all_eq_true.mp F.kinds y.1 (List.of_mem_zip hy).1
    rcases Bool.or_eq_true_iff.mp q with q | q
    · exact .inl (by simpa using q)
    · exact .inr ⟨by simpa using q, cells_isSome (by simpa using q)⟩
  generalize hen : callEnvC fd s.heap.objs.size a = env at I
  have eL : env.locals = s.heap.objs.size := by rw [← hen]; rfl
  have eC : env.cells = cellsFrom (s.heap.objs.size + 1) fd.scope.names [] := by rw [← hen]; rfl
  have eS : env.scope = fd.scope := by rw [← hen]; rfl
  obtain ⟨h₁, tk, rfl⟩ := I.toInCall.same
  have fresh : ∀ b, s.heap.objs.size ≤ b → s.heap.get? b = none := fun b z => by
    cases e : s.heap.get? b with
    | none => rfl
    | some o => exact absurd (Heap.lt_size e) (Nat.not_lt.mpr z)
  have hz : ∀ z ∈ env.locals :: env.cells.map (·.2), s.heap.get? z = none ∧ h₁.get? z ≠ none := fun z m => by
    rcases List.mem_cons.mp m with rfl | m
    · refine ⟨fresh _ I.toInCall.fresh, ?_⟩
      obtain ⟨o, _, _, e, _⟩ := I.toInCall.ns
      rw [show h₁.get? env.locals = some o from e]; exact fun x => nomatch x
    · obtain ⟨⟨n, c⟩, hm, rfl⟩ := List.mem_map.mp m
      have hlt := I.above n c hm
      refine ⟨fresh _ (Nat.le_of_lt (Nat.lt_of_le_of_lt I.toInCall.fresh hlt)), ?_⟩
      have cn : (env.cells.map (·.1)).Nodup := by rw [eC]; exact cellsFrom_nodup F.cnd
      obtain ⟨o, e, _⟩ := I.cell n c (lookup_of_mem_nodup cn hm)
      rw [show h₁.get? c = some o from e]; exact fun x => nomatch x
  have R₁ : Rep G ((env.locals :: env.cells.map (·.2)) ++ Y) as σ h₁ := R.enter I.toInCall.keep hz
  have r₁ := r.enter (Z := env.locals :: env.cells.map (·.2)) I.toInCall.keep fun z m => (hz z m).1
  have hE : EnvOk fd.scope env ((env.locals :: env.cells.map (·.2)) ++ Y) := by
    refine ⟨eS, F.kind, by rw [← hen]; exact hg, by rw [← hen]; exact hbt, by simp, fun x c e => List.mem_append_left _ (.tail _ (List.mem_map.mpr ⟨_, mem_of_lookup e, rfl⟩))⟩
  have hC : CkOk fd.scope env := fun x e => by rw [eC]; exact Option.isSome_iff_exists.mp (cells_isSome e)
  have kOf : ∀ x, env.kindOf x = fd.scope.names.lookup x := fun x => by unfold Env.kindOf; rw [eS]
  have L₁ : LocRep G env (ns.zip xs) ((env.locals :: env.cells.map (·.2)) ++ Y) as σ h₁ := by
    refine ⟨⟨_, I.toInCall.ns, fun x pv e => ?_⟩, I.apart, fun x c e => ⟨Nat.ne_of_gt (I.above x c (mem_of_lookup e)), _, I.cell x c e⟩⟩
    obtain ⟨v, rv, q1, q2⟩ := bind_at (k := env.kindOf) (m := fun _ => Option.none) (cm := fun _ => Option.none) F.nd r₁ e
    refine ⟨v, rv, ?_⟩
    have hm : x ∈ ns := by
      have := mem_of_lookup e
      exact (List.of_mem_zip this).1
    have q := List.all_eq_true.mp F.kinds x hm
    rcases Bool.or_eq_true_iff.mp q with q | q
    · have hk : env.kindOf x = some .local := by rw [kOf]; simpa using q
      exact .inl ⟨hk, q1 hk⟩
    · have hk : env.kindOf x = some .cell := by rw [kOf]; simpa using q
      obtain ⟨c, hc⟩ := hC x (by simpa using q)
      refine .inr ⟨.inl hk, c, hc, ?_⟩
      have := I.cell x c hc
      rwa [q2 (by rw [hk]; decide)] at this
  have nf : ∀ b, own env b → s.heap.get? b = none := fun b o => by
    rcases o with rfl | ⟨n, e⟩
    · exact (hz _ (.head _)).1
    · exact (hz _ (.tail _ (List.mem_map.mpr ⟨_, mem_of_lookup e, rfl⟩))).1
  exact h env _ h₁ tk _ ⟨hE, hC, R₁, L₁, I.toInCall.keep, nf, fun z m => (hz z m).1⟩

theorem Ents.snoc {P : Params} {n : Str} {t : Tok} {v : Value} : ∀ {es : List DictEntry} {ns : List Str} {vs : List Value}, Ents P es ns vs → Ents P (es ++ [⟨PyData.keyHash P n, .str n t, v⟩]) (ns ++ [n]) (vs ++ [v])
  | _, _, _, .nil => .cons .nil
  | _, _, _, .cons r => .cons r.snoc
theorem putL_new {P : Params} {n : Str} {k v : Value} {hsh : Int} : ∀ {es : List DictEntry} {ns : List Str} {vs : List Value}, Ents P es ns vs → n ∉ ns → putL n hsh k v es = es ++ [⟨hsh, k, v⟩]
  | _, _, _, .nil, _ => rfl
  | _, _, _, .cons (n := m) (t := t) (v := w) (es := es) r, h => by
    have e : (Value.str m t).isStr n = false := by
      show (m == n) = false
      exact beq_eq_false_iff_ne.mpr fun z => h (z ▸ .head _)
    unfold putL
    simp only [e, Bool.false_eq_true, if_false]
    rw [putL_new r fun m => h (.tail _ m)]
    rfl
theorem Ents.len {P : Params} : ∀ {es : List DictEntry} {ns : List Str} {vs : List Value}, Ents P es ns vs → es.length = ns.length
  | _, _, _, .nil => rfl
  | _, _, _, .cons r => by rw [List.length_cons, List.length_cons, r.len]

/-- what a class of the program must be for its things to be made and filled -/
structure MakeK (K : Frag) (C fI : Addr) : Prop where
  made : makesIn K C = true
  init : findIn K (.ref C) "__init__" = some (some (.ref fI))
  fn : typeIn K (.ref fI) = some (.type "function")
  set : findIn K (.ref C) "__setattr__" = some (some (.builtin "object.__setattr__"))
  over : plainOver K C = true
  dict : hasDictIn K C = true

theorem set_own_dict {A : Around} {E : Value → Shared → Prop} {s : Shared} {x dx C fI : Addr} {es : List DictEntry} {n : Nat} {ns : List Str} {vs : List Value} {name : Str} {v : Value} {QQ : Unit → Shared → Prop} (X : G.K.In s.heap) (M : MakeK G.K C fI) (hx : s.heap.get? x = some (instObj C dx)) (hdx : s.heap.get? dx = some (dictOf es n))
    (Es : Ents G.w.params es ns vs) (hn : name ∉ ns) (hsz : ns.length ≤ 900) (ht : takerIn G.K C name = some Option.none)
    (q : ∀ h' es' n' tk, h'.get? dx = some (dictOf es' n') → Ents G.w.params es' (ns ++ [name]) (vs ++ [v]) → Heap.SameBut dx s.heap h' → QQ () { s with heap := h', toks := tk }) :
    wpAny (model G.prog G.w) A (setAttr (.ref x) name v) QQ E s := by
  have I : InstAt s.heap x (instObj C dx) C (some (dictOf es n)) := inst_at hx hdx
  refine set_plain X I M.set ?_
  refine osa_open (s := { s with toks := s.toks + 1 }) X I M.over ht fun b => ?_
  obtain ⟨cd, hc, hd'⟩ := any_some (show (clsIn G.K C).any (·.hasDict) = true from M.dict)
  refine wpAny_bind (wpAny_pure (wpAny_bind (wpAny_bind (wpAny_loadPart hx (wpAny_bind (Looks.here (s := { s with toks := s.toks + 1 }) (looks_clsIn X hc) ?_))))))
  rw [hd']
  refine wpAny_pure (a := some dx) (wpAny_bind (wpAny_pure (wpAny_bind ?_)))
  unfold nsSet
  refine wpAny_bind (wpAny_bind (wpAny_askSetting (wpAny_pure (wpAny_bind (wpAny_mkText (wpAny_bind (wpAny_loadPart hdx ?_)))))))
  dsimp only
  have c : (!es.toArray.any (·.key.isStr name) && es.toArray.any (·.refKey)) = false := by
    have hl : getL name es = some Option.none := getL_none Es hn
    unfold getL at hl
    rw [← Array.any_toList, ← Array.any_toList]
    split at hl
    · cases hl
    · split at hl
      · cases hl
      · rename_i z
        rw [Bool.not_eq_true] at z
        show (!es.any _ && es.any _) = false
        rw [z, Bool.and_false]
  rw [aRefKeyMayBeTheName_at, c]
  refine wpAny_updatePart hdx ?_
  have D' : (s.heap.update dx (Obj.putName name (PyData.keyHash G.w.params name) (.str name (s.toks + 1)) v)).get? dx = some (dictOf (es ++ [⟨PyData.keyHash G.w.params name, .str name (s.toks + 1), v⟩]) (putN name es n)) := by
    rw [Heap.get?_update_self _ hdx (by rw [putName_dict]; rfl), putName_dict, putL_new Es hn]
  refine wpAny_bind (wpAny_lookBehind D' (by exact pastItsLine_dict (by rw [List.size_toArray, sizeLine_eq, List.length_append, Es.len]; simp; omega)) ?_)
  exact wpAny_pure (q _ _ _ _ D' Es.snoc (Heap.SameBut.update ..))
end

section
variable {G : Gc} {d : Nat} {sc csc : Scope} {ρ : List (Str × PV)} {σ : List Cell} {Qn : List (Str × PV) → List Cell → Prop} {Qr : PV → List Cell → Prop} {Q : PV → List Cell → Prop}

/-- a thing in the making -/
def Half (G : Gc) (ok : Addr → Prop) (as : List Addr) (h : Heap) (C x dx : Addr) (ns : List Str) (xs : List PV) : Prop :=
  ∃ es n vs, h.get? x = some (instObj C dx) ∧ h.get? dx = some (dictOf es n) ∧ Ents G.w.params es ns vs ∧ RVs G ok as h vs xs
def INI (G : Gc) (d : Nat) (sc : Scope) (ss : List Stmt) (ρ : List (Str × PV)) (σ : List Cell) (C : Addr) (ns : List Str) (xs : List PV) (Q : List Str → List PV → List Cell → Prop) : Prop :=
  ∀ (A : Around) (env : Env) (Y as : List Addr) (s : Shared) (x dx : Addr) (QQ : Flow → Shared → Prop) (E : Value → Shared → Prop), AOk A d → EnvOk sc env Y → CkOk sc env → Rep G Y as σ s.heap → LocRep G env (("self", .top (.ref x)) :: ρ) Y as σ s.heap → x ∈ Y → dx ∈ Y → x ≠ dx → ¬ own env x → ¬ own env dx → Half G (okOf Y as σ) as s.heap C x dx ns xs →
    (∀ ns' xs' as' σ' h' tk, Q ns' xs' σ' → Ext as σ s.heap as' σ' h' (fun b => own env b ∨ b = dx) → Rep G Y as' σ' h' → Half G (okOf Y as' σ') as' h' C x dx ns' xs' → QQ .next { s with heap := h', toks := tk }) →
    wpAny (model G.prog G.w) A (execs ss env) QQ E s

theorem INI.nil {C : Addr} {ns : List Str} {xs : List PV} {Q : List Str → List PV → List Cell → Prop} (h : Q ns xs σ) : INI G d sc [] ρ σ C ns xs Q := fun A env Y as s x dx QQ E hA hE hC R L hx hdx ne o1 o2 H f =>
  wpAny_execs_nil (f ns xs as σ s.heap _ h .refl R H)
theorem INI.cons {C fI : Addr} {ns : List Str} {xs : List PV} {name : Str} {e : Expr} {p1 p2 p3 : Pos} {rest : List Stmt} {Q : List Str → List PV → List Cell → Prop} (M : MakeK G.K C fI) (ht : takerIn G.K C name = some Option.none) 
    (hn : name ∉ ns) (hsz : ns.length ≤ 900) (h : ∀ x, EV G d sc e (("self", .top (.ref x)) :: ρ) σ fun v σ1 => INI G d sc rest ρ σ1 C (ns ++ [name]) (xs ++ [v]) Q)
    (hs : ∀ env, swapsWith e (some (.Attribute (.Name "self" p1) name p2)) p3.line env = pure false := by intro _; rfl) :
    INI G d sc (.Assign [.Attribute (.Name "self" p1) name p2] e p3 :: rest) ρ σ C ns xs Q := fun A env Y as s x dx QQ E hA hE hC R L hx hdx ne o1 o2 H f => by
  refine wpAny_execs_cons (plainObj_wpAny_Assign_Attribute (h x A env Y as s _ E hA hE R L fun v pv as1 σ1 h1 tk1 q1 x1 R1 r1 => ?_) (hs env))
  have nl : ∀ b, b ∈ Y → ∀ {a' s' h'}, Rep G Y a' s' h' → ¬ Live a' s' b := fun b m _ _ _ R ⟨i, c, e1, _, _⟩ => R.ny b (List.mem_of_getElem? e1) m
  have L1 := L.up R hE x1
  obtain ⟨es, n, vs, hgx, hgd, Es, rs⟩ := H
  have hgx1 := x1.keep x _ hgx (nl x hx R) (fun z => z)
  have hgd1 := x1.keep dx _ hgd (nl dx hdx R) (fun z => z)
  have rs1 := rs.up x1
  obtain ⟨m, hnm, g⟩ := L1.at_
  obtain ⟨v', rv', hk⟩ := g "self" _ rfl
  cases rv'
  refine wpAny_Name (load_at (as := as1) hE hnm hk (by decide +kernel) ?_) (by decide +kernel)
  refine set_own_dict R1.X M hgx1 hgd1 Es hn hsz ht fun h2 es2 n2 tk2 g2 Es2 hs2 => ?_
  have R2 := same_rep R1 hdx hs2 (by rw [g2]; exact fun z => nomatch z)
  have L2 := L1.same hE hdx o2 hs2
  have X2 : Ext as1 σ1 h1 as1 σ1 h2 (fun b => own env b ∨ b = dx) := ⟨⟨[], by simp⟩, fun _ z => .inl z, fun b o e _ n => (hs2.2 b fun z => n (.inr z)).trans e⟩
  have inY : ∀ b, (own env b ∨ b = dx) → b ∈ Y := fun b z => z.elim (hE.own b) fun z => z ▸ hdx
  refine q1 A env Y as1 _ x dx QQ E hA hE hC R2 L2 hx hdx ne o1 o2 ⟨es2, n2, _, (hs2.2 x ne).trans hgx1, g2, Es2, (RVs.ext X2 inY rs1).append (.cons (RV.ext X2 inY r1) .nil)⟩ fun ns' xs' as' σ' h' tk q x3 R3 H3 => ?_
  exact f ns' xs' as' σ' h' tk q ((x1.no.trans X2).trans x3) R3 H3

theorem typeCall_weight (C : Addr) (r : List Value) (kw : List (Str × Value)) : (Code.builtin "type.__call__" ⟨.ref C :: r, kw⟩).weight = 1 := by kernel_rfl
theorem typeCall_units (a : Args) : (Code.builtin "type.__call__" a).cUnits = 1 := by kernel_rfl
theorem AOk.typeCall {A : Around} {C : Addr} {r : List Value} {kw : List (Str × Value)} (h : AOk A (d + 2)) : AOk (A.under (.builtin "type.__call__" ⟨.ref C :: r, kw⟩)) (d + 1) :=
  ⟨h.hh, by have := h.dep; show A.depth + Code.weight _ + 2 * (d + 1) + 10 < _; rw [typeCall_weight]; omega, by have := h.un; show A.units + Code.cUnits _ + 20 * (d + 1) + 200 < _; rw [typeCall_units]; omega⟩

/-- to make a thing of a class whose first method only fills fields -/
theorem VC.make {C fI : Addr} {ns : List Str} {body : List Stmt} {xs : List PV} (M : MakeK G.K C fI) (F : FnK G.K fI ("self" :: ns) body sc) (hl : xs.length = ns.length)
    (h : INI G d sc body (ns.zip xs) σ C [] [] fun ns' xs' σ' => Q (.inst C ns' xs') σ') : VC G (d + 2) (fun vs => call (.ref C) vs) xs σ Q := fun A Y as s vs QQ E hA R r f => by
  obtain ⟨hh, gg, dd, tt, oo⟩ := s
  refine wpAny_call (make_core (makes_of R.X M.made) (looks_findIn R.X M.init) (fun self => bind_fn R.X self M.fn) (.inl rfl) ?_)
  have fdx : hh.get? hh.objs.size = none := get_size hh
  have lt2 : hh.objs.size + 1 = (hh.push emptyDict).objs.size := by rw [Heap.size_push]
  have fx : hh.get? (hh.objs.size + 1) = none := by
    cases e : hh.get? (hh.objs.size + 1) with
    | none => rfl
    | some o => exact absurd (Heap.lt_size e) (Nat.not_lt.mpr (Nat.le_succ _))
  have up : ∀ b o, hh.get? b = some o → ((hh.push emptyDict).push (instObj C hh.objs.size)).get? b = some o := fun b o e => Heap.get?_push_of_some _ (Heap.get?_push_of_some _ e)
  have gdx : ((hh.push emptyDict).push (instObj C hh.objs.size)).get? hh.objs.size = some (dictOf [] 0) := Heap.get?_push_of_some _ (Heap.get?_push_size _ rfl)
  have gx : ((hh.push emptyDict).push (instObj C hh.objs.size)).get? (hh.objs.size + 1) = some (instObj C hh.objs.size) := by rw [lt2]; exact Heap.get?_push_size _ rfl
  have nxd : hh.objs.size + 1 ≠ hh.objs.size := Nat.succ_ne_self _
  generalize hh.objs.size + 1 = x at *
  generalize hh.objs.size = dx at *
  generalize (hh.push emptyDict).push (instObj C dx) = h1 at *
  have hz : ∀ z ∈ [x, dx], hh.get? z = none ∧ h1.get? z ≠ none := fun z m => by
    rcases List.mem_cons.mp m with rfl | m
    · exact ⟨fx, by rw [gx]; exact fun z => nomatch z⟩
    · rw [List.mem_singleton.mp m]; exact ⟨fdx, by rw [gdx]; exact fun z => nomatch z⟩
  have R1 : Rep G ([x, dx] ++ Y) as σ h1 := R.enter up hz
  have r1 := r.enter (Z := [x, dx]) up fun z m => (hz z m).1
  have nx : x ∉ Y := (R.fresh fx).1
  have ndx : dx ∉ Y := (R.fresh fdx).1
  refine fn_core (xs := .top (.ref x) :: xs) F (by simp [hl]) hA.typeCall R1 (.cons (.top _) r1) fun env Z h2 tk2 E2 B => ?_
  have ox : ∀ z ∈ [x, dx], ¬ own env z := fun z m o => by
    have := B.own z o
    exact R1.yal z (List.mem_append_left _ m) this
  have mz : ∀ z ∈ [x, dx], z ∈ Z ++ ([x, dx] ++ Y) := fun z m => List.mem_append_right _ (List.mem_append_left _ m)
  refine h ((A.under (.builtin "type.__call__" ⟨.ref C :: vs, []⟩)).deeper env) env (Z ++ ([x, dx] ++ Y)) as _ x dx _ _ hA.typeCall.deeper B.hE B.hC B.R B.L (mz _ (by simp)) (mz _ (by simp)) nxd (ox _ (by simp)) (ox _ (by simp)) ⟨[], 0, [], B.keep _ _ gx, B.keep _ _ gdx, .nil, .nil⟩ fun ns' xs' as' σ' h' tk q x3 R3 H3 => ?_
  obtain ⟨es, n, ws, g1, g2, Es, rs⟩ := H3
  refine ⟨rfl, ?_⟩
  have x4 : Ext as σ hh as' σ' h' noF := by
    have a : Ext as σ hh as' σ' h' (fun b => own env b ∨ b = dx) := (Ext.grown fun b o e => B.keep b o (up b o e)).trans x3
    refine a.forgets fun b z => z.elim (fun o => ?_) fun z => z ▸ fdx
    have := B.own b o
    cases e : hh.get? b with
    | none => rfl
    | some o => rw [up b o e] at this; cases this
  have R4 : Rep G Y as' σ' h' := R3.leave.leave
  have ok : ∀ z ∈ [x, dx], okOf Y as' σ' z := fun z m => ⟨by
    rcases List.mem_cons.mp m with rfl | m
    · exact nx
    · rw [List.mem_singleton.mp m]; exact ndx, fun ⟨i, c, e1, _, _⟩ => R3.ny z (List.mem_of_getElem? e1) (mz z m)⟩
  exact f _ _ as' σ' h' _ q x4 R4 (.inst g1 g2 (ok _ (by simp)) (ok _ (by simp)) Es rs.leave.leave)
end

section
variable {G : Gc} {d : Nat} {sc csc : Scope} {ρ : List (Str × PV)} {σ : List Cell} {Qn : List (Str × PV) → List Cell → Prop} {Qr : PV → List Cell → Prop} {Q : PV → List Cell → Prop}

section
variable {Y as : List Addr} {h h' : Heap} {a : Addr} {c : Cell} {v : Value} {x : PV} {vs : List Value} {xs : List PV}
theorem ok_adopt (R : Rep G ([a] ++ Y) as σ h) (hs : ∀ b o, b ≠ a → h.get? b = some o → h'.get? b = some o) : ∀ b o, h.get? b = some o → okOf ([a] ++ Y) as σ b → h'.get? b = some o ∧ okOf Y (as ++ [a]) (σ ++ [c]) b := fun b o e k => by
  have nb : b ≠ a := fun z => k.1 (z ▸ List.mem_append_left _ (.head _))
  refine ⟨hs b o nb e, fun m => k.1 (List.mem_append_right _ m), fun ⟨i, c', e1, e2, n⟩ => ?_⟩
  rw [List.getElem?_append] at e1 e2
  rw [← R.len] at e2
  split at e1
  · rename_i lt
    rw [if_pos lt] at e2
    exact k.2 ⟨i, c', e1, e2, n⟩
  · have := List.mem_of_getElem? e1
    exact nb (List.mem_singleton.mp this)
theorem pre_adopt : ∀ (i : Nat) (b : Addr), as[i]? = some b → (as ++ [a])[i]? = some b := fun i b e => by rw [List.getElem?_append_left (List.getElem?_eq_some_iff.mp e).1]; exact e
theorem RV.adopt (R : Rep G ([a] ++ Y) as σ h) (hs : ∀ b o, b ≠ a → h.get? b = some o → h'.get? b = some o) (r : RV G (okOf ([a] ++ Y) as σ) as h v x) : RV G (okOf Y (as ++ [a]) (σ ++ [c])) (as ++ [a]) h' v x := RV.mono (ok_adopt R hs) pre_adopt r
theorem RVs.adopt (R : Rep G ([a] ++ Y) as σ h) (hs : ∀ b o, b ≠ a → h.get? b = some o → h'.get? b = some o) (r : RVs G (okOf ([a] ++ Y) as σ) as h vs xs) : RVs G (okOf Y (as ++ [a]) (σ ++ [c])) (as ++ [a]) h' vs xs := RVs.mono (ok_adopt R hs) pre_adopt r
theorem Rep.adopt (R : Rep G ([a] ++ Y) as σ h) (na : a ∉ Y) (hs : ∀ b o, b ≠ a → h.get? b = some o → h'.get? b = some o) (ga : h'.get? a ≠ .none) (cr : CellRep G (okOf Y (as ++ [a]) (σ ++ [c])) (as ++ [a]) h' a c) :
    Rep G Y (as ++ [a]) (σ ++ [c]) h' where
  base := fun b o e => hs b o (fun z => by rw [R.ylo b (z ▸ List.mem_append_left _ (.head _))] at e; cases e) (R.base b o e)
  yal := fun y m => by
    cases e : h.get? y with
    | none => exact absurd e (R.yal y (List.mem_append_right _ m))
    | some o => rw [hs y o (fun z => na (z ▸ m)) e]; exact fun x => nomatch x
  ylo := fun y m => R.ylo y (List.mem_append_right _ m)
  len := by simp [R.len]
  lo := fun b m => (List.mem_append.mp m).elim (R.lo b) fun m => by rw [List.mem_singleton.mp m]; exact R.ylo a (List.mem_append_left _ (.head _))
  al := fun b m => (List.mem_append.mp m).elim (fun m => by
    cases e : h.get? b with
    | none => exact absurd e (R.al b m)
    | some o => rw [hs b o (fun z => R.ny b m (z ▸ List.mem_append_left _ (.head _))) e]; exact fun x => nomatch x) fun m => by rw [List.mem_singleton.mp m]; exact ga
  ny := fun b m => (List.mem_append.mp m).elim (fun m q => R.ny b m (List.mem_append_right _ q)) fun m => by rw [List.mem_singleton.mp m]; exact na
  nd := by
    refine List.nodup_append.mpr ⟨R.nd, by simp, fun b mb b' mb' e => ?_⟩
    rw [List.mem_singleton.mp mb'] at e
    exact R.ny b mb (e ▸ List.mem_append_left _ (.head _))
  cells := fun i b c' e1 e2 => by
    rw [List.getElem?_append] at e1 e2
    rw [← R.len] at e2
    split at e1
    · rename_i lt
      rw [if_pos lt] at e2
      have q := R.cells i b c' e1 e2
      have nb : b ≠ a := fun z => R.ny b (List.mem_of_getElem? e1) (z ▸ List.mem_append_left _ (.head _))
      cases c' with
      | lst xs => obtain ⟨vs, n, g, r⟩ := q; exact ⟨vs, n, hs _ _ nb g, r.adopt R hs⟩
      | arr xs => obtain ⟨vs, o, g, E, r⟩ := q; exact ⟨vs, o, hs _ _ nb g, E, r.adopt R hs⟩
      | dct ns xs => obtain ⟨o, vs, g, E, r⟩ := q; exact ⟨o, vs, hs _ _ nb g, E, r.adopt R hs⟩
      | dead => trivial
    · rename_i lt
      rw [if_neg lt] at e2
      have b1 := List.mem_singleton.mp (List.mem_of_getElem? e1)
      have c1 := List.mem_singleton.mp (List.mem_of_getElem? e2)
      rw [b1, c1]; exact cr
theorem Ext.adopt {as₀ : List Addr} {σ₀ : List Cell} {h₀ : Heap} (X : Ext as₀ σ₀ h₀ as σ h noF) (R : Rep G ([a] ++ Y) as σ h) (fa : h₀.get? a = .none) (hs : ∀ b o, b ≠ a → h.get? b = some o → h'.get? b = some o) : Ext as₀ σ₀ h₀ (as ++ [a]) (σ ++ [c]) h' noF where
  pre := let ⟨l, e⟩ := X.pre; ⟨l ++ [a], by rw [e, List.append_assoc]⟩
  live := fun b ⟨i, c', e1, e2, n⟩ => by
    rw [List.getElem?_append] at e1 e2
    rw [← R.len] at e2
    split at e1
    · rename_i lt
      rw [if_pos lt] at e2
      exact X.live b ⟨i, c', e1, e2, n⟩
    · exact .inr (.inl ((List.mem_singleton.mp (List.mem_of_getElem? e1)) ▸ fa))
  keep := fun b o e n f => hs b o (fun z => by rw [z, fa] at e; cases e) (X.keep b o e n f)
end

/-- a list display whose list may be turned -/
theorem EV.list0 {pos : Pos} (h : Q (.cell σ.length) (σ ++ [.lst []])) : EV G d sc (.List [] pos) ρ σ Q := fun A env Y as s QQ E hA hE R L f => by
  refine List_ ?_
  refine (EVs.nil (G := G) (d := d) (sc := sc) (ρ := ρ) (σ := σ) (QL := fun xs σ' => xs = [] ∧ σ' = σ) ⟨rfl, rfl⟩) A env Y as s pos _ E hA hE R L fun vs xs as1 σ1 h1 tk1 q1 x1 R1 r1 => ?_
  obtain ⟨rfl, rfl⟩ := q1
  cases r1
  refine wpAny_newObj_type ?_ (Nat.zero_le _)
  generalize ho : ({ cls := .type "list", dict := Option.none, data := .seq ([] : List Value).toArray } : Obj) = o
  have fa : h1.get? h1.objs.size = Option.none := get_size h1
  have ga : (h1.push o).get? h1.objs.size = some o := Heap.get?_push_size _ (by rw [← ho]; rfl)
  have kk : ∀ b o', h1.get? b = some o' → (h1.push o).get? b = some o' := fun b o' e => Heap.get?_push_of_some _ e
  have R2 : Rep G ([h1.objs.size] ++ Y) as1 σ1 (h1.push o) := R1.enter kk fun z m => by rw [List.mem_singleton.mp m]; exact ⟨fa, by rw [ga]; exact fun x => nomatch x⟩
  have hs : ∀ b o', b ≠ h1.objs.size → (h1.push o).get? b = some o' → (h1.push o).get? b = some o' := fun _ _ _ e => e
  have sfa : s.heap.get? h1.objs.size = Option.none := by
    cases e : s.heap.get? h1.objs.size with
    | none => rfl
    | some o' =>
      by_cases lv : Live as σ1 h1.objs.size
      · obtain ⟨i, c, e1, _, _⟩ := lv
        exact absurd fa (R1.al _ (List.mem_of_getElem? (x1.idx e1)))
      · rw [x1.keep _ o' e lv fun z => z] at fa; cases fa
  exact f _ (.cell σ1.length) (as1 ++ [h1.objs.size]) (σ1 ++ [.lst []]) _ _ h (Ext.adopt (x1.trans (Ext.grown kk)) R2 sfa hs) (Rep.adopt (c := .lst []) R2 (R1.fresh fa).1 hs (by rw [ga]; exact fun x => nomatch x) ⟨[], 0, by rw [ga, ← ho], .nil⟩)
    (.cell (by rw [← R1.len]; simp))

theorem Rep.notMod {Y as : List Addr} {h : Heap} (R : Rep G Y as σ h) : (h.objs.size == sysModules) = false := beq_eq_false_iff_ne.mpr (Nat.ne_of_gt (modules_low R.top.nolimit))
theorem EV.dict0 {pos : Pos} (h : Q (.dict [] []) σ) : EV G d sc (.Dict [] [] pos) ρ σ Q := fun A env Y as s QQ E hA hE R L f => by
  refine wpAny_Dict_empty ?_
  obtain ⟨o, ho, hd⟩ := Heap.dictOf_iff.mp (Heap.DictOf.new (knd := PySem.strKind G.prog G.w) s.heap)
  obtain ⟨x2, R2, k2⟩ := R.push { cls := .type "dict", data := .dict #[] }
  exact f _ _ as σ _ _ h x2 R2 (.dict ho k2 hd .nil R.notMod)

theorem dict2_core {A : Around} {env : Env} {Y as : List Addr} {s : Shared} {QQ E : Value → Shared → Prop} {k1 k2 : Str} {e1 e2 : Expr} {kd1 kd2 : Nat} {p1 p2 pos : Pos} {Q2 : PV → PV → List Cell → Prop} (hA : AOk A d) (hE : EnvOk sc env Y) (R : Rep G Y as σ s.heap) (L : LocRep G env ρ Y as σ s.heap) (hk : k1 ≠ k2)
    (h : EV G d sc e1 ρ σ fun v1 σ1 => EV G d sc e2 ρ σ1 fun v2 σ2 => Q2 v1 v2 σ2)
    (f : ∀ D o u1 u2 v1 v2 as' σ' h4 h5 tk, Q2 v1 v2 σ' → s.heap.get? D = Option.none → (D == sysModules) = false → D ∉ Y → Ext as σ s.heap as' σ' h4 noF → Rep G ([D] ++ Y) as' σ' h4 → RVs G (okOf ([D] ++ Y) as' σ') as' h4 [u1, u2] [v1, v2] → Heap.SameBut D h4 h5 → h5.get? D = some o → o.IsDictOf (PySem.strKind G.prog G.w) ([k1, k2].zip [u1, u2]) →
      QQ (.ref D) { s with heap := h5, toks := tk }) : wpAny (model G.prog G.w) A (eval (.Dict [some (.Constant (.str k1) kd1 p1), some (.Constant (.str k2) kd2 p2)] [e1, e2] pos) env) QQ E s := by
  refine wpAny_Dict_walk (knd := PySem.strKind G.prog G.w) rfl rfl (List.cons_ne_nil _ _) (Nat.le_of_ble_eq_true rfl) ?_
  generalize ho : ({ cls := .type "dict", data := .dict #[] } : Obj) = o0
  have fD : s.heap.get? s.heap.objs.size = Option.none := get_size s.heap
  have gD : (s.heap.push o0).get? s.heap.objs.size = some o0 := Heap.get?_push_size _ (by rw [← ho]; rfl)
  have kk : ∀ b o', s.heap.get? b = some o' → (s.heap.push o0).get? b = some o' := fun b o' e => Heap.get?_push_of_some _ e
  have dD : (s.heap.push o0).DictOf (PySem.strKind G.prog G.w) s.heap.objs.size [] := by rw [← ho]; exact Heap.DictOf.new (knd := PySem.strKind G.prog G.w) s.heap
  have lD : (s.heap.objs.size == sysModules) = false := R.notMod
  generalize s.heap.objs.size = D at *
  have R1 : Rep G ([D] ++ Y) as σ (s.heap.push o0) := R.enter kk fun z m => by rw [List.mem_singleton.mp m]; exact ⟨fD, by rw [gD]; exact fun x => nomatch x⟩
  have L1 : LocRep G env ρ ([D] ++ Y) as σ (s.heap.push o0) := L.enter kk fun z m => by rw [List.mem_singleton.mp m]; exact fD
  have hE' : EnvOk sc env ([D] ++ Y) := hE.more
  have nD : D ∉ Y := (R.fresh fD).1
  have mD : D ∈ [D] ++ Y := List.mem_append_left _ (.head _)
  have nl : ∀ {a' s' h'}, Rep G ([D] ++ Y) a' s' h' → ¬ Live a' s' D := fun R ⟨i, c, e1, _, _⟩ => R.ny D (List.mem_of_getElem? e1) mD
  generalize s.heap.push o0 = h1 at *
  refine pairTrees_cons_walk (Calls.Constant_str ?_)
  refine (h A env _ as _ _ E hA hE' R1 L1 fun u1 v1 as2 σ2 h2 tk2 q2 x2 R2 r2 => ?_)
  refine pairTrees_cons_walk (Calls.Constant_str ?_)
  refine (q2 A env _ as2 _ _ E hA hE' R2 (L1.up R1 hE' x2) fun u2 v2 as3 σ3 h3 tk3 q3 x3 R3 r3 => ?_)
  refine pairTrees_nil_walk ?_
  have gD3 : h3.get? D = some o0 := x3.keep D _ (x2.keep D _ gD (nl R1) fun z => z) (nl R2) fun z => z
  refine display_done_str (vs := [(.str k1 _, u1), (.str k2 _, u2)]) rfl (by simp [strPairs, hk]) ?_ fun h5 hd5 hs5 => ?_
  · obtain ⟨o, ho', hd⟩ := Heap.dictOf_iff.mp dD
    rw [gD] at ho'; cases ho'
    exact Heap.dictOf_iff.mpr ⟨_, gD3, hd⟩
  · obtain ⟨o5, ho5, D5⟩ := Heap.dictOf_iff.mp hd5
    exact f D o5 u1 u2 v1 v2 as3 σ3 h3 h5 _ q3 fD lD nD ((Ext.grown kk).trans (x2.trans x3)) R3 (.cons (r2.up x3) (.cons r3 .nil)) hs5 ho5 D5
/-- a dict of two written names, turned no more -/
theorem EV.dict2 {k1 k2 : Str} {e1 e2 : Expr} {kd1 kd2 : Nat} {p1 p2 pos : Pos} (hk : k1 ≠ k2) (h : EV G d sc e1 ρ σ fun v1 σ1 => EV G d sc e2 ρ σ1 fun v2 σ2 => Q (.dict [k1, k2] [v1, v2]) σ2) :
    EV G d sc (.Dict [some (.Constant (.str k1) kd1 p1), some (.Constant (.str k2) kd2 p2)] [e1, e2] pos) ρ σ Q := fun A env Y as s QQ E hA hE R L f =>
  dict2_core hA hE R L hk h fun D o u1 u2 v1 v2 as' σ' h4 h5 tk q fD lD nD X R4 r4 hs ho hd => by
    have sub : ∀ y ∈ Y, y ∈ [D] ++ Y := fun y m => List.mem_append_right _ m
    have k : ∀ b o, h4.get? b = some o → (b ∈ [D] ++ Y → b ∈ Y) → h5.get? b = some o := fun b o e n => (hs.2 b fun z => nD (z ▸ n (z ▸ List.mem_append_left _ (.head _)))).trans e
    exact f _ _ as' σ' h5 tk q ((X.no.trans (⟨⟨[], by simp⟩, fun _ z => .inl z, fun b o e _ n => (hs.2 b n).trans e⟩ : Ext as' σ' h4 as' σ' h5 (· = D))).forgets fun b e => e ▸ fD) (R4.subY sub k)
      (.dict ho ⟨nD, fun ⟨i, c, e1, _, _⟩ => R4.ny D (List.mem_of_getElem? e1) (List.mem_append_left _ (.head _))⟩ hd (r4.subY sub k) lD)
/-- a dict of two written names that may be turned -/
theorem EV.dict2c {k1 k2 : Str} {e1 e2 : Expr} {kd1 kd2 : Nat} {p1 p2 pos : Pos} (hk : k1 ≠ k2) (h : EV G d sc e1 ρ σ fun v1 σ1 => EV G d sc e2 ρ σ1 fun v2 σ2 => Q (.cell σ2.length) (σ2 ++ [.dct [k1, k2] [v1, v2]])) :
    EV G d sc (.Dict [some (.Constant (.str k1) kd1 p1), some (.Constant (.str k2) kd2 p2)] [e1, e2] pos) ρ σ Q := fun A env Y as s QQ E hA hE R L f =>
  dict2_core hA hE R L hk h fun D o u1 u2 v1 v2 as' σ' h4 h5 tk q fD lD nD X R4 r4 hs ho hd => by
    have k : ∀ b o, b ≠ D → h4.get? b = some o → h5.get? b = some o := fun b o n e => (hs.2 b n).trans e
    exact f _ (.cell σ'.length) (as' ++ [D]) _ h5 tk q (X.adopt R4 fD k) (Rep.adopt (c := .dct [k1, k2] [v1, v2]) R4 nD k (by rw [ho]; exact fun x => nomatch x) ⟨o, [u1, u2], ho, hd, r4.adopt R4 k⟩) (.cell (by rw [← R4.len]; simp))
end

section
variable {G : Gc} {d : Nat} {sc csc : Scope} {ρ : List (Str × PV)} {σ : List Cell} {Q : PV → List Cell → Prop}

theorem VC.list_of {xs : List PV} (hl : xs.length ≤ 100000) (h : Q (.list xs) σ) : VC G d (callT "list") [.list xs] σ Q := fun A Y as s vs QQ E hA R r f => by
  obtain ⟨v, rfl, r1⟩ := r.one
  cases r1 with
  | list g k rs =>
    refine call_list_seq _ (.inl rfl) g rfl rfl (fun h' c' hk hD => ?_) (by rw [List.size_toArray, rs.length, sizeLine_eq]; omega)
    exact f _ _ as σ h' _ h (Ext.grown hk) (R.grown hk) (.list hD ((R.fresh (get_size _)).2.2.1) (rs.up (Ext.grown hk)))

theorem strs_of_items {prog : Program} {w : World} : ∀ {us : List Value} {kvs : List (Str × Value)}, us.length = kvs.length → (∀ (j : Nat) (v : Value), us[j]? = some v → ∃ k x, kvs[j]? = some (k, x) ∧ (PySem.strKind prog w).is k v = true) → StrsAre us (kvs.map (·.1))
  | [], [], _, _ => .nil
  | u :: us, (k, x) :: kvs, hl, h => by
    obtain ⟨k', x', e, hk⟩ := h 0 u rfl
    cases e
    have : ∃ t, u = .str k t := by
      cases u with
      | str y t =>
        have : (k == y) = true ∨ (y == k) = true := by
          first | exact .inl hk | exact .inr hk
        rcases this with e | e
        · exact ⟨t, by rw [beq_iff_eq.mp e]⟩
        · exact ⟨t, by rw [beq_iff_eq.mp e]⟩
      | _ => cases hk
    obtain ⟨t, rfl⟩ := this
    exact .cons k t (strs_of_items (by simpa using hl) fun j v e => h (j + 1) v e)

theorem VC.sorted {ns : List Str} {xs : List PV} (hn : ns.length = xs.length) (h64 : ns.length < 64) (h : ∀ ss : List Str, ss.Perm ns → sortedS ss = true → Q (.list (ss.map PV.str)) σ) : VC G d (callB "sorted") [.dict ns xs] σ Q := fun A Y as s vs QQ E hA R r f => by
  obtain ⟨v, rfl, r1⟩ := r.one
  cases r1 with
  | dict g kk D q lo =>
    rename_i dd o us
    obtain ⟨ep, hat⟩ := (Heap.dictOf_iff.mpr ⟨o, g, D⟩ : s.heap.DictOf (PySem.strKind G.prog G.w) dd (ns.zip us)).dictAt
    have hz : (ns.zip us).length = ns.length := by rw [List.length_zip, q.length]; omega
    refine Calls.call_function_entry kind_sorted plain_sorted entry_sorted (args_sorted1 _) ?_
    unfold Builtin.«sorted»
    refine wpAny_bind (m := checkCount "sorted" 1 1 _) (wpAny_pure ?_)
    refine wpAny_bind (kdu_collect (A := A.in1) (kdl_dict (knd := PySem.strKind G.prog G.w) (kvs := ns.zip us) (ep := ep) lo) hA.hh hat (by rw [hz, sizeLine_eq]; omega) fun h' tk acc hk hacc => ?_)
    have hl : acc.toList.length = (ns.zip us).length := by rw [Array.length_toList]; exact hacc.1
    have hS : StrsAre acc.toList ((ns.zip us).map (·.1)) := strs_of_items hl fun j v e => hacc.2 j v (by rw [← Array.getElem?_toList]; exact e)
    rw [List.map_fst_zip (by rw [q.length]; omega)] at hS
    refine wpAny_bind (wpAny_newList ?_ (by rw [hl, hz, sizeLine_eq]; omega))
    have hoL : (h'.push (seqObj "list" acc.toList.toArray 0)).get? h'.objs.size = some (seqObj "list" acc.toList.toArray 0) := Heap.get?_push_size _ rfl
    show wpAny _ _ _ _ _ { s with heap := h'.push (seqObj "list" acc.toList.toArray 0), toks := tk }
    refine wpAny_bind (wpAny_holding (wpAny_call_entry slot_list_sort ⟨_, hoL, rfl⟩ entry_list_sort (list_sort_treeK strKind_oneLt hoL hS.keysOf (fun v₁ v₂ rest e => keyKind_strs (by rw [← e]; exact hS)) (by rw [hl, hz]; exact h64) fun st' a1 a2 => ⟨_, rfl, ?_⟩) (args_list_sort _)))
    refine wpAny_pure ⟨_, rfl, ?_⟩
    obtain ⟨ss', b1, b2, b3⟩ := sorted_out_str hS a1 a2
    obtain ⟨e, he⟩ := sortedHeap_at (out := (arrOf st').map (·.2)) hoL
    have up : ∀ b o, s.heap.get? b = some o → (sortedHeap (h'.push (seqObj "list" acc.toList.toArray 0)) h'.objs.size acc.toList ((arrOf st').map (·.2))).get? b = some o := fun b o eb => by
      have e1 := hk b o eb
      rw [sortedHeap_old (Nat.ne_of_lt (Heap.lt_size e1)) (Heap.lt_size (Heap.get?_push_of_some _ e1))]
      exact Heap.get?_push_of_some _ e1
    have fr : s.heap.get? h'.objs.size = .none := by
      cases q : s.heap.get? h'.objs.size with
      | none => rfl
      | some o => exact absurd (Heap.lt_size (hk _ _ q)) (Nat.lt_irrefl _)
    refine f _ _ as σ _ _ (h ss' b2 b3) (Ext.grown up) (R.grown up) (.list (n := e) (vs := ((arrOf st').map (·.2)).toList) ?_ (R.fresh fr).2.2.1 (Mine.StrsAre.rvs b1))
    rw [he, Array.toArray_toList]
end

section
noncomputable abbrev KK (P : Params) : Frag := KH P
def fnAt (K : Frag) (a : Addr) : Option FuncData := match K.lookup a with | some ⟨_, _, .func fd, _⟩ => some fd | _ => none
noncomputable def bodyAt (P : Params) (a : Addr) : List Stmt := match fnAt (KK P) a with | some fd => (match fd.body with | .stmts b => b | _ => []) | none => []
noncomputable def scAt (P : Params) (a : Addr) : Scope := match fnAt (KK P) a with | some fd => fd.scope | none => ⟨.function, [], false, false, []⟩

/-- what the run knows, the program's own heap at hand -/
structure Gx where
  prog : Program
  w : World
  hb : Heap
  p : Program
  loose : List Str
  mean : ExcName → Option Value
  mg : Str → Option Value
  mb : Str → Option Value
  X : (KK w.params).In hb
  T : Top p loose mean mg mb hb
noncomputable def Gx.g (x : Gx) : Gc := ⟨x.prog, x.w, KK x.w.params, x.hb, x.p, x.loose, x.mean, x.mg, x.mb, x.X, x.T⟩
end

section
theorem lenS {α : Type} {n : Nat} {vs : List α} (h : vs.length = n + 1) : ∃ a r, vs = a :: r ∧ r.length = n := by
  cases vs with
  | nil => cases h
  | cons a r => exact ⟨a, r, rfl, Nat.succ.inj h⟩
theorem len0 {α : Type} {vs : List α} (h : vs.length = 0) : vs = [] := List.eq_nil_of_length_eq_zero h
theorem len1 {α : Type} {vs : List α} (h : vs.length = 1) : ∃ v0, vs = [v0] := by
  obtain ⟨v0, r, rfl, h1⟩ := lenS h
  obtain rfl := len0 h1
  exact ⟨v0, rfl⟩
theorem len2 {α : Type} {vs : List α} (h : vs.length = 2) : ∃ v0 v1, vs = [v0, v1] := by
  obtain ⟨v0, r, rfl, h1⟩ := lenS h
  obtain ⟨v1, rfl⟩ := len1 h1
  exact ⟨v0, v1, rfl⟩
theorem len3 {α : Type} {vs : List α} (h : vs.length = 3) : ∃ v0 v1 v2, vs = [v0, v1, v2] := by
  obtain ⟨v0, r, rfl, h1⟩ := lenS h
  obtain ⟨v1, v2, rfl⟩ := len2 h1
  exact ⟨v0, v1, v2, rfl⟩
theorem len4 {α : Type} {vs : List α} (h : vs.length = 4) : ∃ v0 v1 v2 v3, vs = [v0, v1, v2, v3] := by
  obtain ⟨v0, r, rfl, h1⟩ := lenS h
  obtain ⟨v1, v2, v3, rfl⟩ := len3 h1
  exact ⟨v0, v1, v2, v3, rfl⟩
theorem len5 {α : Type} {vs : List α} (h : vs.length = 5) : ∃ v0 v1 v2 v3 v4, vs = [v0, v1, v2, v3, v4] := by
  obtain ⟨v0, r, rfl, h1⟩ := lenS h
  obtain ⟨v1, v2, v3, v4, rfl⟩ := len4 h1
  exact ⟨v0, v1, v2, v3, v4, rfl⟩
theorem fn_SAtom_init (P : Params) : FnK (KK P) 28 ["self", "atom"] (bodyAt P 28) (scAt P 28) where
  ex := ⟨_, _, _, _, rfl, rfl, rfl, rfl, rfl, rfl, rfl, fun vs h => by obtain ⟨v0, v1, rfl⟩ := len2 h; rfl⟩
  kinds := rfl
  nd := by decide +kernel
  cnd := of_decide_eq_true (by kernel_rfl)
  co := rfl
  gen := rfl
  kind := rfl
theorem fn_SApp_init (P : Params) : FnK (KK P) 49 ["self", "name", "atoms"] (bodyAt P 49) (scAt P 49) where
  ex := ⟨_, _, _, _, rfl, rfl, rfl, rfl, rfl, rfl, rfl, fun vs h => by obtain ⟨v0, v1, v2, rfl⟩ := len3 h; rfl⟩
  kinds := rfl
  nd := by decide +kernel
  cnd := of_decide_eq_true (by kernel_rfl)
  co := rfl
  gen := rfl
  kind := rfl
theorem fn_SCon_init (P : Params) : FnK (KK P) 70 ["self", "con", "atoms"] (bodyAt P 70) (scAt P 70) where
  ex := ⟨_, _, _, _, rfl, rfl, rfl, rfl, rfl, rfl, rfl, fun vs h => by obtain ⟨v0, v1, v2, rfl⟩ := len3 h; rfl⟩
  kinds := rfl
  nd := by decide +kernel
  cnd := of_decide_eq_true (by kernel_rfl)
  co := rfl
  gen := rfl
  kind := rfl
theorem fn_SPrim_init (P : Params) : FnK (KK P) 91 ["self", "op", "atoms"] (bodyAt P 91) (scAt P 91) where
  ex := ⟨_, _, _, _, rfl, rfl, rfl, rfl, rfl, rfl, rfl, fun vs h => by obtain ⟨v0, v1, v2, rfl⟩ := len3 h; rfl⟩
  kinds := rfl
  nd := by decide +kernel
  cnd := of_decide_eq_true (by kernel_rfl)
  co := rfl
  gen := rfl
  kind := rfl
theorem fn_SCase_init (P : Params) : FnK (KK P) 112 ["self", "expr", "name", "alts", "other"] (bodyAt P 112) (scAt P 112) where
  ex := ⟨_, _, _, _, rfl, rfl, rfl, rfl, rfl, rfl, rfl, fun vs h => by obtain ⟨v0, v1, v2, v3, v4, rfl⟩ := len5 h; rfl⟩
  kinds := rfl
  nd := by decide +kernel
  cnd := of_decide_eq_true (by kernel_rfl)
  co := rfl
  gen := rfl
  kind := rfl
theorem fn_SAlt_init (P : Params) : FnK (KK P) 133 ["self", "key", "names", "body"] (bodyAt P 133) (scAt P 133) where
  ex := ⟨_, _, _, _, rfl, rfl, rfl, rfl, rfl, rfl, rfl, fun vs h => by obtain ⟨v0, v1, v2, v3, rfl⟩ := len4 h; rfl⟩
  kinds := rfl
  nd := by decide +kernel
  cnd := of_decide_eq_true (by kernel_rfl)
  co := rfl
  gen := rfl
  kind := rfl
theorem fn_SLet_init (P : Params) : FnK (KK P) 154 ["self", "binds", "body"] (bodyAt P 154) (scAt P 154) where
  ex := ⟨_, _, _, _, rfl, rfl, rfl, rfl, rfl, rfl, rfl, fun vs h => by obtain ⟨v0, v1, v2, rfl⟩ := len3 h; rfl⟩
  kinds := rfl
  nd := by decide +kernel
  cnd := of_decide_eq_true (by kernel_rfl)
  co := rfl
  gen := rfl
  kind := rfl
theorem fn_Lambda_init (P : Params) : FnK (KK P) 175 ["self", "free", "params", "body", "is_updated"] (bodyAt P 175) (scAt P 175) where
  ex := ⟨_, _, _, _, rfl, rfl, rfl, rfl, rfl, rfl, rfl, fun vs h => by obtain ⟨v0, v1, v2, v3, v4, rfl⟩ := len5 h; rfl⟩
  kinds := rfl
  nd := by decide +kernel
  cnd := of_decide_eq_true (by kernel_rfl)
  co := rfl
  gen := rfl
  kind := rfl
theorem fn_StgProgram_init (P : Params) : FnK (KK P) 196 ["self", "binds", "cons", "main"] (bodyAt P 196) (scAt P 196) where
  ex := ⟨_, _, _, _, rfl, rfl, rfl, rfl, rfl, rfl, rfl, fun vs h => by obtain ⟨v0, v1, v2, v3, rfl⟩ := len4 h; rfl⟩
  kinds := rfl
  nd := by decide +kernel
  cnd := of_decide_eq_true (by kernel_rfl)
  co := rfl
  gen := rfl
  kind := rfl
theorem fn_literal_text (P : Params) : FnK (KK P) 210 ["kind", "value"] (bodyAt P 210) (scAt P 210) where
  ex := ⟨_, _, _, _, rfl, rfl, rfl, rfl, rfl, rfl, rfl, fun vs h => by obtain ⟨v0, v1, rfl⟩ := len2 h; rfl⟩
  kinds := rfl
  nd := by decide +kernel
  cnd := of_decide_eq_true (by kernel_rfl)
  co := rfl
  gen := rfl
  kind := rfl
theorem fn_atom_text (P : Params) : FnK (KK P) 217 ["atom"] (bodyAt P 217) (scAt P 217) where
  ex := ⟨_, _, _, _, rfl, rfl, rfl, rfl, rfl, rfl, rfl, fun vs h => by obtain ⟨v0, rfl⟩ := len1 h; rfl⟩
  kinds := rfl
  nd := by decide +kernel
  cnd := of_decide_eq_true (by kernel_rfl)
  co := rfl
  gen := rfl
  kind := rfl
theorem fn_row_text (P : Params) : FnK (KK P) 222 ["head", "atoms"] (bodyAt P 222) (scAt P 222) where
  ex := ⟨_, _, _, _, rfl, rfl, rfl, rfl, rfl, rfl, rfl, fun vs h => by obtain ⟨v0, v1, rfl⟩ := len2 h; rfl⟩
  kinds := rfl
  nd := by decide +kernel
  cnd := of_decide_eq_true (by kernel_rfl)
  co := rfl
  gen := rfl
  kind := rfl
theorem fn_Lines_init (P : Params) : FnK (KK P) 236 ["self"] (bodyAt P 236) (scAt P 236) where
  ex := ⟨_, _, _, _, rfl, rfl, rfl, rfl, rfl, rfl, rfl, fun vs h => by obtain ⟨v0, rfl⟩ := len1 h; rfl⟩
  kinds := rfl
  nd := by decide +kernel
  cnd := of_decide_eq_true (by kernel_rfl)
  co := rfl
  gen := rfl
  kind := rfl
theorem fn_put (P : Params) : FnK (KK P) 243 ["self", "depth", "text"] (bodyAt P 243) (scAt P 243) where
  ex := ⟨_, _, _, _, rfl, rfl, rfl, rfl, rfl, rfl, rfl, fun vs h => by obtain ⟨v0, v1, v2, rfl⟩ := len3 h; rfl⟩
  kinds := rfl
  nd := by decide +kernel
  cnd := of_decide_eq_true (by kernel_rfl)
  co := rfl
  gen := rfl
  kind := rfl
theorem fn_closure (P : Params) : FnK (KK P) 250 ["self", "depth", "name", "made"] (bodyAt P 250) (scAt P 250) where
  ex := ⟨_, _, _, _, rfl, rfl, rfl, rfl, rfl, rfl, rfl, fun vs h => by obtain ⟨v0, v1, v2, v3, rfl⟩ := len4 h; rfl⟩
  kinds := rfl
  nd := by decide +kernel
  cnd := of_decide_eq_true (by kernel_rfl)
  co := rfl
  gen := rfl
  kind := rfl
theorem fn_expression (P : Params) : FnK (KK P) 257 ["self", "depth", "expr"] (bodyAt P 257) (scAt P 257) where
  ex := ⟨_, _, _, _, rfl, rfl, rfl, rfl, rfl, rfl, rfl, fun vs h => by obtain ⟨v0, v1, v2, rfl⟩ := len3 h; rfl⟩
  kinds := rfl
  nd := by decide +kernel
  cnd := of_decide_eq_true (by kernel_rfl)
  co := rfl
  gen := rfl
  kind := rfl
theorem fn_case (P : Params) : FnK (KK P) 264 ["self", "depth", "expr"] (bodyAt P 264) (scAt P 264) where
  ex := ⟨_, _, _, _, rfl, rfl, rfl, rfl, rfl, rfl, rfl, fun vs h => by obtain ⟨v0, v1, v2, rfl⟩ := len3 h; rfl⟩
  kinds := rfl
  nd := by decide +kernel
  cnd := of_decide_eq_true (by kernel_rfl)
  co := rfl
  gen := rfl
  kind := rfl
theorem fn_key_text (P : Params) : FnK (KK P) 278 ["key", "names"] (bodyAt P 278) (scAt P 278) where
  ex := ⟨_, _, _, _, rfl, rfl, rfl, rfl, rfl, rfl, rfl, fun vs h => by obtain ⟨v0, v1, rfl⟩ := len2 h; rfl⟩
  kinds := rfl
  nd := by decide +kernel
  cnd := of_decide_eq_true (by kernel_rfl)
  co := rfl
  gen := rfl
  kind := rfl
theorem fn_stg_text (P : Params) : FnK (KK P) 285 ["expr"] (bodyAt P 285) (scAt P 285) where
  ex := ⟨_, _, _, _, rfl, rfl, rfl, rfl, rfl, rfl, rfl, fun vs h => by obtain ⟨v0, rfl⟩ := len1 h; rfl⟩
  kinds := rfl
  nd := by decide +kernel
  cnd := of_decide_eq_true (by kernel_rfl)
  co := rfl
  gen := rfl
  kind := rfl
theorem fn_stg_program_text (P : Params) : FnK (KK P) 292 ["program"] (bodyAt P 292) (scAt P 292) where
  ex := ⟨_, _, _, _, rfl, rfl, rfl, rfl, rfl, rfl, rfl, fun vs h => by obtain ⟨v0, rfl⟩ := len1 h; rfl⟩
  kinds := rfl
  nd := by decide +kernel
  cnd := of_decide_eq_true (by kernel_rfl)
  co := rfl
  gen := rfl
  kind := rfl
theorem fn_take (P : Params) : FnK (KK P) 306 ["source", "top"] (bodyAt P 306) (scAt P 306) where
  ex := ⟨_, _, _, _, rfl, rfl, rfl, rfl, rfl, rfl, rfl, fun vs h => by obtain ⟨v0, v1, rfl⟩ := len2 h; rfl⟩
  kinds := rfl
  nd := by decide +kernel
  cnd := of_decide_eq_true (by kernel_rfl)
  co := rfl
  gen := rfl
  kind := rfl
theorem fn_one (P : Params) : FnK (KK P) 313 ["source", "things"] (bodyAt P 313) (scAt P 313) where
  ex := ⟨_, _, _, _, rfl, rfl, rfl, rfl, rfl, rfl, rfl, fun vs h => by obtain ⟨v0, v1, rfl⟩ := len2 h; rfl⟩
  kinds := rfl
  nd := by decide +kernel
  cnd := of_decide_eq_true (by kernel_rfl)
  co := rfl
  gen := rfl
  kind := rfl
theorem fn_atom (P : Params) : FnK (KK P) 320 ["source"] (bodyAt P 320) (scAt P 320) where
  ex := ⟨_, _, _, _, rfl, rfl, rfl, rfl, rfl, rfl, rfl, fun vs h => by obtain ⟨v0, rfl⟩ := len1 h; rfl⟩
  kinds := rfl
  nd := by decide +kernel
  cnd := of_decide_eq_true (by kernel_rfl)
  co := rfl
  gen := rfl
  kind := rfl
theorem fn_atoms (P : Params) : FnK (KK P) 325 ["source", "least"] (bodyAt P 325) (scAt P 325) where
  ex := ⟨_, _, _, _, rfl, rfl, rfl, rfl, rfl, rfl, rfl, fun vs h => by obtain ⟨v0, v1, rfl⟩ := len2 h; rfl⟩
  kinds := rfl
  nd := by decide +kernel
  cnd := of_decide_eq_true (by kernel_rfl)
  co := rfl
  gen := rfl
  kind := rfl
theorem fn_lclosure (P : Params) : FnK (KK P) 332 ["source", "deep"] (bodyAt P 332) (scAt P 332) where
  ex := ⟨_, _, _, _, rfl, rfl, rfl, rfl, rfl, rfl, rfl, fun vs h => by obtain ⟨v0, v1, rfl⟩ := len2 h; rfl⟩
  kinds := rfl
  nd := by decide +kernel
  cnd := of_decide_eq_true (by kernel_rfl)
  co := rfl
  gen := rfl
  kind := rfl
theorem fn_alt (P : Params) : FnK (KK P) 339 ["source", "deep"] (bodyAt P 339) (scAt P 339) where
  ex := ⟨_, _, _, _, rfl, rfl, rfl, rfl, rfl, rfl, rfl, fun vs h => by obtain ⟨v0, v1, rfl⟩ := len2 h; rfl⟩
  kinds := rfl
  nd := by decide +kernel
  cnd := of_decide_eq_true (by kernel_rfl)
  co := rfl
  gen := rfl
  kind := rfl
theorem fn_tree (P : Params) : FnK (KK P) 344 ["source", "deep"] (bodyAt P 344) (scAt P 344) where
  ex := ⟨_, _, _, _, rfl, rfl, rfl, rfl, rfl, rfl, rfl, fun vs h => by obtain ⟨v0, v1, rfl⟩ := len2 h; rfl⟩
  kinds := rfl
  nd := by decide +kernel
  cnd := of_decide_eq_true (by kernel_rfl)
  co := rfl
  gen := rfl
  kind := rfl
theorem fn_lambda (P : Params) : FnK (KK P) 351 ["told"] (bodyAt P 351) (scAt P 351) where
  ex := ⟨_, _, _, _, rfl, rfl, rfl, rfl, rfl, rfl, rfl, fun vs h => by obtain ⟨v0, rfl⟩ := len1 h; rfl⟩
  kinds := rfl
  nd := by decide +kernel
  cnd := of_decide_eq_true (by kernel_rfl)
  co := rfl
  gen := rfl
  kind := rfl
theorem fn_node (P : Params) : FnK (KK P) 356 ["tree"] (bodyAt P 356) (scAt P 356) where
  ex := ⟨_, _, _, _, rfl, rfl, rfl, rfl, rfl, rfl, rfl, fun vs h => by obtain ⟨v0, rfl⟩ := len1 h; rfl⟩
  kinds := rfl
  nd := by decide +kernel
  cnd := of_decide_eq_true (by kernel_rfl)
  co := rfl
  gen := rfl
  kind := rfl
theorem fn_read_atom (P : Params) : FnK (KK P) 363 ["word"] (bodyAt P 363) (scAt P 363) where
  ex := ⟨_, _, _, _, rfl, rfl, rfl, rfl, rfl, rfl, rfl, fun vs h => by obtain ⟨v0, rfl⟩ := len1 h; rfl⟩
  kinds := rfl
  nd := by decide +kernel
  cnd := of_decide_eq_true (by kernel_rfl)
  co := rfl
  gen := rfl
  kind := rfl
theorem fn_next (P : Params) : FnK (KK P) 370 ["box"] (bodyAt P 370) (scAt P 370) where
  ex := ⟨_, _, _, _, rfl, rfl, rfl, rfl, rfl, rfl, rfl, fun vs h => by obtain ⟨v0, rfl⟩ := len1 h; rfl⟩
  kinds := rfl
  nd := by decide +kernel
  cnd := of_decide_eq_true (by kernel_rfl)
  co := rfl
  gen := rfl
  kind := rfl
theorem fn_is_at (P : Params) : FnK (KK P) 377 ["box", "indent", "head"] (bodyAt P 377) (scAt P 377) where
  ex := ⟨_, _, _, _, rfl, rfl, rfl, rfl, rfl, rfl, rfl, fun vs h => by obtain ⟨v0, v1, v2, rfl⟩ := len3 h; rfl⟩
  kinds := rfl
  nd := by decide +kernel
  cnd := of_decide_eq_true (by kernel_rfl)
  co := rfl
  gen := rfl
  kind := rfl
theorem fn_read_closure (P : Params) : FnK (KK P) 384 ["box", "indent"] (bodyAt P 384) (scAt P 384) where
  ex := ⟨_, _, _, _, rfl, rfl, rfl, rfl, rfl, rfl, rfl, fun vs h => by obtain ⟨v0, v1, rfl⟩ := len2 h; rfl⟩
  kinds := rfl
  nd := by decide +kernel
  cnd := of_decide_eq_true (by kernel_rfl)
  co := rfl
  gen := rfl
  kind := rfl
theorem fn_read_key (P : Params) : FnK (KK P) 391 ["text"] (bodyAt P 391) (scAt P 391) where
  ex := ⟨_, _, _, _, rfl, rfl, rfl, rfl, rfl, rfl, rfl, fun vs h => by obtain ⟨v0, rfl⟩ := len1 h; rfl⟩
  kinds := rfl
  nd := by decide +kernel
  cnd := of_decide_eq_true (by kernel_rfl)
  co := rfl
  gen := rfl
  kind := rfl
theorem fn_read (P : Params) : FnK (KK P) 396 ["box", "indent"] (bodyAt P 396) (scAt P 396) where
  ex := ⟨_, _, _, _, rfl, rfl, rfl, rfl, rfl, rfl, rfl, fun vs h => by obtain ⟨v0, v1, rfl⟩ := len2 h; rfl⟩
  kinds := rfl
  nd := by decide +kernel
  cnd := of_decide_eq_true (by kernel_rfl)
  co := rfl
  gen := rfl
  kind := rfl
theorem fn_box (P : Params) : FnK (KK P) 403 ["text"] (bodyAt P 403) (scAt P 403) where
  ex := ⟨_, _, _, _, rfl, rfl, rfl, rfl, rfl, rfl, rfl, fun vs h => by obtain ⟨v0, rfl⟩ := len1 h; rfl⟩
  kinds := rfl
  nd := by decide +kernel
  cnd := of_decide_eq_true (by kernel_rfl)
  co := rfl
  gen := rfl
  kind := rfl
theorem mk_SAtom (P : Params) : MakeK (KK P) 31 28 := ⟨by kernel_rfl, by kernel_rfl, by kernel_rfl, by kernel_rfl, by kernel_rfl, by kernel_rfl⟩
theorem tk_SAtom_atom (P : Params) : takerIn (KK P) 31 "atom" = some Option.none := by kernel_rfl
theorem pg_SAtom_atom (P : Params) : plainGet (KK P) 31 "atom" = true := by kernel_rfl
theorem fi_SAtom_atom (P : Params) : findIn (KK P) (.ref 31) "atom" = some Option.none := by kernel_rfl
theorem hd_SAtom (P : Params) : hasDictIn (KK P) 31 = true := by kernel_rfl
theorem mk_SApp (P : Params) : MakeK (KK P) 52 49 := ⟨by kernel_rfl, by kernel_rfl, by kernel_rfl, by kernel_rfl, by kernel_rfl, by kernel_rfl⟩
theorem tk_SApp_name (P : Params) : takerIn (KK P) 52 "name" = some Option.none := by kernel_rfl
theorem pg_SApp_name (P : Params) : plainGet (KK P) 52 "name" = true := by kernel_rfl
theorem fi_SApp_name (P : Params) : findIn (KK P) (.ref 52) "name" = some Option.none := by kernel_rfl
theorem tk_SApp_atoms (P : Params) : takerIn (KK P) 52 "atoms" = some Option.none := by kernel_rfl
theorem pg_SApp_atoms (P : Params) : plainGet (KK P) 52 "atoms" = true := by kernel_rfl
theorem fi_SApp_atoms (P : Params) : findIn (KK P) (.ref 52) "atoms" = some Option.none := by kernel_rfl
theorem hd_SApp (P : Params) : hasDictIn (KK P) 52 = true := by kernel_rfl
theorem mk_SCon (P : Params) : MakeK (KK P) 73 70 := ⟨by kernel_rfl, by kernel_rfl, by kernel_rfl, by kernel_rfl, by kernel_rfl, by kernel_rfl⟩
theorem tk_SCon_con (P : Params) : takerIn (KK P) 73 "con" = some Option.none := by kernel_rfl
theorem pg_SCon_con (P : Params) : plainGet (KK P) 73 "con" = true := by kernel_rfl
theorem fi_SCon_con (P : Params) : findIn (KK P) (.ref 73) "con" = some Option.none := by kernel_rfl
theorem tk_SCon_atoms (P : Params) : takerIn (KK P) 73 "atoms" = some Option.none := by kernel_rfl
theorem pg_SCon_atoms (P : Params) : plainGet (KK P) 73 "atoms" = true := by kernel_rfl
theorem fi_SCon_atoms (P : Params) : findIn (KK P) (.ref 73) "atoms" = some Option.none := by kernel_rfl
theorem hd_SCon (P : Params) : hasDictIn (KK P) 73 = true := by kernel_rfl
theorem mk_SPrim (P : Params) : MakeK (KK P) 94 91 := ⟨by kernel_rfl, by kernel_rfl, by kernel_rfl, by kernel_rfl, by kernel_rfl, by kernel_rfl⟩
theorem tk_SPrim_op (P : Params) : takerIn (KK P) 94 "op" = some Option.none := by kernel_rfl
theorem pg_SPrim_op (P : Params) : plainGet (KK P) 94 "op" = true := by kernel_rfl
theorem fi_SPrim_op (P : Params) : findIn (KK P) (.ref 94) "op" = some Option.none := by kernel_rfl
theorem tk_SPrim_atoms (P : Params) : takerIn (KK P) 94 "atoms" = some Option.none := by kernel_rfl
theorem pg_SPrim_atoms (P : Params) : plainGet (KK P) 94 "atoms" = true := by kernel_rfl
theorem fi_SPrim_atoms (P : Params) : findIn (KK P) (.ref 94) "atoms" = some Option.none := by kernel_rfl
theorem hd_SPrim (P : Params) : hasDictIn (KK P) 94 = true := by kernel_rfl
theorem mk_SCase (P : Params) : MakeK (KK P) 115 112 := ⟨by kernel_rfl, by kernel_rfl, by kernel_rfl, by kernel_rfl, by kernel_rfl, by kernel_rfl⟩
theorem tk_SCase_expr (P : Params) : takerIn (KK P) 115 "expr" = some Option.none := by kernel_rfl
theorem pg_SCase_expr (P : Params) : plainGet (KK P) 115 "expr" = true := by kernel_rfl
theorem fi_SCase_expr (P : Params) : findIn (KK P) (.ref 115) "expr" = some Option.none := by kernel_rfl
theorem tk_SCase_name (P : Params) : takerIn (KK P) 115 "name" = some Option.none := by kernel_rfl
theorem pg_SCase_name (P : Params) : plainGet (KK P) 115 "name" = true := by kernel_rfl
theorem fi_SCase_name (P : Params) : findIn (KK P) (.ref 115) "name" = some Option.none := by kernel_rfl
theorem tk_SCase_alts (P : Params) : takerIn (KK P) 115 "alts" = some Option.none := by kernel_rfl
theorem pg_SCase_alts (P : Params) : plainGet (KK P) 115 "alts" = true := by kernel_rfl
theorem fi_SCase_alts (P : Params) : findIn (KK P) (.ref 115) "alts" = some Option.none := by kernel_rfl
theorem tk_SCase_other (P : Params) : takerIn (KK P) 115 "other" = some Option.none := by kernel_rfl
theorem pg_SCase_other (P : Params) : plainGet (KK P) 115 "other" = true := by kernel_rfl
theorem fi_SCase_other (P : Params) : findIn (KK P) (.ref 115) "other" = some Option.none := by kernel_rfl
theorem hd_SCase (P : Params) : hasDictIn (KK P) 115 = true := by kernel_rfl
theorem mk_SAlt (P : Params) : MakeK (KK P) 136 133 := ⟨by kernel_rfl, by kernel_rfl, by kernel_rfl, by kernel_rfl, by kernel_rfl, by kernel_rfl⟩
theorem tk_SAlt_key (P : Params) : takerIn (KK P) 136 "key" = some Option.none := by kernel_rfl
theorem pg_SAlt_key (P : Params) : plainGet (KK P) 136 "key" = true := by kernel_rfl
theorem fi_SAlt_key (P : Params) : findIn (KK P) (.ref 136) "key" = some Option.none := by kernel_rfl
theorem tk_SAlt_names (P : Params) : takerIn (KK P) 136 "names" = some Option.none := by kernel_rfl
theorem pg_SAlt_names (P : Params) : plainGet (KK P) 136 "names" = true := by kernel_rfl
theorem fi_SAlt_names (P : Params) : findIn (KK P) (.ref 136) "names" = some Option.none := by kernel_rfl
theorem tk_SAlt_body (P : Params) : takerIn (KK P) 136 "body" = some Option.none := by kernel_rfl
theorem pg_SAlt_body (P : Params) : plainGet (KK P) 136 "body" = true := by kernel_rfl
theorem fi_SAlt_body (P : Params) : findIn (KK P) (.ref 136) "body" = some Option.none := by kernel_rfl
theorem hd_SAlt (P : Params) : hasDictIn (KK P) 136 = true := by kernel_rfl
theorem mk_SLet (P : Params) : MakeK (KK P) 157 154 := ⟨by kernel_rfl, by kernel_rfl, by kernel_rfl, by kernel_rfl, by kernel_rfl, by kernel_rfl⟩
theorem tk_SLet_binds (P : Params) : takerIn (KK P) 157 "binds" = some Option.none := by kernel_rfl
theorem pg_SLet_binds (P : Params) : plainGet (KK P) 157 "binds" = true := by kernel_rfl
theorem fi_SLet_binds (P : Params) : findIn (KK P) (.ref 157) "binds" = some Option.none := by kernel_rfl
theorem tk_SLet_body (P : Params) : takerIn (KK P) 157 "body" = some Option.none := by kernel_rfl
theorem pg_SLet_body (P : Params) : plainGet (KK P) 157 "body" = true := by kernel_rfl
theorem fi_SLet_body (P : Params) : findIn (KK P) (.ref 157) "body" = some Option.none := by kernel_rfl
theorem hd_SLet (P : Params) : hasDictIn (KK P) 157 = true := by kernel_rfl
theorem mk_Lambda (P : Params) : MakeK (KK P) 178 175 := ⟨by kernel_rfl, by kernel_rfl, by kernel_rfl, by kernel_rfl, by kernel_rfl, by kernel_rfl⟩
theorem tk_Lambda_free (P : Params) : takerIn (KK P) 178 "free" = some Option.none := by kernel_rfl
theorem pg_Lambda_free (P : Params) : plainGet (KK P) 178 "free" = true := by kernel_rfl
theorem fi_Lambda_free (P : Params) : findIn (KK P) (.ref 178) "free" = some Option.none := by kernel_rfl
theorem tk_Lambda_params (P : Params) : takerIn (KK P) 178 "params" = some Option.none := by kernel_rfl
theorem pg_Lambda_params (P : Params) : plainGet (KK P) 178 "params" = true := by kernel_rfl
theorem fi_Lambda_params (P : Params) : findIn (KK P) (.ref 178) "params" = some Option.none := by kernel_rfl
theorem tk_Lambda_body (P : Params) : takerIn (KK P) 178 "body" = some Option.none := by kernel_rfl
theorem pg_Lambda_body (P : Params) : plainGet (KK P) 178 "body" = true := by kernel_rfl
theorem fi_Lambda_body (P : Params) : findIn (KK P) (.ref 178) "body" = some Option.none := by kernel_rfl
theorem tk_Lambda_is_updated (P : Params) : takerIn (KK P) 178 "is_updated" = some Option.none := by kernel_rfl
theorem pg_Lambda_is_updated (P : Params) : plainGet (KK P) 178 "is_updated" = true := by kernel_rfl
theorem fi_Lambda_is_updated (P : Params) : findIn (KK P) (.ref 178) "is_updated" = some Option.none := by kernel_rfl
theorem hd_Lambda (P : Params) : hasDictIn (KK P) 178 = true := by kernel_rfl
theorem mk_StgProgram (P : Params) : MakeK (KK P) 199 196 := ⟨by kernel_rfl, by kernel_rfl, by kernel_rfl, by kernel_rfl, by kernel_rfl, by kernel_rfl⟩
theorem tk_StgProgram_binds (P : Params) : takerIn (KK P) 199 "binds" = some Option.none := by kernel_rfl
theorem pg_StgProgram_binds (P : Params) : plainGet (KK P) 199 "binds" = true := by kernel_rfl
theorem fi_StgProgram_binds (P : Params) : findIn (KK P) (.ref 199) "binds" = some Option.none := by kernel_rfl
theorem tk_StgProgram_cons (P : Params) : takerIn (KK P) 199 "cons" = some Option.none := by kernel_rfl
theorem pg_StgProgram_cons (P : Params) : plainGet (KK P) 199 "cons" = true := by kernel_rfl
theorem fi_StgProgram_cons (P : Params) : findIn (KK P) (.ref 199) "cons" = some Option.none := by kernel_rfl
theorem tk_StgProgram_main (P : Params) : takerIn (KK P) 199 "main" = some Option.none := by kernel_rfl
theorem pg_StgProgram_main (P : Params) : plainGet (KK P) 199 "main" = true := by kernel_rfl
theorem fi_StgProgram_main (P : Params) : findIn (KK P) (.ref 199) "main" = some Option.none := by kernel_rfl
theorem hd_StgProgram (P : Params) : hasDictIn (KK P) 199 = true := by kernel_rfl
theorem mk_Lines (P : Params) : MakeK (KK P) 267 236 := ⟨by kernel_rfl, by kernel_rfl, by kernel_rfl, by kernel_rfl, by kernel_rfl, by kernel_rfl⟩
theorem tk_Lines_rows (P : Params) : takerIn (KK P) 267 "rows" = some Option.none := by kernel_rfl
theorem pg_Lines_rows (P : Params) : plainGet (KK P) 267 "rows" = true := by kernel_rfl
theorem fi_Lines_rows (P : Params) : findIn (KK P) (.ref 267) "rows" = some Option.none := by kernel_rfl
theorem hd_Lines (P : Params) : hasDictIn (KK P) 267 = true := by kernel_rfl
theorem isi_SAtom (P : Params) : IsiK (KK P) 31 := ⟨by kernel_rfl, by kernel_rfl, by kernel_rfl, by kernel_rfl, by kernel_rfl, by kernel_rfl⟩
theorem is_SAtom (P : Params) : isIn (KK P) (.ref 31) 31 = true := by kernel_rfl
theorem no_SAtom_SApp (P : Params) : kin_not (KK P) 31 52 = true := by kernel_rfl
theorem no_SAtom_SCon (P : Params) : kin_not (KK P) 31 73 = true := by kernel_rfl
theorem no_SAtom_SPrim (P : Params) : kin_not (KK P) 31 94 = true := by kernel_rfl
theorem no_SAtom_SCase (P : Params) : kin_not (KK P) 31 115 = true := by kernel_rfl
theorem no_SAtom_SLet (P : Params) : kin_not (KK P) 31 157 = true := by kernel_rfl
theorem isi_SApp (P : Params) : IsiK (KK P) 52 := ⟨by kernel_rfl, by kernel_rfl, by kernel_rfl, by kernel_rfl, by kernel_rfl, by kernel_rfl⟩
theorem is_SApp (P : Params) : isIn (KK P) (.ref 52) 52 = true := by kernel_rfl
theorem no_SApp_SAtom (P : Params) : kin_not (KK P) 52 31 = true := by kernel_rfl
theorem no_SApp_SCon (P : Params) : kin_not (KK P) 52 73 = true := by kernel_rfl
theorem no_SApp_SPrim (P : Params) : kin_not (KK P) 52 94 = true := by kernel_rfl
theorem no_SApp_SCase (P : Params) : kin_not (KK P) 52 115 = true := by kernel_rfl
theorem no_SApp_SLet (P : Params) : kin_not (KK P) 52 157 = true := by kernel_rfl
theorem isi_SCon (P : Params) : IsiK (KK P) 73 := ⟨by kernel_rfl, by kernel_rfl, by kernel_rfl, by kernel_rfl, by kernel_rfl, by kernel_rfl⟩
theorem is_SCon (P : Params) : isIn (KK P) (.ref 73) 73 = true := by kernel_rfl
theorem no_SCon_SAtom (P : Params) : kin_not (KK P) 73 31 = true := by kernel_rfl
theorem no_SCon_SApp (P : Params) : kin_not (KK P) 73 52 = true := by kernel_rfl
theorem no_SCon_SPrim (P : Params) : kin_not (KK P) 73 94 = true := by kernel_rfl
theorem no_SCon_SCase (P : Params) : kin_not (KK P) 73 115 = true := by kernel_rfl
theorem no_SCon_SLet (P : Params) : kin_not (KK P) 73 157 = true := by kernel_rfl
theorem isi_SPrim (P : Params) : IsiK (KK P) 94 := ⟨by kernel_rfl, by kernel_rfl, by kernel_rfl, by kernel_rfl, by kernel_rfl, by kernel_rfl⟩
theorem is_SPrim (P : Params) : isIn (KK P) (.ref 94) 94 = true := by kernel_rfl
theorem no_SPrim_SAtom (P : Params) : kin_not (KK P) 94 31 = true := by kernel_rfl
theorem no_SPrim_SApp (P : Params) : kin_not (KK P) 94 52 = true := by kernel_rfl
theorem no_SPrim_SCon (P : Params) : kin_not (KK P) 94 73 = true := by kernel_rfl
theorem no_SPrim_SCase (P : Params) : kin_not (KK P) 94 115 = true := by kernel_rfl
theorem no_SPrim_SLet (P : Params) : kin_not (KK P) 94 157 = true := by kernel_rfl
theorem isi_SCase (P : Params) : IsiK (KK P) 115 := ⟨by kernel_rfl, by kernel_rfl, by kernel_rfl, by kernel_rfl, by kernel_rfl, by kernel_rfl⟩
theorem is_SCase (P : Params) : isIn (KK P) (.ref 115) 115 = true := by kernel_rfl
theorem no_SCase_SAtom (P : Params) : kin_not (KK P) 115 31 = true := by kernel_rfl
theorem no_SCase_SApp (P : Params) : kin_not (KK P) 115 52 = true := by kernel_rfl
theorem no_SCase_SCon (P : Params) : kin_not (KK P) 115 73 = true := by kernel_rfl
theorem no_SCase_SPrim (P : Params) : kin_not (KK P) 115 94 = true := by kernel_rfl
theorem no_SCase_SLet (P : Params) : kin_not (KK P) 115 157 = true := by kernel_rfl
theorem isi_SLet (P : Params) : IsiK (KK P) 157 := ⟨by kernel_rfl, by kernel_rfl, by kernel_rfl, by kernel_rfl, by kernel_rfl, by kernel_rfl⟩
theorem is_SLet (P : Params) : isIn (KK P) (.ref 157) 157 = true := by kernel_rfl
theorem no_SLet_SAtom (P : Params) : kin_not (KK P) 157 31 = true := by kernel_rfl
theorem no_SLet_SApp (P : Params) : kin_not (KK P) 157 52 = true := by kernel_rfl
theorem no_SLet_SCon (P : Params) : kin_not (KK P) 157 73 = true := by kernel_rfl
theorem no_SLet_SPrim (P : Params) : kin_not (KK P) 157 94 = true := by kernel_rfl
theorem no_SLet_SCase (P : Params) : kin_not (KK P) 157 115 = true := by kernel_rfl
theorem pm_put (P : Params) : plainGet (KK P) 267 "put" = true ∧ findIn (KK P) (.ref 267) "put" = some (some (.ref 243)) ∧ isFn (KK P) (.ref 243) = true := ⟨by kernel_rfl, by kernel_rfl, by kernel_rfl⟩
theorem pm_closure (P : Params) : plainGet (KK P) 267 "closure" = true ∧ findIn (KK P) (.ref 267) "closure" = some (some (.ref 250)) ∧ isFn (KK P) (.ref 250) = true := ⟨by kernel_rfl, by kernel_rfl, by kernel_rfl⟩
theorem pm_expression (P : Params) : plainGet (KK P) 267 "expression" = true ∧ findIn (KK P) (.ref 267) "expression" = some (some (.ref 257)) ∧ isFn (KK P) (.ref 257) = true := ⟨by kernel_rfl, by kernel_rfl, by kernel_rfl⟩
theorem pm_case (P : Params) : plainGet (KK P) 267 "case" = true ∧ findIn (KK P) (.ref 267) "case" = some (some (.ref 264)) ∧ isFn (KK P) (.ref 264) = true := ⟨by kernel_rfl, by kernel_rfl, by kernel_rfl⟩
theorem gl_SAtom (P : Params) : nsIn (KK P) mainGlobals "SAtom" = some (some (.ref 31)) := by kernel_rfl
theorem ke_SAtom (P : Params) : keepIn (KK P) (.ref 31) = true := by kernel_rfl
theorem gl_SApp (P : Params) : nsIn (KK P) mainGlobals "SApp" = some (some (.ref 52)) := by kernel_rfl
theorem ke_SApp (P : Params) : keepIn (KK P) (.ref 52) = true := by kernel_rfl
theorem gl_SCon (P : Params) : nsIn (KK P) mainGlobals "SCon" = some (some (.ref 73)) := by kernel_rfl
theorem ke_SCon (P : Params) : keepIn (KK P) (.ref 73) = true := by kernel_rfl
theorem gl_SPrim (P : Params) : nsIn (KK P) mainGlobals "SPrim" = some (some (.ref 94)) := by kernel_rfl
theorem ke_SPrim (P : Params) : keepIn (KK P) (.ref 94) = true := by kernel_rfl
theorem gl_SCase (P : Params) : nsIn (KK P) mainGlobals "SCase" = some (some (.ref 115)) := by kernel_rfl
theorem ke_SCase (P : Params) : keepIn (KK P) (.ref 115) = true := by kernel_rfl
theorem gl_SAlt (P : Params) : nsIn (KK P) mainGlobals "SAlt" = some (some (.ref 136)) := by kernel_rfl
theorem ke_SAlt (P : Params) : keepIn (KK P) (.ref 136) = true := by kernel_rfl
theorem gl_SLet (P : Params) : nsIn (KK P) mainGlobals "SLet" = some (some (.ref 157)) := by kernel_rfl
theorem ke_SLet (P : Params) : keepIn (KK P) (.ref 157) = true := by kernel_rfl
theorem gl_Lambda (P : Params) : nsIn (KK P) mainGlobals "Lambda" = some (some (.ref 178)) := by kernel_rfl
theorem ke_Lambda (P : Params) : keepIn (KK P) (.ref 178) = true := by kernel_rfl
theorem gl_StgProgram (P : Params) : nsIn (KK P) mainGlobals "StgProgram" = some (some (.ref 199)) := by kernel_rfl
theorem ke_StgProgram (P : Params) : keepIn (KK P) (.ref 199) = true := by kernel_rfl
theorem gl_literal_text (P : Params) : nsIn (KK P) mainGlobals "literal_text" = some (some (.ref 210)) := by kernel_rfl
theorem ke_literal_text (P : Params) : keepIn (KK P) (.ref 210) = true := by kernel_rfl
theorem gl_atom_text (P : Params) : nsIn (KK P) mainGlobals "atom_text" = some (some (.ref 217)) := by kernel_rfl
theorem ke_atom_text (P : Params) : keepIn (KK P) (.ref 217) = true := by kernel_rfl
theorem gl_row_text (P : Params) : nsIn (KK P) mainGlobals "row_text" = some (some (.ref 222)) := by kernel_rfl
theorem ke_row_text (P : Params) : keepIn (KK P) (.ref 222) = true := by kernel_rfl
theorem gl_Lines (P : Params) : nsIn (KK P) mainGlobals "Lines" = some (some (.ref 267)) := by kernel_rfl
theorem ke_Lines (P : Params) : keepIn (KK P) (.ref 267) = true := by kernel_rfl
theorem gl_key_text (P : Params) : nsIn (KK P) mainGlobals "key_text" = some (some (.ref 278)) := by kernel_rfl
theorem ke_key_text (P : Params) : keepIn (KK P) (.ref 278) = true := by kernel_rfl
theorem gl_stg_text (P : Params) : nsIn (KK P) mainGlobals "stg_text" = some (some (.ref 285)) := by kernel_rfl
theorem ke_stg_text (P : Params) : keepIn (KK P) (.ref 285) = true := by kernel_rfl
theorem gl_stg_program_text (P : Params) : nsIn (KK P) mainGlobals "stg_program_text" = some (some (.ref 292)) := by kernel_rfl
theorem ke_stg_program_text (P : Params) : keepIn (KK P) (.ref 292) = true := by kernel_rfl
theorem gl_pool_l (P : Params) : nsIn (KK P) mainGlobals "_law_pool" = some (some (.ref 299)) := by kernel_rfl
theorem ke_pool_l (P : Params) : keepIn (KK P) (.ref 299) = true := by kernel_rfl
theorem gl_take_l (P : Params) : nsIn (KK P) mainGlobals "_law_take" = some (some (.ref 306)) := by kernel_rfl
theorem ke_take_l (P : Params) : keepIn (KK P) (.ref 306) = true := by kernel_rfl
theorem gl_one_l (P : Params) : nsIn (KK P) mainGlobals "_law_one" = some (some (.ref 313)) := by kernel_rfl
theorem ke_one_l (P : Params) : keepIn (KK P) (.ref 313) = true := by kernel_rfl
theorem gl_atom_l (P : Params) : nsIn (KK P) mainGlobals "_law_atom" = some (some (.ref 320)) := by kernel_rfl
theorem ke_atom_l (P : Params) : keepIn (KK P) (.ref 320) = true := by kernel_rfl
theorem gl_atoms_l (P : Params) : nsIn (KK P) mainGlobals "_law_atoms" = some (some (.ref 325)) := by kernel_rfl
theorem ke_atoms_l (P : Params) : keepIn (KK P) (.ref 325) = true := by kernel_rfl
theorem gl_closure_l (P : Params) : nsIn (KK P) mainGlobals "_law_closure" = some (some (.ref 332)) := by kernel_rfl
theorem ke_closure_l (P : Params) : keepIn (KK P) (.ref 332) = true := by kernel_rfl
theorem gl_alt_l (P : Params) : nsIn (KK P) mainGlobals "_law_alt" = some (some (.ref 339)) := by kernel_rfl
theorem ke_alt_l (P : Params) : keepIn (KK P) (.ref 339) = true := by kernel_rfl
theorem gl_tree_l (P : Params) : nsIn (KK P) mainGlobals "_law_tree" = some (some (.ref 344)) := by kernel_rfl
theorem ke_tree_l (P : Params) : keepIn (KK P) (.ref 344) = true := by kernel_rfl
theorem gl_lambda_l (P : Params) : nsIn (KK P) mainGlobals "_law_lambda" = some (some (.ref 351)) := by kernel_rfl
theorem ke_lambda_l (P : Params) : keepIn (KK P) (.ref 351) = true := by kernel_rfl
theorem gl_node_l (P : Params) : nsIn (KK P) mainGlobals "_law_node" = some (some (.ref 356)) := by kernel_rfl
theorem ke_node_l (P : Params) : keepIn (KK P) (.ref 356) = true := by kernel_rfl
theorem gl_read_atom_l (P : Params) : nsIn (KK P) mainGlobals "_law_read_atom" = some (some (.ref 363)) := by kernel_rfl
theorem ke_read_atom_l (P : Params) : keepIn (KK P) (.ref 363) = true := by kernel_rfl
theorem gl_next_l (P : Params) : nsIn (KK P) mainGlobals "_law_next" = some (some (.ref 370)) := by kernel_rfl
theorem ke_next_l (P : Params) : keepIn (KK P) (.ref 370) = true := by kernel_rfl
theorem gl_is_at_l (P : Params) : nsIn (KK P) mainGlobals "_law_is_at" = some (some (.ref 377)) := by kernel_rfl
theorem ke_is_at_l (P : Params) : keepIn (KK P) (.ref 377) = true := by kernel_rfl
theorem gl_read_closure_l (P : Params) : nsIn (KK P) mainGlobals "_law_read_closure" = some (some (.ref 384)) := by kernel_rfl
theorem ke_read_closure_l (P : Params) : keepIn (KK P) (.ref 384) = true := by kernel_rfl
theorem gl_read_key_l (P : Params) : nsIn (KK P) mainGlobals "_law_read_key" = some (some (.ref 391)) := by kernel_rfl
theorem ke_read_key_l (P : Params) : keepIn (KK P) (.ref 391) = true := by kernel_rfl
theorem gl_read_l (P : Params) : nsIn (KK P) mainGlobals "_law_read" = some (some (.ref 396)) := by kernel_rfl
theorem ke_read_l (P : Params) : keepIn (KK P) (.ref 396) = true := by kernel_rfl
theorem gl_box_l (P : Params) : nsIn (KK P) mainGlobals "_law_box" = some (some (.ref 403)) := by kernel_rfl
theorem ke_box_l (P : Params) : keepIn (KK P) (.ref 403) = true := by kernel_rfl
theorem ke_put (P : Params) : keepIn (KK P) (.ref 243) = true := by kernel_rfl
theorem ke_closure (P : Params) : keepIn (KK P) (.ref 250) = true := by kernel_rfl
theorem ke_expression (P : Params) : keepIn (KK P) (.ref 257) = true := by kernel_rfl
theorem ke_case (P : Params) : keepIn (KK P) (.ref 264) = true := by kernel_rfl
theorem bi_str (P : Params) : nsIn (KK P) mainGlobals "str" = some Option.none := by kernel_rfl
theorem bi_ord (P : Params) : nsIn (KK P) mainGlobals "ord" = some Option.none := by kernel_rfl
theorem bi_isinstance (P : Params) : nsIn (KK P) mainGlobals "isinstance" = some Option.none := by kernel_rfl
theorem bi_list (P : Params) : nsIn (KK P) mainGlobals "list" = some Option.none := by kernel_rfl
theorem bi_sorted (P : Params) : nsIn (KK P) mainGlobals "sorted" = some Option.none := by kernel_rfl
theorem bi_len (P : Params) : nsIn (KK P) mainGlobals "len" = some Option.none := by kernel_rfl
theorem bi_int (P : Params) : nsIn (KK P) mainGlobals "int" = some Option.none := by kernel_rfl
theorem bi_chr (P : Params) : nsIn (KK P) mainGlobals "chr" = some Option.none := by kernel_rfl
theorem bi_range (P : Params) : nsIn (KK P) mainGlobals "range" = some Option.none := by kernel_rfl
end

section
theorem bb_ord : bootBuiltins "ord" = some (.builtin "ord") := by first | rfl | decide +kernel | kernel_rfl
theorem bb_isinstance : bootBuiltins "isinstance" = some (.builtin "isinstance") := by first | rfl | decide +kernel | kernel_rfl
theorem bb_sorted : bootBuiltins "sorted" = some (.builtin "sorted") := by first | rfl | decide +kernel | kernel_rfl
theorem bb_len : bootBuiltins "len" = some (.builtin "len") := by first | rfl | decide +kernel | kernel_rfl
theorem bb_chr : bootBuiltins "chr" = some (.builtin "chr") := by first | rfl | decide +kernel | kernel_rfl
theorem bb_str : bootBuiltins "str" = some (.type "str") := by first | rfl | decide +kernel | kernel_rfl
theorem bb_list : bootBuiltins "list" = some (.type "list") := by first | rfl | decide +kernel | kernel_rfl
theorem bb_int : bootBuiltins "int" = some (.type "int") := by first | rfl | decide +kernel | kernel_rfl
theorem bb_range : bootBuiltins "range" = some (.type "range") := by first | rfl | decide +kernel | kernel_rfl
section
variable {g : Gx} {d : Nat} {sc : Scope} {ρ : List (Str × PV)} {σ : List Cell} {Q : PV → List Cell → Prop} {x : Str} {p1 pos : Pos} {e : Expr} {rest : List Expr}
theorem EV.fn {a : Addr} (e1 : nsIn (KK g.w.params) mainGlobals x = some (some (.ref a))) (k : keepIn (KK g.w.params) (.ref a) = true) (hx : sc.names.lookup x = some .globalImplicit)
    (h : EVs g.g d sc (e :: rest) ρ σ fun xs σ2 => VC g.g d (fun vs => PySem.call (.ref a) vs) xs σ2 Q) (hd : (x == ("__debug__" : Str)) = false := by decide +kernel)
    (hf : ∀ env, eval (.Call (.Name x p1) (e :: rest) [] pos) env = (do callWith pos (← eval (.Name x p1) env) [] (backTo pos (starEach (e :: rest) env)) (backToKw pos (keywordEach [] env))) := by intro _; rfl)
    (he : ∀ env, starEach (e :: rest) env = (false, eval e env) :: starEach rest env := by intro _; rfl) (hp : ∀ env pos, (backTo pos (starEach rest env)).any (·.1) = false := by intro _ _; rfl) :
    EV g.g d sc (.Call (.Name x p1) (e :: rest) [] pos) ρ σ Q := EV.call (EV.global hx e1 ⟨_, rfl, .ref k, h⟩ hd) hf he hp
theorem EV.fn0 {a : Addr} (e1 : nsIn (KK g.w.params) mainGlobals x = some (some (.ref a))) (k : keepIn (KK g.w.params) (.ref a) = true) (hx : sc.names.lookup x = some .globalImplicit)
    (h : VC g.g d (fun vs => PySem.call (.ref a) vs) [] σ Q) (hd : (x == ("__debug__" : Str)) = false := by decide +kernel)
    (hf : ∀ env, eval (.Call (.Name x p1) [] [] pos) env = (do callWith pos (← eval (.Name x p1) env) [] (backTo pos (starEach [] env)) (backToKw pos (keywordEach [] env))) := by intro _; rfl) :
    EV g.g d sc (.Call (.Name x p1) [] [] pos) ρ σ Q := EV.call0 (EV.global hx e1 ⟨_, rfl, .ref k, h⟩ hd) hf
theorem EV.bi {id : String} (e1 : nsIn (KK g.w.params) mainGlobals x = some Option.none) (hv : bootBuiltins x = some (.builtin id)) (hx : sc.names.lookup x = some .globalImplicit)
    (h : EVs g.g d sc (e :: rest) ρ σ fun xs σ2 => VC g.g d (callB id) xs σ2 Q) (hn : x ≠ "__name__" := by decide +kernel) (hd : (x == ("__debug__" : Str)) = false := by decide +kernel)
    (hf : ∀ env, eval (.Call (.Name x p1) (e :: rest) [] pos) env = (do callWith pos (← eval (.Name x p1) env) [] (backTo pos (starEach (e :: rest) env)) (backToKw pos (keywordEach [] env))) := by intro _; rfl)
    (he : ∀ env, starEach (e :: rest) env = (false, eval e env) :: starEach rest env := by intro _; rfl) (hp : ∀ env pos, (backTo pos (starEach rest env)).any (·.1) = false := by intro _ _; rfl) :
    EV g.g d sc (.Call (.Name x p1) (e :: rest) [] pos) ρ σ Q := EV.call (EV.builtin hx e1 hv hn ⟨_, rfl, .builtin _, h⟩ hd) hf he hp
theorem EV.bt {id : String} (e1 : nsIn (KK g.w.params) mainGlobals x = some Option.none) (hv : bootBuiltins x = some (.type id)) (hx : sc.names.lookup x = some .globalImplicit)
    (h : EVs g.g d sc (e :: rest) ρ σ fun xs σ2 => VC g.g d (callT id) xs σ2 Q) (hn : x ≠ "__name__" := by decide +kernel) (hd : (x == ("__debug__" : Str)) = false := by decide +kernel)
    (hf : ∀ env, eval (.Call (.Name x p1) (e :: rest) [] pos) env = (do callWith pos (← eval (.Name x p1) env) [] (backTo pos (starEach (e :: rest) env)) (backToKw pos (keywordEach [] env))) := by intro _; rfl)
    (he : ∀ env, starEach (e :: rest) env = (false, eval e env) :: starEach rest env := by intro _; rfl) (hp : ∀ env pos, (backTo pos (starEach rest env)).any (·.1) = false := by intro _ _; rfl) :
    EV g.g d sc (.Call (.Name x p1) (e :: rest) [] pos) ρ σ Q := EV.call (EV.builtin hx e1 hv hn ⟨_, rfl, .type _, h⟩ hd) hf he hp
end
end

local macro_rules | `(tactic| walk_at "pv call") => `(tactic| (first
  | ((with_reducible show EV _ _ _ (.Call (.Name "literal_text" _) _ [] _) _ _ _); refine EV.fn (gl_literal_text _) (ke_literal_text _) rfl ?_)
  | ((with_reducible show EV _ _ _ (.Call (.Name "atom_text" _) _ [] _) _ _ _); refine EV.fn (gl_atom_text _) (ke_atom_text _) rfl ?_)
  | ((with_reducible show EV _ _ _ (.Call (.Name "row_text" _) _ [] _) _ _ _); refine EV.fn (gl_row_text _) (ke_row_text _) rfl ?_)
  | ((with_reducible show EV _ _ _ (.Call (.Name "key_text" _) _ [] _) _ _ _); refine EV.fn (gl_key_text _) (ke_key_text _) rfl ?_)
  | ((with_reducible show EV _ _ _ (.Call (.Name "stg_text" _) _ [] _) _ _ _); refine EV.fn (gl_stg_text _) (ke_stg_text _) rfl ?_)
  | ((with_reducible show EV _ _ _ (.Call (.Name "stg_program_text" _) _ [] _) _ _ _); refine EV.fn (gl_stg_program_text _) (ke_stg_program_text _) rfl ?_)
  | ((with_reducible show EV _ _ _ (.Call (.Name "SAtom" _) _ [] _) _ _ _); refine EV.fn (gl_SAtom _) (ke_SAtom _) rfl ?_)
  | ((with_reducible show EV _ _ _ (.Call (.Name "SApp" _) _ [] _) _ _ _); refine EV.fn (gl_SApp _) (ke_SApp _) rfl ?_)
  | ((with_reducible show EV _ _ _ (.Call (.Name "SCon" _) _ [] _) _ _ _); refine EV.fn (gl_SCon _) (ke_SCon _) rfl ?_)
  | ((with_reducible show EV _ _ _ (.Call (.Name "SPrim" _) _ [] _) _ _ _); refine EV.fn (gl_SPrim _) (ke_SPrim _) rfl ?_)
  | ((with_reducible show EV _ _ _ (.Call (.Name "SCase" _) _ [] _) _ _ _); refine EV.fn (gl_SCase _) (ke_SCase _) rfl ?_)
  | ((with_reducible show EV _ _ _ (.Call (.Name "SAlt" _) _ [] _) _ _ _); refine EV.fn (gl_SAlt _) (ke_SAlt _) rfl ?_)
  | ((with_reducible show EV _ _ _ (.Call (.Name "SLet" _) _ [] _) _ _ _); refine EV.fn (gl_SLet _) (ke_SLet _) rfl ?_)
  | ((with_reducible show EV _ _ _ (.Call (.Name "Lambda" _) _ [] _) _ _ _); refine EV.fn (gl_Lambda _) (ke_Lambda _) rfl ?_)
  | ((with_reducible show EV _ _ _ (.Call (.Name "StgProgram" _) _ [] _) _ _ _); refine EV.fn (gl_StgProgram _) (ke_StgProgram _) rfl ?_)
  | ((with_reducible show EV _ _ _ (.Call (.Name "_law_take" _) _ [] _) _ _ _); refine EV.fn (gl_take_l _) (ke_take_l _) rfl ?_)
  | ((with_reducible show EV _ _ _ (.Call (.Name "_law_one" _) _ [] _) _ _ _); refine EV.fn (gl_one_l _) (ke_one_l _) rfl ?_)
  | ((with_reducible show EV _ _ _ (.Call (.Name "_law_atom" _) _ [] _) _ _ _); refine EV.fn (gl_atom_l _) (ke_atom_l _) rfl ?_)
  | ((with_reducible show EV _ _ _ (.Call (.Name "_law_atoms" _) _ [] _) _ _ _); refine EV.fn (gl_atoms_l _) (ke_atoms_l _) rfl ?_)
  | ((with_reducible show EV _ _ _ (.Call (.Name "_law_closure" _) _ [] _) _ _ _); refine EV.fn (gl_closure_l _) (ke_closure_l _) rfl ?_)
  | ((with_reducible show EV _ _ _ (.Call (.Name "_law_alt" _) _ [] _) _ _ _); refine EV.fn (gl_alt_l _) (ke_alt_l _) rfl ?_)
  | ((with_reducible show EV _ _ _ (.Call (.Name "_law_tree" _) _ [] _) _ _ _); refine EV.fn (gl_tree_l _) (ke_tree_l _) rfl ?_)
  | ((with_reducible show EV _ _ _ (.Call (.Name "_law_lambda" _) _ [] _) _ _ _); refine EV.fn (gl_lambda_l _) (ke_lambda_l _) rfl ?_)
  | ((with_reducible show EV _ _ _ (.Call (.Name "_law_node" _) _ [] _) _ _ _); refine EV.fn (gl_node_l _) (ke_node_l _) rfl ?_)
  | ((with_reducible show EV _ _ _ (.Call (.Name "_law_read_atom" _) _ [] _) _ _ _); refine EV.fn (gl_read_atom_l _) (ke_read_atom_l _) rfl ?_)
  | ((with_reducible show EV _ _ _ (.Call (.Name "_law_next" _) _ [] _) _ _ _); refine EV.fn (gl_next_l _) (ke_next_l _) rfl ?_)
  | ((with_reducible show EV _ _ _ (.Call (.Name "_law_is_at" _) _ [] _) _ _ _); refine EV.fn (gl_is_at_l _) (ke_is_at_l _) rfl ?_)
  | ((with_reducible show EV _ _ _ (.Call (.Name "_law_read_closure" _) _ [] _) _ _ _); refine EV.fn (gl_read_closure_l _) (ke_read_closure_l _) rfl ?_)
  | ((with_reducible show EV _ _ _ (.Call (.Name "_law_read_key" _) _ [] _) _ _ _); refine EV.fn (gl_read_key_l _) (ke_read_key_l _) rfl ?_)
  | ((with_reducible show EV _ _ _ (.Call (.Name "_law_read" _) _ [] _) _ _ _); refine EV.fn (gl_read_l _) (ke_read_l _) rfl ?_)
  | ((with_reducible show EV _ _ _ (.Call (.Name "_law_box" _) _ [] _) _ _ _); refine EV.fn (gl_box_l _) (ke_box_l _) rfl ?_)
  | ((with_reducible show EV _ _ _ (.Call (.Name "ord" _) _ [] _) _ _ _); refine EV.bi (bi_ord _) bb_ord rfl ?_)
  | ((with_reducible show EV _ _ _ (.Call (.Name "isinstance" _) _ [] _) _ _ _); refine EV.bi (bi_isinstance _) bb_isinstance rfl ?_)
  | ((with_reducible show EV _ _ _ (.Call (.Name "sorted" _) _ [] _) _ _ _); refine EV.bi (bi_sorted _) bb_sorted rfl ?_)
  | ((with_reducible show EV _ _ _ (.Call (.Name "len" _) _ [] _) _ _ _); refine EV.bi (bi_len _) bb_len rfl ?_)
  | ((with_reducible show EV _ _ _ (.Call (.Name "chr" _) _ [] _) _ _ _); refine EV.bi (bi_chr _) bb_chr rfl ?_)
  | ((with_reducible show EV _ _ _ (.Call (.Name "str" _) _ [] _) _ _ _); refine EV.bt (bi_str _) bb_str rfl ?_)
  | ((with_reducible show EV _ _ _ (.Call (.Name "list" _) _ [] _) _ _ _); refine EV.bt (bi_list _) bb_list rfl ?_)
  | ((with_reducible show EV _ _ _ (.Call (.Name "int" _) _ [] _) _ _ _); refine EV.bt (bi_int _) bb_int rfl ?_)
  | ((with_reducible show EV _ _ _ (.Call (.Name "range" _) _ [] _) _ _ _); refine EV.bt (bi_range _) bb_range rfl ?_)
  ))
local macro_rules | `(tactic| walk_at "pv expr") => `(tactic| (first
  | ((with_reducible show EV _ _ _ (.Name _ _) _ _ _); (first | refine EV.name rfl ?_ | walk_at "pv glob"))
  | ((with_reducible show EV _ _ _ (.Constant _ _ _) _ _ _); (first | refine EV.int ?_ | refine EV.str ?_ | refine EV.bool ?_ | refine EV.cnone ?_))
  | ((with_reducible show EV _ _ _ (.Attribute _ _ _) _ _ _); refine EV.attr ?_)
  | ((with_reducible show EV _ _ _ (.BinOp _ _ _ _) _ _ _); refine EV.binop ?_)
  | ((with_reducible show EV _ _ _ (.UnaryOp _ _ _) _ _ _); refine EV.unop ?_)
  | ((with_reducible show EV _ _ _ (.Compare _ _ _ _) _ _ _); refine EV.compare ?_)
  | ((with_reducible show EV _ _ _ (.IfExp _ _ _ _) _ _ _); refine EV.ifexp ?_)
  | ((with_reducible show EV _ _ _ (.Subscript _ (.Name _ _) _) _ _ _); refine EV.sub ?_)
  | ((with_reducible show EV _ _ _ (.Subscript _ (.Constant _ _ _) _) _ _ _); refine EV.sub ?_)
  | ((with_reducible show EV _ _ _ (.Subscript _ (.Call _ _ _ _) _) _ _ _); refine EV.sub ?_)
  | ((with_reducible show EV _ _ _ (.Subscript _ (.BinOp _ _ _ _) _) _ _ _); refine EV.sub ?_)
  | ((with_reducible show EV _ _ _ (.Subscript _ (.Subscript _ _ _) _) _ _ _); refine EV.sub ?_)
  | ((with_reducible show EV _ _ _ (.Tuple _ _ _) _ _ _); refine EV.tuple ?_)
  | ((with_reducible show EV _ _ _ (.List _ _) _ _ _); refine EV.list ?_)
  | ((with_reducible show EV _ _ _ (.Call (.Name "Lines" _) [] [] _) _ _ _); refine EV.fn0 (gl_Lines _) (ke_Lines _) rfl ?_)
  | ((with_reducible show EV _ _ _ (.Call (.Name _ _) _ [] _) _ _ _); walk_at "pv call")
  ))
local macro_rules | `(tactic| walk_at "pv glob") => `(tactic| (first
  | ((with_reducible show EV _ _ _ (.Name "SAtom" _) _ _ _); refine EV.global rfl (gl_SAtom _) ?_)
  | ((with_reducible show EV _ _ _ (.Name "SApp" _) _ _ _); refine EV.global rfl (gl_SApp _) ?_)
  | ((with_reducible show EV _ _ _ (.Name "SCon" _) _ _ _); refine EV.global rfl (gl_SCon _) ?_)
  | ((with_reducible show EV _ _ _ (.Name "SPrim" _) _ _ _); refine EV.global rfl (gl_SPrim _) ?_)
  | ((with_reducible show EV _ _ _ (.Name "SCase" _) _ _ _); refine EV.global rfl (gl_SCase _) ?_)
  | ((with_reducible show EV _ _ _ (.Name "SLet" _) _ _ _); refine EV.global rfl (gl_SLet _) ?_)
  ))
local macro_rules | `(tactic| walk_at "pv val") => `(tactic| (first
  | ((with_reducible show VC _ _ (bin2 .Add) _ _ _); refine VC.add ?_)
  | ((with_reducible show VC _ _ (bin2 .Sub) _ _ _); refine VC.sub ?_)
  | ((with_reducible show VC _ _ (un1 .USub) _ _ _); refine VC.neg ?_)
  | ((with_reducible show VC _ _ (cmp2 .Gt) _ _ _); refine VC.gt_int ?_)
  | ((with_reducible show VC _ _ (cmp2 .Lt) _ _ _); refine VC.lt_int ?_)
  | ((with_reducible show VC _ _ (cmp2 .Eq) _ _ _); (first | refine VC.eq_int ?_ | refine VC.eq_str ?_))
  | ((with_reducible show VC _ _ (cmp2 .NotEq) _ _ _); (first | refine VC.ne_int ?_ | refine VC.ne_str ?_))
  | ((with_reducible show VC _ _ (cmp2 .Is) _ _ _); refine VC.is_none ?_)
  | ((with_reducible show VC _ _ (cmp2 .IsNot) _ _ _); refine VC.isnot_none ?_)
  | ((with_reducible show VC _ _ (cmp2 .In) [.str _, .str _] _ _); refine VC.in_str ?_)
  | ((with_reducible show VC _ _ (callT "int") [.int _] _ _); refine VC.int_int ?_)
  ))
local macro_rules | `(tactic| walk_at "pv test") => `(tactic| (first
  | ((with_reducible show BV _ _ _ (.Compare _ _ _ _) _ _ _); refine BV.compare ?_)
  | ((with_reducible show BV _ _ _ (.UnaryOp _ _ _) _ _ _); refine BV.not ?_)
  | ((with_reducible show BV _ _ _ (.BoolOp .And [] _) _ _ _); refine BV.and_nil ?_)
  | ((with_reducible show BV _ _ _ (.BoolOp .Or [] _) _ _ _); refine BV.or_nil ?_)
  | ((with_reducible show BV _ _ _ (.BoolOp .And _ _) _ _ _); refine BV.and ?_)
  | ((with_reducible show BV _ _ _ (.BoolOp .Or _ _) _ _ _); refine BV.or ?_)
  | refine BV.plain ?_
  ))
local macro_rules | `(tactic| walk_at "pv stmt") => `(tactic| (first
  | ((with_reducible show EX _ _ _ (ite (true = true) _ _) _ _ _ _); rw [if_pos rfl])
  | ((with_reducible show EX _ _ _ (ite (false = true) _ _) _ _ _ _); rw [if_neg Bool.false_ne_true])
  | ((with_reducible show EX _ _ _ ([]) _ _ _ _); refine EX.nil ?_)
  | ((with_reducible show EX _ _ _ (.Return _ _ :: _) _ _ _ _); refine EX.ret ?_)
  | ((with_reducible show EX _ _ _ (.Assign [.Name _ _] _ _ :: _) _ _ _ _); refine EX.assign ?_ (by first | exact .inl rfl | exact .inr rfl))
  | ((with_reducible show EX _ _ _ (.Expr _ _ :: _) _ _ _ _); refine EX.expr ?_)
  | ((with_reducible show EX _ _ _ (.If _ _ _ _ :: _) _ _ _ _); refine EX.ite ?_)
  ))
local macro_rules | `(tactic| walk_at "pv") => `(tactic| (first
  | ((with_reducible show EV _ _ _ _ _ _ _); walk_at "pv expr")
  | ((with_reducible show VC _ _ _ _ _ _); walk_at "pv val")
  | ((with_reducible show EX _ _ _ _ _ _ _ _); walk_at "pv stmt")
  | ((with_reducible show EVs _ _ _ _ _ _ _); (first | refine EVs.nil ?_ | refine EVs.cons ?_))
  | ((with_reducible show BV _ _ _ _ _ _ _); walk_at "pv test")
  | ((with_reducible show TC _ _ _ _ _); refine TC.bool ?_)
  | ((with_reducible show EP _ _ _ _ _ _ _); (first | refine EP.no ?_ | refine EP.yes ?_))
  | ((with_reducible show _ ≤ 1000 ∧ _); refine ⟨by simp, ?_⟩)
  | ((with_reducible show GI _ _ (.tup _) (.int _) _ _); refine GI.tup (by decide) (by decide) rfl ?_)
  | ((with_reducible show GI _ _ (.list _) (.int _) _ _); refine GI.list (by decide) (by decide) rfl ?_)
  | ((with_reducible show ite (true = true) _ _); rw [if_pos rfl])
  | ((with_reducible show ite (false = true) _ _); rw [if_neg Bool.false_ne_true])
  ))
local macro_rules | `(tactic| walk_at "pvs") => `(tactic| repeat (walk_at "pv"))
local macro_rules | `(tactic| walk_at "pv begin") => `(tactic| ((conv => arg 3; whnf); (conv => arg 4; whnf)))
local macro_rules | `(tactic| walk_at "pv yes") => `(tactic| (rw [if_pos]; rotate_left; decide +kernel))
local macro_rules | `(tactic| walk_at "pv no") => `(tactic| (rw [if_neg]; rotate_left; decide +kernel))

section
variable {g : Gx} {d : Nat} {σ : List Cell} {Q : PV → List Cell → Prop}
/-- what a turn of the wheel takes, and what it leaves -/
def takeP (a b t : Int) : Int × Int × Int :=
  if 0 < a then (a % t, a / t, b)
  else ((((b * 39373 + 7) % 2147483647) * ((b * 39373 + 7) % 2147483647)) % 2147483629 / 32 % t, a, (b * 39373 + 7) % 2147483647)
theorem bits_lt {a : Int} (h : a.natAbs < 2 ^ 60) : Builtin.Int.intBits a ≤ 60 := by
  unfold Builtin.Int.intBits
  split
  · exact Nat.zero_le _
  · rename_i z
    have z' : a.natAbs ≠ 0 := by simpa using z
    have := Nat.log2_lt z' |>.mpr h
    omega
theorem mulOk_of {a b : Int} (h : a.natAbs < 2 ^ 60) : IntMulOk a b := by
  have := bits_lt h
  unfold IntMulOk
  have : decide (Builtin.Int.intBits a > shortFactorBits) = false := by
    simp [shortFactorBits]; omega
  rw [this]; simp
theorem byPylong_of {a b : Int} (h : b.natAbs < 2 ^ 60) : Builtin.divisionGoesByPylong a b = false := by
  unfold Builtin.divisionGoesByPylong
  have : (if (b == 0) = true then 0 else b.natAbs.log2 / 30 + 1) ≤ 300 := by
    split
    · omega
    · rename_i z
      have z' : b.natAbs ≠ 0 := by simpa using z
      have := Nat.log2_lt z' |>.mpr h
      omega
  have : decide ((if (b == 0) = true then 0 else b.natAbs.log2 / 30 + 1) > 300) = false := decide_eq_false (by omega)
  simp only [this, Bool.false_and]
theorem VC.take {i : Nat} {a b t : Int} (e : σ[i]? = some (.arr [.int a, .int b])) (ht : 0 < t) (ht' : t < 1000000) (hb : 0 ≤ b) (hb' : b < 2147483647) (h : Q (.int (takeP a b t).1) (σ.set i (.arr [.int (takeP a b t).2.1, .int (takeP a b t).2.2]))) :
    VC g.g (d+1) (fun vs => call (.ref 306) vs) [.cell i, .int t] σ Q := by
  refine VC.fn (fn_take g.w.params) rfl ?_
  have il : i < σ.length := (List.getElem?_eq_some_iff.mp e).1
  unfold takeP at h
  walk_at "pv begin"
  walk_at "pvs"
  refine GI.arr e (by decide) (by decide) rfl ?_
  walk_at "pvs"
  by_cases ha : 0 < a
  · simp only [ha, decide_true, if_true] at h ⊢
    walk_at "pvs"
    refine GI.arr e (by decide) (by decide) rfl ?_
    walk_at "pvs"
    refine VC.fmod (by omega) ?_
    walk_at "pvs"
    refine EX.set_arr ?_
    walk_at "pvs"
    refine GI.arr e (by decide) (by decide) rfl ?_
    walk_at "pvs"
    refine VC.fdiv (by omega) (byPylong_of (by omega)) ?_
    walk_at "pvs"
    refine ⟨i, _, 0, rfl, e, rfl, by decide, by decide, by simp, ?_⟩
    walk_at "pvs"
    rw [Int.fmod_eq_emod_of_nonneg _ (by omega), Int.fdiv_eq_ediv_of_nonneg _ (by omega)]
    exact h
  · simp only [ha, decide_false, if_false, Bool.false_eq_true] at h ⊢
    walk_at "pvs"
    refine EX.set_arr ?_
    walk_at "pvs"
    refine GI.arr e (by decide) (by decide) rfl ?_
    walk_at "pvs"
    refine VC.mul (mulOk_of (by omega)) ?_
    walk_at "pvs"
    refine VC.fmod (by omega) ?_
    walk_at "pvs"
    refine ⟨i, _, 1, rfl, e, rfl, by decide, by decide, by simp, ?_⟩
    rw [Int.fmod_eq_emod_of_nonneg _ (by omega)]
    walk_at "pvs"
    have e2 : (σ.set i (.arr ([PV.int a, PV.int b].set (Int.toNat 1) (.int ((b * 39373 + 7) % 2147483647)))))[i]? = some (.arr [.int a, .int ((b * 39373 + 7) % 2147483647)]) := by
      rw [List.getElem?_set_self il]; rfl
    refine GI.arr e2 (by decide) (by decide) rfl ?_
    walk_at "pvs"
    refine GI.arr e2 (by decide) (by decide) rfl ?_
    walk_at "pvs"
    refine VC.mul (mulOk_of (by omega)) ?_
    walk_at "pvs"
    refine VC.fmod (by omega) ?_
    walk_at "pvs"
    refine VC.fdiv (by omega) (byPylong_of (by omega)) ?_
    walk_at "pvs"
    refine VC.fmod (by omega) ?_
    rw [Int.fmod_eq_emod_of_nonneg _ (by omega), Int.fmod_eq_emod_of_nonneg _ (by omega), Int.fdiv_eq_ediv_of_nonneg _ (by omega)]
    exact h
theorem takeP_ok {a b t : Int} (ht : 0 < t) (ha : 0 ≤ a) (hb : 0 ≤ b) (hb' : b < 2147483647) : 0 ≤ (takeP a b t).1 ∧ (takeP a b t).1 < t ∧ 0 ≤ (takeP a b t).2.1 ∧ 0 ≤ (takeP a b t).2.2 ∧ (takeP a b t).2.2 < 2147483647 := by
  unfold takeP
  split
  · exact ⟨Int.emod_nonneg _ (by omega), Int.emod_lt_of_pos _ ht, Int.ediv_nonneg ha (by omega), hb, hb'⟩
  · exact ⟨Int.emod_nonneg _ (by omega), Int.emod_lt_of_pos _ ht, ha, Int.emod_nonneg _ (by omega), Int.emod_lt_of_pos _ (by omega)⟩
end

section
theorem VC.le {G : Gc} {d d' : Nat} {f : List Value → Sem Value} {xs : List PV} {σ : List Cell} {Q : PV → List Cell → Prop} (h : VC G d' f xs σ Q) (z : d' ≤ d) : VC G d f xs σ Q := fun A Y as s vs QQ E hA R r f => h A Y as s vs QQ E (hA.le z) R r f
variable {g : Gx} {d : Nat} {σ : List Cell} {Q : PV → List Cell → Prop} {i : Nat} {s : Int × Int}
def stC (s : Int × Int) : Cell := .arr [.int s.1, .int s.2]
def stOk (s : Int × Int) : Prop := 0 ≤ s.1 ∧ 0 ≤ s.2 ∧ s.2 < 2147483647
theorem at_i (hi : i < σ.length) {c : Cell} : (σ.set i c)[i]? = some c := List.getElem?_set_self hi
theorem VC.tk {t : Int} (hi : i < σ.length) (ok : stOk s) (ht : 0 < t) (ht' : t < 1000000) (h : ∀ r s', 0 ≤ r → r < t → stOk s' → Q (.int r) (σ.set i (stC s'))) : VC g.g 1 (fun vs => call (.ref 306) vs) [.cell i, .int t] (σ.set i (stC s)) Q := by
  obtain ⟨a, b⟩ := s
  obtain ⟨o1, o2, o3⟩ := ok
  obtain ⟨q1, q2, q3, q4, q5⟩ := takeP_ok (t := t) ht o1 o2 o3
  refine VC.take (at_i hi) ht ht' o2 o3 ?_
  rw [List.set_set]
  exact h _ ((takeP a b t).2.1, (takeP a b t).2.2) q1 q2 ⟨q3, q4, q5⟩
theorem VC.one {ys : List Str} (hi : i < σ.length) (ok : stOk s) (hy : 0 < ys.length) (hy' : ys.length < 1000) (h : ∀ y ∈ ys, ∀ s', stOk s' → Q (.str y) (σ.set i (stC s'))) : VC g.g 2 (fun vs => call (.ref 313) vs) [.cell i, .list (ys.map PV.str)] (σ.set i (stC s)) Q := by
  refine VC.fn (fn_one g.w.params) rfl ?_
  walk_at "pv begin"
  walk_at "pvs"
  refine VC.len_list (by simp; omega) ?_
  walk_at "pvs"
  refine VC.tk hi ok (by simp; omega) (by simp; omega) fun r s' h0 hr ok' => ?_
  simp only [List.length_map] at hr
  have lt : r.toNat < ys.length := by omega
  refine GI.list h0 (by omega) (x := .str ys[r.toNat]) (by rw [List.getElem?_map, List.getElem?_eq_getElem lt]; rfl) ?_
  exact h _ (List.getElem_mem lt) _ ok'

/-- an atom of the machine's language -/
inductive At where
  | nm (x : Str)
  | li (n : Int)
  | ch (x : Str)
def nms : List Str := ["x.1", "y.2", "Main.f", "++.3"]
def chs : List Str := ["a", " ", "#", ⟨#[20013]⟩, "7"]
def At.ok : At → Prop
  | .nm x => x ∈ nms
  | .li n => -20 ≤ n ∧ n ≤ 20
  | .ch x => x ∈ chs
def At.pv : At → PV
  | .nm x => .tup [.str "name", .str x]
  | .li n => .tup [.str "lit", .str "int", .int n]
  | .ch x => .tup [.str "lit", .str "char", .str x]
theorem VC.atom (hi : i < σ.length) (ok : stOk s) (h : ∀ (a : At) s', a.ok → stOk s' → Q a.pv (σ.set i (stC s'))) : VC g.g 3 (fun vs => call (.ref 320) vs) [.cell i] (σ.set i (stC s)) Q := by
  refine VC.fn (fn_atom g.w.params) rfl ?_
  walk_at "pv begin"
  walk_at "pvs"
  refine VC.le (VC.tk hi ok (by decide) (by decide) fun r s1 h0 hr ok1 => ?_) (by decide)
  walk_at "pvs"
  by_cases h2 : r < 2
  · simp only [h2, decide_true, if_true]
    walk_at "pvs"
    refine VC.one (ys := nms) hi ok1 (by decide) (by decide) fun y hy s2 ok2 => ?_
    walk_at "pvs"
    exact h (.nm y) s2 hy ok2
  · simp only [h2, decide_false, if_false, Bool.false_eq_true]
    walk_at "pvs"
    by_cases h3 : r = 2
    · simp only [h3, beq_self_eq_true, if_true]
      walk_at "pvs"
      refine VC.le (VC.tk hi ok1 (by decide) (by decide) fun r2 s2 h0 hr ok2 => ?_) (by decide)
      walk_at "pvs"
      exact h (.li (r2 - 20)) s2 (by unfold At.ok; omega) ok2
    · have : (r == 2) = false := by simpa using h3
      simp only [this, if_false, Bool.false_eq_true]
      walk_at "pvs"
      refine VC.chr (by decide) ?_
      walk_at "pvs"
      refine VC.one (ys := chs) hi ok1 (by decide) (by decide) fun y hy s2 ok2 => ?_
      walk_at "pvs"
      exact h (.ch y) s2 hy ok2
end

section
theorem CompL.src {G : Gc} {d : Nat} {csc : Scope} {σ : List Cell} {i : Nat} {Q : PV → List Cell → Prop} {α : Type} {f : α → PV} {P : α → Prop} {elt : Expr} {x : Str} {p : Pos} {ρ : List (Str × PV)} (hx : csc.names.lookup x = some .local)
    (step : ∀ (v : PV) (s : Int × Int) (Q' : PV → List Cell → Prop), stOk s → (∀ a s', P a → stOk s' → Q' (f a) (σ.set i (stC s'))) → EV G d csc elt ((x, v) :: ρ) (σ.set i (stC s)) Q') :
    ∀ (xs : List PV) (as : List α) (s : Int × Int), (∀ a ∈ as, P a) → stOk s → (∀ (bs : List α) s', bs.length = as.length + xs.length → (∀ b ∈ bs, P b) → stOk s' → Q (.list (bs.map f)) (σ.set i (stC s'))) → CompL G d csc (.Name x p) elt ρ Q xs (as.map f) (σ.set i (stC s))
  | [], as, s, ha, ok, h => h as s rfl ha ok
  | y :: ys, as, s, ha, ok, h => by
    refine ⟨_, .name hx, step y s _ ok fun a s' pa ok' => ?_⟩
    have e : as.map f ++ [f a] = (as ++ [a]).map f := by simp
    rw [e]
    refine CompL.src hx step ys (as ++ [a]) s' (fun b hb => (List.mem_append.mp hb).elim (ha b) fun hb => by rw [List.mem_singleton.mp hb]; exact pa) ok' fun bs s2 hl => h bs s2 ?_
    rw [hl]; simp; omega
variable {g : Gx} {d : Nat} {σ : List Cell} {Q : PV → List Cell → Prop} {i : Nat} {s : Int × Int}
theorem VC.atoms {k : Int} (hk : 0 ≤ k) (hk' : k ≤ 1) (hi : i < σ.length) (ok : stOk s) (h : ∀ (as : List At) s', as.length ≤ 3 → k ≤ as.length → (∀ a ∈ as, a.ok) → stOk s' → Q (.list (as.map At.pv)) (σ.set i (stC s'))) :
    VC g.g 4 (fun vs => call (.ref 325) vs) [.cell i, .int k] (σ.set i (stC s)) Q := by
  refine VC.fn (fn_atoms g.w.params) rfl ?_
  walk_at "pv begin"
  walk_at "pvs"
  refine EV.comp ?_ rfl
  walk_at "pvs"
  refine VC.le (VC.tk hi ok (by decide) (by decide) fun r s1 h0 hr ok1 => ?_) (by decide)
  walk_at "pvs"
  refine VC.range ?_
  refine ⟨_, .inr ⟨(k + r).toNat, by omega, by rw [Int.toNat_of_nonneg (by omega)], rfl⟩, by simp; omega, ?_⟩
  refine CompL.src (f := At.pv) (P := At.ok) rfl (fun v s Q' ok' h' => ?_) _ [] s1 (by simp) ok1 fun bs s' hl hb ok' => h bs s' (by rw [hl]; simp; omega) (by rw [hl]; simp; omega) hb ok'
  walk_at "pvs"
  exact VC.le (VC.atom hi ok' h') (by decide)
end

section
/-- what an alternative looks at -/
inductive Ky where
  | con (c : Str)
  | li (n : Int)
  | ch (x : Str)
mutual
inductive Tr where
  | atom (a : At)
  | app (f : Str) (as : List At)
  | con (c : Str) (as : List At)
  | prim (p : Str) (as : List At)
  | case (e : Tr) (as : Als) (o : Op)
  | lets (b : Bds) (body : Tr)
inductive Als where
  | nil
  | cons (k : Ky) (fs : List Str) (b : Tr) (r : Als)
inductive Op where
  | no
  | yes (t : Tr)
inductive Bds where
  | nil
  | cons (c : Cl) (r : Bds)
inductive Cl where
  | mk (fr ps : List Str) (b : Tr) (u : Bool)
end
def cnss : List Str := [":", "Main.P", "[]", "(,)"]
def fnns : List Str := ["f.1", "Main.g"]
def prms : List Str := ["intAdd", "error"]
def kchs : List Str := ["a", " "]
def frs : List (List Str) := [[], ["x.1"], ["x.1", "z.5"]]
def pss : List (List Str) := [[], ["p.1"], ["p.1", "q.2"]]
def fds : List (List Str) := [[], ["a.1"], ["a.1", "b.2"]]
def tname (k : Nat) : Str := Str.ofString "t." ++ Str.ofString (toString (k : Int))
def Ky.pv : Ky → PV
  | .con c => .tup [.str "con", .str c]
  | .li n => .tup [.str "lit", .str "int", .int n]
  | .ch x => .tup [.str "lit", .str "char", .str x]
def Ky.ok : Ky → List Str → Prop
  | .con c, fs => c ∈ cnss ∧ fs ∈ fds
  | .li n, fs => -4 ≤ n ∧ n ≤ 4 ∧ fs = []
  | .ch x, fs => x ∈ kchs ∧ fs = []
mutual
def Tr.pv : Tr → PV
  | .atom a => .tup [.str "atom", a.pv]
  | .app f as => .tup [.str "app", .str f, .list (as.map At.pv)]
  | .con f as => .tup [.str "con", .str f, .list (as.map At.pv)]
  | .prim f as => .tup [.str "prim", .str f, .list (as.map At.pv)]
  | .case e as o => .tup [.str "case", e.pv, .str "v.4", .list as.pvs, o.pv]
  | .lets b t => .tup [.str "let", .list (b.pvs 0), t.pv]
def Als.pvs : Als → List PV
  | .nil => []
  | .cons k fs b r => .tup [k.pv, .list (fs.map PV.str), b.pv] :: r.pvs
def Op.pv : Op → PV
  | .no => .none
  | .yes t => t.pv
def Bds.pvs : Bds → Nat → List PV
  | .nil, _ => []
  | .cons c r, k => .tup [.str (tname k), c.pv] :: r.pvs (k + 1)
def Cl.pv : Cl → PV
  | .mk fr ps b u => .tup [.list (fr.map PV.str), .list (ps.map PV.str), b.pv, .bool u]
end
def Als.len : Als → Nat
  | .nil => 0
  | .cons _ _ _ r => r.len + 1
def Bds.len : Bds → Nat
  | .nil => 0
  | .cons _ r => r.len + 1
mutual
def Tr.ok : Tr → Nat → Prop
  | .atom a, _ => a.ok
  | .app f as, _ => f ∈ fnns ∧ 1 ≤ as.length ∧ as.length ≤ 3 ∧ ∀ a ∈ as, a.ok
  | .con f as, _ => f ∈ cnss ∧ as.length ≤ 3 ∧ ∀ a ∈ as, a.ok
  | .prim f as, _ => f ∈ prms ∧ as.length ≤ 3 ∧ ∀ a ∈ as, a.ok
  | .case e as o, n => ∃ m, n = m + 1 ∧ e.ok m ∧ as.len ≤ 2 ∧ as.ok m ∧ o.ok m
  | .lets b t, n => ∃ m, n = m + 1 ∧ b.len ≤ 2 ∧ b.ok m ∧ t.ok m
def Als.ok : Als → Nat → Prop
  | .nil, _ => True
  | .cons k fs b r, n => k.ok fs ∧ b.ok n ∧ r.ok n
def Op.ok : Op → Nat → Prop
  | .no, _ => True
  | .yes t, n => t.ok n
def Bds.ok : Bds → Nat → Prop
  | .nil, _ => True
  | .cons c r, n => c.ok n ∧ r.ok n
def Cl.ok : Cl → Nat → Prop
  | .mk fr ps b _, n => fr ∈ frs ∧ ps ∈ pss ∧ b.ok n
end

theorem pick_two (a b : PV) {r : Int} (h0 : 0 ≤ r) (hr : r < 3) : pickP [a, b] .none (some r) = [a, b].take r.toNat := by
  have : r = 0 ∨ r = 1 ∨ r = 2 := by omega
  rcases this with rfl | rfl | rfl <;> rfl
theorem pick_strs (a b : Str) {r : Int} (h0 : 0 ≤ r) (hr : r < 3) : ∃ l ∈ ([[], [a], [a, b]] : List (List Str)), pickP [.str a, .str b] .none (some r) = l.map PV.str := by
  have : r = 0 ∨ r = 1 ∨ r = 2 := by omega
  rcases this with rfl | rfl | rfl
  · exact ⟨[], by simp, rfl⟩
  · exact ⟨[a], by simp, rfl⟩
  · exact ⟨[a, b], by simp, rfl⟩
variable {g : Gx} {d : Nat} {σ : List Cell} {Q : PV → List Cell → Prop} {i : Nat} {s : Int × Int}
/-- a tree of this depth comes back from the wheel -/
def MakesTree (g : Gx) (n k : Nat) : Prop := ∀ {σ : List Cell} {Q : PV → List Cell → Prop} {i : Nat} {s : Int × Int}, i < σ.length → stOk s → (∀ (t : Tr) s', t.ok n → stOk s' → Q t.pv (σ.set i (stC s'))) → VC g.g k (fun vs => call (.ref 344) vs) [.cell i, .int n] (σ.set i (stC s)) Q
theorem VC.lclosure {n k : Nat} (T : MakesTree g n k) (hk : 2 ≤ k) (hi : i < σ.length) (ok : stOk s) (h : ∀ (c : Cl) s', c.ok n → stOk s' → Q c.pv (σ.set i (stC s'))) :
    VC g.g (k + 1) (fun vs => call (.ref 332) vs) [.cell i, .int (n + 1)] (σ.set i (stC s)) Q := by
  refine VC.fn (fn_lclosure g.w.params) rfl ?_
  walk_at "pv begin"
  walk_at "pvs"
  refine EV.slice_list ?_
  walk_at "pvs"
  refine ⟨_, rfl, by simp, ?_⟩
  walk_at "pvs"
  refine VC.le (VC.tk hi ok (by decide) (by decide) fun r s1 h0 hr ok1 => ?_) (by omega)
  refine ⟨_, rfl, ?_⟩
  obtain ⟨fr, hfr, e⟩ := pick_strs "x.1" "z.5" h0 hr
  rw [e]
  walk_at "pvs"
  refine EV.slice_list ?_
  walk_at "pvs"
  refine ⟨_, rfl, by simp, ?_⟩
  walk_at "pvs"
  refine VC.le (VC.tk hi ok1 (by decide) (by decide) fun r2 s2 h0 hr ok2 => ?_) (by omega)
  refine ⟨_, rfl, ?_⟩
  obtain ⟨ps, hps, e⟩ := pick_strs "p.1" "q.2" h0 hr
  rw [e]
  walk_at "pvs"
  rw [show ((n : Int) + 1 - 1) = n from by omega]
  refine T hi ok2 fun b s3 ob ok3 => ?_
  walk_at "pvs"
  refine VC.le (VC.tk hi ok3 (by decide) (by decide) fun r4 s4 h0 hr ok4 => ?_) (by omega)
  walk_at "pvs"
  exact h (.mk fr ps b (r4 == 0)) s4 ⟨hfr, hps, ob⟩ ok4
end

section
variable {g : Gx} {d : Nat} {σ : List Cell} {Q : PV → List Cell → Prop} {i : Nat} {s : Int × Int}
def altPV (k : Ky) (fs : List Str) (b : Tr) : PV := .tup [k.pv, .list (fs.map PV.str), b.pv]
theorem VC.alt {n k : Nat} (T : MakesTree g n k) (hk : 3 ≤ k) (hi : i < σ.length) (ok : stOk s) (h : ∀ (ky : Ky) fs (b : Tr) s', ky.ok fs → b.ok n → stOk s' → Q (altPV ky fs b) (σ.set i (stC s'))) :
    VC g.g (k + 1) (fun vs => call (.ref 339) vs) [.cell i, .int (n + 1)] (σ.set i (stC s)) Q := by
  refine VC.fn (fn_alt g.w.params) rfl ?_
  walk_at "pv begin"
  walk_at "pvs"
  refine VC.le (VC.tk hi ok (by decide) (by decide) fun r s1 h0 hr ok1 => ?_) (by omega)
  walk_at "pvs"
  have fin : ∀ (ky : Ky) (fs : List Str) s', ky.ok fs → stOk s' → EX g.g k (scAt g.w.params 339) ((bodyAt g.w.params 339).drop 2) ((([("key" : Str), "fields"] : List Str).zip [ky.pv, .list (fs.map PV.str)]) ++ ((("way" : Str), PV.int r) :: (["source", "deep"] : List Str).zip [.cell i, .int (n + 1)])) (σ.set i (stC s')) (fun _ σ' => Q .none σ') Q := fun ky fs s' o1 o2 => by
    walk_at "pv begin"
    walk_at "pvs"
    rw [show ((n : Int) + 1 - 1) = n from by omega]
    refine T hi o2 fun b s3 ob ok3 => ?_
    walk_at "pvs"
    exact h ky fs b s3 o1 ob ok3
  by_cases h1 : r = 0
  · subst h1
    simp only [beq_self_eq_true, if_true]
    refine EX.swapped (ns := ["key", "fields"]) ?_ (by decide +kernel) (by intro env h; unfold swappedStores Env.blockKind Env.kindOf; rw [h]; rfl)
    walk_at "pvs"
    refine VC.le (d' := 2) (VC.one (ys := cnss) hi ok1 (by decide) (by decide) fun y hy s2 ok2 => ?_) (by omega)
    walk_at "pvs"
    refine EV.slice_list ?_
    walk_at "pvs"
    refine ⟨_, rfl, by simp, ?_⟩
    walk_at "pvs"
    refine VC.le (VC.tk hi ok2 (by decide) (by decide) fun r s3 h0 hr ok3 => ?_) (by omega)
    refine ⟨_, rfl, ?_⟩
    obtain ⟨fs, hfs, e⟩ := pick_strs "a.1" "b.2" h0 hr
    rw [e]
    walk_at "pvs"
    refine ⟨_, .tup _, rfl, ?_⟩
    exact EX.nil (fin (.con y) fs s3 ⟨hy, hfs⟩ ok3)
  · have e1 : (r == 0) = false := by simpa using h1
    simp only [e1, if_false, Bool.false_eq_true]
    refine EX.swapped (ns := ["key", "fields"]) ?_ (by decide +kernel) (by intro env h; unfold swappedStores Env.blockKind Env.kindOf; rw [h]; rfl)
    walk_at "pvs"
    by_cases h2 : r = 1
    · simp only [h2, beq_self_eq_true, if_true]
      walk_at "pvs"
      refine VC.le (VC.tk hi ok1 (by decide) (by decide) fun r2 s2 h0 hr ok2 => ?_) (by omega)
      walk_at "pvs"
      refine ⟨_, .tup _, rfl, ?_⟩
      subst h2
      exact EX.nil (fin (.li (r2 - 4)) [] s2 ⟨by omega, by omega, rfl⟩ ok2)
    · have e2 : (r == 1) = false := by simpa using h2
      simp only [e2, if_false, Bool.false_eq_true]
      walk_at "pvs"
      refine VC.le (d' := 2) (VC.one (ys := kchs) hi ok1 (by decide) (by decide) fun y hy s2 ok2 => ?_) (by omega)
      walk_at "pvs"
      refine ⟨_, .tup _, rfl, ?_⟩
      exact EX.nil (fin (.ch y) [] s2 ⟨hy, rfl⟩ ok2)
end

section
/-- data that can be laid side by side -/
structure Fit (n : Nat) (x : PV) : Prop where
  d : isD x = true
  c : (pd x).canLay0 = true
  p : (pd x).depth ≤ n
structure Fits (n : Nat) (xs : List PV) : Prop where
  d : isDs xs = true
  c : PyData.canLayAll0 (pds xs) = true
  p : PyData.depthAll (pds xs) ≤ n
theorem Fit.none {n : Nat} : Fit n .none := ⟨rfl, by simp only [pd, PyData.canLay0], by simp only [pd, PyData.depth]; omega⟩
theorem Fit.bool {n : Nat} (b : Bool) : Fit n (.bool b) := ⟨rfl, by simp only [pd, PyData.canLay0], by simp only [pd, PyData.depth]; omega⟩
theorem Fit.int {n : Nat} (i : Int) : Fit n (.int i) := ⟨rfl, by simp only [pd, PyData.canLay0], by simp only [pd, PyData.depth]; omega⟩
theorem Fit.str {n : Nat} {x : Str} (h : PyData.strOk x = true) : Fit n (.str x) := ⟨rfl, by simp only [pd, PyData.canLay0, h], by simp only [pd, PyData.depth]; omega⟩
theorem Fit.tup {n : Nat} {xs : List PV} (h : Fits n xs) : Fit (n + 1) (.tup xs) := ⟨by simp only [isD]; exact h.d, by simp only [pd, PyData.canLay0]; exact h.c, by simp only [pd, PyData.depth]; have := h.p; omega⟩
theorem Fit.list {n : Nat} {xs : List PV} (h : Fits n xs) : Fit (n + 1) (.list xs) := ⟨by simp only [isD]; exact h.d, by simp only [pd, PyData.canLay0]; exact h.c, by simp only [pd, PyData.depth]; have := h.p; omega⟩
theorem Fits.nil {n : Nat} : Fits n [] := ⟨rfl, by simp only [pds, PyData.canLayAll0], by simp only [pds, PyData.depthAll]; omega⟩
theorem Fits.cons {n : Nat} {x : PV} {xs : List PV} (h : Fit n x) (q : Fits n xs) : Fits n (x :: xs) := ⟨by simp only [isDs, h.d, q.d, Bool.and_self], by simp only [pds, PyData.canLayAll0, h.c, q.c, Bool.and_self], by simp only [pds, PyData.depthAll]; have := h.p; have := q.p; omega⟩
theorem Fit.mono {n m : Nat} {x : PV} (h : Fit n x) (z : n ≤ m) : Fit m x := ⟨h.d, h.c, Nat.le_trans h.p z⟩
theorem Fits.mono {n m : Nat} {x : List PV} (h : Fits n x) (z : n ≤ m) : Fits m x := ⟨h.d, h.c, Nat.le_trans h.p z⟩
theorem Fits.strs {n : Nat} : ∀ {l : List Str}, (∀ x ∈ l, PyData.strOk x = true) → Fits n (l.map PV.str)
  | [], _ => .nil
  | x :: l, h => .cons (.str (h x (.head _))) (Fits.strs fun y m => h y (.tail _ m))
theorem all_ok {l : List Str} (h : l.all PyData.strOk = true) : ∀ x ∈ l, PyData.strOk x = true := List.all_eq_true.mp h
theorem alls_ok {l : List (List Str)} (h : (l.all fun m => m.all PyData.strOk) = true) : ∀ m ∈ l, ∀ x ∈ m, PyData.strOk x = true := fun m hm => all_ok (List.all_eq_true.mp h m hm)
theorem At.fit {a : At} (h : a.ok) : Fit 1 a.pv := by
  cases a with
  | nm x => exact .tup (.cons (.str (by decide +kernel)) (.cons (.str (all_ok (l := nms) (by decide +kernel) x h)) .nil))
  | li n => exact .tup (.cons (.str (by decide +kernel)) (.cons (.str (by decide +kernel)) (.cons (.int n) .nil)))
  | ch x => exact .tup (.cons (.str (by decide +kernel)) (.cons (.str (by decide +kernel)) (.cons (.str (all_ok (l := chs) (by decide +kernel) x h)) .nil)))
theorem Ats.fit : ∀ {l : List At}, (∀ a ∈ l, a.ok) → Fits 1 (l.map At.pv)
  | [], _ => .nil
  | a :: l, h => .cons (At.fit (h a (.head _))) (Ats.fit fun b m => h b (.tail _ m))
theorem Ky.fit {k : Ky} {fs : List Str} (h : k.ok fs) : Fit 1 k.pv ∧ Fits 1 (fs.map PV.str) := by
  cases k with
  | con x => exact ⟨.tup (.cons (.str (by decide +kernel)) (.cons (.str (all_ok (l := cnss) (by decide +kernel) x h.1)) .nil)), .strs (alls_ok (l := fds) (by decide +kernel) fs h.2)⟩
  | li n => exact ⟨.tup (.cons (.str (by decide +kernel)) (.cons (.str (by decide +kernel)) (.cons (.int n) .nil))), h.2.2 ▸ .nil⟩
  | ch x => exact ⟨.tup (.cons (.str (by decide +kernel)) (.cons (.str (by decide +kernel)) (.cons (.str (all_ok (l := kchs) (by decide +kernel) x h.1)) .nil))), h.2 ▸ .nil⟩
theorem tname_ok {k : Nat} (h : k < 2) : PyData.strOk (tname k) = true := by
  have : k = 0 ∨ k = 1 := by omega
  rcases this with rfl | rfl <;> decide +kernel
mutual
theorem Tr.fit : ∀ {t : Tr} {n : Nat}, t.ok n → Fit (4 + 4 * n) t.pv
  | .atom a, n, h => by
    refine Fit.mono (n := 2) (.tup (.cons (.str (by decide +kernel)) (.cons (Fit.mono (At.fit (by simpa [Tr.ok] using h)) (Nat.le_refl _)) .nil))) (by omega)
  | .app f as, n, h => by
    simp only [Tr.ok] at h
    exact Fit.mono (n := 3) (.tup (.cons (.str (by decide +kernel)) (.cons (.str (all_ok (l := fnns) (by decide +kernel) f h.1)) (.cons (.list (Ats.fit h.2.2.2)) .nil)))) (by omega)
  | .con f as, n, h => by
    simp only [Tr.ok] at h
    exact Fit.mono (n := 3) (.tup (.cons (.str (by decide +kernel)) (.cons (.str (all_ok (l := cnss) (by decide +kernel) f h.1)) (.cons (.list (Ats.fit h.2.2)) .nil)))) (by omega)
  | .prim f as, n, h => by
    simp only [Tr.ok] at h
    exact Fit.mono (n := 3) (.tup (.cons (.str (by decide +kernel)) (.cons (.str (all_ok (l := prms) (by decide +kernel) f h.1)) (.cons (.list (Ats.fit h.2.2)) .nil)))) (by omega)
  | .case e as o, n, h => by
    simp only [Tr.ok] at h
    obtain ⟨m, rfl, h1, h2, h3, h4⟩ := h
    exact Fit.mono (n := 4 + 4 * m + 3) (.tup (.cons (.str (by decide +kernel)) (.cons ((Tr.fit h1).mono (by omega)) (.cons (.str (by decide +kernel)) (.cons (.list (Als.fit h3)) (.cons ((Op.fit h4).mono (by omega)) .nil)))))) (by omega)
  | .lets b t, n, h => by
    simp only [Tr.ok] at h
    obtain ⟨m, rfl, h1, h2, h3⟩ := h
    exact Fit.mono (n := 4 + 4 * m + 4) (.tup (.cons (.str (by decide +kernel)) (.cons (.list (Bds.fit (k := 0) h2 (by omega))) (.cons ((Tr.fit h3).mono (by omega)) .nil)))) (by omega)
theorem Als.fit : ∀ {a : Als} {n : Nat}, a.ok n → Fits (4 + 4 * n + 1) a.pvs
  | .nil, n, h => .nil
  | .cons k fs b r, n, h => by
    simp only [Als.ok] at h
    exact .cons (.tup (.cons ((Ky.fit h.1).1.mono (by omega)) (.cons (Fit.mono (.list (Ky.fit h.1).2) (by omega)) (.cons (Tr.fit h.2.1) .nil)))) (Als.fit h.2.2)
theorem Op.fit : ∀ {o : Op} {n : Nat}, o.ok n → Fit (4 + 4 * n) o.pv
  | .no, n, h => .none
  | .yes t, n, h => by
    simp only [Op.ok] at h
    exact Tr.fit h
theorem Bds.fit : ∀ {b : Bds} {n k : Nat}, b.ok n → k + b.len ≤ 2 → Fits (4 + 4 * n + 2) (b.pvs k)
  | .nil, n, k, h, _ => .nil
  | .cons c r, n, k, h, z => by
    simp only [Bds.ok] at h
    simp only [Bds.len] at z
    exact .cons (.tup (.cons (.str (tname_ok (by omega))) (.cons (Cl.fit h.1) .nil))) (Bds.fit h.2 (by omega))
theorem Cl.fit : ∀ {c : Cl} {n : Nat}, c.ok n → Fit (4 + 4 * n + 1) c.pv
  | .mk fr ps b u, n, h => by
    simp only [Cl.ok] at h
    exact .tup (.cons (Fit.mono (.list (.strs (n := 0) (alls_ok (l := frs) (by decide +kernel) fr h.1))) (by omega)) (.cons (Fit.mono (.list (.strs (n := 0) (alls_ok (l := pss) (by decide +kernel) ps h.2.1))) (by omega)) (.cons (Tr.fit h.2.2) (.cons (.bool u) .nil))))
end
theorem Fit.shaped {n : Nat} {x : PV} (h : Fit n x) (z : n ≤ 64) : SeqAt.shaped (pd x) = true := by
  unfold SeqAt.shaped; rw [h.c]; have := h.p; simp; omega
theorem VC.eq_fit {G : Gc} {d : Nat} {σ : List Cell} {Q : PV → List Cell → Prop} {n m : Nat} {x y : PV} (hx : Fit n x) (hy : Fit m y) (zx : n ≤ 64) (zy : m ≤ 64) (h : Q (.bool ((pd x).eqv (pd y))) σ) : VC G d (cmp2 .Eq) [x, y] σ Q := VC.eq_data hx.d hy.d (hx.shaped zx) (hy.shaped zy) h
theorem VC.ne_fit {G : Gc} {d : Nat} {σ : List Cell} {Q : PV → List Cell → Prop} {n m : Nat} {x y : PV} (hx : Fit n x) (hy : Fit m y) (zx : n ≤ 64) (zy : m ≤ 64) (h : Q (.bool (!(pd x).eqv (pd y))) σ) : VC G d (cmp2 .NotEq) [x, y] σ Q := VC.ne_data hx.d hy.d (hx.shaped zx) (hy.shaped zy) h
end

section
def mkAls : List (Ky × List Str × Tr) → Als
  | [] => .nil
  | (k, fs, b) :: r => .cons k fs b (mkAls r)
theorem mkAls_pvs : ∀ l : List (Ky × List Str × Tr), (mkAls l).pvs = l.map fun a => altPV a.1 a.2.1 a.2.2
  | [] => rfl
  | (k, fs, b) :: r => by simp only [mkAls, Als.pvs, List.map_cons, mkAls_pvs r]; rfl
theorem mkAls_len : ∀ l : List (Ky × List Str × Tr), (mkAls l).len = l.length
  | [] => rfl
  | (k, fs, b) :: r => by simp only [mkAls, Als.len, List.length_cons, mkAls_len r]
theorem mkAls_ok {n : Nat} : ∀ {l : List (Ky × List Str × Tr)}, (∀ a ∈ l, a.1.ok a.2.1 ∧ a.2.2.ok n) → (mkAls l).ok n
  | [], _ => by simp only [mkAls, Als.ok]
  | (k, fs, b) :: r, h => by
    simp only [mkAls, Als.ok]
    exact ⟨(h _ (.head _)).1, (h _ (.head _)).2, mkAls_ok fun a m => h a (.tail _ m)⟩
variable {g : Gx} {d : Nat} {σ : List Cell} {Q : PV → List Cell → Prop} {i : Nat} {s : Int × Int}
theorem tree_leaf {n : Nat} {w : Int} {s1 : Int × Int} (hi : i < σ.length) (ok1 : stOk s1) (h0 : 0 ≤ w) (h : ∀ (t : Tr) s', t.ok n → stOk s' → Q t.pv (σ.set i (stC s')))
    (next : 4 ≤ w → EX g.g (4 + 2 * n) (scAt g.w.params 344) ((bodyAt g.w.params 344).drop 5) ((("way" : Str), PV.int w) :: (["source", "deep"] : List Str).zip [.cell i, .int n]) (σ.set i (stC s1)) (fun _ σ' => Q .none σ') Q) :
    EX g.g (4 + 2 * n) (scAt g.w.params 344) ((bodyAt g.w.params 344).drop 1) ((("way" : Str), PV.int w) :: (["source", "deep"] : List Str).zip [.cell i, .int n]) (σ.set i (stC s1)) (fun _ σ' => Q .none σ') Q := by
  walk_at "pv begin"
  walk_at "pvs"
  by_cases e0 : w = 0
  · subst e0
    simp only [beq_self_eq_true, if_true]
    walk_at "pvs"
    refine VC.le (VC.atom hi ok1 fun a s2 ha ok2 => ?_) (by omega)
    walk_at "pvs"
    exact h (.atom a) s2 (by simpa only [Tr.ok] using ha) ok2
  have b0 : (w == 0) = false := by simpa using e0
  simp only [b0, if_false, Bool.false_eq_true]
  walk_at "pvs"
  by_cases e1 : w = 1
  · subst e1
    simp only [beq_self_eq_true, if_true]
    walk_at "pvs"
    refine VC.le (d' := 2) (VC.one (ys := fnns) hi ok1 (by decide) (by decide) fun y hy s2 ok2 => ?_) (by omega)
    walk_at "pvs"
    refine VC.le (d' := 4) (VC.atoms (by decide) (by decide) hi ok2 fun as s3 l1 l2 ha ok3 => ?_) (by omega)
    walk_at "pvs"
    exact h (.app y as) s3 (by simp only [Tr.ok]; exact ⟨hy, by omega, l1, ha⟩) ok3
  have b1 : (w == 1) = false := by simpa using e1
  simp only [b1, if_false, Bool.false_eq_true]
  walk_at "pvs"
  by_cases e2 : w = 2
  · subst e2
    simp only [beq_self_eq_true, if_true]
    walk_at "pvs"
    refine VC.le (d' := 2) (VC.one (ys := cnss) hi ok1 (by decide) (by decide) fun y hy s2 ok2 => ?_) (by omega)
    walk_at "pvs"
    refine VC.le (d' := 4) (VC.atoms (by decide) (by decide) hi ok2 fun as s3 l1 l2 ha ok3 => ?_) (by omega)
    walk_at "pvs"
    exact h (.con y as) s3 (by simp only [Tr.ok]; exact ⟨hy, l1, ha⟩) ok3
  have b2 : (w == 2) = false := by simpa using e2
  simp only [b2, if_false, Bool.false_eq_true]
  walk_at "pvs"
  by_cases e3 : w = 3
  · subst e3
    simp only [beq_self_eq_true, if_true]
    walk_at "pvs"
    refine VC.le (d' := 2) (VC.one (ys := prms) hi ok1 (by decide) (by decide) fun y hy s2 ok2 => ?_) (by omega)
    walk_at "pvs"
    refine VC.le (d' := 4) (VC.atoms (by decide) (by decide) hi ok2 fun as s3 l1 l2 ha ok3 => ?_) (by omega)
    walk_at "pvs"
    exact h (.prim y as) s3 (by simp only [Tr.ok]; exact ⟨hy, l1, ha⟩) ok3
  have b3 : (w == 3) = false := by simpa using e3
  simp only [b3, if_false, Bool.false_eq_true]
  refine EX.nil ?_
  exact next (by omega)
theorem tree_case {m : Nat} {w : Int} {s1 : Int × Int} (hm : m ≤ 10) (T : MakesTree g m (5 + 2 * m)) (hi : i < σ.length) (ok1 : stOk s1) (h4 : w < 6) (h : ∀ (t : Tr) s', t.ok (m + 1) → stOk s' → Q t.pv (σ.set i (stC s'))) :
    EX g.g (4 + 2 * (m + 1)) (scAt g.w.params 344) ((bodyAt g.w.params 344).drop 5) ((("way" : Str), PV.int w) :: (["source", "deep"] : List Str).zip [.cell i, .int (m + 1)]) (σ.set i (stC s1)) (fun _ σ' => Q .none σ') Q := by
  walk_at "pv begin"
  walk_at "pvs"
  simp only [h4, decide_true, if_true]
  refine EX.assign_comp ?_ rfl (.inl rfl)
  walk_at "pvs"
  refine VC.le (VC.tk hi ok1 (by decide) (by decide) fun r s2 h0 hr ok2 => ?_) (by omega)
  walk_at "pvs"
  refine VC.range ?_
  refine ⟨_, .inr ⟨r.toNat, by omega, by rw [Int.toNat_of_nonneg h0], rfl⟩, by simp; omega, ?_⟩
  refine CompL.src (f := fun a : Ky × List Str × Tr => altPV a.1 a.2.1 a.2.2) (P := fun a => a.1.ok a.2.1 ∧ a.2.2.ok m) rfl (fun v s Q' ok' h' => ?_) _ [] s2 (by simp) ok2 fun bs s3 hl hb ok3 => ?_
  · walk_at "pvs"
    refine VC.le (VC.alt T (by omega) hi ok' fun ky fs b s' o1 o2 ok'' => h' (ky, fs, b) s' ⟨o1, o2⟩ ok'') (by omega)
  rw [← mkAls_pvs]
  have hal := mkAls_ok hb
  have hlen : (mkAls bs).len ≤ 2 := by rw [mkAls_len, hl]; simp; omega
  generalize mkAls bs = as at *
  have fin : ∀ (o : Op) s4, o.ok m → stOk s4 → EX g.g (4 + 2 * (m + 1)) (scAt g.w.params 344) ((match (bodyAt g.w.params 344).drop 5 with | .If _ b _ _ :: _ => b | _ => []).drop 2)
      ((("other" : Str), o.pv) :: (("alts" : Str), .list as.pvs) :: (("way" : Str), PV.int w) :: (["source", "deep"] : List Str).zip [.cell i, .int (m + 1)]) (σ.set i (stC s4)) (fun _ _ => False) Q := fun o s4 oo ok4 => by
    walk_at "pv begin"
    walk_at "pvs"
    rw [show ((m : Int) + 1 - 1) = m from by omega]
    refine VC.le (T hi ok4 fun e s5 oe ok5 => ?_) (by omega)
    walk_at "pvs"
    exact h (.case e as o) s5 (by simp only [Tr.ok]; exact ⟨m, rfl, oe, hlen, hal, oo⟩) ok5
  refine EX.assign ?_ (.inl rfl)
  refine EV.ifexp ?_
  walk_at "pvs"
  refine VC.eq_fit (.list (Als.fit hal)) (.list (n := 0) .nil) (by omega) (by decide) ?_
  walk_at "pvs"
  cases as with
  | nil =>
    rw [show (pd (.list Als.nil.pvs)).eqv (pd (.list [])) = true from by simp [pd, pds, Als.pvs, PyData.eqv, PyData.eqvAll]]
    simp only [if_true]
    walk_at "pvs"
    rw [show ((m : Int) + 1 - 1) = m from by omega]
    refine VC.le (T hi ok3 fun e s5 oe ok5 => ?_) (by omega)
    exact (fin (.yes e) s5 (by simpa only [Op.ok] using oe) ok5).mono (fun _ _ f => f.elim) fun _ _ q => q
  | cons k fs b r =>
    rw [show (pd (.list (Als.cons k fs b r).pvs)).eqv (pd (.list [])) = false from by simp [pd, pds, Als.pvs, PyData.eqv, PyData.eqvAll]]
    simp only [if_false, Bool.false_eq_true]
    walk_at "pvs"
    refine VC.le (VC.tk hi ok3 (by decide) (by decide) fun r s4 h0 hr ok4 => ?_) (by omega)
    walk_at "pvs"
    by_cases e : r = 0
    · subst e
      simp only [beq_self_eq_true, if_true]
      walk_at "pvs"
      rw [show ((m : Int) + 1 - 1) = m from by omega]
      refine VC.le (T hi ok4 fun e s5 oe ok5 => ?_) (by omega)
      exact (fin (.yes e) s5 (by simpa only [Op.ok] using oe) ok5).mono (fun _ _ f => f.elim) fun _ _ q => q
    · have b : (r == 0) = false := by simpa using e
      simp only [b]
      walk_at "pv"
      walk_at "pv"
      refine EV.cnone ?_
      exact (fin .no s4 (by simp only [Op.ok]) ok4).mono (fun _ _ f => f.elim) fun _ _ q => q

theorem tree_lets {m : Nat} {w : Int} {s1 : Int × Int} (T : MakesTree g m (5 + 2 * m)) (hi : i < σ.length) (ok1 : stOk s1) (h4 : ¬ w < 6) (h : ∀ (t : Tr) s', t.ok (m + 1) → stOk s' → Q t.pv (σ.set i (stC s'))) :
    EX g.g (4 + 2 * (m + 1)) (scAt g.w.params 344) ((bodyAt g.w.params 344).drop 5) ((("way" : Str), PV.int w) :: (["source", "deep"] : List Str).zip [.cell i, .int (m + 1)]) (σ.set i (stC s1)) (fun _ σ' => Q .none σ') Q := by
  walk_at "pv begin"
  walk_at "pvs"
  simp only [h4, decide_false, if_false, Bool.false_eq_true]
  walk_at "pvs"
  have fin : ∀ (b : Bds) s4, b.len ≤ 2 → b.ok m → stOk s4 → EX g.g (4 + 2 * (m + 1)) (scAt g.w.params 344) ((bodyAt g.w.params 344).drop 7)
      ((("binds" : Str), .list (b.pvs 0)) :: (("way" : Str), PV.int w) :: (["source", "deep"] : List Str).zip [.cell i, .int (m + 1)]) (σ.set i (stC s4)) (fun _ σ' => Q .none σ') Q := fun b s4 lb ob ok4 => by
    walk_at "pv begin"
    walk_at "pvs"
    rw [show ((m : Int) + 1 - 1) = m from by omega]
    refine VC.le (T hi ok4 fun e s5 oe ok5 => ?_) (by omega)
    walk_at "pvs"
    exact h (.lets b e) s5 (by simp only [Tr.ok]; exact ⟨m, rfl, lb, ob, oe⟩) ok5
  refine EX.assign_comp ?_ rfl (.inl rfl)
  walk_at "pvs"
  refine VC.le (VC.tk hi ok1 (by decide) (by decide) fun r s2 h0 hr ok2 => ?_) (by omega)
  walk_at "pvs"
  refine VC.range ?_
  refine ⟨_, .inr ⟨(1 + r).toNat, by omega, by rw [Int.toNat_of_nonneg (by omega)], rfl⟩, by simp; omega, ?_⟩
  have hr2 : r = 0 ∨ r = 1 := by omega
  rcases hr2 with rfl | rfl
  · refine ⟨_, .name rfl, ?_⟩
    walk_at "pvs"
    refine VC.str_int (by decide) ?_
    walk_at "pvs"
    refine VC.adds (by decide +kernel) ?_
    walk_at "pvs"
    refine VC.le (VC.lclosure T (by omega) hi ok2 fun c s3 oc ok3 => ?_) (by omega)
    walk_at "pvs"
    exact fin (.cons c .nil) s3 (by simp only [Bds.len]; omega) (by simp only [Bds.ok]; exact ⟨oc, trivial⟩) ok3
  · refine ⟨_, .name rfl, ?_⟩
    walk_at "pvs"
    refine VC.str_int (by decide) ?_
    walk_at "pvs"
    refine VC.adds (by decide +kernel) ?_
    walk_at "pvs"
    refine VC.le (VC.lclosure T (by omega) hi ok2 fun c s3 oc ok3 => ?_) (by omega)
    walk_at "pvs"
    refine ⟨_, .name rfl, ?_⟩
    walk_at "pvs"
    refine VC.str_int (by decide) ?_
    walk_at "pvs"
    refine VC.adds (by decide +kernel) ?_
    walk_at "pvs"
    refine VC.le (VC.lclosure T (by omega) hi ok3 fun c2 s4 oc2 ok4 => ?_) (by omega)
    walk_at "pvs"
    exact fin (.cons c (.cons c2 .nil)) s4 (by simp only [Bds.len]; omega) (by simp only [Bds.ok]; exact ⟨oc, oc2, trivial⟩) ok4
theorem tree_makes (g : Gx) : ∀ n : Nat, n ≤ 10 → MakesTree g n (5 + 2 * n)
  | 0, _ => by
    intro hi ok h
    refine VC.fn (d := 4 + 2 * 0) (fn_tree g.w.params) rfl ?_
    walk_at "pv begin"
    walk_at "pvs"
    simp only [show decide ((0 : Int) < ((0 : Nat) : Int)) = false from rfl, if_false, Bool.false_eq_true]
    walk_at "pvs"
    refine VC.le (VC.tk hi ok (by decide) (by decide) fun w s1 h0 hr ok1 => ?_) (by omega)
    exact tree_leaf (n := 0) hi ok1 h0 h fun z => by omega
  | m + 1, hm => by
    intro hi ok h
    have T : MakesTree g m (5 + 2 * m) := tree_makes g m (by omega)
    rw [show 5 + 2 * (m + 1) = (4 + 2 * (m + 1)) + 1 from by omega]
    refine VC.fn (d := 4 + 2 * (m + 1)) (fn_tree g.w.params) rfl ?_
    walk_at "pv begin"
    walk_at "pvs"
    simp only [show decide ((0 : Int) < ((m + 1 : Nat) : Int)) = true from decide_eq_true (by omega), if_true]
    walk_at "pvs"
    refine VC.le (VC.tk hi ok (by decide) (by decide) fun w s1 h0 hr ok1 => ?_) (by omega)
    refine tree_leaf (n := m + 1) hi ok1 h0 h fun z => ?_
    by_cases h6 : w < 6
    · exact tree_case (by omega) T hi ok1 h6 h
    · exact tree_lets T hi ok1 h6 h
end

section
theorem VC.mk_SAtom {g : Gx} {d : Nat} {σ : List Cell} {Q : PV → List Cell → Prop} {v0 : PV} (h : Q (.inst 31 ["atom"] [v0]) σ) : VC g.g (d + 2) (fun vs => call (.ref 31) vs) [v0] σ Q := by
  refine VC.make (Mine.mk_SAtom g.w.params) (fn_SAtom_init g.w.params) rfl ?_
  walk_at "pv begin"
  refine INI.cons (Mine.mk_SAtom _) (tk_SAtom_atom _) (by decide +kernel) (by decide) fun x => EV.name rfl ?_
  exact INI.nil h
theorem VC.mk_SApp {g : Gx} {d : Nat} {σ : List Cell} {Q : PV → List Cell → Prop} {v0 v1 : PV} (h : Q (.inst 52 ["name", "atoms"] [v0, v1]) σ) : VC g.g (d + 2) (fun vs => call (.ref 52) vs) [v0, v1] σ Q := by
  refine VC.make (Mine.mk_SApp g.w.params) (fn_SApp_init g.w.params) rfl ?_
  walk_at "pv begin"
  refine INI.cons (Mine.mk_SApp _) (tk_SApp_name _) (by decide +kernel) (by decide) fun x => EV.name rfl ?_
  refine INI.cons (Mine.mk_SApp _) (tk_SApp_atoms _) (by decide +kernel) (by decide) fun x => EV.name rfl ?_
  exact INI.nil h
theorem VC.mk_SCon {g : Gx} {d : Nat} {σ : List Cell} {Q : PV → List Cell → Prop} {v0 v1 : PV} (h : Q (.inst 73 ["con", "atoms"] [v0, v1]) σ) : VC g.g (d + 2) (fun vs => call (.ref 73) vs) [v0, v1] σ Q := by
  refine VC.make (Mine.mk_SCon g.w.params) (fn_SCon_init g.w.params) rfl ?_
  walk_at "pv begin"
  refine INI.cons (Mine.mk_SCon _) (tk_SCon_con _) (by decide +kernel) (by decide) fun x => EV.name rfl ?_
  refine INI.cons (Mine.mk_SCon _) (tk_SCon_atoms _) (by decide +kernel) (by decide) fun x => EV.name rfl ?_
  exact INI.nil h
theorem VC.mk_SPrim {g : Gx} {d : Nat} {σ : List Cell} {Q : PV → List Cell → Prop} {v0 v1 : PV} (h : Q (.inst 94 ["op", "atoms"] [v0, v1]) σ) : VC g.g (d + 2) (fun vs => call (.ref 94) vs) [v0, v1] σ Q := by
  refine VC.make (Mine.mk_SPrim g.w.params) (fn_SPrim_init g.w.params) rfl ?_
  walk_at "pv begin"
  refine INI.cons (Mine.mk_SPrim _) (tk_SPrim_op _) (by decide +kernel) (by decide) fun x => EV.name rfl ?_
  refine INI.cons (Mine.mk_SPrim _) (tk_SPrim_atoms _) (by decide +kernel) (by decide) fun x => EV.name rfl ?_
  exact INI.nil h
theorem VC.mk_SCase {g : Gx} {d : Nat} {σ : List Cell} {Q : PV → List Cell → Prop} {v0 v1 v2 v3 : PV} (h : Q (.inst 115 ["expr", "name", "alts", "other"] [v0, v1, v2, v3]) σ) : VC g.g (d + 2) (fun vs => call (.ref 115) vs) [v0, v1, v2, v3] σ Q := by
  refine VC.make (Mine.mk_SCase g.w.params) (fn_SCase_init g.w.params) rfl ?_
  walk_at "pv begin"
  refine INI.cons (Mine.mk_SCase _) (tk_SCase_expr _) (by decide +kernel) (by decide) fun x => EV.name rfl ?_
  refine INI.cons (Mine.mk_SCase _) (tk_SCase_name _) (by decide +kernel) (by decide) fun x => EV.name rfl ?_
  refine INI.cons (Mine.mk_SCase _) (tk_SCase_alts _) (by decide +kernel) (by decide) fun x => EV.name rfl ?_
  refine INI.cons (Mine.mk_SCase _) (tk_SCase_other _) (by decide +kernel) (by decide) fun x => EV.name rfl ?_
  exact INI.nil h
theorem VC.mk_SAlt {g : Gx} {d : Nat} {σ : List Cell} {Q : PV → List Cell → Prop} {v0 v1 v2 : PV} (h : Q (.inst 136 ["key", "names", "body"] [v0, v1, v2]) σ) : VC g.g (d + 2) (fun vs => call (.ref 136) vs) [v0, v1, v2] σ Q := by
  refine VC.make (Mine.mk_SAlt g.w.params) (fn_SAlt_init g.w.params) rfl ?_
  walk_at "pv begin"
  refine INI.cons (Mine.mk_SAlt _) (tk_SAlt_key _) (by decide +kernel) (by decide) fun x => EV.name rfl ?_
  refine INI.cons (Mine.mk_SAlt _) (tk_SAlt_names _) (by decide +kernel) (by decide) fun x => EV.name rfl ?_
  refine INI.cons (Mine.mk_SAlt _) (tk_SAlt_body _) (by decide +kernel) (by decide) fun x => EV.name rfl ?_
  exact INI.nil h
theorem VC.mk_SLet {g : Gx} {d : Nat} {σ : List Cell} {Q : PV → List Cell → Prop} {v0 v1 : PV} (h : Q (.inst 157 ["binds", "body"] [v0, v1]) σ) : VC g.g (d + 2) (fun vs => call (.ref 157) vs) [v0, v1] σ Q := by
  refine VC.make (Mine.mk_SLet g.w.params) (fn_SLet_init g.w.params) rfl ?_
  walk_at "pv begin"
  refine INI.cons (Mine.mk_SLet _) (tk_SLet_binds _) (by decide +kernel) (by decide) fun x => EV.name rfl ?_
  refine INI.cons (Mine.mk_SLet _) (tk_SLet_body _) (by decide +kernel) (by decide) fun x => EV.name rfl ?_
  exact INI.nil h
theorem VC.mk_Lambda {g : Gx} {d : Nat} {σ : List Cell} {Q : PV → List Cell → Prop} {v0 v1 v2 v3 : PV} (h : Q (.inst 178 ["free", "params", "body", "is_updated"] [v0, v1, v2, v3]) σ) : VC g.g (d + 2) (fun vs => call (.ref 178) vs) [v0, v1, v2, v3] σ Q := by
  refine VC.make (Mine.mk_Lambda g.w.params) (fn_Lambda_init g.w.params) rfl ?_
  walk_at "pv begin"
  refine INI.cons (Mine.mk_Lambda _) (tk_Lambda_free _) (by decide +kernel) (by decide) fun x => EV.name rfl ?_
  refine INI.cons (Mine.mk_Lambda _) (tk_Lambda_params _) (by decide +kernel) (by decide) fun x => EV.name rfl ?_
  refine INI.cons (Mine.mk_Lambda _) (tk_Lambda_body _) (by decide +kernel) (by decide) fun x => EV.name rfl ?_
  refine INI.cons (Mine.mk_Lambda _) (tk_Lambda_is_updated _) (by decide +kernel) (by decide) fun x => EV.name rfl ?_
  exact INI.nil h
theorem VC.mk_StgProgram {g : Gx} {d : Nat} {σ : List Cell} {Q : PV → List Cell → Prop} {v0 v1 v2 : PV} (h : Q (.inst 199 ["binds", "cons", "main"] [v0, v1, v2]) σ) : VC g.g (d + 2) (fun vs => call (.ref 199) vs) [v0, v1, v2] σ Q := by
  refine VC.make (Mine.mk_StgProgram g.w.params) (fn_StgProgram_init g.w.params) rfl ?_
  walk_at "pv begin"
  refine INI.cons (Mine.mk_StgProgram _) (tk_StgProgram_binds _) (by decide +kernel) (by decide) fun x => EV.name rfl ?_
  refine INI.cons (Mine.mk_StgProgram _) (tk_StgProgram_cons _) (by decide +kernel) (by decide) fun x => EV.name rfl ?_
  refine INI.cons (Mine.mk_StgProgram _) (tk_StgProgram_main _) (by decide +kernel) (by decide) fun x => EV.name rfl ?_
  exact INI.nil h
theorem VC.mk_Lines {g : Gx} {d : Nat} {σ : List Cell} {Q : PV → List Cell → Prop} (h : Q (.inst 267 ["rows"] [.cell σ.length]) (σ ++ [.lst []])) : VC g.g (d + 2) (fun vs => call (.ref 267) vs) [] σ Q := by
  refine VC.make (Mine.mk_Lines g.w.params) (fn_Lines_init g.w.params) rfl ?_
  walk_at "pv begin"
  refine INI.cons (Mine.mk_Lines _) (tk_Lines_rows _) (by decide +kernel) (by decide) fun x => EV.list0 ?_
  exact INI.nil h
def altNode' (k : Ky) (fs : List Str) (b : PV) : PV := .inst 136 ["key", "names", "body"] [k.pv, .list (fs.map PV.str), b]
mutual
def Tr.node : Tr → PV
  | .atom a => .inst 31 ["atom"] [a.pv]
  | .app f as => .inst 52 ["name", "atoms"] [.str f, .list (as.map At.pv)]
  | .con f as => .inst 73 ["con", "atoms"] [.str f, .list (as.map At.pv)]
  | .prim f as => .inst 94 ["op", "atoms"] [.str f, .list (as.map At.pv)]
  | .case e as o => .inst 115 ["expr", "name", "alts", "other"] [e.node, .str "v.4", .list as.nodes, o.node]
  | .lets b t => .inst 157 ["binds", "body"] [.list (b.nodes 0), t.node]
def Als.nodes : Als → List PV
  | .nil => []
  | .cons k fs b r => altNode' k fs b.node :: r.nodes
def Op.node : Op → PV
  | .no => .none
  | .yes t => t.node
def Bds.nodes : Bds → Nat → List PV
  | .nil, _ => []
  | .cons c r, k => .tup [.str (tname k), c.node] :: r.nodes (k + 1)
def Cl.node : Cl → PV
  | .mk fr ps b u => .inst 178 ["free", "params", "body", "is_updated"] [.list (fr.map PV.str), .list (ps.map PV.str), b.node, .bool u]
end
section
variable {G : Gc} {d n : Nat} {csc : Scope} {σ : List Cell} {Q : PV → List Cell → Prop} {elt t : Expr} {ρ : List (Str × PV)}
theorem CompL.als (step : ∀ (k : Ky) (fs : List Str) (b : Tr), b.ok n → ∀ Q' : PV → List Cell → Prop, Q' (altNode' k fs b.node) σ → ∃ ρ1, BindT csc σ ρ t (altPV k fs b) ρ1 ∧ EV G d csc elt ρ1 σ Q') :
    ∀ (as : Als) (acc : List PV), as.ok n → Q (.list (acc ++ as.nodes)) σ → CompL G d csc t elt ρ Q as.pvs acc σ
  | .nil, acc, _, h => by simp only [Als.nodes, List.append_nil] at h; exact h
  | .cons k fs b r, acc, o, h => by
    simp only [Als.ok] at o
    simp only [Als.nodes] at h
    obtain ⟨ρ1, h1, h2⟩ := step k fs b o.2.1 (fun v σ' => CompL G d csc t elt ρ Q r.pvs (acc ++ [v]) σ') (CompL.als step r _ o.2.2 (by rw [List.append_assoc]; exact h))
    exact ⟨ρ1, h1, h2⟩
theorem CompL.bds (step : ∀ (k : Nat) (c : Cl), c.ok n → ∀ Q' : PV → List Cell → Prop, Q' (.tup [.str (tname k), c.node]) σ → ∃ ρ1, BindT csc σ ρ t (.tup [.str (tname k), c.pv]) ρ1 ∧ EV G d csc elt ρ1 σ Q') :
    ∀ (b : Bds) (k : Nat) (acc : List PV), b.ok n → Q (.list (acc ++ b.nodes k)) σ → CompL G d csc t elt ρ Q (b.pvs k) acc σ
  | .nil, k, acc, _, h => by simp only [Bds.nodes, List.append_nil] at h; exact h
  | .cons c r, k, acc, o, h => by
    simp only [Bds.ok] at o
    simp only [Bds.nodes] at h
    obtain ⟨ρ1, h1, h2⟩ := step k c o.1 (fun v σ' => CompL G d csc t elt ρ Q (r.pvs (k + 1)) (acc ++ [v]) σ') (CompL.bds step r (k + 1) _ o.2 (by rw [List.append_assoc]; exact h))
    exact ⟨ρ1, h1, h2⟩
end
theorem Als.pvs_len : ∀ a : Als, a.pvs.length = a.len
  | .nil => rfl
  | .cons _ _ _ r => by simp only [Als.pvs, Als.len, List.length_cons, Als.pvs_len r]
theorem Bds.pvs_len : ∀ (a : Bds) (k : Nat), (a.pvs k).length = a.len
  | .nil, _ => rfl
  | .cons _ r, k => by simp only [Bds.pvs, Bds.len, List.length_cons, Bds.pvs_len r]
def Nodes (g : Gx) (n k : Nat) : Prop := ∀ (t : Tr), t.ok n → ∀ (σ : List Cell) (Q : PV → List Cell → Prop), Q t.node σ → VC g.g k (fun vs => call (.ref 356) vs) [t.pv] σ Q
theorem VC.lambda {g : Gx} {n k : Nat} (N : Nodes g n k) (hk : 2 ≤ k) {c : Cl} (o : c.ok n) {σ : List Cell} {Q : PV → List Cell → Prop} (h : Q c.node σ) : VC g.g (k + 1) (fun vs => call (.ref 351) vs) [c.pv] σ Q := by
  cases c with
  | mk fr ps b u =>
    simp only [Cl.ok] at o
    simp only [Cl.node] at h
    simp only [Cl.pv]
    refine VC.fn (fn_lambda g.w.params) rfl ?_
    walk_at "pv begin"
    walk_at "pvs"
    refine N b o.2.2 _ _ ?_
    walk_at "pvs"
    exact VC.le (d' := 0 + 2) (VC.mk_Lambda h) (by omega)
theorem Tr.pv_isNone (t : Tr) : t.pv.isNone = false := by cases t <;> rfl
theorem nodes_of (g : Gx) : ∀ n : Nat, n ≤ 10 → Nodes g n (4 + 2 * n)
  | n, hn => fun t o σ Q h => by
    have N : ∀ m, n = m + 1 → Nodes g m (4 + 2 * m) := fun m e => by subst e; exact nodes_of g m (by omega)
    rw [show 4 + 2 * n = (3 + 2 * n) + 1 from by omega]
    refine VC.fn (d := 3 + 2 * n) (fn_node g.w.params) rfl ?_
    cases t with
    | atom a =>
      simp only [Tr.pv, Tr.node] at h ⊢
      walk_at "pv begin"
      walk_at "pvs"
      walk_at "pv yes"
      walk_at "pvs"
      exact VC.le (d' := 0 + 2) (VC.mk_SAtom h) (by omega)
    | app f as =>
      simp only [Tr.pv, Tr.node] at h ⊢
      walk_at "pv begin"
      walk_at "pvs"
      walk_at "pv no"
      walk_at "pvs"
      walk_at "pv yes"
      walk_at "pvs"
      exact VC.le (d' := 0 + 2) (VC.mk_SApp h) (by omega)
    | con f as =>
      simp only [Tr.pv, Tr.node] at h ⊢
      walk_at "pv begin"
      walk_at "pvs"
      walk_at "pv no"
      walk_at "pvs"
      walk_at "pv no"
      walk_at "pvs"
      walk_at "pv yes"
      walk_at "pvs"
      exact VC.le (d' := 0 + 2) (VC.mk_SCon h) (by omega)
    | prim f as =>
      simp only [Tr.pv, Tr.node] at h ⊢
      walk_at "pv begin"
      walk_at "pvs"
      walk_at "pv no"
      walk_at "pvs"
      walk_at "pv no"
      walk_at "pvs"
      walk_at "pv no"
      walk_at "pvs"
      walk_at "pv yes"
      walk_at "pvs"
      exact VC.le (d' := 0 + 2) (VC.mk_SPrim h) (by omega)
    | case e as op =>
      simp only [Tr.pv, Tr.node] at h ⊢
      simp only [Tr.ok] at o
      obtain ⟨m, rfl, o1, o2, o3, o4⟩ := o
      walk_at "pv begin"
      walk_at "pvs"
      walk_at "pv no"
      walk_at "pvs"
      walk_at "pv no"
      walk_at "pvs"
      walk_at "pv no"
      walk_at "pvs"
      walk_at "pv no"
      walk_at "pvs"
      walk_at "pv no"
      walk_at "pvs"
      refine EX.assign_comp ?_ rfl (.inl rfl)
      walk_at "pvs"
      refine ⟨_, .inl rfl, by rw [Als.pvs_len]; omega, ?_⟩
      refine CompL.als (n := m) (fun k fs b ob Q' h' => ?_) as [] o3 ?_
      · refine ⟨_, .tuple rfl (by decide +kernel) (.tup _) rfl, ?_⟩
        walk_at "pvs"
        refine VC.le (N m rfl b ob _ _ ?_) (by omega)
        walk_at "pvs"
        exact VC.le (d' := 0 + 2) (VC.mk_SAlt h') (by omega)
      walk_at "pvs"
      refine VC.le (N m rfl e o1 _ _ ?_) (by omega)
      walk_at "pvs"
      cases op with
      | no =>
        rw [show Op.no.pv.isNone = true from rfl, if_pos rfl]
        simp only [Op.pv, Op.node] at h ⊢
        walk_at "pvs"
        exact VC.le (d' := 0 + 2) (VC.mk_SCase h) (by omega)
      | yes t =>
        rw [show (Op.yes t).pv.isNone = false from Tr.pv_isNone t, if_neg Bool.false_ne_true]
        simp only [Op.pv, Op.node, Op.ok] at h o4 ⊢
        walk_at "pvs"
        refine VC.le (N m rfl t o4 _ _ ?_) (by omega)
        walk_at "pvs"
        exact VC.le (d' := 0 + 2) (VC.mk_SCase h) (by omega)
    | lets b t =>
      simp only [Tr.pv, Tr.node] at h ⊢
      simp only [Tr.ok] at o
      obtain ⟨m, rfl, o1, o2, o3⟩ := o
      walk_at "pv begin"
      walk_at "pvs"
      walk_at "pv no"
      walk_at "pvs"
      walk_at "pv no"
      walk_at "pvs"
      walk_at "pv no"
      walk_at "pvs"
      walk_at "pv no"
      walk_at "pvs"
      walk_at "pv yes"
      walk_at "pvs"
      refine EV.comp ?_ rfl
      walk_at "pvs"
      refine ⟨_, .inl rfl, by rw [Bds.pvs_len]; omega, ?_⟩
      refine CompL.bds (n := m) (fun k c oc Q' h' => ?_) b 0 [] o2 ?_
      · refine ⟨_, .tuple rfl (by decide +kernel) (.tup _) rfl, ?_⟩
        walk_at "pvs"
        refine VC.le (VC.lambda (N m rfl) (by omega) oc ?_) (by omega)
        walk_at "pvs"
        exact h'
      walk_at "pvs"
      refine VC.le (N m rfl t o3 _ _ ?_) (by omega)
      walk_at "pvs"
      exact VC.le (d' := 0 + 2) (VC.mk_SLet h) (by omega)
end

section
theorem ga_SAtom_atom {g : Gx} {v0 : PV} {Q : PV → Prop} (ht : v0.isTop = false) (h : Q v0) : ∃ C ns xs x, PV.inst 31 ["atom"] [v0] = .inst C ns xs ∧ plainGet g.g.K C "atom" = true ∧ hasDictIn g.g.K C = true ∧ findIn g.g.K (.ref C) "atom" = some Option.none ∧ (ns.zip xs).lookup ("atom" : Str) = some x ∧ x.isTop = false ∧ Q x := ⟨_, _, _, _, rfl, pg_SAtom_atom _, hd_SAtom _, fi_SAtom_atom _, rfl, ht, h⟩
theorem ga_SApp_name {g : Gx} {v0 v1 : PV} {Q : PV → Prop} (ht : v0.isTop = false) (h : Q v0) : ∃ C ns xs x, PV.inst 52 ["name", "atoms"] [v0, v1] = .inst C ns xs ∧ plainGet g.g.K C "name" = true ∧ hasDictIn g.g.K C = true ∧ findIn g.g.K (.ref C) "name" = some Option.none ∧ (ns.zip xs).lookup ("name" : Str) = some x ∧ x.isTop = false ∧ Q x := ⟨_, _, _, _, rfl, pg_SApp_name _, hd_SApp _, fi_SApp_name _, rfl, ht, h⟩
theorem ga_SApp_atoms {g : Gx} {v0 v1 : PV} {Q : PV → Prop} (ht : v1.isTop = false) (h : Q v1) : ∃ C ns xs x, PV.inst 52 ["name", "atoms"] [v0, v1] = .inst C ns xs ∧ plainGet g.g.K C "atoms" = true ∧ hasDictIn g.g.K C = true ∧ findIn g.g.K (.ref C) "atoms" = some Option.none ∧ (ns.zip xs).lookup ("atoms" : Str) = some x ∧ x.isTop = false ∧ Q x := ⟨_, _, _, _, rfl, pg_SApp_atoms _, hd_SApp _, fi_SApp_atoms _, rfl, ht, h⟩
theorem ga_SCon_con {g : Gx} {v0 v1 : PV} {Q : PV → Prop} (ht : v0.isTop = false) (h : Q v0) : ∃ C ns xs x, PV.inst 73 ["con", "atoms"] [v0, v1] = .inst C ns xs ∧ plainGet g.g.K C "con" = true ∧ hasDictIn g.g.K C = true ∧ findIn g.g.K (.ref C) "con" = some Option.none ∧ (ns.zip xs).lookup ("con" : Str) = some x ∧ x.isTop = false ∧ Q x := ⟨_, _, _, _, rfl, pg_SCon_con _, hd_SCon _, fi_SCon_con _, rfl, ht, h⟩
theorem ga_SCon_atoms {g : Gx} {v0 v1 : PV} {Q : PV → Prop} (ht : v1.isTop = false) (h : Q v1) : ∃ C ns xs x, PV.inst 73 ["con", "atoms"] [v0, v1] = .inst C ns xs ∧ plainGet g.g.K C "atoms" = true ∧ hasDictIn g.g.K C = true ∧ findIn g.g.K (.ref C) "atoms" = some Option.none ∧ (ns.zip xs).lookup ("atoms" : Str) = some x ∧ x.isTop = false ∧ Q x := ⟨_, _, _, _, rfl, pg_SCon_atoms _, hd_SCon _, fi_SCon_atoms _, rfl, ht, h⟩
theorem ga_SPrim_op {g : Gx} {v0 v1 : PV} {Q : PV → Prop} (ht : v0.isTop = false) (h : Q v0) : ∃ C ns xs x, PV.inst 94 ["op", "atoms"] [v0, v1] = .inst C ns xs ∧ plainGet g.g.K C "op" = true ∧ hasDictIn g.g.K C = true ∧ findIn g.g.K (.ref C) "op" = some Option.none ∧ (ns.zip xs).lookup ("op" : Str) = some x ∧ x.isTop = false ∧ Q x := ⟨_, _, _, _, rfl, pg_SPrim_op _, hd_SPrim _, fi_SPrim_op _, rfl, ht, h⟩
theorem ga_SPrim_atoms {g : Gx} {v0 v1 : PV} {Q : PV → Prop} (ht : v1.isTop = false) (h : Q v1) : ∃ C ns xs x, PV.inst 94 ["op", "atoms"] [v0, v1] = .inst C ns xs ∧ plainGet g.g.K C "atoms" = true ∧ hasDictIn g.g.K C = true ∧ findIn g.g.K (.ref C) "atoms" = some Option.none ∧ (ns.zip xs).lookup ("atoms" : Str) = some x ∧ x.isTop = false ∧ Q x := ⟨_, _, _, _, rfl, pg_SPrim_atoms _, hd_SPrim _, fi_SPrim_atoms _, rfl, ht, h⟩
theorem ga_SCase_expr {g : Gx} {v0 v1 v2 v3 : PV} {Q : PV → Prop} (ht : v0.isTop = false) (h : Q v0) : ∃ C ns xs x, PV.inst 115 ["expr", "name", "alts", "other"] [v0, v1, v2, v3] = .inst C ns xs ∧ plainGet g.g.K C "expr" = true ∧ hasDictIn g.g.K C = true ∧ findIn g.g.K (.ref C) "expr" = some Option.none ∧ (ns.zip xs).lookup ("expr" : Str) = some x ∧ x.isTop = false ∧ Q x := ⟨_, _, _, _, rfl, pg_SCase_expr _, hd_SCase _, fi_SCase_expr _, rfl, ht, h⟩
theorem ga_SCase_name {g : Gx} {v0 v1 v2 v3 : PV} {Q : PV → Prop} (ht : v1.isTop = false) (h : Q v1) : ∃ C ns xs x, PV.inst 115 ["expr", "name", "alts", "other"] [v0, v1, v2, v3] = .inst C ns xs ∧ plainGet g.g.K C "name" = true ∧ hasDictIn g.g.K C = true ∧ findIn g.g.K (.ref C) "name" = some Option.none ∧ (ns.zip xs).lookup ("name" : Str) = some x ∧ x.isTop = false ∧ Q x := ⟨_, _, _, _, rfl, pg_SCase_name _, hd_SCase _, fi_SCase_name _, rfl, ht, h⟩
theorem ga_SCase_alts {g : Gx} {v0 v1 v2 v3 : PV} {Q : PV → Prop} (ht : v2.isTop = false) (h : Q v2) : ∃ C ns xs x, PV.inst 115 ["expr", "name", "alts", "other"] [v0, v1, v2, v3] = .inst C ns xs ∧ plainGet g.g.K C "alts" = true ∧ hasDictIn g.g.K C = true ∧ findIn g.g.K (.ref C) "alts" = some Option.none ∧ (ns.zip xs).lookup ("alts" : Str) = some x ∧ x.isTop = false ∧ Q x := ⟨_, _, _, _, rfl, pg_SCase_alts _, hd_SCase _, fi_SCase_alts _, rfl, ht, h⟩
theorem ga_SCase_other {g : Gx} {v0 v1 v2 v3 : PV} {Q : PV → Prop} (ht : v3.isTop = false) (h : Q v3) : ∃ C ns xs x, PV.inst 115 ["expr", "name", "alts", "other"] [v0, v1, v2, v3] = .inst C ns xs ∧ plainGet g.g.K C "other" = true ∧ hasDictIn g.g.K C = true ∧ findIn g.g.K (.ref C) "other" = some Option.none ∧ (ns.zip xs).lookup ("other" : Str) = some x ∧ x.isTop = false ∧ Q x := ⟨_, _, _, _, rfl, pg_SCase_other _, hd_SCase _, fi_SCase_other _, rfl, ht, h⟩
theorem ga_SAlt_key {g : Gx} {v0 v1 v2 : PV} {Q : PV → Prop} (ht : v0.isTop = false) (h : Q v0) : ∃ C ns xs x, PV.inst 136 ["key", "names", "body"] [v0, v1, v2] = .inst C ns xs ∧ plainGet g.g.K C "key" = true ∧ hasDictIn g.g.K C = true ∧ findIn g.g.K (.ref C) "key" = some Option.none ∧ (ns.zip xs).lookup ("key" : Str) = some x ∧ x.isTop = false ∧ Q x := ⟨_, _, _, _, rfl, pg_SAlt_key _, hd_SAlt _, fi_SAlt_key _, rfl, ht, h⟩
theorem ga_SAlt_names {g : Gx} {v0 v1 v2 : PV} {Q : PV → Prop} (ht : v1.isTop = false) (h : Q v1) : ∃ C ns xs x, PV.inst 136 ["key", "names", "body"] [v0, v1, v2] = .inst C ns xs ∧ plainGet g.g.K C "names" = true ∧ hasDictIn g.g.K C = true ∧ findIn g.g.K (.ref C) "names" = some Option.none ∧ (ns.zip xs).lookup ("names" : Str) = some x ∧ x.isTop = false ∧ Q x := ⟨_, _, _, _, rfl, pg_SAlt_names _, hd_SAlt _, fi_SAlt_names _, rfl, ht, h⟩
theorem ga_SAlt_body {g : Gx} {v0 v1 v2 : PV} {Q : PV → Prop} (ht : v2.isTop = false) (h : Q v2) : ∃ C ns xs x, PV.inst 136 ["key", "names", "body"] [v0, v1, v2] = .inst C ns xs ∧ plainGet g.g.K C "body" = true ∧ hasDictIn g.g.K C = true ∧ findIn g.g.K (.ref C) "body" = some Option.none ∧ (ns.zip xs).lookup ("body" : Str) = some x ∧ x.isTop = false ∧ Q x := ⟨_, _, _, _, rfl, pg_SAlt_body _, hd_SAlt _, fi_SAlt_body _, rfl, ht, h⟩
theorem ga_SLet_binds {g : Gx} {v0 v1 : PV} {Q : PV → Prop} (ht : v0.isTop = false) (h : Q v0) : ∃ C ns xs x, PV.inst 157 ["binds", "body"] [v0, v1] = .inst C ns xs ∧ plainGet g.g.K C "binds" = true ∧ hasDictIn g.g.K C = true ∧ findIn g.g.K (.ref C) "binds" = some Option.none ∧ (ns.zip xs).lookup ("binds" : Str) = some x ∧ x.isTop = false ∧ Q x := ⟨_, _, _, _, rfl, pg_SLet_binds _, hd_SLet _, fi_SLet_binds _, rfl, ht, h⟩
theorem ga_SLet_body {g : Gx} {v0 v1 : PV} {Q : PV → Prop} (ht : v1.isTop = false) (h : Q v1) : ∃ C ns xs x, PV.inst 157 ["binds", "body"] [v0, v1] = .inst C ns xs ∧ plainGet g.g.K C "body" = true ∧ hasDictIn g.g.K C = true ∧ findIn g.g.K (.ref C) "body" = some Option.none ∧ (ns.zip xs).lookup ("body" : Str) = some x ∧ x.isTop = false ∧ Q x := ⟨_, _, _, _, rfl, pg_SLet_body _, hd_SLet _, fi_SLet_body _, rfl, ht, h⟩
theorem ga_Lambda_free {g : Gx} {v0 v1 v2 v3 : PV} {Q : PV → Prop} (ht : v0.isTop = false) (h : Q v0) : ∃ C ns xs x, PV.inst 178 ["free", "params", "body", "is_updated"] [v0, v1, v2, v3] = .inst C ns xs ∧ plainGet g.g.K C "free" = true ∧ hasDictIn g.g.K C = true ∧ findIn g.g.K (.ref C) "free" = some Option.none ∧ (ns.zip xs).lookup ("free" : Str) = some x ∧ x.isTop = false ∧ Q x := ⟨_, _, _, _, rfl, pg_Lambda_free _, hd_Lambda _, fi_Lambda_free _, rfl, ht, h⟩
theorem ga_Lambda_params {g : Gx} {v0 v1 v2 v3 : PV} {Q : PV → Prop} (ht : v1.isTop = false) (h : Q v1) : ∃ C ns xs x, PV.inst 178 ["free", "params", "body", "is_updated"] [v0, v1, v2, v3] = .inst C ns xs ∧ plainGet g.g.K C "params" = true ∧ hasDictIn g.g.K C = true ∧ findIn g.g.K (.ref C) "params" = some Option.none ∧ (ns.zip xs).lookup ("params" : Str) = some x ∧ x.isTop = false ∧ Q x := ⟨_, _, _, _, rfl, pg_Lambda_params _, hd_Lambda _, fi_Lambda_params _, rfl, ht, h⟩
theorem ga_Lambda_body {g : Gx} {v0 v1 v2 v3 : PV} {Q : PV → Prop} (ht : v2.isTop = false) (h : Q v2) : ∃ C ns xs x, PV.inst 178 ["free", "params", "body", "is_updated"] [v0, v1, v2, v3] = .inst C ns xs ∧ plainGet g.g.K C "body" = true ∧ hasDictIn g.g.K C = true ∧ findIn g.g.K (.ref C) "body" = some Option.none ∧ (ns.zip xs).lookup ("body" : Str) = some x ∧ x.isTop = false ∧ Q x := ⟨_, _, _, _, rfl, pg_Lambda_body _, hd_Lambda _, fi_Lambda_body _, rfl, ht, h⟩
theorem ga_Lambda_is_updated {g : Gx} {v0 v1 v2 v3 : PV} {Q : PV → Prop} (ht : v3.isTop = false) (h : Q v3) : ∃ C ns xs x, PV.inst 178 ["free", "params", "body", "is_updated"] [v0, v1, v2, v3] = .inst C ns xs ∧ plainGet g.g.K C "is_updated" = true ∧ hasDictIn g.g.K C = true ∧ findIn g.g.K (.ref C) "is_updated" = some Option.none ∧ (ns.zip xs).lookup ("is_updated" : Str) = some x ∧ x.isTop = false ∧ Q x := ⟨_, _, _, _, rfl, pg_Lambda_is_updated _, hd_Lambda _, fi_Lambda_is_updated _, rfl, ht, h⟩
theorem ga_StgProgram_binds {g : Gx} {v0 v1 v2 : PV} {Q : PV → Prop} (ht : v0.isTop = false) (h : Q v0) : ∃ C ns xs x, PV.inst 199 ["binds", "cons", "main"] [v0, v1, v2] = .inst C ns xs ∧ plainGet g.g.K C "binds" = true ∧ hasDictIn g.g.K C = true ∧ findIn g.g.K (.ref C) "binds" = some Option.none ∧ (ns.zip xs).lookup ("binds" : Str) = some x ∧ x.isTop = false ∧ Q x := ⟨_, _, _, _, rfl, pg_StgProgram_binds _, hd_StgProgram _, fi_StgProgram_binds _, rfl, ht, h⟩
theorem ga_StgProgram_cons {g : Gx} {v0 v1 v2 : PV} {Q : PV → Prop} (ht : v1.isTop = false) (h : Q v1) : ∃ C ns xs x, PV.inst 199 ["binds", "cons", "main"] [v0, v1, v2] = .inst C ns xs ∧ plainGet g.g.K C "cons" = true ∧ hasDictIn g.g.K C = true ∧ findIn g.g.K (.ref C) "cons" = some Option.none ∧ (ns.zip xs).lookup ("cons" : Str) = some x ∧ x.isTop = false ∧ Q x := ⟨_, _, _, _, rfl, pg_StgProgram_cons _, hd_StgProgram _, fi_StgProgram_cons _, rfl, ht, h⟩
theorem ga_StgProgram_main {g : Gx} {v0 v1 v2 : PV} {Q : PV → Prop} (ht : v2.isTop = false) (h : Q v2) : ∃ C ns xs x, PV.inst 199 ["binds", "cons", "main"] [v0, v1, v2] = .inst C ns xs ∧ plainGet g.g.K C "main" = true ∧ hasDictIn g.g.K C = true ∧ findIn g.g.K (.ref C) "main" = some Option.none ∧ (ns.zip xs).lookup ("main" : Str) = some x ∧ x.isTop = false ∧ Q x := ⟨_, _, _, _, rfl, pg_StgProgram_main _, hd_StgProgram _, fi_StgProgram_main _, rfl, ht, h⟩
theorem ga_Lines_rows {g : Gx} {v0 : PV} {Q : PV → Prop} (ht : v0.isTop = false) (h : Q v0) : ∃ C ns xs x, PV.inst 267 ["rows"] [v0] = .inst C ns xs ∧ plainGet g.g.K C "rows" = true ∧ hasDictIn g.g.K C = true ∧ findIn g.g.K (.ref C) "rows" = some Option.none ∧ (ns.zip xs).lookup ("rows" : Str) = some x ∧ x.isTop = false ∧ Q x := ⟨_, _, _, _, rfl, pg_Lines_rows _, hd_Lines _, fi_Lines_rows _, rfl, ht, h⟩
theorem At.pv_top (a : At) : a.pv.isTop = false := by cases a <;> rfl
theorem Ky.pv_top (a : Ky) : a.pv.isTop = false := by cases a <;> rfl
theorem Tr.node_top (a : Tr) : a.node.isTop = false := by cases a <;> rfl
theorem Op.node_top (a : Op) : a.node.isTop = false := by
  cases a with
  | no => rfl
  | yes t => exact Tr.node_top t
def ordOf (x : Str) : Nat := x.cps.getD 0 0
def litS (n : Int) : Str := Str.ofString (toString n)
def chS (x : Str) : Str := Str.ofString "#" ++ litS (ordOf x : Int)
def At.txt : At → Str
  | .nm x => x
  | .li n => litS n
  | .ch x => chS x
theorem ch_one : ∀ x ∈ chs, x = ⟨#[ordOf x]⟩ ∧ ordOf x < 1000000 := by decide +kernel
theorem kch_one : ∀ x ∈ kchs, x = ⟨#[ordOf x]⟩ ∧ ordOf x < 1000000 := by decide +kernel
theorem nm_len : ∀ x ∈ nms, x.length ≤ 10 := by decide +kernel
theorem lit_all : ∀ i : Fin 41, (litS ((i : Nat) - 20)).length ≤ 3 := by decide +kernel
theorem lit_len {n : Int} (h : -20 ≤ n) (h' : n ≤ 20) : (litS n).length ≤ 3 := by
  have := lit_all ⟨(n + 20).toNat, by omega⟩
  have e : (((n + 20).toNat : Nat) : Int) - 20 = n := by omega
  simp only [e] at this
  exact this
theorem ch_len : ∀ x ∈ chs, (chS x).length ≤ 10 := by decide +kernel
theorem kch_len : ∀ x ∈ kchs, (chS x).length ≤ 10 := by decide +kernel
theorem At.len {a : At} (h : a.ok) : a.txt.length ≤ 10 := by
  cases a with
  | nm x => exact nm_len x h
  | li n => exact Nat.le_trans (lit_len h.1 h.2) (by decide)
  | ch x => exact ch_len x h
section
variable {g : Gx} {d : Nat} {σ : List Cell} {Q : PV → List Cell → Prop}
theorem VC.lit_int {n : Int} (hn : n.natAbs < 1000000) (h : Q (.str (litS n)) σ) : VC g.g 1 (fun vs => call (.ref 210) vs) [.str "int", .int n] σ Q := by
  refine VC.fn (fn_literal_text g.w.params) rfl ?_
  walk_at "pv begin"
  walk_at "pvs"
  walk_at "pv yes"
  walk_at "pvs"
  exact VC.str_int (by omega) h
theorem VC.lit_ch {x : Str} (hx : x = ⟨#[ordOf x]⟩ ∧ ordOf x < 1000000) (hl : (chS x).length ≤ 10) (h : Q (.str (chS x)) σ) : VC g.g 1 (fun vs => call (.ref 210) vs) [.str "char", .str x] σ Q := by
  refine VC.fn (fn_literal_text g.w.params) rfl ?_
  walk_at "pv begin"
  walk_at "pvs"
  walk_at "pv no"
  walk_at "pvs"
  rw [hx.1]
  refine VC.ord ?_
  walk_at "pvs"
  refine VC.str_int (by rw [Int.natAbs_natCast]; omega) ?_
  walk_at "pvs"
  have e : (Str.ofString "#" ++ Str.ofString (toString ((ordOf x : Nat) : Int))).length ≤ 10 := hl
  rw [PySem.Str.length_append] at e
  exact VC.adds (by omega) h
theorem VC.atom_text {a : At} (ha : a.ok) (h : Q (.str a.txt) σ) : VC g.g 2 (fun vs => call (.ref 217) vs) [a.pv] σ Q := by
  refine VC.fn (fn_atom_text g.w.params) rfl ?_
  cases a with
  | nm x =>
    simp only [At.pv, At.txt] at h ⊢
    walk_at "pv begin"
    walk_at "pvs"
    walk_at "pv yes"
    walk_at "pvs"
    exact h
  | li n =>
    simp only [At.pv, At.txt] at h ⊢
    walk_at "pv begin"
    walk_at "pvs"
    walk_at "pv no"
    walk_at "pvs"
    exact VC.lit_int (by have := ha.1; have := ha.2; omega) h
  | ch x =>
    simp only [At.pv, At.txt] at h ⊢
    walk_at "pv begin"
    walk_at "pvs"
    walk_at "pv no"
    walk_at "pvs"
    exact VC.lit_ch (ch_one x ha) (ch_len x ha) h
end
def rowText (f : Str) (as : List At) : Str := Txt.join " " (f :: as.map At.txt)
section
variable {G : Gc} {d : Nat} {csc : Scope} {σ : List Cell} {Q : PV → List Cell → Prop} {elt t : Expr} {ρ : List (Str × PV)}
theorem CompL.mapL {α : Type} {f r : α → PV} {P : α → Prop} (step : ∀ a, P a → ∀ Q' : PV → List Cell → Prop, Q' (r a) σ → ∃ ρ1, BindT csc σ ρ t (f a) ρ1 ∧ EV G d csc elt ρ1 σ Q') :
    ∀ (l : List α) (acc : List PV), (∀ a ∈ l, P a) → Q (.list (acc ++ l.map r)) σ → CompL G d csc t elt ρ Q (l.map f) acc σ
  | [], acc, _, h => by rw [List.map_nil, List.append_nil] at h; exact h
  | a :: l, acc, o, h => by
    obtain ⟨ρ1, h1, h2⟩ := step a (o a (.head _)) (fun v σ' => CompL G d csc t elt ρ Q (l.map f) (acc ++ [v]) σ') (CompL.mapL step l _ (fun b m => o b (.tail _ m)) (by rw [List.append_assoc]; exact h))
    exact ⟨ρ1, h1, h2⟩
end
theorem joinOk_of {sep : Str} {texts : List Str} {B : Nat} (hB : ∀ y ∈ texts, y.length ≤ B) (h : texts.length * B + texts.length * sep.length ≤ 16777216) : JoinOk sep texts = true := by
  unfold JoinOk; rw [StrLaws.joinFits hB h]; rfl
section
variable {g : Gx} {d : Nat} {σ : List Cell} {Q : PV → List Cell → Prop}
theorem VC.row_text {f : Str} {as : List At} (hf : f.length ≤ 20) (ha : ∀ a ∈ as, a.ok) (hl : as.length ≤ 3) (h : Q (.str (rowText f as)) σ) : VC g.g 3 (fun vs => call (.ref 222) vs) [.str f, .list (as.map At.pv)] σ Q := by
  refine VC.fn (fn_row_text g.w.params) rfl ?_
  walk_at "pv begin"
  walk_at "pvs"
  refine EV.meth ?_
  walk_at "pvs"
  refine ⟨_, .join, .builtin _, ?_⟩
  walk_at "pvs"
  refine EV.comp ?_ rfl
  walk_at "pvs"
  refine ⟨_, .inl rfl, by simp; omega, ?_⟩
  refine CompL.mapL (r := fun a => .str a.txt) (P := At.ok) (fun a ao Q' h' => ?_) as [] ha ?_
  · refine ⟨_, .name rfl, ?_⟩
    walk_at "pvs"
    exact VC.le (VC.atom_text ao h') (by omega)
  refine VC.add_list (by simp; omega) ?_
  walk_at "pvs"
  have e : ([PV.str f] ++ ([] ++ as.map fun a => PV.str a.txt)) = (f :: as.map At.txt).map PV.str := by simp
  rw [e]
  refine VC.join (joinOk_of (B := 20) (fun y m => ?_) (by rw [show (Str.ofString " ").length = 1 from by decide +kernel]; simp; omega)) h
  rcases List.mem_cons.mp m with rfl | m
  · exact hf
  · obtain ⟨a, ma, rfl⟩ := List.mem_map.mp m
    exact Nat.le_trans (At.len (ha a ma)) (by decide)
end
end

local macro_rules | `(tactic| walk_at "pv attr") => `(tactic| (first
  | ((with_reducible refine ga_SAtom_atom ?_ ?_); (focus (first | rfl | exact Tr.node_top _ | exact Op.node_top _ | exact At.pv_top _ | exact Ky.pv_top _)))
  | ((with_reducible refine ga_SApp_name ?_ ?_); (focus (first | rfl | exact Tr.node_top _ | exact Op.node_top _ | exact At.pv_top _ | exact Ky.pv_top _)))
  | ((with_reducible refine ga_SApp_atoms ?_ ?_); (focus (first | rfl | exact Tr.node_top _ | exact Op.node_top _ | exact At.pv_top _ | exact Ky.pv_top _)))
  | ((with_reducible refine ga_SCon_con ?_ ?_); (focus (first | rfl | exact Tr.node_top _ | exact Op.node_top _ | exact At.pv_top _ | exact Ky.pv_top _)))
  | ((with_reducible refine ga_SCon_atoms ?_ ?_); (focus (first | rfl | exact Tr.node_top _ | exact Op.node_top _ | exact At.pv_top _ | exact Ky.pv_top _)))
  | ((with_reducible refine ga_SPrim_op ?_ ?_); (focus (first | rfl | exact Tr.node_top _ | exact Op.node_top _ | exact At.pv_top _ | exact Ky.pv_top _)))
  | ((with_reducible refine ga_SPrim_atoms ?_ ?_); (focus (first | rfl | exact Tr.node_top _ | exact Op.node_top _ | exact At.pv_top _ | exact Ky.pv_top _)))
  | ((with_reducible refine ga_SCase_expr ?_ ?_); (focus (first | rfl | exact Tr.node_top _ | exact Op.node_top _ | exact At.pv_top _ | exact Ky.pv_top _)))
  | ((with_reducible refine ga_SCase_name ?_ ?_); (focus (first | rfl | exact Tr.node_top _ | exact Op.node_top _ | exact At.pv_top _ | exact Ky.pv_top _)))
  | ((with_reducible refine ga_SCase_alts ?_ ?_); (focus (first | rfl | exact Tr.node_top _ | exact Op.node_top _ | exact At.pv_top _ | exact Ky.pv_top _)))
  | ((with_reducible refine ga_SCase_other ?_ ?_); (focus (first | rfl | exact Tr.node_top _ | exact Op.node_top _ | exact At.pv_top _ | exact Ky.pv_top _)))
  | ((with_reducible refine ga_SAlt_key ?_ ?_); (focus (first | rfl | exact Tr.node_top _ | exact Op.node_top _ | exact At.pv_top _ | exact Ky.pv_top _)))
  | ((with_reducible refine ga_SAlt_names ?_ ?_); (focus (first | rfl | exact Tr.node_top _ | exact Op.node_top _ | exact At.pv_top _ | exact Ky.pv_top _)))
  | ((with_reducible refine ga_SAlt_body ?_ ?_); (focus (first | rfl | exact Tr.node_top _ | exact Op.node_top _ | exact At.pv_top _ | exact Ky.pv_top _)))
  | ((with_reducible refine ga_SLet_binds ?_ ?_); (focus (first | rfl | exact Tr.node_top _ | exact Op.node_top _ | exact At.pv_top _ | exact Ky.pv_top _)))
  | ((with_reducible refine ga_SLet_body ?_ ?_); (focus (first | rfl | exact Tr.node_top _ | exact Op.node_top _ | exact At.pv_top _ | exact Ky.pv_top _)))
  | ((with_reducible refine ga_Lambda_free ?_ ?_); (focus (first | rfl | exact Tr.node_top _ | exact Op.node_top _ | exact At.pv_top _ | exact Ky.pv_top _)))
  | ((with_reducible refine ga_Lambda_params ?_ ?_); (focus (first | rfl | exact Tr.node_top _ | exact Op.node_top _ | exact At.pv_top _ | exact Ky.pv_top _)))
  | ((with_reducible refine ga_Lambda_body ?_ ?_); (focus (first | rfl | exact Tr.node_top _ | exact Op.node_top _ | exact At.pv_top _ | exact Ky.pv_top _)))
  | ((with_reducible refine ga_Lambda_is_updated ?_ ?_); (focus (first | rfl | exact Tr.node_top _ | exact Op.node_top _ | exact At.pv_top _ | exact Ky.pv_top _)))
  | ((with_reducible refine ga_StgProgram_binds ?_ ?_); (focus (first | rfl | exact Tr.node_top _ | exact Op.node_top _ | exact At.pv_top _ | exact Ky.pv_top _)))
  | ((with_reducible refine ga_StgProgram_cons ?_ ?_); (focus (first | rfl | exact Tr.node_top _ | exact Op.node_top _ | exact At.pv_top _ | exact Ky.pv_top _)))
  | ((with_reducible refine ga_StgProgram_main ?_ ?_); (focus (first | rfl | exact Tr.node_top _ | exact Op.node_top _ | exact At.pv_top _ | exact Ky.pv_top _)))
  | ((with_reducible refine ga_Lines_rows ?_ ?_); (focus (first | rfl | exact Tr.node_top _ | exact Op.node_top _ | exact At.pv_top _ | exact Ky.pv_top _)))
  ))
local macro_rules | `(tactic| walk_at "pv isi") => `(tactic| (first
  | ((with_reducible show VC _ _ _ [.inst 31 _ _, .top (.ref 31)] _ _); refine VC.isi_yes (is_SAtom _) ?_)
  | ((with_reducible show VC _ _ _ [.inst 31 _ _, .top (.ref 52)] _ _); refine VC.isi_no (isi_SAtom _) (no_SAtom_SApp _) ?_)
  | ((with_reducible show VC _ _ _ [.inst 31 _ _, .top (.ref 73)] _ _); refine VC.isi_no (isi_SAtom _) (no_SAtom_SCon _) ?_)
  | ((with_reducible show VC _ _ _ [.inst 31 _ _, .top (.ref 115)] _ _); refine VC.isi_no (isi_SAtom _) (no_SAtom_SCase _) ?_)
  | ((with_reducible show VC _ _ _ [.inst 31 _ _, .top (.ref 157)] _ _); refine VC.isi_no (isi_SAtom _) (no_SAtom_SLet _) ?_)
  | ((with_reducible show VC _ _ _ [.inst 52 _ _, .top (.ref 31)] _ _); refine VC.isi_no (isi_SApp _) (no_SApp_SAtom _) ?_)
  | ((with_reducible show VC _ _ _ [.inst 52 _ _, .top (.ref 52)] _ _); refine VC.isi_yes (is_SApp _) ?_)
  | ((with_reducible show VC _ _ _ [.inst 52 _ _, .top (.ref 73)] _ _); refine VC.isi_no (isi_SApp _) (no_SApp_SCon _) ?_)
  | ((with_reducible show VC _ _ _ [.inst 52 _ _, .top (.ref 115)] _ _); refine VC.isi_no (isi_SApp _) (no_SApp_SCase _) ?_)
  | ((with_reducible show VC _ _ _ [.inst 52 _ _, .top (.ref 157)] _ _); refine VC.isi_no (isi_SApp _) (no_SApp_SLet _) ?_)
  | ((with_reducible show VC _ _ _ [.inst 73 _ _, .top (.ref 31)] _ _); refine VC.isi_no (isi_SCon _) (no_SCon_SAtom _) ?_)
  | ((with_reducible show VC _ _ _ [.inst 73 _ _, .top (.ref 52)] _ _); refine VC.isi_no (isi_SCon _) (no_SCon_SApp _) ?_)
  | ((with_reducible show VC _ _ _ [.inst 73 _ _, .top (.ref 73)] _ _); refine VC.isi_yes (is_SCon _) ?_)
  | ((with_reducible show VC _ _ _ [.inst 73 _ _, .top (.ref 115)] _ _); refine VC.isi_no (isi_SCon _) (no_SCon_SCase _) ?_)
  | ((with_reducible show VC _ _ _ [.inst 73 _ _, .top (.ref 157)] _ _); refine VC.isi_no (isi_SCon _) (no_SCon_SLet _) ?_)
  | ((with_reducible show VC _ _ _ [.inst 94 _ _, .top (.ref 31)] _ _); refine VC.isi_no (isi_SPrim _) (no_SPrim_SAtom _) ?_)
  | ((with_reducible show VC _ _ _ [.inst 94 _ _, .top (.ref 52)] _ _); refine VC.isi_no (isi_SPrim _) (no_SPrim_SApp _) ?_)
  | ((with_reducible show VC _ _ _ [.inst 94 _ _, .top (.ref 73)] _ _); refine VC.isi_no (isi_SPrim _) (no_SPrim_SCon _) ?_)
  | ((with_reducible show VC _ _ _ [.inst 94 _ _, .top (.ref 94)] _ _); refine VC.isi_yes (is_SPrim _) ?_)
  | ((with_reducible show VC _ _ _ [.inst 94 _ _, .top (.ref 115)] _ _); refine VC.isi_no (isi_SPrim _) (no_SPrim_SCase _) ?_)
  | ((with_reducible show VC _ _ _ [.inst 94 _ _, .top (.ref 157)] _ _); refine VC.isi_no (isi_SPrim _) (no_SPrim_SLet _) ?_)
  | ((with_reducible show VC _ _ _ [.inst 115 _ _, .top (.ref 31)] _ _); refine VC.isi_no (isi_SCase _) (no_SCase_SAtom _) ?_)
  | ((with_reducible show VC _ _ _ [.inst 115 _ _, .top (.ref 52)] _ _); refine VC.isi_no (isi_SCase _) (no_SCase_SApp _) ?_)
  | ((with_reducible show VC _ _ _ [.inst 115 _ _, .top (.ref 73)] _ _); refine VC.isi_no (isi_SCase _) (no_SCase_SCon _) ?_)
  | ((with_reducible show VC _ _ _ [.inst 115 _ _, .top (.ref 115)] _ _); refine VC.isi_yes (is_SCase _) ?_)
  | ((with_reducible show VC _ _ _ [.inst 115 _ _, .top (.ref 157)] _ _); refine VC.isi_no (isi_SCase _) (no_SCase_SLet _) ?_)
  | ((with_reducible show VC _ _ _ [.inst 157 _ _, .top (.ref 31)] _ _); refine VC.isi_no (isi_SLet _) (no_SLet_SAtom _) ?_)
  | ((with_reducible show VC _ _ _ [.inst 157 _ _, .top (.ref 52)] _ _); refine VC.isi_no (isi_SLet _) (no_SLet_SApp _) ?_)
  | ((with_reducible show VC _ _ _ [.inst 157 _ _, .top (.ref 73)] _ _); refine VC.isi_no (isi_SLet _) (no_SLet_SCon _) ?_)
  | ((with_reducible show VC _ _ _ [.inst 157 _ _, .top (.ref 115)] _ _); refine VC.isi_no (isi_SLet _) (no_SLet_SCase _) ?_)
  | ((with_reducible show VC _ _ _ [.inst 157 _ _, .top (.ref 157)] _ _); refine VC.isi_yes (is_SLet _) ?_)
  ))
local macro_rules | `(tactic| walk_at "pv meth") => `(tactic| (first
  | ((with_reducible show EV _ _ _ (.Call (.Attribute _ _ _) (_ :: _) [] _) _ _ _); refine EV.meth ?_)
  | ((with_reducible show EV _ _ _ (.Call (.Attribute _ _ _) [] [] _) _ _ _); refine EV.meth0 ?_)
  | ((with_reducible show ∃ fv, MethAt _ _ (.str _) "join" fv ∧ _ ∧ _); refine ⟨_, MethAt.join, .builtin _, ?_⟩)
  | ((with_reducible show ∃ fv, MethAt _ _ (.str _) "split" fv ∧ _ ∧ _); refine ⟨_, MethAt.split, .builtin _, ?_⟩)
  | ((with_reducible show ∃ fv, MethAt _ _ (.str _) "lstrip" fv ∧ _ ∧ _); refine ⟨_, MethAt.lstrip, .builtin _, ?_⟩)
  | ((with_reducible show ∃ fv, MethAt _ _ (.inst 267 _ _) "put" fv ∧ _ ∧ _); refine ⟨_, MethAt.inst (pm_put _).1 (pm_put _).2.1 (pm_put _).2.2 (by decide +kernel), .ref (ke_put _), ?_⟩)
  | ((with_reducible show ∃ fv, MethAt _ _ (.inst 267 _ _) "closure" fv ∧ _ ∧ _); refine ⟨_, MethAt.inst (pm_closure _).1 (pm_closure _).2.1 (pm_closure _).2.2 (by decide +kernel), .ref (ke_closure _), ?_⟩)
  | ((with_reducible show ∃ fv, MethAt _ _ (.inst 267 _ _) "expression" fv ∧ _ ∧ _); refine ⟨_, MethAt.inst (pm_expression _).1 (pm_expression _).2.1 (pm_expression _).2.2 (by decide +kernel), .ref (ke_expression _), ?_⟩)
  | ((with_reducible show ∃ fv, MethAt _ _ (.inst 267 _ _) "case" fv ∧ _ ∧ _); refine ⟨_, MethAt.inst (pm_case _).1 (pm_case _).2.1 (pm_case _).2.2 (by decide +kernel), .ref (ke_case _), ?_⟩)
  ))
local macro_rules | `(tactic| walk_at "pva") => `(tactic| repeat (first | walk_at "pv" | walk_at "pv attr" | walk_at "pv isi" | walk_at "pv meth"))

section
/-- a row, so far in -/
def ind (k : Nat) (t : Str) : Str := Txt.mul "  " (k : Int) ++ t
def Ky.txt : Ky → List Str → Str
  | .con c, fs => Txt.join " " (c :: fs)
  | .li n, _ => litS n
  | .ch x, _ => chS x
def clHead (name : Str) (fr ps : List Str) (u : Bool) : Str := name ++ " = {" ++ Txt.join " " fr ++ "} " ++ (if u then ("\\u" : Str) else "\\n") ++ " {" ++ Txt.join " " ps ++ "} ->"
mutual
def Tr.rows : Tr → Nat → List (Nat × Str)
  | .atom a, k => [(k, a.txt)]
  | .app f as, k => [(k, rowText f as)]
  | .con f as, k => [(k, rowText ("con " ++ f) as)]
  | .prim f as, k => [(k, rowText ("prim " ++ f) as)]
  | .case e as o, k => (k, "case " ++ "v.4" ++ " of") :: (e.rows (k + 1) ++ (as.rows k ++ o.rows k))
  | .lets b t, k => (k, "let") :: (b.rows 0 (k + 1) ++ ((k, ("in" : Str)) :: t.rows k))
def Als.rows : Als → Nat → List (Nat × Str)
  | .nil, _ => []
  | .cons ky fs b r, k => (k, "| " ++ ky.txt fs ++ " ->") :: (b.rows (k + 1) ++ r.rows k)
def Op.rows : Op → Nat → List (Nat × Str)
  | .no, _ => []
  | .yes t, k => (k, "| _ ->") :: t.rows (k + 1)
def Bds.rows : Bds → Nat → Nat → List (Nat × Str)
  | .nil, _, _ => []
  | .cons c r, j, k => c.rows (tname j) k ++ r.rows (j + 1) k
def Cl.rows : Cl → Str → Nat → List (Nat × Str)
  | .mk fr ps b u, name, k => (k, clHead name fr ps u) :: b.rows (k + 1)
end
def lnC (rs : List (Nat × Str)) : Cell := .lst (rs.map fun r => PV.str (ind r.1 r.2))
def lns (j : Nat) : PV := .inst 267 ["rows"] [.cell j]
theorem mulOk_ind {k : Nat} (h : k ≤ 200) : MulOk "  " (k : Int) := by
  have l2 : (Str.ofString "  ").length = 2 := by decide +kernel
  refine ⟨by simp; omega, fun h1 _ => ?_, fun _ _ => ?_⟩
  · rw [l2]
    have : (2 : Int) ≤ (2 ^ 63 - 1) / (k : Int) := by
      rw [Int.le_ediv_iff_mul_le (by omega)]
      omega
    omega
  · rw [l2]
    unfold Builtin.Str.tooLong
    rw [sizeLine_eq]
    simp
    omega
theorem mul_len {k : Nat} : (Txt.mul "  " (k : Int)).length ≤ 2 * k := by
  have l2 : (Str.ofString "  ").length = 2 := by decide +kernel
  unfold Txt.mul
  split
  · show 0 ≤ _; omega
  · split
    · rename_i h1 h2
      rw [l2]
      omega
    · show ((List.replicate (k : Int).toNat (Str.ofString "  ").cps).foldl (· ++ ·) #[]).size ≤ _
      have : ∀ (n : Nat) (acc : Array Nat), ((List.replicate n (Str.ofString "  ").cps).foldl (· ++ ·) acc).size = acc.size + 2 * n := by
        intro n
        induction n with
        | zero => intro acc; simp
        | succ n ih =>
          intro acc
          rw [List.replicate_succ, List.foldl_cons, ih, Array.size_append]
          have : (Str.ofString "  ").cps.size = 2 := l2
          rw [this]; omega
      rw [this]; simp
section
variable {g : Gx} {d : Nat} {σ : List Cell} {Q : PV → List Cell → Prop} {j : Nat} {rs : List (Nat × Str)}
theorem VC.put {k : Nat} {t : Str} (hj : j < σ.length) (hk : k ≤ 200) (ht : t.length ≤ 1000) (hr : rs.length ≤ 90000) (h : Q .none (σ.set j (lnC (rs ++ [(k, t)])))) : VC g.g 1 (fun vs => call (.ref 243) vs) [lns j, .int k, .str t] (σ.set j (lnC rs)) Q := by
  refine VC.fn (fn_put g.w.params) rfl ?_
  unfold lns
  walk_at "pv begin"
  walk_at "pvs"
  refine EV.meth ?_
  walk_at "pvs"
  walk_at "pv attr"
  have e : (σ.set j (lnC rs))[j]? = some (.lst (rs.map fun r => PV.str (ind r.1 r.2))) := at_i hj
  refine ⟨_, .append e, .builtin _, ?_⟩
  walk_at "pvs"
  refine VC.muls (mulOk_ind hk) ?_
  walk_at "pvs"
  refine VC.adds (by have := mul_len (k := k); omega) ?_
  walk_at "pvs"
  refine VC.append e (by simp; omega) ?_
  refine ⟨rfl, ?_⟩
  walk_at "pvs"
  rw [List.set_set]
  have e2 : lnC (rs ++ [(k, t)]) = .lst ((rs.map fun r => PV.str (ind r.1 r.2)) ++ [.str (Txt.mul "  " (k : Int) ++ t)]) := by
    unfold lnC; rw [List.map_append]; rfl
  rw [e2] at h
  exact h
end
theorem fs_len : ∀ fs ∈ fds, fs.length ≤ 2 ∧ ∀ x ∈ fs, x.length ≤ 10 := by decide +kernel
theorem cn_len : ∀ x ∈ cnss, x.length ≤ 10 := by decide +kernel
section
variable {g : Gx} {d : Nat} {σ : List Cell} {Q : PV → List Cell → Prop}
theorem VC.key_text {k : Ky} {fs : List Str} (o : k.ok fs) (h : Q (.str (k.txt fs)) σ) : VC g.g 2 (fun vs => call (.ref 278) vs) [k.pv, .list (fs.map PV.str)] σ Q := by
  refine VC.fn (fn_key_text g.w.params) rfl ?_
  cases k with
  | con c =>
    simp only [Ky.pv, Ky.txt] at h ⊢
    walk_at "pv begin"
    walk_at "pvs"
    walk_at "pv yes"
    walk_at "pvs"
    refine EV.meth ?_
    walk_at "pvs"
    refine ⟨_, .join, .builtin _, ?_⟩
    walk_at "pvs"
    have hf := fs_len fs o.2
    refine VC.list_of (by simp; omega) ?_
    refine VC.add_list (by simp; omega) ?_
    walk_at "pvs"
    have e : [PV.str c] ++ fs.map PV.str = (c :: fs).map PV.str := rfl
    rw [e]
    refine VC.join (joinOk_of (B := 20) (fun y m => ?_) (by rw [show (Str.ofString " ").length = 1 from by decide +kernel]; simp; omega)) h
    rcases List.mem_cons.mp m with rfl | m
    · exact Nat.le_trans (cn_len _ o.1) (by decide)
    · exact Nat.le_trans (hf.2 _ m) (by decide)
  | li n =>
    simp only [Ky.pv, Ky.txt] at h ⊢
    walk_at "pv begin"
    walk_at "pvs"
    walk_at "pv no"
    walk_at "pvs"
    exact VC.lit_int (by have := o.1; have := o.2.1; omega) h
  | ch x =>
    simp only [Ky.pv, Ky.txt] at h ⊢
    walk_at "pv begin"
    walk_at "pvs"
    walk_at "pv no"
    walk_at "pvs"
    exact VC.lit_ch (kch_one x o.1) (kch_len x o.1) h
end
end

section
theorem join_len {texts : List Str} {B : Nat} (hB : ∀ y ∈ texts, y.length ≤ B) : (Txt.join " " texts).length ≤ texts.length * (B + 1) := by
  show (Builtin.Str.glued " " texts).length ≤ _
  rw [StrLaws.glued_eq_join]
  refine Nat.le_trans (StrLaws.join_length_le " " texts) ?_
  have h1 := StrLaws.sumLen_le texts hB
  rw [show (Str.ofString " ").length = 1 from by decide +kernel, Nat.mul_add]
  omega
theorem rowText_len {f : Str} {as : List At} (hf : f.length ≤ 20) (ha : ∀ a ∈ as, a.ok) (hl : as.length ≤ 3) : (rowText f as).length ≤ 84 := by
  refine Nat.le_trans (join_len (B := 20) fun y m => ?_) (by simp; omega)
  rcases List.mem_cons.mp m with rfl | m
  · exact hf
  · obtain ⟨a, ma, rfl⟩ := List.mem_map.mp m
    exact Nat.le_trans (At.len (ha a ma)) (by decide)
theorem key_len {k : Ky} {fs : List Str} (o : k.ok fs) : (k.txt fs).length ≤ 63 := by
  cases k with
  | con c =>
    have hf := fs_len fs o.2
    refine Nat.le_trans (join_len (B := 20) fun y m => ?_) (by simp; omega)
    rcases List.mem_cons.mp m with rfl | m
    · exact Nat.le_trans (cn_len _ o.1) (by decide)
    · exact Nat.le_trans (hf.2 _ m) (by decide)
  | li n => exact Nat.le_trans (lit_len (by have := o.1; omega) (by have := o.2.1; omega)) (by decide)
  | ch x => exact Nat.le_trans (kch_len x o.1) (by decide)
theorem fr_len : ∀ fs ∈ frs, fs.length ≤ 2 ∧ ∀ x ∈ fs, x.length ≤ 10 := by decide +kernel
theorem ps_len : ∀ fs ∈ pss, fs.length ≤ 2 ∧ ∀ x ∈ fs, x.length ≤ 10 := by decide +kernel
theorem fn_len : ∀ x ∈ fnns, x.length ≤ 10 := by decide +kernel
theorem pr_len : ∀ x ∈ prms, x.length ≤ 10 := by decide +kernel
theorem lits_len : (Str.ofString "con ").length = 4 ∧ (Str.ofString "prim ").length = 5 ∧ (Str.ofString "| ").length = 2 ∧ (Str.ofString " ->").length = 3 ∧ (Str.ofString " = {").length = 4 ∧ (Str.ofString "} ").length = 2 ∧ (Str.ofString "\\u").length = 2 ∧ (Str.ofString "\\n").length = 2 ∧ (Str.ofString " {").length = 2 ∧ (Str.ofString "} ->").length = 4 ∧ (Str.ofString " ").length = 1 := by decide +kernel
section
variable {G : Gc} {d : Nat} {csc : Scope} {σ : List Cell} {Qn : List (Str × PV) → List Cell → Prop} {Qr : PV → List Cell → Prop} {body rest : List Stmt} {ρ : List (Str × PV)} {n j kk B : Nat}
def Sup (ρ' ρ : List (Str × PV)) : Prop := ∀ x pv, ρ.lookup x = some pv → ρ'.lookup x = some pv
theorem Sup.cons {ρ' ρ : List (Str × PV)} (s : Sup ρ' ρ) (p : Str × PV) : Sup (p :: ρ') (p :: ρ) := fun x pv e => by
  obtain ⟨y, v⟩ := p
  rw [lookup_cons] at e ⊢
  split at e
  · rename_i h; rw [if_pos h]; exact e
  · rename_i h; rw [if_neg h]; exact s x pv e
theorem Sup.off {ρ : List (Str × PV)} {y : Str} {v : PV} (h : ρ.lookup y = .none) : Sup ((y, v) :: ρ) ρ := fun x pv e => by
  rw [lookup_cons, if_neg]
  · exact e
  · rintro rfl; rw [h] at e; cases e
theorem LoopL.als {x : Str} {p : Pos} (hx : csc.names.lookup x = some .local) (hρ : ρ.lookup x = .none)
    (step : ∀ (k : Ky) (fs : List Str) (b : Tr) (rs : List (Nat × Str)), k.ok fs → b.ok n → rs.length + (b.rows (kk + 1)).length + 1 ≤ B → ∀ Qn' : List (Str × PV) → List Cell → Prop, Qn' ((x, altNode' k fs b.node) :: ρ) (σ.set j (lnC (rs ++ ((kk, "| " ++ k.txt fs ++ " ->") :: b.rows (kk + 1))))) →
      EX G d csc body ((x, altNode' k fs b.node) :: ρ) (σ.set j (lnC rs)) Qn' Qr) :
    ∀ (as : Als) (rs : List (Nat × Str)) (ρ' : List (Str × PV)), as.ok n → Sup ρ' ρ → rs.length + (as.rows kk).length ≤ B → EX G d csc rest ρ (σ.set j (lnC (rs ++ as.rows kk))) Qn Qr → LoopL G d csc (.Name x p) body rest Qn Qr as.nodes ρ' (σ.set j (lnC rs))
  | .nil, rs, ρ', _, s, _, h => by
    simp only [Als.rows, List.append_nil] at h
    simp only [Als.nodes]
    exact h.less s
  | .cons k fs b r, rs, ρ', o, s, hl, h => by
    simp only [Als.ok] at o
    simp only [Als.rows, List.length_cons, List.length_append] at h hl
    simp only [Als.nodes]
    refine ⟨_, .name hx, EX.less (step k fs b rs o.1 o.2.1 (by omega) _ ?_) (s.cons _)⟩
    refine LoopL.als hx hρ step r _ _ o.2.2 (Sup.off hρ) (by simp; omega) ?_
    rw [List.append_assoc, List.cons_append]
    exact h
theorem LoopL.bds {elts : List Expr} {k2 : Nat} {p : Pos} (hns : namesOf elts = some [("name" : Str), "made"]) (hk : ∀ x ∈ ([("name" : Str), "made"] : List Str), csc.names.lookup x = some .local) (h1 : ρ.lookup ("name" : Str) = .none) (h2 : ρ.lookup ("made" : Str) = .none)
    (step : ∀ (i : Nat) (c : Cl) (rs : List (Nat × Str)), i < 2 → c.ok n → rs.length + (c.rows (tname i) kk).length ≤ B → ∀ Qn' : List (Str × PV) → List Cell → Prop, Qn' ((("made" : Str), c.node) :: (("name" : Str), .str (tname i)) :: ρ) (σ.set j (lnC (rs ++ c.rows (tname i) kk))) →
      EX G d csc body ((("made" : Str), c.node) :: (("name" : Str), .str (tname i)) :: ρ) (σ.set j (lnC rs)) Qn' Qr) :
    ∀ (bs : Bds) (i : Nat) (rs : List (Nat × Str)) (ρ' : List (Str × PV)), bs.ok n → i + bs.len ≤ 2 → Sup ρ' ρ → rs.length + (bs.rows i kk).length ≤ B → EX G d csc rest ρ (σ.set j (lnC (rs ++ bs.rows i kk))) Qn Qr → LoopL G d csc (.Tuple elts k2 p) body rest Qn Qr (bs.nodes i) ρ' (σ.set j (lnC rs))
  | .nil, i, rs, ρ', _, _, s, _, h => by
    simp only [Bds.rows, List.append_nil] at h
    simp only [Bds.nodes]
    exact h.less s
  | .cons c r, i, rs, ρ', o, hi, s, hl, h => by
    simp only [Bds.ok] at o
    simp only [Bds.len] at hi
    simp only [Bds.rows, List.length_append] at h hl
    simp only [Bds.nodes]
    refine ⟨_, .tuple hns hk (.tup _) rfl, EX.less (step i c rs (by omega) o.1 (by omega) _ ?_) ((s.cons _).cons _)⟩
    refine LoopL.bds hns hk h1 h2 step r (i + 1) _ _ o.2 (by omega) ?_ (by simp; omega) ?_
    · intro x pv e
      rw [lookup_cons, if_neg, lookup_cons, if_neg]
      · exact e
      · rintro rfl; rw [h1] at e; cases e
      · rintro rfl; rw [h2] at e; cases e
    · rw [List.append_assoc]
      exact h
end
def Prints (g : Gx) (n k : Nat) : Prop := ∀ (t : Tr), t.ok n → ∀ (σ : List Cell) (Q : PV → List Cell → Prop) (j kk : Nat) (rs : List (Nat × Str)), j < σ.length → kk + 2 * n ≤ 150 → rs.length + (t.rows kk).length ≤ 80000 →
  Q .none (σ.set j (lnC (rs ++ t.rows kk))) → VC g.g k (fun vs => call (.ref 257) vs) [lns j, .int kk, t.node] (σ.set j (lnC rs)) Q
section
variable {g : Gx} {σ : List Cell} {Q : PV → List Cell → Prop} {j n k kk : Nat} {rs : List (Nat × Str)}
theorem VC.closure (N : Prints g n k) (hk : 2 ≤ k) {c : Cl} {name : Str} (o : c.ok n) (hn : name.length ≤ 20) (hj : j < σ.length) (hd : kk + 2 * n + 1 ≤ 150) (hl : rs.length + (c.rows name kk).length ≤ 80000) (h : Q .none (σ.set j (lnC (rs ++ c.rows name kk)))) :
    VC g.g (k + 1) (fun vs => call (.ref 250) vs) [lns j, .int kk, .str name, c.node] (σ.set j (lnC rs)) Q := by
  cases c with
  | mk fr ps b u =>
    simp only [Cl.ok] at o
    simp only [Cl.rows, List.length_cons] at h hl
    simp only [Cl.node]
    obtain ⟨c1, c2, c3, c4, c5, c6, c7, c8, c9, c10, c11⟩ := lits_len
    have f1 := fr_len fr o.1
    have p1 := ps_len ps o.2.1
    have f2 := join_len f1.2
    have p2 := join_len p1.2
    refine VC.fn (fn_closure g.w.params) rfl ?_
    unfold lns
    walk_at "pv begin"
    walk_at "pva"
    have fin : ∀ ar : Str, ar = (if u then ("\\u" : Str) else "\\n") → EX g.g k (scAt g.w.params 250) ((bodyAt g.w.params 250).drop 1) ((("arrow" : Str), .str ar) :: (["self", "depth", "name", "made"] : List Str).zip [.inst 267 ["rows"] [.cell j], .int kk, .str name, .inst 178 ["free", "params", "body", "is_updated"] [.list (fr.map PV.str), .list (ps.map PV.str), b.node, .bool u]]) (σ.set j (lnC rs)) (fun _ σ' => Q .none σ') Q := fun ar har => by
      have lar : ar.length = 2 := by rw [har]; cases u <;> assumption
      walk_at "pv begin"
      refine EX.swapped (ns := ["captured", "params"]) ?_ (by decide +kernel) (by intro env h; unfold swappedStores Env.blockKind Env.kindOf; rw [h]; rfl)
      walk_at "pva"
      refine VC.join (joinOk_of (B := 10) f1.2 (by rw [c11]; omega)) ?_
      walk_at "pva"
      refine VC.join (joinOk_of (B := 10) p1.2 (by rw [c11]; omega)) ?_
      walk_at "pva"
      refine ⟨_, .tup _, rfl, ?_⟩
      walk_at "pva"
      iterate 7 (refine VC.adds (by simp only [PySem.Str.length_append, c5, c6, c9, c10, lar]; omega) ?_; walk_at "pva")
      refine VC.le (d' := 1) (VC.put hj (by omega) (by simp only [PySem.Str.length_append, c5, c6, c9, c10, lar]; omega) (by omega) ?_) (by omega)
      refine ⟨rfl, ?_⟩
      walk_at "pva"
      rw [show ((kk : Int) + 1) = ((kk + 1 : Nat) : Int) from by omega]
      refine N b o.2.2 _ _ j (kk + 1) _ hj (by omega) (by simp; omega) ?_
      refine ⟨rfl, ?_⟩
      walk_at "pva"
      rw [List.append_assoc, har]
      exact h
    cases u with
    | true => walk_at "pva"; exact fin _ rfl
    | false => walk_at "pva"; exact fin _ rfl
theorem VC.case (N : Prints g n k) (hk : 2 ≤ k) {e : Tr} {as : Als} {op : Op} (o1 : e.ok n) (o2 : as.len ≤ 2) (o3 : as.ok n) (o4 : op.ok n) (hj : j < σ.length) (hd : kk + 2 * n + 1 ≤ 150) (hl : rs.length + ((Tr.case e as op).rows kk).length ≤ 80000) (h : Q .none (σ.set j (lnC (rs ++ (Tr.case e as op).rows kk)))) :
    VC g.g (k + 1) (fun vs => call (.ref 264) vs) [lns j, .int kk, (Tr.case e as op).node] (σ.set j (lnC rs)) Q := by
  simp only [Tr.rows, List.length_cons, List.length_append] at h hl
  simp only [Tr.node]
  refine VC.fn (fn_case g.w.params) rfl ?_
  unfold lns
  walk_at "pv begin"
  walk_at "pva"
  refine VC.adds (by decide +kernel) ?_
  walk_at "pva"
  refine VC.adds (by decide +kernel) ?_
  walk_at "pva"
  refine VC.le (d' := 1) (VC.put hj (by omega) (by decide +kernel) (by omega) ?_) (by omega)
  refine ⟨rfl, ?_⟩
  walk_at "pva"
  rw [show ((kk : Int) + 1) = ((kk + 1 : Nat) : Int) from by omega]
  refine N e o1 _ _ j (kk + 1) _ hj (by omega) (by simp; omega) ?_
  refine ⟨rfl, ?_⟩
  refine EX.for ?_
  walk_at "pva"
  refine ⟨_, .inl rfl, ?_⟩
  refine LoopL.als (n := n) (kk := kk) (B := 80000) rfl rfl (fun ky fs b rs' ok1 ok2 hl' Qn' h' => ?_) as _ _ o3 (fun _ _ e => e) (by simp; omega) ?_
  · unfold altNode' at h' ⊢
    have kl := key_len ok1
    obtain ⟨c1, c2, c3, c4, c5, c6, c7, c8, c9, c10, c11⟩ := lits_len
    walk_at "pva"
    refine VC.le (d' := 2) (VC.key_text ok1 ?_) (by omega)
    refine VC.adds (by rw [c3]; omega) ?_
    walk_at "pva"
    refine VC.adds (by rw [PySem.Str.length_append, c3, c4]; omega) ?_
    walk_at "pva"
    refine VC.le (d' := 1) (VC.put hj (by omega) (by simp only [PySem.Str.length_append, c3, c4]; omega) (by omega) ?_) (by omega)
    refine ⟨rfl, ?_⟩
    walk_at "pva"
    rw [show ((kk : Int) + 1) = ((kk + 1 : Nat) : Int) from by omega]
    refine N b ok2 _ _ j (kk + 1) _ hj (by omega) (by simp; omega) ?_
    refine ⟨rfl, ?_⟩
    refine EX.nil ?_
    rw [List.append_assoc]
    exact h'
  · have e1 : rs ++ [(kk, Str.ofString "case " ++ Str.ofString "v.4" ++ Str.ofString " of")] ++ e.rows (kk + 1) ++ as.rows kk ++ op.rows kk = rs ++ (kk, Str.ofString "case " ++ Str.ofString "v.4" ++ Str.ofString " of") :: (e.rows (kk + 1) ++ (as.rows kk ++ op.rows kk)) := by
      simp only [List.append_assoc, List.cons_append, List.nil_append]
    rw [← e1] at h
    walk_at "pva"
    cases op with
    | no =>
      rw [show (!Op.no.node.isNone) = false from rfl]
      simp only [Op.rows, List.append_nil] at h
      walk_at "pva"
      exact h
    | yes t =>
      have hn : (Op.yes t).node.isNone = false := by cases t <;> rfl
      rw [hn, show (!false) = true from rfl]
      simp only [Op.rows, Op.ok, List.length_cons] at h o4 hl
      walk_at "pva"
      refine VC.le (d' := 1) (VC.put hj (by omega) (by decide +kernel) (by simp; omega) ?_) (by omega)
      refine ⟨rfl, ?_⟩
      walk_at "pva"
      rw [show ((kk : Int) + 1) = ((kk + 1 : Nat) : Int) from by omega]
      simp only [Op.node]
      refine N t o4 _ _ j (kk + 1) _ hj (by omega) (by simp; omega) ?_
      refine ⟨rfl, ?_⟩
      walk_at "pva"
      rw [List.append_assoc]
      exact h
end
end

section
section
variable {g : Gx} {σ : List Cell} {Q : PV → List Cell → Prop} {j n k kk : Nat} {rs : List (Nat × Str)}
theorem cat_len {x y : Str} {a b : Nat} (hx : x.length ≤ a) (hy : y.length ≤ b) : (x ++ y).length ≤ a + b := by rw [PySem.Str.length_append]; omega
theorem tname_len {i : Nat} (h : i < 2) : (tname i).length ≤ 20 := by
  have : i = 0 ∨ i = 1 := by omega
  rcases this with rfl | rfl <;> decide +kernel
theorem prints_of (g : Gx) : ∀ n : Nat, Prints g n (5 + 2 * n)
  | n => by
    intro t o σ Q j kk rs hj hd hl h
    have N : ∀ m, n = m + 1 → Prints g m (5 + 2 * m) := fun m e => by subst e; exact prints_of g m
    obtain ⟨c1, c2, c3, c4, c5, c6, c7, c8, c9, c10, c11⟩ := lits_len
    rw [show 5 + 2 * n = (4 + 2 * n) + 1 from by omega]
    refine VC.fn (d := 4 + 2 * n) (fn_expression g.w.params) rfl ?_
    cases t with
    | atom a =>
      simp only [Tr.rows, List.length_cons, List.length_nil, Tr.ok] at h hl o
      simp only [Tr.node]
      unfold lns
      walk_at "pv begin"
      walk_at "pva"
      refine VC.le (d' := 2) (VC.atom_text o ?_) (by omega)
      walk_at "pva"
      refine VC.le (d' := 1) (VC.put hj (by omega) (by have := At.len o; omega) (by omega) ?_) (by omega)
      refine ⟨rfl, ?_⟩
      walk_at "pva"
      exact h
    | app f as =>
      simp only [Tr.rows, List.length_cons, List.length_nil, Tr.ok] at h hl o
      simp only [Tr.node]
      have fl := fn_len f o.1
      unfold lns
      walk_at "pv begin"
      walk_at "pva"
      refine VC.le (d' := 3) (VC.row_text (by omega) o.2.2.2 o.2.2.1 ?_) (by omega)
      walk_at "pva"
      refine VC.le (d' := 1) (VC.put hj (by omega) (by have := rowText_len (f := f) (by omega) o.2.2.2 o.2.2.1; omega) (by omega) ?_) (by omega)
      refine ⟨rfl, ?_⟩
      walk_at "pva"
      exact h
    | con f as =>
      simp only [Tr.rows, List.length_cons, List.length_nil, Tr.ok] at h hl o
      simp only [Tr.node]
      have fl := cn_len f o.1
      have fl2 : (Str.ofString "con " ++ f).length ≤ 20 := Nat.le_trans (cat_len (Nat.le_of_eq c1) fl) (by omega)
      unfold lns
      walk_at "pv begin"
      walk_at "pva"
      refine VC.adds (by omega) ?_
      walk_at "pva"
      refine VC.le (d' := 3) (VC.row_text fl2 o.2.2 o.2.1 ?_) (by omega)
      walk_at "pva"
      refine VC.le (d' := 1) (VC.put hj (by omega) (by have := rowText_len fl2 o.2.2 o.2.1; omega) (by omega) ?_) (by omega)
      refine ⟨rfl, ?_⟩
      walk_at "pva"
      exact h
    | prim f as =>
      simp only [Tr.rows, List.length_cons, List.length_nil, Tr.ok] at h hl o
      simp only [Tr.node]
      have fl := pr_len f o.1
      have fl2 : (Str.ofString "prim " ++ f).length ≤ 20 := Nat.le_trans (cat_len (Nat.le_of_eq c2) fl) (by omega)
      unfold lns
      walk_at "pv begin"
      walk_at "pva"
      refine VC.adds (by omega) ?_
      walk_at "pva"
      refine VC.le (d' := 3) (VC.row_text fl2 o.2.2 o.2.1 ?_) (by omega)
      walk_at "pva"
      refine VC.le (d' := 1) (VC.put hj (by omega) (by have := rowText_len fl2 o.2.2 o.2.1; omega) (by omega) ?_) (by omega)
      refine ⟨rfl, ?_⟩
      walk_at "pva"
      exact h
    | case e as op =>
      simp only [Tr.ok] at o
      obtain ⟨m, rfl, o1, o2, o3, o4⟩ := o
      simp only [Tr.node]
      unfold lns
      walk_at "pv begin"
      walk_at "pva"
      refine VC.le (d' := (5 + 2 * m) + 1) (VC.case (e := e) (as := as) (op := op) (rs := rs) (N m rfl) (by omega) o1 o2 o3 o4 hj (by omega) hl ?_) (by omega)
      refine ⟨rfl, ?_⟩
      walk_at "pva"
      exact h
    | lets b t =>
      simp only [Tr.ok] at o
      obtain ⟨m, rfl, o1, o2, o3⟩ := o
      simp only [Tr.rows, List.length_cons, List.length_append] at h hl
      simp only [Tr.node]
      unfold lns
      walk_at "pv begin"
      walk_at "pva"
      refine VC.le (d' := 1) (VC.put hj (by omega) (by decide +kernel) (by omega) ?_) (by omega)
      refine ⟨rfl, ?_⟩
      refine EX.for ?_
      walk_at "pva"
      refine ⟨_, .inl rfl, ?_⟩
      refine LoopL.bds (n := m) (kk := kk + 1) (B := 80000) rfl (by decide +kernel) rfl rfl (fun i c rs' hi oc hl' Qn' h' => ?_) b 0 _ _ o2 (by omega) (fun _ _ e => e) (by simp; omega) ?_
      · walk_at "pva"
        rw [show ((kk : Int) + 1) = ((kk + 1 : Nat) : Int) from by omega]
        refine VC.le (d' := (5 + 2 * m) + 1) (VC.closure (N m rfl) (by omega) oc (tname_len hi) hj (by omega) hl' ?_) (by omega)
        refine ⟨rfl, ?_⟩
        refine EX.nil ?_
        exact h'
      · walk_at "pva"
        refine VC.le (d' := 1) (VC.put hj (by omega) (by decide +kernel) (by simp; omega) ?_) (by omega)
        refine ⟨rfl, ?_⟩
        walk_at "pva"
        refine VC.le (d' := 5 + 2 * m) (N m rfl t o3 _ _ j kk _ hj (by omega) (by simp; omega) ?_) (by omega)
        refine ⟨rfl, ?_⟩
        walk_at "pva"
        have e1 : rs ++ [(kk, Str.ofString "let")] ++ b.rows 0 (kk + 1) ++ [(kk, Str.ofString "in")] ++ t.rows kk = rs ++ (kk, Str.ofString "let") :: (b.rows 0 (kk + 1) ++ (kk, Str.ofString "in") :: t.rows kk) := by
          simp only [List.append_assoc, List.cons_append, List.nil_append]
        rw [e1]
        exact h
end
end

section
/-- a text that may stand as a row -/
def gtb (t : Str) : Bool := decide (t.length ≤ 100) && !(t.cps.toList.contains 10) && (t.cps.toList.head? != some 32)
structure GT (t : Str) : Prop where
  len : t.length ≤ 100
  nl : 10 ∉ t.cps.toList
  hd : t.cps.toList.head? ≠ some 32
theorem GT.of {t : Str} (h : gtb t = true) : GT t := by
  unfold gtb at h
  simp only [Bool.and_eq_true, decide_eq_true_eq, Bool.not_eq_true', bne_iff_ne] at h
  refine ⟨h.1.1, fun m => ?_, h.2⟩
  have q := List.contains_iff_mem.mpr m
  rw [h.1.2] at q
  cases q
theorem join_all {P : Nat → Prop} {sep : Str} (hs : ∀ c ∈ sep.cps.toList, P c) : ∀ {ts : List Str}, (∀ t ∈ ts, ∀ c ∈ t.cps.toList, P c) → ∀ c ∈ (Str.join sep ts).cps.toList, P c
  | [], _ => fun c m => by simp [Str.join, Str.empty] at m
  | [t], h => fun c m => h t (.head _) c m
  | t :: u :: r, h => fun c m => by
    have e : (Str.join sep (t :: u :: r)).cps.toList = t.cps.toList ++ sep.cps.toList ++ (Str.join sep (u :: r)).cps.toList := by
      show (t ++ sep ++ Str.join sep (u :: r)).cps.toList = _
      rw [PySem.Str.cps_append, PySem.Str.cps_append, Array.toList_append, Array.toList_append]
    rw [e] at m
    rcases List.mem_append.mp m with m | m
    · rcases List.mem_append.mp m with m | m
      · exact h t (.head _) c m
      · exact hs c m
    · exact join_all hs (fun t mt => h t (.tail _ mt)) c m
theorem join_head {sep f : Str} : ∀ {ts : List Str}, ∃ r, (Str.join sep (f :: ts)).cps.toList = f.cps.toList ++ r
  | [] => ⟨[], by simp [Str.join]⟩
  | u :: r => ⟨sep.cps.toList ++ (Str.join sep (u :: r)).cps.toList, by
    show (f ++ sep ++ Str.join sep (u :: r)).cps.toList = _
    rw [PySem.Str.cps_append, PySem.Str.cps_append, Array.toList_append, Array.toList_append, List.append_assoc]⟩
theorem txt_join (sep : Str) (ts : List Str) : Txt.join sep ts = Str.join sep ts := StrLaws.glued_eq_join sep ts
/-- a word: no blank in it, no end of a row, not empty -/
def wordb (t : Str) : Bool := (t.cps.toList.all fun c => !Unicode.isSpace c && c != 10) && !t.cps.toList.isEmpty && decide (t.length ≤ 10)
theorem lit_word : ∀ i : Fin 41, wordb (litS ((i : Nat) - 20)) = true := by decide +kernel
theorem At.word {a : At} (h : a.ok) : wordb a.txt = true := by
  cases a with
  | nm x => exact (by decide +kernel : ∀ x ∈ nms, wordb x = true) x h
  | li n =>
    have := lit_word ⟨(n + 20).toNat, by have := h.1; have := h.2; omega⟩
    have e : (((n + 20).toNat : Nat) : Int) - 20 = n := by have := h.1; omega
    simp only [e] at this
    exact this
  | ch x => exact (by decide +kernel : ∀ x ∈ chs, wordb (chS x) = true) x h
theorem word_nl {t : Str} (h : wordb t = true) : ∀ c ∈ t.cps.toList, c ≠ 10 ∧ Unicode.isSpace c = false := fun c m => by
  unfold wordb at h
  simp only [Bool.and_eq_true, List.all_eq_true] at h
  have := h.1.1 c m
  simp only [Bool.not_eq_true', bne_iff_ne] at this
  exact ⟨this.2, this.1⟩
theorem word_ne {t : Str} (h : wordb t = true) : t.cps.toList ≠ [] := fun e => by
  unfold wordb at h
  rw [e] at h
  simp at h
theorem gt_row {f : Str} {as : List At} (hf : gtb f = true) (hn : f.cps.toList ≠ []) (hl : f.length ≤ 20) (ha : ∀ a ∈ as, a.ok) (h3 : as.length ≤ 3) : GT (rowText f as) := by
  have hf' := GT.of hf
  refine ⟨Nat.le_trans (rowText_len hl ha h3) (by decide), fun m => ?_, ?_⟩
  · unfold rowText at m
    rw [txt_join] at m
    refine join_all (P := (· ≠ 10)) (by decide +kernel) (fun t mt c mc => ?_) _ m rfl
    rcases List.mem_cons.mp mt with rfl | mt
    · exact fun e => hf'.nl (e ▸ mc)
    · obtain ⟨a, ma, rfl⟩ := List.mem_map.mp mt
      exact (word_nl (At.word (ha a ma)) c mc).1
  · unfold rowText
    rw [txt_join]
    obtain ⟨r, e⟩ := join_head (sep := " ") (f := f) (ts := as.map At.txt)
    rw [e]
    cases q : f.cps.toList with
    | nil => exact absurd q hn
    | cons c l =>
      have := hf'.hd
      rw [q] at this
      exact this
def nmss : List Str := [tname 0, tname 1, "Main.main", "Main.f"]
theorem gt_head : ∀ name ∈ nmss, ∀ fr ∈ frs, ∀ ps ∈ pss, ∀ u : Bool, gtb (clHead name fr ps u) = true := by decide +kernel
theorem gt_key_con : ∀ c ∈ cnss, ∀ fs ∈ fds, gtb ("| " ++ (Ky.con c).txt fs ++ " ->") = true := by decide +kernel
theorem gt_key_li : ∀ i : Fin 9, gtb ("| " ++ (Ky.li ((i : Nat) - 4)).txt [] ++ " ->") = true := by decide +kernel
theorem gt_key_ch : ∀ x ∈ kchs, gtb ("| " ++ (Ky.ch x).txt [] ++ " ->") = true := by decide +kernel
theorem gt_key {k : Ky} {fs : List Str} (o : k.ok fs) : gtb ("| " ++ k.txt fs ++ " ->") = true := by
  cases k with
  | con c => exact gt_key_con c o.1 fs o.2
  | li n =>
    obtain ⟨o1, o2, rfl⟩ := o
    have := gt_key_li ⟨(n + 4).toNat, by omega⟩
    have e : (((n + 4).toNat : Nat) : Int) - 4 = n := by omega
    simp only [e] at this
    exact this
  | ch x =>
    obtain ⟨o1, rfl⟩ := o
    exact gt_key_ch x o1
def rmax : Nat → Nat
  | 0 => 1
  | n + 1 => 4 + 4 * rmax n
def RowsOk (lo hi B : Nat) (rs : List (Nat × Str)) : Prop := rs.length ≤ B ∧ ∀ r ∈ rs, lo ≤ r.1 ∧ r.1 ≤ hi ∧ GT r.2
theorem RowsOk.nil {lo hi : Nat} : RowsOk lo hi 0 [] := ⟨Nat.le_refl _, fun r m => nomatch m⟩
theorem RowsOk.cons {lo hi B k : Nat} {t : Str} {rs : List (Nat × Str)} (h1 : lo ≤ k) (h2 : k ≤ hi) (g : GT t) (h : RowsOk lo hi B rs) : RowsOk lo hi (B + 1) ((k, t) :: rs) :=
  ⟨by have := h.1; simp; omega, fun r m => (List.mem_cons.mp m).elim (fun e => e ▸ ⟨h1, h2, g⟩) (h.2 r)⟩
theorem RowsOk.append {lo hi B C : Nat} {rs qs : List (Nat × Str)} (h : RowsOk lo hi B rs) (q : RowsOk lo hi C qs) : RowsOk lo hi (B + C) (rs ++ qs) :=
  ⟨by have := h.1; have := q.1; simp; omega, fun r m => (List.mem_append.mp m).elim (h.2 r) (q.2 r)⟩
theorem RowsOk.mono {lo hi B lo' hi' B' : Nat} {rs : List (Nat × Str)} (h : RowsOk lo hi B rs) (h1 : lo' ≤ lo) (h2 : hi ≤ hi') (h3 : B ≤ B') : RowsOk lo' hi' B' rs :=
  ⟨Nat.le_trans h.1 h3, fun r m => ⟨Nat.le_trans h1 (h.2 r m).1, Nat.le_trans (h.2 r m).2.1 h2, (h.2 r m).2.2⟩⟩
theorem name_mem {i : Nat} (h : i < 2) : tname i ∈ nmss := by
  have : i = 0 ∨ i = 1 := by omega
  rcases this with rfl | rfl <;> decide +kernel
theorem fn_gt : ∀ f ∈ fnns, gtb f = true ∧ f.cps.toList ≠ [] ∧ f.length ≤ 20 := by decide +kernel
theorem cn_gt : ∀ f ∈ cnss, gtb ("con " ++ f) = true ∧ (("con " : Str) ++ f).cps.toList ≠ [] ∧ (("con " : Str) ++ f).length ≤ 20 := by decide +kernel
theorem pr_gt : ∀ f ∈ prms, gtb ("prim " ++ f) = true ∧ (("prim " : Str) ++ f).cps.toList ≠ [] ∧ (("prim " : Str) ++ f).length ≤ 20 := by decide +kernel
theorem word_gt {t : Str} (h : wordb t = true) : GT t := by
  refine ⟨?_, fun m => (word_nl h 10 m).1 rfl, fun e => ?_⟩
  · unfold wordb at h
    simp only [Bool.and_eq_true, decide_eq_true_eq] at h
    omega
  · have := (word_nl h 32 (List.mem_of_mem_head? e)).2
    exact absurd this (by decide +kernel)
mutual
theorem Tr.rowsOk : ∀ {t : Tr} {n kk : Nat}, t.ok n → RowsOk kk (kk + 2 * n) (rmax n) (t.rows kk)
  | .atom a, n, kk, o => by
    simp only [Tr.ok] at o
    simp only [Tr.rows]
    exact (RowsOk.nil.cons (Nat.le_refl _) (by omega) (word_gt (At.word o))).mono (Nat.le_refl _) (Nat.le_refl _) (by cases n <;> simp only [rmax] <;> omega)
  | .app f as, n, kk, o => by
    simp only [Tr.ok] at o
    simp only [Tr.rows]
    obtain ⟨g1, g2, g3⟩ := fn_gt f o.1
    exact (RowsOk.nil.cons (Nat.le_refl _) (by omega) (gt_row g1 g2 g3 o.2.2.2 o.2.2.1)).mono (Nat.le_refl _) (Nat.le_refl _) (by cases n <;> simp only [rmax] <;> omega)
  | .con f as, n, kk, o => by
    simp only [Tr.ok] at o
    simp only [Tr.rows]
    obtain ⟨g1, g2, g3⟩ := cn_gt f o.1
    exact (RowsOk.nil.cons (Nat.le_refl _) (by omega) (gt_row g1 g2 g3 o.2.2 o.2.1)).mono (Nat.le_refl _) (Nat.le_refl _) (by cases n <;> simp only [rmax] <;> omega)
  | .prim f as, n, kk, o => by
    simp only [Tr.ok] at o
    simp only [Tr.rows]
    obtain ⟨g1, g2, g3⟩ := pr_gt f o.1
    exact (RowsOk.nil.cons (Nat.le_refl _) (by omega) (gt_row g1 g2 g3 o.2.2 o.2.1)).mono (Nat.le_refl _) (Nat.le_refl _) (by cases n <;> simp only [rmax] <;> omega)
  | .case e as op, n, kk, o => by
    simp only [Tr.ok] at o
    obtain ⟨m, rfl, o1, o2, o3, o4⟩ := o
    simp only [Tr.rows]
    have h1 : RowsOk kk (kk + 2 * (m + 1)) (rmax m) (e.rows (kk + 1)) := (Tr.rowsOk o1).mono (by omega) (by omega) (Nat.le_refl _)
    have h2 := Als.rowsOk (kk := kk) o3
    have h3 := Op.rowsOk (kk := kk) o4
    refine ((h1.append (h2.append h3)).cons (Nat.le_refl _) (by omega) (GT.of (by decide +kernel))).mono (Nat.le_refl _) (Nat.le_refl _) ?_
    have : as.len * (1 + rmax m) ≤ 2 * (1 + rmax m) := Nat.mul_le_mul_right _ o2
    simp only [rmax]
    omega
  | .lets b t, n, kk, o => by
    simp only [Tr.ok] at o
    obtain ⟨m, rfl, o1, o2, o3⟩ := o
    simp only [Tr.rows]
    have h1 := Bds.rowsOk (kk := kk) (i := 0) o2 (by omega)
    have h2 : RowsOk kk (kk + 2 * (m + 1)) (rmax m) (t.rows kk) := (Tr.rowsOk o3).mono (by omega) (by omega) (Nat.le_refl _)
    refine ((h1.append (h2.cons (Nat.le_refl _) (by omega) (GT.of (by decide +kernel)))).cons (Nat.le_refl _) (by omega) (GT.of (by decide +kernel))).mono (Nat.le_refl _) (Nat.le_refl _) ?_
    have : b.len * (1 + rmax m) ≤ 2 * (1 + rmax m) := Nat.mul_le_mul_right _ o1
    simp only [rmax]
    omega
theorem Als.rowsOk : ∀ {a : Als} {n kk : Nat}, a.ok n → RowsOk kk (kk + 2 * (n + 1)) (a.len * (1 + rmax n)) (a.rows kk)
  | .nil, n, kk, _ => by
    simp only [Als.rows, Als.len, Nat.zero_mul]
    exact .nil
  | .cons k fs b r, n, kk, o => by
    simp only [Als.ok] at o
    simp only [Als.rows, Als.len]
    have h1 : RowsOk kk (kk + 2 * (n + 1)) (rmax n) (b.rows (kk + 1)) := (Tr.rowsOk o.2.1).mono (by omega) (by omega) (Nat.le_refl _)
    refine ((h1.append (Als.rowsOk o.2.2)).cons (Nat.le_refl _) (by omega) (GT.of (gt_key o.1))).mono (Nat.le_refl _) (Nat.le_refl _) ?_
    rw [Nat.add_mul]; omega
theorem Op.rowsOk : ∀ {a : Op} {n kk : Nat}, a.ok n → RowsOk kk (kk + 2 * (n + 1)) (1 + rmax n) (a.rows kk)
  | .no, n, kk, _ => by
    simp only [Op.rows]
    exact RowsOk.nil.mono (Nat.le_refl _) (Nat.le_refl _) (Nat.zero_le _)
  | .yes t, n, kk, o => by
    simp only [Op.ok] at o
    simp only [Op.rows]
    have h1 : RowsOk kk (kk + 2 * (n + 1)) (rmax n) (t.rows (kk + 1)) := (Tr.rowsOk o).mono (by omega) (by omega) (Nat.le_refl _)
    exact (h1.cons (Nat.le_refl _) (by omega) (GT.of (by decide +kernel))).mono (Nat.le_refl _) (Nat.le_refl _) (by omega)
theorem Bds.rowsOk : ∀ {b : Bds} {n i kk : Nat}, b.ok n → i + b.len ≤ 2 → RowsOk kk (kk + 2 * (n + 1)) (b.len * (1 + rmax n)) (b.rows i (kk + 1))
  | .nil, n, i, kk, _, _ => by
    simp only [Bds.rows, Bds.len, Nat.zero_mul]
    exact .nil
  | .cons c r, n, i, kk, o, z => by
    simp only [Bds.ok] at o
    simp only [Bds.len] at z
    simp only [Bds.rows, Bds.len]
    have h1 : RowsOk kk (kk + 2 * (n + 1)) (1 + rmax n) (c.rows (tname i) (kk + 1)) := (Cl.rowsOk o.1 (name_mem (i := i) (by omega))).mono (by omega) (by omega) (Nat.le_refl _)
    refine (h1.append (Bds.rowsOk o.2 (by omega))).mono (Nat.le_refl _) (Nat.le_refl _) ?_
    rw [Nat.add_mul]; omega
theorem Cl.rowsOk : ∀ {c : Cl} {name : Str} {n kk : Nat}, c.ok n → name ∈ nmss → RowsOk kk (kk + 1 + 2 * n) (1 + rmax n) (c.rows name kk)
  | .mk fr ps b u, name, n, kk, o, hm => by
    simp only [Cl.ok] at o
    simp only [Cl.rows]
    exact (RowsOk.cons (Nat.le_refl _) (by omega) (GT.of (gt_head name hm fr o.1 ps o.2.1 u)) ((Tr.rowsOk o.2.2).mono (by omega) (by omega) (Nat.le_refl _))).mono (Nat.le_refl _) (Nat.le_refl _) (by omega)
end
end

section
def txtOf (rs : List (Nat × Str)) : Str := Txt.join "\n" (rs.map fun r => ind r.1 r.2)
theorem ind_len {k : Nat} {t : Str} (h : t.length ≤ 100) : (ind k t).length ≤ 2 * k + 100 := by
  unfold ind
  rw [PySem.Str.length_append]
  have := mul_len (k := k)
  omega
theorem join_rows {lo hi B : Nat} {rs : List (Nat × Str)} (h : RowsOk lo hi B rs) (h1 : hi ≤ 200) (h2 : B ≤ 10000) : JoinOk "\n" (rs.map fun r => ind r.1 r.2) = true := by
  refine joinOk_of (B := 500) (fun y m => ?_) ?_
  · obtain ⟨r, mr, rfl⟩ := List.mem_map.mp m
    have q := h.2 r mr
    have := ind_len (k := r.1) q.2.2.len
    omega
  · rw [List.length_map, show (Str.ofString "\n").length = 1 from by decide +kernel]
    have := h.1
    omega
theorem txt_rows_len {lo hi B : Nat} {rs : List (Nat × Str)} (h : RowsOk lo hi B rs) (h1 : hi ≤ 20) (h2 : B ≤ 600) : (txtOf rs).length ≤ 100000 := by
  unfold txtOf
  rw [txt_join]
  refine Nat.le_trans (StrLaws.join_length_le _ _) ?_
  have q := StrLaws.sumLen_le (B := 140) (rs.map fun r => ind r.1 r.2) (fun y m => by
    obtain ⟨r, mr, rfl⟩ := List.mem_map.mp m
    have q := h.2 r mr
    have := ind_len (k := r.1) q.2.2.len
    omega)
  rw [show (Str.ofString "\n").length = 1 from by decide +kernel]
  rw [List.length_map] at q ⊢
  have := h.1
  omega
theorem set_last {σ : List Cell} {a b : Cell} : (σ ++ [a]).set σ.length b = σ ++ [b] := by simp
theorem lines_set {σ : List Cell} : σ ++ [Cell.lst []] = (σ ++ [Cell.lst []]).set σ.length (lnC []) := by rw [set_last]; rfl
theorem lnC_at {σ : List Cell} {rs : List (Nat × Str)} : (σ ++ [lnC rs])[σ.length]? = some (.lst ((rs.map fun r => ind r.1 r.2).map PV.str)) := by
  rw [List.getElem?_append_right (Nat.le_refl _), Nat.sub_self, List.map_map]; rfl
section
variable {g : Gx} {σ : List Cell} {Q : PV → List Cell → Prop} {n : Nat}
set_option maxHeartbeats 800000 in
theorem VC.stg_text {t : Tr} (o : t.ok n) (hn : n ≤ 3) (h : Q (.str (txtOf (t.rows 0))) (σ ++ [lnC (t.rows 0)])) : VC g.g (6 + 2 * n) (fun vs => call (.ref 285) vs) [t.node] σ Q := by
  have ro := Tr.rowsOk (kk := 0) o
  have hB : rmax n ≤ 200 := by
    have : n = 0 ∨ n = 1 ∨ n = 2 ∨ n = 3 := by omega
    rcases this with rfl | rfl | rfl | rfl <;> decide
  rw [show 6 + 2 * n = (5 + 2 * n) + 1 from by omega]
  refine VC.fn (d := 5 + 2 * n) (fn_stg_text g.w.params) rfl ?_
  walk_at "pv begin"
  walk_at "pva"
  refine VC.le (d' := 0 + 2) (VC.mk_Lines ?_) (by omega)
  walk_at "pva"
  rw [lines_set]
  have hj : σ.length < (σ ++ [Cell.lst []]).length := by simp
  refine VC.le (d' := 5 + 2 * n) ?_ (Nat.le_refl _)
  refine prints_of g n t o _ _ σ.length 0 [] hj (by omega) ?_ ?_
  · have := ro.1
    rw [List.length_nil]
    omega
  refine ⟨rfl, ?_⟩
  rw [List.nil_append, set_last]
  walk_at "pva"
  refine VC.join_cell (ys := (t.rows 0).map fun r => ind r.1 r.2) lnC_at ?_ ?_
  · exact join_rows ro (by omega) (by omega)
  unfold txtOf at h
  exact h
def prog (c1 c2 : Cl) : PV := .inst 199 ["binds", "cons", "main"] [.dict ["Main.main", "Main.f"] [c1.node, c2.node], .dict [] [], .str "Main.main"]
def progRows (c1 c2 : Cl) : List (Nat × Str) := c2.rows "Main.f" 0 ++ (c1.rows "Main.main" 0 ++ [(0, ("main " : Str) ++ "Main.main")])
theorem sorted_two {ss : List Str} (hp : ss.Perm ["Main.main", "Main.f"]) (hs : sortedS ss = true) : ss = ([("Main.f" : Str), "Main.main"] : List Str) := by
  have hl := hp.length_eq
  obtain ⟨a, b, rfl⟩ : ∃ a b, ss = [a, b] := by
    match ss, hl with
    | [a, b], _ => exact ⟨a, b, rfl⟩
  · have ha : a ∈ (["Main.main", "Main.f"] : List Str) := hp.mem_iff.mp (.head _)
    have hb : b ∈ (["Main.main", "Main.f"] : List Str) := hp.mem_iff.mp (.tail _ (.head _))
    have hnd : ([a, b] : List Str).Nodup := hp.nodup_iff.mpr (by decide +kernel)
    simp only [List.mem_cons, List.not_mem_nil, or_false] at ha hb
    rcases ha with rfl | rfl <;> rcases hb with rfl | rfl
    · exact absurd hnd (by decide +kernel)
    · exact absurd hs (by decide +kernel)
    · rfl
    · exact absurd hnd (by decide +kernel)
theorem Cl.node_top (c : Cl) : c.node.isTop = false := by cases c; rfl
set_option maxHeartbeats 800000 in
theorem VC.stg_program {c1 c2 : Cl} (o1 : c1.ok 2) (o2 : c2.ok 2) (h : Q (.str (txtOf (progRows c1 c2))) (σ ++ [lnC (progRows c1 c2)])) : VC g.g 12 (fun vs => call (.ref 292) vs) [prog c1 c2] σ Q := by
  have r1 := Cl.rowsOk (kk := 0) (name := "Main.main") o1 (by decide +kernel)
  have r2 := Cl.rowsOk (kk := 0) (name := "Main.f") o2 (by decide +kernel)
  have hB : 1 + rmax 2 ≤ 200 := by decide
  have ro : RowsOk 0 (0 + 1 + 2 * 2) (1 + rmax 2 + (1 + rmax 2 + 1)) (progRows c1 c2) := r2.append (r1.append (RowsOk.nil.cons (Nat.le_refl _) (by omega) (GT.of (by decide +kernel))))
  refine VC.fn (d := 11) (fn_stg_program_text g.w.params) rfl ?_
  unfold prog
  walk_at "pv begin"
  walk_at "pva"
  refine VC.le (d' := 0 + 2) (VC.mk_Lines ?_) (by omega)
  walk_at "pva"
  rw [lines_set]
  have hj : σ.length < (σ ++ [Cell.lst []]).length := by simp
  refine EX.for ?_
  walk_at "pva"
  refine VC.sorted rfl (by decide) fun ss hp hs => ?_
  rw [sorted_two hp hs]
  refine ⟨_, .inl rfl, ?_⟩
  refine ⟨_, .name rfl, ?_⟩
  walk_at "pva"
  have cN := fun m => prints_of g m
  refine GI.dict rfl ?_
  walk_at "pva"
  refine VC.le (d' := (5 + 2 * 2) + 1) ?_ (by decide)
  refine VC.closure (kk := 0) (prints_of g 2) (by decide) o2 (by decide +kernel) hj (by decide) ?_ ?_
  · have := r2.1
    rw [List.length_nil]
    omega
  refine ⟨rfl, ?_⟩
  walk_at "pva"
  refine ⟨_, .name rfl, ?_⟩
  walk_at "pva"
  refine GI.dict rfl ?_
  walk_at "pva"
  refine VC.le (d' := (5 + 2 * 2) + 1) ?_ (by decide)
  refine VC.closure (kk := 0) (prints_of g 2) (by decide) o1 (by decide +kernel) hj (by decide) ?_ ?_
  · have := r2.1
    have := r1.1
    rw [List.nil_append]
    omega
  refine ⟨rfl, ?_⟩
  refine EX.nil ?_
  refine (?_ : EX _ _ _ _ _ _ _ _)
  walk_at "pva"
  refine VC.adds (by decide +kernel) ?_
  walk_at "pva"
  refine VC.le (d' := 1) ?_ (by decide)
  refine VC.put (k := 0) hj (by decide) (by decide +kernel) ?_ ?_
  · have := r2.1
    have := r1.1
    rw [List.nil_append, List.length_append]
    omega
  refine ⟨rfl, ?_⟩
  have e1 : [] ++ c2.rows (Str.ofString "Main.f") 0 ++ c1.rows (Str.ofString "Main.main") 0 ++ [(0, Str.ofString "main " ++ Str.ofString "Main.main")] = progRows c1 c2 := by
    simp only [List.nil_append, List.append_assoc]; rfl
  rw [e1, set_last]
  walk_at "pva"
  refine VC.join_cell (ys := (progRows c1 c2).map fun r => ind r.1 r.2) lnC_at ?_ ?_
  · exact join_rows ro (by omega) (by omega)
  unfold txtOf at h
  exact h
end
end

section
theorem cut_eq {c : Nat} : ∀ {t u r q : List Nat}, c ∉ t → c ∉ u → t ++ c :: r = u ++ c :: q → t = u ∧ r = q
  | [], [], r, q, _, _, e => by simpa using e
  | [], b :: u, r, q, _, h, e => by
    simp at e
    exact absurd (e.1 ▸ List.mem_cons_self) h
  | a :: t, [], r, q, h, _, e => by
    simp at e
    exact absurd (e.1 ▸ List.mem_cons_self) h
  | a :: t, b :: u, r, q, h, h', e => by
    simp only [List.cons_append, List.cons.injEq] at e
    obtain ⟨e1, e2⟩ := cut_eq (fun m => h (.tail _ m)) (fun m => h' (.tail _ m)) e.2
    exact ⟨by rw [e.1, e1], e2⟩
theorem join_cons2 (sep t u : Str) (r : List Str) : (Str.join sep (t :: u :: r)).cps.toList = t.cps.toList ++ (sep.cps.toList ++ (Str.join sep (u :: r)).cps.toList) := by
  show (t ++ sep ++ Str.join sep (u :: r)).cps.toList = _
  rw [PySem.Str.cps_append, PySem.Str.cps_append, Array.toList_append, Array.toList_append, List.append_assoc]
theorem str_ext {a b : Str} (h : a.cps.toList = b.cps.toList) : a = b := PySem.Str.ext' (Array.toList_inj.mp h)
theorem join_inj {c : Nat} : ∀ {ts us : List Str}, ts ≠ [] → us ≠ [] → (∀ t ∈ ts, c ∉ t.cps.toList) → (∀ t ∈ us, c ∉ t.cps.toList) → Str.join ⟨#[c]⟩ ts = Str.join ⟨#[c]⟩ us → ts = us
  | [], _, h, _, _, _, _ => absurd rfl h
  | _ :: _, [], _, h, _, _, _ => absurd rfl h
  | [t], [u], _, _, _, _, e => by rw [show t = u from e]
  | [t], u :: v :: r, _, _, ht, _, e => by
    have e' := congrArg (fun x : Str => x.cps.toList) e
    simp only [join_cons2] at e'
    have : c ∈ t.cps.toList := by
      rw [show t.cps.toList = _ from e']
      simp
    exact absurd this (ht t (.head _))
  | t :: v :: r, [u], _, _, _, hu, e => by
    have e' := congrArg (fun x : Str => x.cps.toList) e
    simp only [join_cons2] at e'
    have : c ∈ u.cps.toList := by
      rw [← show _ = u.cps.toList from e']
      simp
    exact absurd this (hu u (.head _))
  | t :: v :: r, u :: w :: q, _, _, ht, hu, e => by
    have e' := congrArg (fun x : Str => x.cps.toList) e
    simp only [join_cons2] at e'
    obtain ⟨e1, e2⟩ := cut_eq (c := c) (ht t (.head _)) (hu u (.head _)) (by simpa using e')
    have := join_inj (ts := v :: r) (us := w :: q) (List.cons_ne_nil _ _) (List.cons_ne_nil _ _) (fun t m => ht t (.tail _ m)) (fun t m => hu t (.tail _ m)) (str_ext e2)
    rw [str_ext e1, this]
theorem split_ne (x y : Str) : Txt.split x y ≠ [] := by
  unfold Txt.split
  split
  · exact List.cons_ne_nil _ _
  · split
    · exact List.cons_ne_nil _ _
    · rw [StrLaws.partsBetween_eq]
      obtain ⟨p, r, e⟩ := StrLaws.partsFrom_ne x y.length 0 (Builtin.Str.occurrences x y 0 x.length (x.length + 1))
      rw [e]
      exact List.cons_ne_nil _ _
theorem nl_eq : Str.ofString "\n" = ⟨#[10]⟩ := by decide +kernel
theorem split_join {ts : List Str} (hne : ts ≠ []) (h : ∀ t ∈ ts, 10 ∉ t.cps.toList) : Txt.split (Txt.join "\n" ts) "\n" = ts := by
  rw [txt_join, nl_eq]
  exact join_inj (c := 10) (split_ne _ _) hne (StrLaws.split_free _ 10) h (StrLaws.join_split _ _)
end

section
theorem two_eq : (Str.ofString "  ").cps = #[32, 32] := by decide +kernel
theorem mul_list (k : Nat) : (Txt.mul "  " (k : Int)).cps.toList = List.replicate (2 * k) 32 := by
  have l2 : (Str.ofString "  ").length = 2 := by decide +kernel
  unfold Txt.mul
  split
  · have : k = 0 := by omega
    subst this; rfl
  · split
    · rename_i h1 h2
      rw [l2] at h2
      have : k = 1 := by
        simp at h2; omega
      subst this
      rw [two_eq]; rfl
    · show ((List.replicate (k : Int).toNat (Str.ofString "  ").cps).foldl (· ++ ·) #[]).toList = _
      rw [two_eq]
      have : ∀ (n : Nat) (acc : Array Nat), ((List.replicate n #[32, 32]).foldl (· ++ ·) acc).toList = acc.toList ++ List.replicate (2 * n) 32 := by
        intro n
        induction n with
        | zero => intro acc; simp
        | succ n ih =>
          intro acc
          rw [List.replicate_succ, List.foldl_cons, ih, Array.toList_append, List.append_assoc]
          congr 1
      rw [this]; simp
theorem ind_list (k : Nat) (t : Str) : (ind k t).cps.toList = List.replicate (2 * k) 32 ++ t.cps.toList := by
  unfold ind
  rw [PySem.Str.cps_append, Array.toList_append, mul_list]
theorem ind_length (k : Nat) (t : Str) : (ind k t).length = 2 * k + t.length := by
  have := congrArg List.length (ind_list k t)
  simpa [PySem.Str.length] using this
theorem takeWhile_rep {p : Nat → Bool} {c : Nat} (hc : p c = true) : ∀ (n : Nat) (l : List Nat), (∀ a, l.head? = some a → p a = false) → ((List.replicate n c ++ l).takeWhile p).length = n
  | 0, l, h => by
    cases l with
    | nil => rfl
    | cons a l => rw [List.replicate_zero, List.nil_append, List.takeWhile_cons, h a rfl]; rfl
  | n + 1, l, h => by
    rw [List.replicate_succ, List.cons_append, List.takeWhile_cons, hc]
    simp only [if_true, List.length_cons]
    rw [takeWhile_rep hc n l h]
theorem lstrip_ind {k : Nat} {t : Str} (h : t.cps.toList.head? ≠ some 32) : Txt.lstripChars (ind k t) " " = t := by
  unfold Txt.lstripChars
  rw [PyProof.Rows.stripBy_eq]
  have hlo : PySem.stripLo (Str.ofString " ").cps.contains true (ind k t) = 2 * k := by
    simp only [PySem.stripLo, if_true]
    rw [ind_list]
    refine takeWhile_rep (by decide +kernel) _ _ fun a e => ?_
    have : a ≠ 32 := fun z => h (z ▸ e)
    rw [show (Str.ofString " ").cps = #[32] from by decide +kernel]
    simp [this]
  rw [hlo]
  have hhi : PySem.stripHi (Str.ofString " ").cps.contains false (ind k t) (2 * k) = (ind k t).length := by
    simp [PySem.stripHi, PySem.Str.length]
  rw [hhi]
  refine str_ext ?_
  rw [StrLaws.strSub_toList, ind_list, ind_length, List.drop_append_of_le_length (by simp)]
  simp [PySem.Str.length]
  exact StrLaws.take_all t
end

section
section
open PySem.StrLaws PySem.Builtin.Str
variable {s : Str} {limit : Nat}
theorem run_cons {i : Nat} {l : List Nat} {st st' : SwSt} (h : swBody s limit i st = pure (ForInStep.yield st')) : forIn (i :: l) st (swBody s limit) = forIn l st' (swBody s limit) := by
  rw [List.forIn_cons, h]; rfl
theorem st_begin {i : Nat} {ws : Array (Nat × Nat)} (hz : ws.size < limit) (hc : Unicode.isSpace (s.cps.getD i 0) = false) : swBody s limit i (none, ws, none) = pure (ForInStep.yield (none, ws, some i)) := by
  unfold swBody
  have : (ws.size == limit) = false := by simp; omega
  simp only [this, hc, Bool.false_eq_true, if_false]
theorem st_on {i b : Nat} {ws : Array (Nat × Nat)} (hz : ws.size < limit) (hc : Unicode.isSpace (s.cps.getD i 0) = false) : swBody s limit i (none, ws, some b) = pure (ForInStep.yield (none, ws, some b)) := by
  unfold swBody
  have : (ws.size == limit) = false := by simp; omega
  simp only [this, hc, Bool.false_eq_true, if_false]
theorem st_end {i b : Nat} {ws : Array (Nat × Nat)} (hz : ws.size < limit) (hc : Unicode.isSpace (s.cps.getD i 0) = true) : swBody s limit i (none, ws, some b) = pure (ForInStep.yield (none, ws.push (b, i), none)) := by
  unfold swBody
  have : (ws.size == limit) = false := by simp; omega
  simp only [this, hc, Bool.false_eq_true, if_false]
theorem run_on {b : Nat} {ws : Array (Nat × Nat)} (hz : ws.size < limit) : ∀ (m cur : Nat) (l : List Nat), (∀ k, cur ≤ k → k < cur + m → Unicode.isSpace (s.cps.getD k 0) = false) → forIn (List.range' cur m ++ l) ((none, ws, some b) : SwSt) (swBody s limit) = forIn l ((none, ws, some b) : SwSt) (swBody s limit)
  | 0, cur, l, _ => rfl
  | m + 1, cur, l, h => by
    rw [List.range'_succ, List.cons_append, run_cons (st_on hz (h cur (Nat.le_refl _) (by omega)))]
    exact run_on hz m (cur + 1) l fun k h1 h2 => h k (by omega) (by omega)
def spans : List Str → Nat → List (Nat × Nat)
  | [], _ => []
  | t :: r, cur => (cur, cur + t.length) :: spans r (cur + t.length + 1)
theorem getD_drop {cur j : Nat} {l : List Nat} (h : s.cps.toList.drop cur = l) : s.cps.getD (cur + j) 0 = l.getD j 0 := by
  rw [← h, ← PyProof.Rows.getD_list]
  simp [List.getD]
theorem run_toks : ∀ (toks : List Str) (cur : Nat) (ws : Array (Nat × Nat)), toks ≠ [] → (∀ t ∈ toks, t.cps.toList ≠ [] ∧ ∀ c ∈ t.cps.toList, Unicode.isSpace c = false) → s.cps.toList.drop cur = (Str.join " " toks).cps.toList → ws.size + toks.length < limit →
    swEnd s (forIn (List.range' cur (s.length - cur)) ((none, ws, none) : SwSt) (swBody s limit)).run = ws.toList ++ spans toks cur
  | [], _, _, h, _, _, _ => absurd rfl h
  | [t], cur, ws, _, ht, hd, hz => by
    obtain ⟨ne, ns⟩ := ht t (.head _)
    have hd' : s.cps.toList.drop cur = t.cps.toList := hd
    have hl : s.length - cur = t.length := by
      have := congrArg List.length hd'
      simpa [PySem.Str.length] using this
    have hp : 0 < t.length := by
      have := List.length_pos_iff.mpr ne
      simpa [PySem.Str.length] using this
    simp only [List.length_cons, List.length_nil] at hz
    have sp : ∀ k, cur ≤ k → k < cur + t.length → Unicode.isSpace (s.cps.getD k 0) = false := fun k h1 h2 => by
      have := getD_drop (j := k - cur) hd'
      rw [show cur + (k - cur) = k from by omega] at this
      rw [this]
      have lt : k - cur < t.cps.toList.length := by simp [PySem.Str.length] at h2 ⊢; omega
      rw [List.getD_eq_getElem?_getD, List.getElem?_eq_getElem lt]
      exact ns _ (List.getElem_mem lt)
    rw [hl]
    obtain ⟨m, hm⟩ : ∃ m, t.length = m + 1 := ⟨t.length - 1, by omega⟩
    rw [hm, List.range'_succ, run_cons (st_begin (by omega) (sp cur (Nat.le_refl _) (by omega)))]
    have := run_on (s := s) (limit := limit) (b := cur) (ws := ws) (by omega) m (cur + 1) [] fun k h1 h2 => sp k (by omega) (by omega)
    rw [List.append_nil] at this
    rw [this]
    show (ws.push (cur, s.length)).toList = _
    have e : s.length = cur + t.length := by omega
    rw [e]
    simp [spans]
  | t :: u :: r, cur, ws, _, ht, hd, hz => by
    obtain ⟨ne, ns⟩ := ht t (.head _)
    rw [join_cons2, show (Str.ofString " ").cps.toList = [32] from by decide +kernel] at hd
    have hl : s.length - cur = t.length + 1 + (s.length - (cur + t.length + 1)) := by
      have := congrArg List.length hd
      simp [PySem.Str.length] at this ⊢
      omega
    have hp : 0 < t.length := by
      have := List.length_pos_iff.mpr ne
      simpa [PySem.Str.length] using this
    simp only [List.length_cons] at hz
    have sp : ∀ k, cur ≤ k → k < cur + t.length → Unicode.isSpace (s.cps.getD k 0) = false := fun k h1 h2 => by
      have := getD_drop (j := k - cur) hd
      rw [show cur + (k - cur) = k from by omega] at this
      rw [this]
      have lt : k - cur < t.cps.toList.length := by simp [PySem.Str.length] at h2 ⊢; omega
      rw [List.getD_eq_getElem?_getD, List.getElem?_append_left lt, List.getElem?_eq_getElem lt]
      exact ns _ (List.getElem_mem lt)
    have sq : Unicode.isSpace (s.cps.getD (cur + t.length) 0) = true := by
      rw [getD_drop (j := t.length) hd, List.getD_eq_getElem?_getD, List.getElem?_append_right (by simp [PySem.Str.length])]
      simp [PySem.Str.length]
      decide +kernel
    have hd2 : s.cps.toList.drop (cur + t.length + 1) = (Str.join " " (u :: r)).cps.toList := by
      have := congrArg (List.drop (t.length + 1)) hd
      rw [List.drop_drop] at this
      rw [show cur + t.length + 1 = cur + (t.length + 1) from by omega, this]
      simp [PySem.Str.length, List.drop_append]
    have ih := run_toks (u :: r) (cur + t.length + 1) (ws.push (cur, cur + t.length)) (List.cons_ne_nil _ _) (fun v m => ht v (.tail _ m)) hd2 (by simp; omega)
    rw [hl, ← List.range'_append_1]
    obtain ⟨m, hm⟩ : ∃ m, t.length = m + 1 := ⟨t.length - 1, by omega⟩
    have e1 : List.range' cur (t.length + 1) = cur :: (List.range' (cur + 1) m ++ [cur + t.length]) := by
      rw [hm, List.range'_succ, List.range'_1_concat]
      simp; omega
    rw [e1, List.cons_append, run_cons (st_begin (by omega) (sp cur (Nat.le_refl _) (by omega))), List.append_assoc, run_on (by omega) m (cur + 1) _ fun k h1 h2 => sp k (by omega) (by omega), List.cons_append, List.nil_append,
      run_cons (st_end (by omega) sq)]
    rw [show cur + (t.length + 1) = cur + t.length + 1 from by omega]
    rw [ih]
    simp [spans]
end
end

section
theorem spans_sub {s : Str} : ∀ (toks : List Str) (cur : Nat), toks ≠ [] → s.cps.toList.drop cur = (Str.join " " toks).cps.toList → (spans toks cur).map (fun p : Nat × Nat => Builtin.Str.strSub s p.1 p.2) = toks
  | [], _, h, _ => absurd rfl h
  | [t], cur, _, hd => by
    have hd' : s.cps.toList.drop cur = t.cps.toList := hd
    simp only [spans, List.map_cons, List.map_nil]
    congr 1
    refine str_ext ?_
    rw [StrLaws.strSub_toList, hd']
    simp [PySem.Str.length]
    exact StrLaws.take_all t
  | t :: u :: r, cur, _, hd => by
    rw [join_cons2, show (Str.ofString " ").cps.toList = [32] from by decide +kernel] at hd
    have hd2 : s.cps.toList.drop (cur + t.length + 1) = (Str.join " " (u :: r)).cps.toList := by
      have := congrArg (List.drop (t.length + 1)) hd
      rw [List.drop_drop] at this
      rw [show cur + t.length + 1 = cur + (t.length + 1) from by omega, this]
      simp [PySem.Str.length, List.drop_append]
    have ih := spans_sub (u :: r) (cur + t.length + 1) (List.cons_ne_nil _ _) hd2
    rw [show spans (t :: u :: r) cur = (cur, cur + t.length) :: spans (u :: r) (cur + t.length + 1) from rfl, List.map_cons, ih]
    congr 1
    refine str_ext ?_
    rw [StrLaws.strSub_toList, hd]
    simp [PySem.Str.length]
    try rw [List.take_append_of_le_length (by simp)]
    try exact StrLaws.take_all t
theorem words_join {toks : List Str} (ne : toks ≠ []) (ht : ∀ t ∈ toks, t.cps.toList ≠ [] ∧ ∀ c ∈ t.cps.toList, Unicode.isSpace c = false) : Txt.words (Txt.join " " toks) = toks := by
  rw [txt_join]
  have hl : toks.length < (Str.join " " toks).length + 1 + 1 := by
    have h1 : toks.length ≤ (toks.map (·.length)).sum := by
      clear ne
      induction toks with
      | nil => simp
      | cons t r ih =>
        have := ih fun u m => ht u (.tail _ m)
        have hp : 0 < t.length := by
          have := List.length_pos_iff.mpr (ht t (.head _)).1
          simpa [PySem.Str.length] using this
        simp
        omega
    cases toks with
    | nil => exact absurd rfl ne
    | cons t r =>
      rw [PyProof.Rows.len_join_cons]
      omega
  have hl2 : toks.length < (Str.join " " toks).length + 1 := by
    have h1 : toks.length ≤ (toks.map (·.length)).sum := by
      clear ne hl
      induction toks with
      | nil => simp
      | cons t r ih =>
        have := ih fun u m => ht u (.tail _ m)
        have hp : 0 < t.length := by
          have := List.length_pos_iff.mpr (ht t (.head _)).1
          simpa [PySem.Str.length] using this
        simp
        omega
    cases toks with
    | nil => exact absurd rfl ne
    | cons t r =>
      rw [PyProof.Rows.len_join_cons]
      omega
  have hs : Builtin.Str.spaceWords (Str.join " " toks) ((Str.join " " toks).length + 1) = spans toks 0 := by
    rw [StrLaws.sw_eq]
    have := run_toks (s := Str.join " " toks) (limit := (Str.join " " toks).length + 1) toks 0 #[] ne ht (by simp) (by simpa using hl2)
    rw [Nat.sub_zero] at this
    rw [this]; simp
  have hm := spans_sub (s := Str.join " " toks) toks 0 ne (by simp)
  unfold Txt.words
  rw [hs]
  split
  · rename_i e
    rw [beq_iff_eq] at e
    rw [e] at hm
    refine Eq.trans ?_ hm
    rw [List.map_cons, List.map_nil]
    congr 1
    exact (StrLaws.sub_whole _).symm
  · unfold PySem.wordsOf
    rw [hs]
    exact hm
end

section
def rowPV (r : Nat × Str) : PV := .tup [.int r.1, .str r.2]
def bxC (rows : List (Nat × Str)) (p : Nat) : Cell := .dct ["rows", "at"] [.list (rows.map rowPV), .int p]
section
variable {g : Gx} {σ : List Cell} {Q : PV → List Cell → Prop} {j p : Nat} {rows : List (Nat × Str)}
theorem VC.next {r : Nat × Str} (hj : j < σ.length) (hr : rows[p]? = some r) (hp : p < 100000) (h : Q (rowPV r) (σ.set j (bxC rows (p + 1)))) : VC g.g 1 (fun vs => call (.ref 370) vs) [.cell j] (σ.set j (bxC rows p)) Q := by
  refine VC.fn (fn_next g.w.params) rfl ?_
  walk_at "pv begin"
  refine EX.set_dct ?_
  walk_at "pva"
  refine GI.dct (at_i hj) rfl ?_
  walk_at "pva"
  refine ⟨j, _, _, _, 1, rfl, at_i hj, rfl, by decide +kernel, rfl, by simp, rfl, ?_⟩
  rw [List.set_set]
  have e2 : (σ.set j (Cell.dct [("rows" : Str), "at"] ([PV.list (rows.map rowPV), PV.int p].set 1 (.int ((p : Int) + 1))))) = σ.set j (bxC rows (p + 1)) := rfl
  rw [e2]
  walk_at "pva"
  refine GI.dct (at_i hj) rfl ?_
  walk_at "pva"
  refine GI.dct (at_i hj) rfl ?_
  walk_at "pva"
  rw [show (((p + 1 : Nat) : Int) - 1) = (p : Int) from by omega]
  refine GI.list (by omega) (by omega) (x := rowPV r) (by rw [List.getElem?_map, Int.toNat_natCast, hr]; rfl) ?_
  exact h
end
end

section
def isAt (rows : List (Nat × Str)) (p : Nat) (k : Nat) (head : Str) : Bool := match rows[p]? with
  | none => false
  | some r => (r.1 : Int) == (k : Int) && Txt.slice r.2 none (some (head.length : Int)) == head
section
variable {g : Gx} {σ : List Cell} {Q : PV → List Cell → Prop} {j p k : Nat} {rows : List (Nat × Str)}
theorem VC.is_at {head : Str} (hj : j < σ.length) (hp : p ≤ rows.length) (hl : rows.length ≤ 90000) (hh : head.length ≤ 100) (ht : ∀ r ∈ rows, r.2.length ≤ 1000) (h : Q (.bool (isAt rows p k head)) (σ.set j (bxC rows p))) :
    VC g.g 1 (fun vs => call (.ref 377) vs) [.cell j, .int k, .str head] (σ.set j (bxC rows p)) Q := by
  refine VC.fn (fn_is_at g.w.params) rfl ?_
  walk_at "pv begin"
  walk_at "pva"
  refine GI.dct (at_i hj) rfl ?_
  walk_at "pva"
  refine GI.dct (at_i hj) rfl ?_
  walk_at "pva"
  refine VC.len_list (by simp; omega) ?_
  walk_at "pva"
  rw [List.length_map]
  unfold isAt at h
  by_cases e : p = rows.length
  · subst e
    rw [List.getElem?_eq_none (Nat.le_refl _)] at h
    rw [show (((rows.length : Nat) : Int) == ((rows.length : Nat) : Int)) = true from by simp]
    walk_at "pva"
    exact h
  · have lt : p < rows.length := by omega
    have e' : (((p : Nat) : Int) == ((rows.length : Nat) : Int)) = false := by
      rw [beq_eq_false_iff_ne]; omega
    rw [e']
    rw [List.getElem?_eq_getElem lt] at h
    have hm : rows[p] ∈ rows := List.getElem_mem lt
    walk_at "pva"
    refine GI.dct (at_i hj) rfl ?_
    walk_at "pva"
    refine GI.dct (at_i hj) rfl ?_
    refine GI.list (by omega) (by omega) (x := rowPV rows[p]) (by rw [List.getElem?_map, Int.toNat_natCast, List.getElem?_eq_getElem lt]; rfl) ?_
    generalize rows[p] = r at *
    obtain ⟨k', t⟩ := r
    unfold rowPV
    walk_at "pva"
    refine EV.and ?_
    walk_at "pva"
    by_cases ek : ((k' : Int) == (k : Int)) = true
    · rw [ek]
      walk_at "pva"
      refine EV.bool1 ?_
      walk_at "pva"
      refine EV.slice_str ?_
      walk_at "pva"
      refine ⟨_, rfl, by have : t.length ≤ 1000 := ht _ hm; show t.length ≤ _; omega, ?_⟩
      walk_at "pva"
      refine VC.len_str (by omega) ?_
      refine ⟨_, rfl, ?_⟩
      walk_at "pva"
      simp only [ek, Bool.true_and] at h
      exact h
    · rw [Bool.not_eq_true] at ek
      rw [ek]
      walk_at "pva"
      simp only [ek, Bool.false_and] at h
      exact h
end
end

section
def tail1 (x : Str) : Str := Txt.slice x (some 1) none
def rdCh (x : Str) : Bool := Txt.item x 0 == "#"
def rdInt (x : Str) : Bool := Txt.contains "0123456789" (Txt.item x 0) || (Txt.item x 0 == "-" && tail1 x != "")
/-- what the reader makes of a word -/
inductive Rd (x : Str) : PV → Prop
  | ch {c : Nat} : rdCh x = true → PySem.intText? (tail1 x) = some (c : Int) → c < 1000000 → Rd x (.tup [.str "lit", .str "char", .str ⟨#[c]⟩])
  | int {n : Int} : rdCh x = false → rdInt x = true → PySem.intText? x = some n → Rd x (.tup [.str "lit", .str "int", .int n])
  | nm : rdCh x = false → rdInt x = false → Rd x (.tup [.str "name", .str x])
theorem slice_le (x : Str) : (tail1 x).length ≤ x.length + 1 ∨ True := .inr trivial
section
variable {g : Gx} {σ : List Cell} {Q : PV → List Cell → Prop}
theorem VC.read_atom {x : Str} {pv : PV} (h0 : (Txt.charAt x 0).isSome = true) (hl : x.length ≤ 100) (hl2 : (tail1 x).length ≤ 100) (rd : Rd x pv) (h : Q pv σ) : VC g.g 1 (fun vs => call (.ref 363) vs) [.str x] σ Q := by
  refine VC.fn (fn_read_atom g.w.params) rfl ?_
  walk_at "pv begin"
  walk_at "pva"
  refine GI.str (by decide +kernel) h0 ?_
  walk_at "pva"
  cases rd with
  | @ch c r1 r2 r3 =>
    rw [show (Txt.item x 0 == Str.ofString "#") = true from r1]
    walk_at "pva"
    refine EV.slice_str ?_
    walk_at "pva"
    refine ⟨_, rfl, by omega, ?_⟩
    walk_at "pva"
    refine ⟨_, rfl, ?_⟩
    walk_at "pva"
    refine VC.int_str r2 (Nat.le_trans hl2 (by decide)) ?_
    walk_at "pva"
    refine VC.chr (by simp; omega) ?_
    walk_at "pva"
    rw [Int.toNat_natCast]
    exact h
  | @int n r1 r2 r3 =>
    rw [show (Txt.item x 0 == Str.ofString "#") = false from r1]
    walk_at "pva"
    refine GI.str (by decide +kernel) h0 ?_
    walk_at "pva"
    unfold rdInt at r2
    by_cases e : Txt.contains "0123456789" (Txt.item x 0) = true
    · rw [e]
      walk_at "pva"
      exact VC.int_str r3 (by omega) (by walk_at "pva"; exact h)
    · rw [Bool.not_eq_true] at e
      rw [e]
      rw [e, Bool.false_or, Bool.and_eq_true] at r2
      walk_at "pva"
      refine GI.str (by decide +kernel) h0 ?_
      walk_at "pva"
      rw [r2.1]
      walk_at "pva"
      refine EV.slice_str ?_
      walk_at "pva"
      refine ⟨_, rfl, by omega, ?_⟩
      walk_at "pva"
      refine ⟨_, rfl, ?_⟩
      walk_at "pva"
      rw [show (Txt.slice x (some 1) none != Str.ofString "") = true from r2.2]
      walk_at "pva"
      exact VC.int_str r3 (by omega) (by walk_at "pva"; exact h)
  | nm r1 r2 =>
    rw [show (Txt.item x 0 == Str.ofString "#") = false from r1]
    walk_at "pva"
    refine GI.str (by decide +kernel) h0 ?_
    walk_at "pva"
    unfold rdInt at r2
    rw [Bool.or_eq_false_iff] at r2
    rw [r2.1]
    walk_at "pva"
    refine GI.str (by decide +kernel) h0 ?_
    walk_at "pva"
    by_cases e : (Txt.item x 0 == Str.ofString "-") = true
    · have q := r2.2
      rw [e, Bool.true_and] at q
      rw [e]
      walk_at "pva"
      refine EV.slice_str ?_
      walk_at "pva"
      refine ⟨_, rfl, by omega, ?_⟩
      walk_at "pva"
      refine ⟨_, rfl, ?_⟩
      walk_at "pva"
      rw [show (Txt.slice x (some 1) none != Str.ofString "") = false from q]
      walk_at "pva"
      exact h
    · rw [Bool.not_eq_true] at e
      rw [e]
      walk_at "pva"
      exact h
end
def rdNm (x : Str) : Bool := !rdCh x && !rdInt x && (Txt.charAt x 0).isSome && decide ((tail1 x).length ≤ 100)
theorem rd_nms : ∀ x ∈ nms, rdNm x = true := by decide +kernel
theorem rd_lits : ∀ i : Fin 41, rdCh (litS ((i : Nat) - 20)) = false ∧ rdInt (litS ((i : Nat) - 20)) = true ∧ PySem.intText? (litS ((i : Nat) - 20)) = some (((i : Nat) : Int) - 20) ∧ (Txt.charAt (litS ((i : Nat) - 20)) 0).isSome = true ∧ (tail1 (litS ((i : Nat) - 20))).length ≤ 100 := by decide +kernel
theorem rd_chs : ∀ x ∈ chs, rdCh (chS x) = true ∧ PySem.intText? (tail1 (chS x)) = some ((ordOf x : Nat) : Int) ∧ (Txt.charAt (chS x) 0).isSome = true ∧ (tail1 (chS x)).length ≤ 100 := by decide +kernel
theorem At.rd {a : At} (h : a.ok) : Rd a.txt a.pv ∧ (Txt.charAt a.txt 0).isSome = true ∧ (tail1 a.txt).length ≤ 100 := by
  cases a with
  | nm x =>
    have q := rd_nms x h
    unfold rdNm at q
    simp only [Bool.and_eq_true, Bool.not_eq_true', decide_eq_true_eq] at q
    exact ⟨.nm q.1.1.1 q.1.1.2, q.1.2, q.2⟩
  | li n =>
    have q := rd_lits ⟨(n + 20).toNat, by have := h.1; have := h.2; omega⟩
    have e : (((n + 20).toNat : Nat) : Int) - 20 = n := by have := h.1; omega
    simp only [e] at q
    exact ⟨.int q.1 q.2.1 q.2.2.1, q.2.2.2.1, q.2.2.2.2⟩
  | ch x =>
    have q := rd_chs x h
    have o := ch_one x h
    have r := Rd.ch q.1 q.2.1 o.2
    rw [← o.1] at r
    exact ⟨r, q.2.2.1, q.2.2.2⟩
end

section
theorem fz_set {σ : List Cell} {a : Cell} : (σ ++ [a]).set σ.length .dead = σ ++ [.dead] := set_last
section
variable {G : Gc} {d : Nat} {csc : Scope} {σ : List Cell} {Qn : List (Str × PV) → List Cell → Prop} {Qr : PV → List Cell → Prop} {body rest : List Stmt} {ρ : List (Str × PV)}
theorem LoopL.rws {x : Str} {p : Pos} (hx : csc.names.lookup x = some .local) (hρ : ρ.lookup x = .none)
    (step : ∀ (r : Nat × Str) (done : List (Nat × Str)), GT r.2 → r.1 ≤ 20 → done.length + 1 ≤ 1000 → ∀ Qn' : List (Str × PV) → List Cell → Prop, (∀ ρ'', Sup ρ'' ρ → Qn' ρ'' (σ ++ [.lst ((done ++ [r]).map rowPV)])) →
      EX G d csc body ((x, .str (ind r.1 r.2)) :: ρ) (σ ++ [.lst (done.map rowPV)]) Qn' Qr) :
    ∀ (rs done : List (Nat × Str)) (ρ' : List (Str × PV)), (∀ r ∈ rs, GT r.2 ∧ r.1 ≤ 20) → Sup ρ' ρ → done.length + rs.length ≤ 1000 → EX G d csc rest ρ (σ ++ [.lst ((done ++ rs).map rowPV)]) Qn Qr →
      LoopL G d csc (.Name x p) body rest Qn Qr (rs.map ((fun y => PV.str y) ∘ fun r : Nat × Str => ind r.1 r.2)) ρ' (σ ++ [.lst (done.map rowPV)])
  | [], done, ρ', _, s, _, h => by
    rw [List.append_nil] at h
    exact h.less s
  | r :: rs, done, ρ', o, s, hl, h => by
    simp only [List.length_cons] at hl
    refine ⟨_, .name hx, EX.less (step r done (o r (.head _)).1 (o r (.head _)).2 (by omega) _ fun ρ'' s'' => ?_) (s.cons _)⟩
    refine LoopL.rws hx hρ step rs (done ++ [r]) ρ'' (fun q m => o q (.tail _ m)) s'' (by simp; omega) ?_
    rw [List.append_assoc]
    exact h
end
section
variable {g : Gx} {σ : List Cell} {Q : PV → List Cell → Prop}
theorem VC.box {lo hi B : Nat} {rs : List (Nat × Str)} (ro : RowsOk lo hi B rs) (ne : rs ≠ []) (h1 : hi ≤ 20) (h2 : B ≤ 600) (h : Q (.cell (σ ++ [Cell.dead]).length) ((σ ++ [Cell.dead]) ++ [bxC rs 0])) : VC g.g 1 (fun vs => call (.ref 403) vs) [.str (txtOf rs)] σ Q := by
  refine VC.fn (fn_box g.w.params) rfl ?_
  walk_at "pv begin"
  refine EX.assign ?_ (.inl rfl)
  refine EV.list0 ?_
  refine EX.for ?_
  walk_at "pva"
  refine VC.split1 (by decide +kernel) (txt_rows_len ro h1 h2) ?_
  unfold txtOf
  rw [split_join (by simpa using ne) (fun t mt => by
    obtain ⟨r, mr, rfl⟩ := List.mem_map.mp mt
    intro m
    rw [ind_list] at m
    rcases List.mem_append.mp m with m | m
    · have := List.eq_of_mem_replicate m
      cases this
    · exact (ro.2 r mr).2.2.nl m)]
  refine ⟨_, .inl rfl, ?_⟩
  rw [List.map_map]
  rw [show σ ++ [Cell.lst []] = σ ++ [Cell.lst (([] : List (Nat × Str)).map rowPV)] from rfl]
  refine LoopL.rws (ρ := (("rows" : Str), .cell σ.length) :: (["text"] : List Str).zip [.str (txtOf rs)]) rfl rfl (fun r done gr hk hl Qn' h' => ?_) rs [] _ (fun r m => ⟨(ro.2 r m).2.2, by have := (ro.2 r m).2.1; omega⟩) (fun _ _ e => e) (by have := ro.1; simp; omega) ?_
  · obtain ⟨k, t⟩ := r
    have gl : (ind k t).length = 2 * k + t.length := ind_length k t
    have tl : t.length ≤ 100 := gr.len
    change EX _ _ _ _ ((_, .str (ind k t)) :: _) _ _ _
    have e0 : (σ ++ [Cell.lst (done.map rowPV)])[σ.length]? = some (.lst (done.map rowPV)) := by simp
    simp only at hk
    walk_at "pva"
    refine VC.lstrip (by show (ind k t).length ≤ _; omega) ?_
    rw [show Txt.lstripChars (ind k t) " " = t from lstrip_ind gr.hd]
    walk_at "pva"
    refine ⟨_, .append e0, .builtin _, ?_⟩
    walk_at "pva"
    refine VC.len_str (by omega) ?_
    walk_at "pva"
    refine VC.len_str (by omega) ?_
    walk_at "pva"
    refine VC.fmod (by decide) ?_
    walk_at "pva"
    rw [show ((((ind k t).length : Nat) : Int) - ((t.length : Nat) : Int)) = 2 * (k : Int) from by omega]
    rw [show ((2 * (k : Int)).fmod 2 == 0) = true from by rw [Int.fmod_eq_emod_of_nonneg _ (by decide)]; simp]
    walk_at "pva"
    refine VC.len_str (by omega) ?_
    walk_at "pva"
    refine VC.len_str (by omega) ?_
    walk_at "pva"
    rw [show ((((ind k t).length : Nat) : Int) - ((t.length : Nat) : Int)) = 2 * (k : Int) from by omega]
    refine VC.fdiv (by decide) (byPylong_of (by decide)) ?_
    rw [show (2 * (k : Int)).fdiv 2 = (k : Int) from by rw [Int.fdiv_eq_ediv_of_nonneg _ (by decide)]; omega]
    walk_at "pva"
    refine VC.append e0 (by simp; omega) ?_
    refine ⟨rfl, ?_⟩
    refine EX.nil ?_
    rw [set_last]
    refine (?_ : Qn' _ (σ ++ [Cell.lst (done.map rowPV ++ [rowPV (k, t)])]))
    rw [← show (done ++ [(k, t)]).map rowPV = done.map rowPV ++ [rowPV (k, t)] from by simp]
    exact h' _ fun y pv e => by
      rw [lookup_cons, if_neg, lookup_cons, if_neg]
      · exact e
      · rintro rfl; cases e
      · rintro rfl; cases e
  · walk_at "pva"
    refine EV.dict2c (by decide +kernel) ?_
    refine EV.freeze rfl (i := σ.length) (xs := rs.map rowPV) (by simp) ?_
    walk_at "pva"
    rw [List.nil_append, fz_set]
    exact h
end
end

section
theorem pick_tail {x : PV} : ∀ {xs : List PV}, xs.length ≤ 3 → pickP (x :: xs) (some 1) none = xs
  | [], _ => rfl
  | [a], _ => (congrArg (List.filterMap fun i => [x, a][i]?) (show sliceRange (sliceBounds (some 1) none Option.none 2).1 (sliceBounds (some 1) none Option.none 2).2.1 (sliceBounds (some 1) none Option.none 2).2.2 = [1] from by decide +kernel)).trans rfl
  | [a, b], _ => (congrArg (List.filterMap fun i => [x, a, b][i]?) (show sliceRange (sliceBounds (some 1) none Option.none 3).1 (sliceBounds (some 1) none Option.none 3).2.1 (sliceBounds (some 1) none Option.none 3).2.2 = [1, 2] from by decide +kernel)).trans rfl
  | [a, b, c], _ => (congrArg (List.filterMap fun i => [x, a, b, c][i]?) (show sliceRange (sliceBounds (some 1) none Option.none 4).1 (sliceBounds (some 1) none Option.none 4).2.1 (sliceBounds (some 1) none Option.none 4).2.2 = [1, 2, 3] from by decide +kernel)).trans rfl
  | _ :: _ :: _ :: _ :: _, h => by simp at h
theorem words_word {t : Str} (h : wordb t = true) : Txt.words t = [t] := by
  have := words_join (toks := [t]) (List.cons_ne_nil _ _) fun u m => by
    rw [List.mem_singleton.mp m]
    exact ⟨word_ne h, fun c m => (word_nl h c m).2⟩
  rw [txt_join] at this
  exact this
theorem key_words : ∀ c ∈ cnss, ∀ fs ∈ fds, Txt.words ((Ky.con c).txt fs) = c :: fs := by decide +kernel
theorem lit_not : ∀ i : Fin 41, (cnss.any fun z => z == litS ((i : Nat) - 20)) = false := by decide +kernel
theorem ch_not : ∀ x ∈ chs, (cnss.any fun z => z == chS x) = false := by decide +kernel
theorem con_in : ∀ c ∈ cnss, (cnss.any fun z => z == c) = true := by decide +kernel
theorem kch_ch : ∀ x ∈ kchs, x ∈ chs := by decide +kernel
section
variable {g : Gx} {σ : List Cell} {Q : PV → List Cell → Prop}
theorem read_key_lit {a : At} {t : Str} (ha : a.ok) (e : t = a.txt) (hn : (cnss.any fun z => z == a.txt) = false) (h : Q (.list [a.pv, .list []]) σ) : VC g.g 2 (fun vs => call (.ref 391) vs) [.str t] σ Q := by
  subst e
  have wl := At.len ha
  obtain ⟨r1, r2, r3⟩ := At.rd ha
  refine VC.fn (fn_read_key g.w.params) rfl ?_
  walk_at "pv begin"
  walk_at "pva"
  refine VC.split0 (by omega) ?_
  rw [words_word (At.word ha)]
  walk_at "pva"
  refine VC.notin_list (ys := cnss) ?_
  rw [hn, show (!false) = true from rfl]
  walk_at "pva"
  refine VC.le (d' := 1) (VC.read_atom r2 (by omega) r3 r1 ?_) (by decide)
  walk_at "pva"
  refine EV.slice_list ?_
  walk_at "pva"
  refine ⟨_, rfl, by simp, ?_⟩
  walk_at "pva"
  refine ⟨_, rfl, ?_⟩
  walk_at "pva"
  exact h
theorem VC.read_key {k : Ky} {fs : List Str} (o : k.ok fs) (h : Q (.list [k.pv, .list (fs.map PV.str)]) σ) : VC g.g 2 (fun vs => call (.ref 391) vs) [.str (k.txt fs)] σ Q := by
  cases k with
  | con c =>
    have kl := key_len o
    have fl := (fs_len fs o.2).1
    refine VC.fn (fn_read_key g.w.params) rfl ?_
    walk_at "pv begin"
    walk_at "pva"
    refine VC.split0 (by omega) ?_
    rw [key_words c o.1 fs o.2]
    walk_at "pva"
    refine VC.notin_list (ys := cnss) ?_
    rw [con_in c o.1, show (!true) = false from rfl]
    walk_at "pva"
    refine EV.slice_list ?_
    walk_at "pva"
    refine ⟨_, rfl, by simp; omega, ?_⟩
    walk_at "pva"
    refine ⟨_, rfl, ?_⟩
    walk_at "pva"
    rw [List.map_cons, pick_tail (by simp; omega)]
    exact h
  | li n =>
    obtain ⟨o1, o2, rfl⟩ := o
    refine read_key_lit (a := .li n) (by unfold At.ok; omega) rfl ?_ h
    have q := lit_not ⟨(n + 20).toNat, by omega⟩
    have e : (((n + 20).toNat : Nat) : Int) - 20 = n := by omega
    simp only [e] at q
    exact q
  | ch x =>
    obtain ⟨o1, rfl⟩ := o
    exact read_key_lit (a := .ch x) (kch_ch x o1) rfl (ch_not x (kch_ch x o1)) h
end
end

section
def arr (u : Bool) : Str := if u then "\\u" else "\\n"
def hd1 (fr ps : List Str) (u : Bool) : Str := Txt.join " " fr ++ "} " ++ arr u ++ " {" ++ Txt.join " " ps ++ "} ->"
def hd2 (ps : List Str) (u : Bool) : Str := arr u ++ " {" ++ Txt.join " " ps ++ "} ->"
def hd3 (ps : List Str) : Str := Txt.join " " ps ++ "} ->"
theorem cut1 : ∀ name ∈ nmss, ∀ fr ∈ frs, ∀ ps ∈ pss, ∀ u : Bool, Txt.split (clHead name fr ps u) " = {" = [name, hd1 fr ps u] ∧ (clHead name fr ps u).length ≤ 100 := by decide +kernel
theorem cut2 : ∀ fr ∈ frs, ∀ ps ∈ pss, ∀ u : Bool, Txt.splitMax (hd1 fr ps u) "} " 1 = [Txt.join " " fr, hd2 ps u] ∧ (hd1 fr ps u).length ≤ 100 ∧ Txt.words (Txt.join " " fr) = fr ∧ (Txt.join " " fr).length ≤ 100 := by decide +kernel
theorem cut3 : ∀ ps ∈ pss, ∀ u : Bool, Txt.split (hd2 ps u) " {" = [arr u, hd3 ps] ∧ (hd2 ps u).length ≤ 100 ∧ Txt.split (hd3 ps) "}" = [Txt.join " " ps, " ->"] ∧ (hd3 ps).length ≤ 100 ∧ Txt.words (Txt.join " " ps) = ps ∧ (Txt.join " " ps).length ≤ 100 := by decide +kernel
end

section
def BoxOk (rows : List (Nat × Str)) : Prop := rows.length ≤ 5000 ∧ ∀ r ∈ rows, GT r.2
def Reads (g : Gx) (n k : Nat) : Prop := ∀ (t : Tr), t.ok n → ∀ (σ : List Cell) (Q : PV → List Cell → Prop) (j kk p : Nat) (rows rest : List (Nat × Str)), j < σ.length → rows.drop p = t.rows kk ++ rest → (∀ r, rest.head? = some r → r.1 < kk) → BoxOk rows →
  (∀ ds : List Cell, Q t.pv ((σ ++ ds).set j (bxC rows (p + (t.rows kk).length)))) → VC g.g k (fun vs => call (.ref 396) vs) [.cell j, .int kk] (σ.set j (bxC rows p)) Q
theorem drop_here {α : Type} {l r : List α} {p : Nat} {a : α} (h : l.drop p = a :: r) : l[p]? = some a ∧ l.drop (p + 1) = r ∧ p < l.length := by
  have h1 : l[p]? = some a := by
    have := congrArg (·[0]?) h
    simpa using this
  refine ⟨h1, ?_, (List.getElem?_eq_some_iff.mp h1).1⟩
  have := congrArg (List.drop 1) h
  rw [List.drop_drop] at this
  simpa using this
section
variable {g : Gx} {σ : List Cell} {Q : PV → List Cell → Prop} {j n k kk p : Nat} {rows rest : List (Nat × Str)}
theorem VC.read_closure (N : Reads g n k) (hk : 2 ≤ k) {c : Cl} {name : Str} (o : c.ok n) (hn : name ∈ nmss) (hj : j < σ.length) (hd : rows.drop p = c.rows name kk ++ rest) (hr : ∀ r, rest.head? = some r → r.1 < kk + 1) (bo : BoxOk rows)
    (h : ∀ ds : List Cell, Q (.tup [.str name, c.pv]) ((σ ++ ds).set j (bxC rows (p + (c.rows name kk).length)))) : VC g.g (k + 1) (fun vs => call (.ref 384) vs) [.cell j, .int kk] (σ.set j (bxC rows p)) Q := by
  cases c with
  | mk fr ps b u =>
    simp only [Cl.ok] at o
    simp only [Cl.rows, List.length_cons, List.cons_append] at hd h
    simp only [Cl.pv] at h
    obtain ⟨d1, d2, d3⟩ := drop_here hd
    obtain ⟨a1, a2⟩ := cut1 name hn fr o.1 ps o.2.1 u
    obtain ⟨b1, b2, b3, b4⟩ := cut2 fr o.1 ps o.2.1 u
    obtain ⟨c1, c2, c3, c4, c5, c6⟩ := cut3 ps o.2.1 u
    refine VC.fn (fn_read_closure g.w.params) rfl ?_
    walk_at "pv begin"
    walk_at "pva"
    refine VC.le (d' := 1) (VC.next hj d1 (by have := bo.1; omega) ?_) (by omega)
    unfold rowPV
    walk_at "pva"
    refine EX.unpack (ns := ["first", "rest"]) ?_ rfl (by decide +kernel)
    walk_at "pva"
    refine VC.split1 (by decide +kernel) (by show (clHead name fr ps u).length ≤ _; omega) ?_
    rw [a1]
    refine ⟨_, .list _, rfl, ?_⟩
    refine EX.unpack (ns := ["captured", "rest"]) ?_ rfl (by decide +kernel)
    walk_at "pva"
    refine VC.split2 (by decide +kernel) (by decide) (by omega) ?_
    rw [b1]
    refine ⟨_, .list _, rfl, ?_⟩
    refine EX.unpack (ns := ["mark", "rest"]) ?_ rfl (by decide +kernel)
    walk_at "pva"
    refine VC.split1 (by decide +kernel) (by omega) ?_
    rw [c1]
    refine ⟨_, .list _, rfl, ?_⟩
    walk_at "pva"
    refine VC.notin_list (ys := ["\\u", "\\n"]) ?_
    rw [show (!((["\\u", "\\n"] : List Str).any fun z => z == arr u)) = false from by cases u <;> decide +kernel]
    walk_at "pva"
    refine EV.slice_list ?_
    walk_at "pva"
    refine VC.split1 (by decide +kernel) (by omega) ?_
    rw [c3]
    refine ⟨_, rfl, by simp, ?_⟩
    walk_at "pva"
    refine ⟨_, rfl, ?_⟩
    walk_at "pva"
    rw [List.map_cons, pick_tail (by simp), List.map_cons, List.map_nil]
    have f1 : Fit 1 (.list [PV.str (Str.ofString " ->")]) := .list (.cons (.str (by decide +kernel)) .nil)
    refine VC.ne_fit f1 f1 (by decide) (by decide) ?_
    rw [show (!(pd (.list [PV.str (Str.ofString " ->")])).eqv (pd (.list [PV.str (Str.ofString " ->")]))) = false from by simp [pd, pds, PyData.eqv, PyData.eqvAll]]
    walk_at "pva"
    refine VC.split1 (by decide +kernel) (by omega) ?_
    rw [c3]
    walk_at "pva"
    rw [show ((kk : Int) + 1) = ((kk + 1 : Nat) : Int) from by omega]
    refine N b o.2.2 σ _ j (kk + 1) (p + 1) rows rest hj d2 hr bo fun ds => ?_
    walk_at "pva"
    refine VC.split0 (by omega) ?_
    rw [b3]
    walk_at "pva"
    refine VC.split0 (by omega) ?_
    rw [c5]
    walk_at "pva"
    rw [show (arr u == Str.ofString "\\u") = u from by cases u <;> decide +kernel, show p + 1 + (b.rows (kk + 1)).length = p + ((b.rows (kk + 1)).length + 1) from by omega]
    exact h ds
end
end

section
theorem eqv_strs : ∀ l m : List Str, PyData.eqvAll (pds (l.map PV.str)) (pds (m.map PV.str)) = (l == m)
  | [], [] => by simp [pds, PyData.eqvAll]
  | [], _ :: _ => by simp [pds, PyData.eqvAll]
  | _ :: _, [] => by simp [pds, PyData.eqvAll]
  | a :: l, b :: m => by
    simp only [List.map_cons, pds, PyData.eqvAll, pd, PyData.eqv, eqv_strs l m]
    rfl
theorem VC.eq_strs {G : Gc} {d : Nat} {σ : List Cell} {Q : PV → List Cell → Prop} {l m : List Str} (hl : ∀ x ∈ l, PyData.strOk x = true) (hm : ∀ x ∈ m, PyData.strOk x = true) (h : Q (.bool (l == m)) σ) : VC G d (cmp2 .Eq) [.list (l.map PV.str), .list (m.map PV.str)] σ Q := by
  refine VC.eq_fit (n := 1) (m := 1) (.list (.strs hl)) (.list (.strs hm)) (by decide) (by decide) ?_
  simp only [pd, PyData.eqv, eqv_strs]
  exact h
end

section
section
variable {g : Gx} {σ : List Cell} {Q : PV → List Cell → Prop} {Qn : List (Str × PV) → List Cell → Prop} {j d kk p : Nat} {rows rest : List (Nat × Str)}
abbrev rdEnv (j kk : Nat) (t : Str) (toks : List Str) : List (Str × PV) := (("words" : Str), .list (toks.map PV.str)) :: (("here" : Str), .tup [.int kk, .str t]) :: (["box", "indent"] : List Str).zip [.cell j, .int kk]
theorem read_pre {t : Str} {toks : List Str} (hd : 1 ≤ d) (hj : j < σ.length) (hr : rows[p]? = some (kk, t)) (hp : p < 90000) (ht : t.length ≤ 1000) (hw : Txt.words t = toks)
    (next : EX g.g d (scAt g.w.params 396) ((bodyAt g.w.params 396).drop 3) (rdEnv j kk t toks) (σ.set j (bxC rows (p + 1))) Qn Q) :
    EX g.g d (scAt g.w.params 396) (bodyAt g.w.params 396) ((["box", "indent"] : List Str).zip [.cell j, .int kk]) (σ.set j (bxC rows p)) Qn Q := by
  walk_at "pv begin"
  walk_at "pva"
  refine VC.le (d' := 1) (VC.next hj hr (by omega) ?_) (by omega)
  unfold rowPV
  walk_at "pva"
  rw [show (((kk : Nat) : Int) != ((kk : Nat) : Int)) = false from by simp]
  walk_at "pv"
  refine EX.nil ?_
  refine EX.assign ?_ (.inl rfl)
  walk_at "pva"
  refine VC.split0 (by show t.length ≤ _; omega) ?_
  rw [hw]
  exact next
end
end

section
section
variable {g : Gx} {σ : List Cell} {Q : PV → List Cell → Prop} {Qn : List (Str × PV) → List Cell → Prop} {j d kk p : Nat} {rows rest : List (Nat × Str)}
/-- neither a let nor a case -/
theorem read_plain {t w : Str} {toks : List Str} (hs : ∀ x ∈ (w :: toks), PyData.strOk x = true) (h1 : ((w :: toks) == ([("let" : Str)] : List Str)) = false) (h2 : (w == ("case" : Str)) = false)
    (next : EX g.g d (scAt g.w.params 396) ((bodyAt g.w.params 396).drop 5) (rdEnv j kk t (w :: toks)) σ Qn Q) : EX g.g d (scAt g.w.params 396) ((bodyAt g.w.params 396).drop 3) (rdEnv j kk t (w :: toks)) σ Qn Q := by
  walk_at "pv begin"
  walk_at "pva"
  refine VC.eq_strs hs (m := ["let"]) (by decide +kernel) ?_
  rw [h1]
  walk_at "pva"
  rw [h2]
  walk_at "pv"
  exact EX.nil next
theorem comp_words {G : Gc} {csc : Scope} {elt tt : Expr} {ρ : List (Str × PV)} {Q' : PV → List Cell → Prop} (as : List At) (step : ∀ a, At.ok a → ∀ Q'' : PV → List Cell → Prop, Q'' a.pv σ → ∃ ρ1, BindT csc σ ρ tt (.str a.txt) ρ1 ∧ EV G d csc elt ρ1 σ Q'') (ha : ∀ a ∈ as, a.ok) (h : Q' (.list (as.map At.pv)) σ) :
    CompL G d csc tt elt ρ Q' ((as.map At.txt).map PV.str) [] σ := by
  rw [List.map_map]
  exact CompL.mapL (f := PV.str ∘ At.txt) (r := At.pv) (P := At.ok) step as [] ha h
theorem pick_two_on {x y : PV} : ∀ {xs : List PV}, xs.length ≤ 3 → pickP (x :: y :: xs) (some 2) none = xs
  | [], _ => rfl
  | [a], _ => (congrArg (List.filterMap fun i => [x, y, a][i]?) (show sliceRange (sliceBounds (some 2) none Option.none 3).1 (sliceBounds (some 2) none Option.none 3).2.1 (sliceBounds (some 2) none Option.none 3).2.2 = [2] from by decide +kernel)).trans rfl
  | [a, b], _ => (congrArg (List.filterMap fun i => [x, y, a, b][i]?) (show sliceRange (sliceBounds (some 2) none Option.none 4).1 (sliceBounds (some 2) none Option.none 4).2.1 (sliceBounds (some 2) none Option.none 4).2.2 = [2, 3] from by decide +kernel)).trans rfl
  | [a, b, c], _ => (congrArg (List.filterMap fun i => [x, y, a, b, c][i]?) (show sliceRange (sliceBounds (some 2) none Option.none 5).1 (sliceBounds (some 2) none Option.none 5).2.1 (sliceBounds (some 2) none Option.none 5).2.2 = [2, 3, 4] from by decide +kernel)).trans rfl
  | _ :: _ :: _ :: _ :: _, h => by simp at h
/-- con and prim -/
theorem read_con {t w c : Str} {as : List At} (hd : 1 ≤ d) (ha : ∀ a ∈ as, a.ok) (hl : as.length ≤ 3) (hw : w = ("con" : Str) ∨ w = ("prim" : Str)) (h : Q (.tup [.str w, .str c, .list (as.map At.pv)]) σ) :
    EX g.g d (scAt g.w.params 396) ((bodyAt g.w.params 396).drop 5) (rdEnv j kk t (w :: c :: as.map At.txt)) σ Qn Q := by
  walk_at "pv begin"
  walk_at "pva"
  refine VC.in_list (ys := ["con", "prim"]) ?_
  rw [show (([("con" : Str), "prim"] : List Str).any fun z => z == w) = true from by rcases hw with rfl | rfl <;> decide +kernel]
  walk_at "pva"
  refine EV.comp ?_ rfl
  refine EV.slice_list ?_
  walk_at "pva"
  refine ⟨_, rfl, by simp; omega, ?_⟩
  walk_at "pva"
  refine ⟨_, rfl, ?_⟩
  walk_at "pva"
  rw [List.map_cons, List.map_cons, pick_two_on (by simp; omega)]
  refine ⟨_, .inl rfl, by simp; omega, ?_⟩
  refine comp_words as (fun a ao Q'' hq => ⟨_, .name rfl, ?_⟩) ha ?_
  · walk_at "pva"
    obtain ⟨r1, r2, r3⟩ := At.rd ao
    exact VC.le (d' := 1) (VC.read_atom r2 (by have := At.len ao; omega) r3 r1 hq) hd
  walk_at "pva"
  exact h
/-- a call -/
theorem read_app {t f : Str} {as : List At} (hd : 1 ≤ d) (ha : ∀ a ∈ as, a.ok) (h1 : 1 ≤ as.length) (hl : as.length ≤ 3) (hw : (([("con" : Str), "prim"] : List Str).any fun z => z == f) = false) (h : Q (.tup [.str "app", .str f, .list (as.map At.pv)]) σ) :
    EX g.g d (scAt g.w.params 396) ((bodyAt g.w.params 396).drop 5) (rdEnv j kk t (f :: as.map At.txt)) σ Qn Q := by
  walk_at "pv begin"
  walk_at "pva"
  refine VC.in_list (ys := ["con", "prim"]) ?_
  rw [hw]
  walk_at "pva"
  refine VC.len_list (by simp; omega) ?_
  walk_at "pva"
  rw [show (((List.map PV.str (f :: as.map At.txt)).length : Int) == 1) = false from by simp; omega]
  walk_at "pva"
  refine EV.comp ?_ rfl
  refine EV.slice_list ?_
  walk_at "pva"
  refine ⟨_, rfl, by simp; omega, ?_⟩
  walk_at "pva"
  refine ⟨_, rfl, ?_⟩
  walk_at "pva"
  rw [List.map_cons, pick_tail (by simp; omega)]
  refine ⟨_, .inl rfl, by simp; omega, ?_⟩
  refine comp_words as (fun a ao Q'' hq => ⟨_, .name rfl, ?_⟩) ha ?_
  · walk_at "pva"
    obtain ⟨r1, r2, r3⟩ := At.rd ao
    exact VC.le (d' := 1) (VC.read_atom r2 (by have := At.len ao; omega) r3 r1 hq) hd
  walk_at "pva"
  exact h
/-- one atom -/
theorem read_atom_row {t : Str} {a : At} (hd : 1 ≤ d) (ha : a.ok) (hw : (([("con" : Str), "prim"] : List Str).any fun z => z == a.txt) = false) (h : Q (.tup [.str "atom", a.pv]) σ) :
    EX g.g d (scAt g.w.params 396) ((bodyAt g.w.params 396).drop 5) (rdEnv j kk t [a.txt]) σ Qn Q := by
  walk_at "pv begin"
  walk_at "pva"
  refine VC.in_list (ys := ["con", "prim"]) ?_
  rw [hw]
  walk_at "pva"
  refine VC.len_list (by simp) ?_
  walk_at "pva"
  rw [show (((List.map PV.str [a.txt]).length : Int) == 1) = true from by simp]
  walk_at "pva"
  obtain ⟨r1, r2, r3⟩ := At.rd ha
  refine VC.le (d' := 1) (VC.read_atom r2 (by have := At.len ha; omega) r3 r1 ?_) hd
  walk_at "pva"
  exact h
end
end

section
theorem Sup.refl {ρ : List (Str × PV)} : Sup ρ ρ := fun _ _ e => e
theorem Sup.more {ρ' ρ : List (Str × PV)} {y : Str} {v : PV} (h : ρ.lookup y = .none) (s : Sup ρ' ρ) : Sup ((y, v) :: ρ') ρ := fun x pv e => by
  rw [lookup_cons, if_neg]
  · exact s x pv e
  · rintro rfl; rw [h] at e; cases e
theorem BV.less {G : Gc} {d : Nat} {sc : Scope} {e : Expr} {ρ ρ' : List (Str × PV)} {σ : List Cell} {Q : Bool → List Cell → Prop} (h : BV G d sc e ρ σ Q) (s : Sup ρ' ρ) : BV G d sc e ρ' σ Q :=
  fun A env Y as st QQ E hA hE R L f => h A env Y as st QQ E hA hE R (L.sub s) f
section
variable {σ ds : List Cell} {c c' X X' : Cell} {j : Nat}
theorem stL_at (hj : j < σ.length) : ((σ ++ c :: ds).set j X)[σ.length]? = some c := by
  rw [List.getElem?_set_ne (by omega)]; simp
theorem stL_set (hj : j < σ.length) : ((σ ++ c :: ds).set j X).set σ.length c' = (σ ++ c' :: ds).set j X := by
  rw [List.set_comm _ _ (by omega)]; congr 1; simp
theorem stL_new (hj : j < σ.length) : σ.set j X ++ ds = (σ ++ ds).set j X := by rw [List.set_append_left _ _ hj]
theorem stL_len (hj : j < σ.length) : (σ.set j X).length = σ.length := List.length_set
theorem stL_lt (hj : j < σ.length) : j < (σ ++ ds).length := by simp; omega
end
theorem isAt_cons {rows l : List (Nat × Str)} {p k k' : Nat} {t head : Str} (h : rows.drop p = (k', t) :: l) : isAt rows p k head = ((k' : Int) == (k : Int) && Txt.slice t none (some (head.length : Int)) == head) := by
  unfold isAt
  rw [(drop_here h).1]
theorem isAt_nil {rows : List (Nat × Str)} {p k : Nat} {head : Str} (h : rows.drop p = []) : isAt rows p k head = false := by
  unfold isAt
  rw [List.getElem?_eq_none (by simpa using h)]
theorem isAt_off {rows l : List (Nat × Str)} {p k : Nat} {head : Str} (hd : rows.drop p = l) (h : ∀ r, l.head? = some r → r.1 ≠ k) : isAt rows p k head = false := by
  cases l with
  | nil => exact isAt_nil hd
  | cons r l =>
    obtain ⟨k', t⟩ := r
    rw [isAt_cons hd]
    have : ((k' : Int) == (k : Int)) = false := by
      have := h (k', t) rfl
      simp only at this
      rw [beq_eq_false_iff_ne]; omega
    rw [this, Bool.false_and]
theorem drop_on {α : Type} {l a b : List α} {p : Nat} (h : l.drop p = a ++ b) : l.drop (p + a.length) = b := by
  have := congrArg (List.drop a.length) h
  rw [List.drop_drop, List.drop_left] at this
  exact this
theorem Cl.rows_head {c : Cl} {name : Str} {kk : Nat} {r : Nat × Str} {l : List (Nat × Str)} (h : (c.rows name kk ++ l).head? = some r) : r.1 = kk := by
  cases c with
  | mk fr ps b u =>
    simp only [Cl.rows, List.cons_append, List.head?_cons, Option.some.injEq] at h
    rw [← h]
section
variable {g : Gx} {σ : List Cell} {Q : PV → List Cell → Prop} {Qn : List (Str × PV) → List Cell → Prop} {j n k kk p : Nat} {rows rest : List (Nat × Str)}
/-- a let -/
theorem read_let (N : Reads g n k) (hk : 2 ≤ k) {b : Bds} {t : Tr} (o1 : b.len ≤ 2) (o2 : b.ok n) (o3 : t.ok n) (hj : j < σ.length) (hd : rows.drop p = b.rows 0 (kk + 1) ++ ((kk, ("in" : Str)) :: (t.rows kk ++ rest)))
    (hr : ∀ r, rest.head? = some r → r.1 < kk) (bo : BoxOk rows)
    (h : ∀ ds : List Cell, Q (.tup [.str "let", .list (b.pvs 0), t.pv]) ((σ ++ ds).set j (bxC rows (p + ((b.rows 0 (kk + 1)).length + (1 + (t.rows kk).length)))))) :
    EX g.g (k + 1) (scAt g.w.params 396) ((bodyAt g.w.params 396).drop 3) (rdEnv j kk "let" ["let"]) (σ.set j (bxC rows p)) Qn Q := by
  walk_at "pv begin"
  walk_at "pva"
  refine VC.eq_strs (l := ["let"]) (m := ["let"]) (by decide +kernel) (by decide +kernel) ?_
  rw [show (([("let" : Str)] : List Str) == ([("let" : Str)] : List Str)) = true from by decide +kernel]
  walk_at "pv"
  walk_at "pv"
  refine EX.assign ?_ (.inl rfl)
  refine EV.list0 ?_
  rw [stL_len hj, stL_new hj]
  refine EX.while (fun m ρ' σ' => ∃ (bs : Bds) (i : Nat) (done : List PV) (ds : List Cell) (q : Nat), m = bs.len ∧ Sup ρ' ((("binds" : Str), .cell σ.length) :: rdEnv j kk "let" ["let"]) ∧ σ' = (σ ++ .lst done :: ds).set j (bxC rows q) ∧
    rows.drop q = bs.rows i (kk + 1) ++ ((kk, ("in" : Str)) :: (t.rows kk ++ rest)) ∧ bs.ok n ∧ i + bs.len ≤ 2 ∧ done.length ≤ i ∧ done ++ bs.pvs i = b.pvs 0 ∧ q + (bs.rows i (kk + 1)).length = p + (b.rows 0 (kk + 1)).length)
    (fun m ρ' σ' hJ => ?_) b.len ⟨b, 0, [], [], p, rfl, Sup.refl, rfl, hd, o2, by omega, by simp, rfl, rfl⟩
  obtain ⟨bs, i, done, ds, q, rfl, sup, rfl, hq, ok, hi, hdn, hpv, hlen⟩ := hJ
  have hql : q ≤ rows.length := by
    by_cases z : q ≤ rows.length
    · exact z
    · rw [List.drop_eq_nil_of_le (by omega)] at hq
      have := congrArg List.length hq
      simp at this
  have hB := bo.1
  refine BV.less ?_ sup
  walk_at "pva"
  refine VC.le (d' := 1) (VC.is_at (stL_lt hj) hql (by omega) (by decide +kernel) (fun r m => Nat.le_trans (bo.2 r m).len (by decide)) ?_) (by omega)
  cases bs with
  | cons c r =>
    simp only [Bds.ok] at ok
    simp only [Bds.len] at hi ⊢
    simp only [Bds.rows, Bds.pvs, List.append_assoc, List.length_append] at hq hpv hlen
    rw [isAt_off hq fun r e => by rw [Cl.rows_head e]; omega]
    refine TC.bool ?_
    simp only [Bool.not_false, if_true]
    refine EX.less ?_ sup
    walk_at "pva"
    refine ⟨_, .append (stL_at hj), .builtin _, ?_⟩
    walk_at "pva"
    rw [show ((kk : Int) + 1) = ((kk + 1 : Nat) : Int) from by omega]
    refine VC.read_closure N hk ok.1 (name_mem (i := i) (by omega)) (stL_lt hj) hq (fun r' e => ?_) bo fun ds' => ?_
    · cases r with
      | nil => simp only [Bds.rows, List.nil_append, List.head?_cons, Option.some.injEq] at e; rw [← e]; show kk < _; omega
      | cons c2 r2 =>
        simp only [Bds.rows, List.append_assoc] at e
        rw [Cl.rows_head e]; omega
    walk_at "pva"
    rw [List.append_assoc, List.cons_append]
    refine VC.append (stL_at hj) (by omega) ?_
    refine ⟨rfl, ?_⟩
    refine EX.nil ?_
    rw [stL_set hj]
    exact ⟨r.len, by omega, r, i + 1, _, _, _, rfl, Sup.refl, rfl, drop_on hq, ok.2, by omega, by simp; omega, by rw [List.append_assoc]; exact hpv, by omega⟩
  | nil =>
    simp only [Bds.rows, List.nil_append, List.length_nil, Nat.add_zero] at hq hlen
    simp only [Bds.pvs, List.append_nil] at hpv
    obtain ⟨q1, q2, q3⟩ := drop_here hq
    rw [isAt_cons hq, show (((kk : Int) == (kk : Int)) && Txt.slice ("in" : Str) none (some ((Str.ofString "in").length : Int)) == ("in" : Str)) = true from by rw [beq_self_eq_true, Bool.true_and]; decide +kernel]
    refine TC.bool ?_
    simp only [Bool.not_true, if_false, Bool.false_eq_true]
    refine EX.less ?_ sup
    walk_at "pva"
    refine VC.le (d' := 1) (VC.next (stL_lt hj) q1 (by omega) ?_) (by omega)
    unfold rowPV
    walk_at "pva"
    have f1 : Fit 1 (.tup [PV.int (kk : Int), PV.str (Str.ofString "in")]) := .tup (.cons (.int _) (.cons (.str (by decide +kernel)) .nil))
    refine VC.ne_fit f1 f1 (by decide) (by decide) ?_
    rw [show (!(pd (.tup [PV.int (kk : Int), PV.str (Str.ofString "in")])).eqv (pd (.tup [PV.int (kk : Int), PV.str (Str.ofString "in")]))) = false from by simp [pd, pds, PyData.eqv, PyData.eqvAll]]
    walk_at "pv"
    walk_at "pv"
    refine EX.nil ?_
    refine EX.ret ?_
    refine EV.tuple ?_
    refine EVs.cons ?_
    refine EV.str ?_
    refine EVs.cons ?_
    refine EV.freeze rfl (stL_at hj) ?_
    rw [stL_set hj]
    walk_at "pva"
    refine VC.le (N t o3 _ _ j kk (q + 1) rows rest (stL_lt hj) q2 hr bo fun ds' => ?_) (by omega)
    walk_at "pva"
    rw [List.append_assoc, hpv, show q + 1 + (t.rows kk).length = p + ((b.rows 0 (kk + 1)).length + (1 + (t.rows kk).length)) from by omega]
    exact h _
end
end

section
theorem Sup.rot {a b c : Str} {u v w : PV} {ρ : List (Str × PV)} (hac : c ≠ a) (hbc : c ≠ b) : Sup ((a, u) :: (b, v) :: (c, w) :: ρ) ((c, w) :: (a, u) :: (b, v) :: ρ) := fun x pv e => by
  simp only [lookup_cons] at e ⊢
  by_cases h : x = c
  · subst h
    rw [if_neg hac, if_neg hbc, if_pos rfl]
    rw [if_pos rfl] at e
    exact e
  · rw [if_neg h] at e ⊢
    exact e
def rowK (k : Ky) (fs : List Str) : Str := "| " ++ k.txt fs ++ " ->"
def kgood (w t : Str) : Bool := (Txt.slice w none (some 2) == "| ") && (Txt.slice w (some (-3)) none == " ->") && (Txt.slice w (some 2) (some (-3)) == t) && !(t == "_") && decide (w.length ≤ 1000)
theorem kgood_con : ∀ c ∈ cnss, ∀ fs ∈ fds, kgood (rowK (.con c) fs) ((Ky.con c).txt fs) = true := by decide +kernel
theorem kgood_li : ∀ i : Fin 9, kgood (rowK (.li ((i : Nat) - 4)) []) ((Ky.li ((i : Nat) - 4)).txt []) = true := by decide +kernel
theorem kgood_ch : ∀ x ∈ kchs, kgood (rowK (.ch x) []) ((Ky.ch x).txt []) = true := by decide +kernel
theorem kgood_of {k : Ky} {fs : List Str} (o : k.ok fs) : kgood (rowK k fs) (k.txt fs) = true := by
  cases k with
  | con c => exact kgood_con c o.1 fs o.2
  | li n =>
    obtain ⟨o1, o2, rfl⟩ := o
    have := kgood_li ⟨(n + 4).toNat, by omega⟩
    have e : (((n + 4).toNat : Nat) : Int) - 4 = n := by omega
    simp only [e] at this
    exact this
  | ch x =>
    obtain ⟨o1, rfl⟩ := o
    exact kgood_ch x o1
theorem kgood_parts {w t : Str} (h : kgood w t = true) : Txt.slice w none (some 2) = "| " ∧ Txt.slice w (some (-3)) none = " ->" ∧ Txt.slice w (some 2) (some (-3)) = t ∧ (t == "_") = false ∧ w.length ≤ 1000 := by
  unfold kgood at h
  simp only [Bool.and_eq_true, decide_eq_true_eq, beq_iff_eq, Bool.not_eq_true'] at h
  exact ⟨h.1.1.1.1, h.1.1.1.2, h.1.1.2, h.1.2, h.2⟩
def Op.cnt : Op → Nat
  | .no => 0
  | .yes _ => 1
theorem alts_head {as : Als} {op : Op} {kk : Nat} {rest : List (Nat × Str)} (hr : ∀ r, rest.head? = some r → r.1 < kk) : ∀ r, (as.rows kk ++ (op.rows kk ++ rest)).head? = some r → r.1 < kk + 1 := fun r e => by
  cases as with
  | cons ky fs b as =>
    simp only [Als.rows, List.cons_append, List.head?_cons, Option.some.injEq] at e
    rw [← e]; exact Nat.lt_succ_self _
  | nil =>
    cases op with
    | yes t =>
      simp only [Als.rows, Op.rows, List.nil_append, List.cons_append, List.head?_cons, Option.some.injEq] at e
      rw [← e]; exact Nat.lt_succ_self _
    | no =>
      simp only [Als.rows, Op.rows, List.nil_append] at e
      exact Nat.lt_succ_of_lt (hr r e)
theorem rowPV_eq (k : Nat) (t : Str) : rowPV (k, t) = .tup [.int k, .str t] := rfl
theorem len_le {α : Type} {l a b : List α} {p : Nat} (h : l.drop p = a ++ b) (hp : p ≤ l.length) : p + a.length ≤ l.length := by
  have := congrArg List.length h
  simp only [List.length_drop, List.length_append] at this
  omega
theorem row_other : Txt.slice ("| _ ->" : Str) none (some ((Str.ofString "| ").length : Int)) = "| " ∧ Txt.slice ("| _ ->" : Str) (some (-3)) none = " ->" ∧ Txt.slice ("| _ ->" : Str) (some 2) (some (-3)) = "_" ∧ (Str.ofString "| _ ->").length ≤ 1000 := by decide +kernel
def caseT : Str := "case " ++ "v.4" ++ " of"
abbrev csEnv (j kk L : Nat) (v o : PV) : List (Str × PV) := (("other" : Str), o) :: (("value" : Str), v) :: (("alts" : Str), .cell L) :: rdEnv j kk caseT ["case", "v.4", "of"]
section
variable {g : Gx} {σ : List Cell} {Q : PV → List Cell → Prop} {Qn : List (Str × PV) → List Cell → Prop} {j n k kk p : Nat} {rows rest : List (Nat × Str)}
/-- the alternatives of a case -/
theorem read_alts (N : Reads g n k) (hk : 2 ≤ k) {v : PV} {as : Als} {op : Op} (o2 : as.len ≤ 2) (o3 : as.ok n) (o4 : op.ok n) (hj : j < σ.length) (hp : p ≤ rows.length) (hd : rows.drop p = as.rows kk ++ (op.rows kk ++ rest))
    (hr : ∀ r, rest.head? = some r → r.1 < kk) (bo : BoxOk rows)
    (h : ∀ ds : List Cell, Q (.tup [.str "case", v, .str "v.4", .list as.pvs, op.pv]) ((σ ++ ds).set j (bxC rows (p + ((as.rows kk).length + (op.rows kk).length))))) :
    EX g.g (k + 1) (scAt g.w.params 396) ((match (bodyAt g.w.params 396).drop 4 with | .If _ b _ _ :: _ => b | _ => []).drop 2) (csEnv j kk σ.length v .none) ((σ ++ [Cell.lst []]).set j (bxC rows p)) Qn Q := by
  walk_at "pv begin"
  refine EX.while (fun m ρ' σ' => ∃ (as' : Als) (op' : Op) (o : PV) (done : List PV) (ds : List Cell) (q : Nat), m = as'.len + op'.cnt ∧ Sup ρ' (csEnv j kk σ.length v o) ∧ σ' = (σ ++ .lst done :: ds).set j (bxC rows q) ∧ q ≤ rows.length ∧
    rows.drop q = as'.rows kk ++ (op'.rows kk ++ rest) ∧ as'.ok n ∧ op'.ok n ∧ done.length + as'.len ≤ 2 ∧ done ++ as'.pvs = as.pvs ∧ ((o = .none ∧ op' = op) ∨ (as' = .nil ∧ op' = .no ∧ o = op.pv)) ∧
    q + ((as'.rows kk).length + (op'.rows kk).length) = p + ((as.rows kk).length + (op.rows kk).length))
    (fun m ρ' σ' hJ => ?_) (as.len + op.cnt) ⟨as, op, .none, [], [], p, rfl, Sup.refl, rfl, hp, hd, o3, o4, by simp; omega, rfl, .inl ⟨rfl, rfl⟩, rfl⟩
  obtain ⟨as', op', o, done, ds, q, rfl, sup, rfl, hql, hq, ok1, ok2, hdn, hpv, hph, hlen⟩ := hJ
  have hB := bo.1
  refine BV.less ?_ sup
  walk_at "pva"
  refine VC.le (d' := 1) (VC.is_at (stL_lt hj) hql (by omega) (by decide +kernel) (fun r m => Nat.le_trans (bo.2 r m).len (by decide)) ?_) (by omega)
  cases as' with
  | cons ky fs b r =>
    obtain ⟨rfl, rfl⟩ : o = .none ∧ op' = op := by
      rcases hph with z | ⟨z, _⟩
      · exact z
      · cases z
    simp only [Als.ok] at ok1
    simp only [Als.len] at hdn ⊢
    simp only [Als.rows, Als.pvs, List.cons_append, List.append_assoc, List.length_append, List.length_cons] at hq hpv hlen
    obtain ⟨g1, g2, g3, g4, g5⟩ := kgood_parts (kgood_of ok1.1)
    unfold rowK at g1 g2 g3 g5
    obtain ⟨q1, q2, q3⟩ := drop_here hq
    rw [isAt_cons hq, show (((kk : Int) == (kk : Int)) && Txt.slice (Str.ofString "| " ++ ky.txt fs ++ Str.ofString " ->") none (some ((Str.ofString "| ").length : Int)) == ("| " : Str)) = true from by rw [beq_self_eq_true, Bool.true_and]; exact beq_iff_eq.mpr g1]
    walk_at "pva"
    rw [if_pos (show PV.none.isNone = true from rfl)]
    refine BV.and_nil ?_
    rw [if_pos rfl]
    refine EX.less ?_ sup
    walk_at "pva"
    refine VC.le (d' := 1) (VC.next (stL_lt hj) q1 (by omega) ?_) (by omega)
    rw [rowPV_eq]
    walk_at "pva"
    refine EV.slice_str ?_
    walk_at "pva"
    refine ⟨_, rfl, by omega, ?_⟩
    walk_at "pva"
    refine ⟨_, rfl, ?_⟩
    walk_at "pva"
    rw [g2, if_pos (by decide +kernel)]
    refine EV.slice_str ?_
    walk_at "pva"
    refine ⟨_, rfl, by omega, ?_⟩
    walk_at "pva"
    refine ⟨_, rfl, ?_⟩
    walk_at "pva"
    refine ⟨_, rfl, ?_⟩
    walk_at "pva"
    rw [g3]
    rw [g4, if_neg Bool.false_ne_true]
    refine EX.unpack (ns := ["key", "fields"]) ?_ rfl (by decide +kernel)
    walk_at "pva"
    refine VC.le (d' := 2) (VC.read_key ok1.1 ?_) (by omega)
    refine ⟨_, .list _, rfl, ?_⟩
    walk_at "pva"
    refine ⟨_, .append (stL_at hj), .builtin _, ?_⟩
    walk_at "pva"
    rw [show ((kk : Int) + 1) = ((kk + 1 : Nat) : Int) from by omega]
    refine VC.le (d' := k) (N b ok1.2.1 _ _ j (kk + 1) (q + 1) rows _ (stL_lt hj) q2 (alts_head hr) bo fun ds' => ?_) (by omega)
    walk_at "pva"
    rw [List.append_assoc, List.cons_append]
    refine VC.append (stL_at hj) (by omega) ?_
    refine ⟨rfl, ?_⟩
    refine EX.nil ?_
    refine EX.nil ?_
    rw [stL_set hj]
    exact ⟨r.len + op'.cnt, by omega, r, op', .none, _, _, _, rfl, .more rfl (.more rfl (.more rfl (.more rfl .refl))), rfl, len_le q2 (by omega), drop_on q2, ok1.2.2, ok2, by simp; omega, by rw [List.append_assoc]; exact hpv, .inl ⟨rfl, rfl⟩, by omega⟩
  | nil =>
    simp only [Als.rows, Als.pvs, List.nil_append, List.length_nil, Nat.zero_add, List.append_nil] at hq hpv hlen
    cases op' with
    | yes t =>
      obtain ⟨rfl, rfl⟩ : o = .none ∧ op = .yes t := by
        rcases hph with z | ⟨_, z, _⟩
        · exact ⟨z.1, z.2.symm⟩
        · cases z
      simp only [Op.rows, Op.ok, List.cons_append, List.length_cons] at hq ok2 hlen h
      obtain ⟨g1, g2, g3, g5⟩ := row_other
      obtain ⟨q1, q2, q3⟩ := drop_here hq
      rw [isAt_cons hq, show (((kk : Int) == (kk : Int)) && Txt.slice (Str.ofString "| _ ->") none (some ((Str.ofString "| ").length : Int)) == ("| " : Str)) = true from by rw [beq_self_eq_true, Bool.true_and]; exact beq_iff_eq.mpr g1]
      walk_at "pva"
      rw [if_pos (show PV.none.isNone = true from rfl)]
      refine BV.and_nil ?_
      rw [if_pos rfl]
      refine EX.less ?_ sup
      walk_at "pva"
      refine VC.le (d' := 1) (VC.next (stL_lt hj) q1 (by omega) ?_) (by omega)
      rw [rowPV_eq]
      walk_at "pva"
      refine EV.slice_str ?_
      walk_at "pva"
      refine ⟨_, rfl, by omega, ?_⟩
      walk_at "pva"
      refine ⟨_, rfl, ?_⟩
      walk_at "pva"
      rw [g2, if_pos (by decide +kernel)]
      refine EV.slice_str ?_
      walk_at "pva"
      refine ⟨_, rfl, by omega, ?_⟩
      walk_at "pva"
      refine ⟨_, rfl, ?_⟩
      walk_at "pva"
      refine ⟨_, rfl, ?_⟩
      walk_at "pva"
      rw [g3, if_pos (by decide +kernel)]
      walk_at "pva"
      rw [show ((kk : Int) + 1) = ((kk + 1 : Nat) : Int) from by omega]
      refine VC.le (d' := k) (N t ok2 _ _ j (kk + 1) (q + 1) rows _ (stL_lt hj) q2 (fun r e => Nat.lt_succ_of_lt (hr r e)) bo fun ds' => ?_) (by omega)
      refine EX.nil ?_
      refine EX.nil ?_
      rw [List.append_assoc, List.cons_append]
      exact ⟨0, by simp [Als.len, Op.cnt], .nil, .no, t.pv, done, _, _, rfl, .cons (.more rfl (.more rfl (Sup.more (v := .none) rfl .refl))) _, rfl, len_le q2 (by omega), drop_on q2, trivial, trivial, by omega, by simp only [Als.pvs, List.append_nil]; exact hpv, .inr ⟨rfl, rfl, rfl⟩, by simp [Als.rows, Op.rows]; omega⟩
    | no =>
      simp only [Op.rows, List.nil_append, List.length_nil, Nat.add_zero] at hq hlen
      have eo : o = op.pv := by
        rcases hph with ⟨z, y⟩ | ⟨_, _, z⟩
        · rw [z, ← y]; rfl
        · exact z
      rw [isAt_off hq fun r e => Nat.ne_of_lt (hr r e)]
      walk_at "pv"
      rw [if_neg Bool.false_ne_true, if_neg Bool.false_ne_true]
      refine EX.less ?_ sup
      refine EX.ret ?_
      refine EV.tuple ?_
      refine EVs.cons ?_
      refine EV.str ?_
      refine EVs.cons ?_
      refine EV.name rfl ?_
      refine EVs.cons ?_
      refine EV.sub ?_
      refine EV.name rfl ?_
      refine EV.int ?_
      refine GI.list (by decide) (by decide) rfl ?_
      refine EVs.cons ?_
      refine EV.freeze rfl (stL_at hj) ?_
      rw [stL_set hj]
      walk_at "pva"
      rw [hpv, eo, hlen]
      exact h _
end
end

section
section
variable {g : Gx} {σ : List Cell} {Q : PV → List Cell → Prop} {Qn : List (Str × PV) → List Cell → Prop} {j n k kk p : Nat} {rows rest : List (Nat × Str)}
/-- a case -/
theorem read_case (N : Reads g n k) (hk : 2 ≤ k) {e : Tr} {as : Als} {op : Op} (o1 : e.ok n) (o2 : as.len ≤ 2) (o3 : as.ok n) (o4 : op.ok n) (hj : j < σ.length) (hp : p ≤ rows.length) (hd : rows.drop p = e.rows (kk + 1) ++ (as.rows kk ++ (op.rows kk ++ rest)))
    (hr : ∀ r, rest.head? = some r → r.1 < kk) (bo : BoxOk rows)
    (h : ∀ ds : List Cell, Q (.tup [.str "case", e.pv, .str "v.4", .list as.pvs, op.pv]) ((σ ++ ds).set j (bxC rows (p + ((e.rows (kk + 1)).length + ((as.rows kk).length + (op.rows kk).length)))))) :
    EX g.g (k + 1) (scAt g.w.params 396) ((bodyAt g.w.params 396).drop 3) (rdEnv j kk caseT ["case", "v.4", "of"]) (σ.set j (bxC rows p)) Qn Q := by
  walk_at "pv begin"
  walk_at "pva"
  refine VC.eq_strs (l := ["case", "v.4", "of"]) (m := ["let"]) (by decide +kernel) (by decide +kernel) ?_
  rw [show (([("case" : Str), "v.4", "of"] : List Str) == ([("let" : Str)] : List Str)) = false from by decide +kernel]
  walk_at "pv"
  walk_at "pv"
  refine EX.nil ?_
  walk_at "pva"
  rw [if_pos (by decide +kernel)]
  walk_at "pva"
  refine VC.adds (by decide +kernel) ?_
  walk_at "pva"
  refine VC.adds (by decide +kernel) ?_
  walk_at "pva"
  rw [if_neg (by decide +kernel)]
  refine EX.nil ?_
  refine EX.swapped (ns := ["value", "alts", "other"]) ?_ (by decide +kernel) (by intro env h; unfold swappedStores Env.blockKind Env.kindOf; rw [h]; rfl)
  walk_at "pv"
  walk_at "pv"
  walk_at "pv"
  walk_at "pva"
  rw [show ((kk : Int) + 1) = ((kk + 1 : Nat) : Int) from by omega]
  refine VC.le (d' := k) (N e o1 _ _ j (kk + 1) p rows _ hj hd (alts_head hr) bo fun ds => ?_) (by omega)
  refine EVs.cons ?_
  refine EV.list0 ?_
  rw [stL_len (stL_lt hj), stL_new (stL_lt hj)]
  walk_at "pva"
  refine ⟨_, .tup _, rfl, ?_⟩
  refine EX.less (read_alts (σ := σ ++ ds) (v := e.pv) N hk o2 o3 o4 (stL_lt hj) (len_le hd hp) (drop_on hd) hr bo fun ds' => ?_) (Sup.rot (by decide +kernel) (by decide +kernel))
  rw [List.append_assoc, Nat.add_assoc]
  exact h _
end
theorem join_glue {a b x : Str} (hx : x = a ++ " " ++ b) : ∀ ts : List Str, Txt.join " " (x :: ts) = Txt.join " " (a :: b :: ts)
  | [] => by
    rw [txt_join, txt_join, hx]; rfl
  | t :: ts => by
    rw [txt_join, txt_join, hx]
    refine str_ext ?_
    rw [join_cons2, join_cons2, join_cons2]
    simp [PySem.Str.cps_append, List.append_assoc]
def wgood (w : Str) : Bool := wordb w && PyData.strOk w && !(w == "let") && !(w == "case") && !(([("con" : Str), "prim"] : List Str).any fun z => z == w)
theorem wgood_nm : ∀ x ∈ nms, wgood x = true := by decide +kernel
theorem wgood_li : ∀ i : Fin 41, wgood (litS ((i : Nat) - 20)) = true := by decide +kernel
theorem wgood_ch : ∀ x ∈ chs, wgood (chS x) = true := by decide +kernel
theorem wgood_fn : ∀ x ∈ fnns, wgood x = true := by decide +kernel
theorem wgood_cn : ∀ x ∈ cnss, wgood x = true ∧ ("con " : Str) ++ x = "con" ++ " " ++ x := by decide +kernel
theorem wgood_pr : ∀ x ∈ prms, wgood x = true ∧ ("prim " : Str) ++ x = "prim" ++ " " ++ x := by decide +kernel
theorem At.wgood {a : At} (h : a.ok) : wgood a.txt = true := by
  cases a with
  | nm x => exact wgood_nm x h
  | li n =>
    have := wgood_li ⟨(n + 20).toNat, by have := h.1; have := h.2; omega⟩
    have e : (((n + 20).toNat : Nat) : Int) - 20 = n := by have := h.1; omega
    simp only [e] at this
    exact this
  | ch x => exact wgood_ch x h
theorem wgood_parts {w : Str} (h : wgood w = true) : wordb w = true ∧ PyData.strOk w = true ∧ (w == "let") = false ∧ (w == "case") = false ∧ (([("con" : Str), "prim"] : List Str).any fun z => z == w) = false := by
  unfold wgood at h
  simp only [Bool.and_eq_true, Bool.not_eq_true'] at h
  exact ⟨h.1.1.1.1, h.1.1.1.2, h.1.1.2, h.1.2, h.2⟩
theorem words_toks {toks : List Str} (ne : toks ≠ []) (h : ∀ t ∈ toks, wordb t = true) : Txt.words (Txt.join " " toks) = toks := words_join ne fun t m => ⟨word_ne (h t m), fun c mc => (word_nl (h t m) c mc).2⟩
theorem wgood_as {as : List At} (ha : ∀ a ∈ as, a.ok) : ∀ t ∈ as.map At.txt, Mine.wgood t = true := fun t m => by
  obtain ⟨a, ma, rfl⟩ := List.mem_map.mp m
  exact At.wgood (ha a ma)
theorem let_not {w : Str} {toks : List Str} (h : (w == "let") = false) : ((w :: toks) == ([("let" : Str)] : List Str)) = false := by
  show ((w == "let") && (toks == [])) = false
  rw [h, Bool.false_and]
theorem case_words : Txt.words caseT = ([("case" : Str), "v.4", "of"] : List Str) := by decide +kernel
theorem let_words : Txt.words ("let" : Str) = ([("let" : Str)] : List Str) := by decide +kernel
end

section
theorem reads_nil {Q : PV → List Cell → Prop} {σ : List Cell} {X : Nat → Cell} {v : PV} {j a b : Nat} (h : ∀ ds : List Cell, Q v ((σ ++ ds).set j (X a))) (e : a = b) : Q v (σ.set j (X b)) := by
  have := h []
  rw [List.append_nil, e] at this
  exact this
theorem readsTr (g : Gx) : ∀ n : Nat, Reads g n (3 + 2 * n)
  | n => by
    intro t o σ Q j kk p rows rest hj hd hr bo h
    have N : ∀ m, n = m + 1 → Reads g m (3 + 2 * m) := fun m e => by subst e; exact readsTr g m
    have hB := bo.1
    rw [show 3 + 2 * n = (2 + 2 * n) + 1 from by omega]
    refine VC.fn (d := 2 + 2 * n) (fn_read g.w.params) rfl ?_
    cases t with
    | atom a =>
      simp only [Tr.rows, List.cons_append, List.nil_append, List.length_cons, List.length_nil, Tr.ok] at h hd o
      simp only [Tr.pv] at h
      obtain ⟨d1, d2, d3⟩ := drop_here hd
      obtain ⟨w1, w2, w3, w4, w5⟩ := wgood_parts (At.wgood o)
      refine read_pre (by omega) hj d1 (by omega) (by have := At.len o; omega) (words_word w1) ?_
      refine read_plain (w := a.txt) (toks := []) (fun x m => by rw [List.mem_singleton.mp m]; exact w2) (let_not w3) w4 ?_
      exact read_atom_row (by omega) o w5 (reads_nil h (by omega))
    | app f as =>
      simp only [Tr.rows, List.cons_append, List.nil_append, List.length_cons, List.length_nil, Tr.ok] at h hd o
      simp only [Tr.pv] at h
      obtain ⟨d1, d2, d3⟩ := drop_here hd
      obtain ⟨w1, w2, w3, w4, w5⟩ := wgood_parts (wgood_fn f o.1)
      have wa := wgood_as o.2.2.2
      have ww : ∀ t ∈ f :: as.map At.txt, Mine.wgood t = true := fun t m => (List.mem_cons.mp m).elim (fun e => e ▸ wgood_fn f o.1) (wa t)
      refine read_pre (by omega) hj d1 (by omega) (by have := rowText_len (f := f) (by have := fn_len f o.1; omega) o.2.2.2 o.2.2.1; omega) (words_toks (List.cons_ne_nil _ _) fun t m => (wgood_parts (ww t m)).1) ?_
      refine read_plain (fun x m => (wgood_parts (ww x m)).2.1) (let_not w3) w4 ?_
      exact read_app (by omega) o.2.2.2 o.2.1 o.2.2.1 w5 (reads_nil h (by omega))
    | con f as =>
      simp only [Tr.rows, List.cons_append, List.nil_append, List.length_cons, List.length_nil, Tr.ok] at h hd o
      simp only [Tr.pv] at h
      obtain ⟨d1, d2, d3⟩ := drop_here hd
      obtain ⟨v1, v2⟩ := wgood_cn f o.1
      have wa := wgood_as o.2.2
      have fl := cn_len f o.1
      have fl2 : (Str.ofString "con " ++ f).length ≤ 20 := Nat.le_trans (cat_len (Nat.le_of_eq lits_len.1) fl) (by omega)
      have ww : ∀ t ∈ ("con" : Str) :: f :: as.map At.txt, wordb t = true ∧ PyData.strOk t = true := fun t m => (List.mem_cons.mp m).elim (fun e => e ▸ by decide +kernel) fun m => (List.mem_cons.mp m).elim (fun e => e ▸ ⟨(wgood_parts v1).1, (wgood_parts v1).2.1⟩) fun m => ⟨(wgood_parts (wa t m)).1, (wgood_parts (wa t m)).2.1⟩
      refine read_pre (toks := ("con" : Str) :: f :: as.map At.txt) (by omega) hj d1 (by omega) (by have := rowText_len fl2 o.2.2 o.2.1; omega) (by unfold rowText; rw [join_glue v2]; exact words_toks (List.cons_ne_nil _ _) fun t m => (ww t m).1) ?_
      refine read_plain (fun x m => (ww x m).2) (let_not (by decide +kernel)) (by decide +kernel) ?_
      exact read_con (by omega) o.2.2 o.2.1 (.inl rfl) (reads_nil h (by omega))
    | prim f as =>
      simp only [Tr.rows, List.cons_append, List.nil_append, List.length_cons, List.length_nil, Tr.ok] at h hd o
      simp only [Tr.pv] at h
      obtain ⟨d1, d2, d3⟩ := drop_here hd
      obtain ⟨v1, v2⟩ := wgood_pr f o.1
      have wa := wgood_as o.2.2
      have fl := pr_len f o.1
      have fl2 : (Str.ofString "prim " ++ f).length ≤ 20 := Nat.le_trans (cat_len (Nat.le_of_eq lits_len.2.1) fl) (by omega)
      have ww : ∀ t ∈ ("prim" : Str) :: f :: as.map At.txt, wordb t = true ∧ PyData.strOk t = true := fun t m => (List.mem_cons.mp m).elim (fun e => e ▸ by decide +kernel) fun m => (List.mem_cons.mp m).elim (fun e => e ▸ ⟨(wgood_parts v1).1, (wgood_parts v1).2.1⟩) fun m => ⟨(wgood_parts (wa t m)).1, (wgood_parts (wa t m)).2.1⟩
      refine read_pre (toks := ("prim" : Str) :: f :: as.map At.txt) (by omega) hj d1 (by omega) (by have := rowText_len fl2 o.2.2 o.2.1; omega) (by unfold rowText; rw [join_glue v2]; exact words_toks (List.cons_ne_nil _ _) fun t m => (ww t m).1) ?_
      refine read_plain (fun x m => (ww x m).2) (let_not (by decide +kernel)) (by decide +kernel) ?_
      exact read_con (by omega) o.2.2 o.2.1 (.inr rfl) (reads_nil h (by omega))
    | case e as op =>
      simp only [Tr.rows, List.cons_append, List.append_assoc, List.length_cons, List.length_append, Tr.ok] at h hd o
      simp only [Tr.pv] at h
      obtain ⟨m, rfl, o1, o2, o3, o4⟩ := o
      obtain ⟨d1, d2, d3⟩ := drop_here hd
      refine read_pre (toks := ["case", "v.4", "of"]) (by omega) hj d1 (by omega) (by decide +kernel) case_words ?_
      rw [show 2 + 2 * (m + 1) = (3 + 2 * m) + 1 from by omega]
      refine read_case (N m rfl) (by omega) o1 o2 o3 o4 hj (by omega) d2 hr bo fun ds => ?_
      rw [show p + 1 + ((e.rows (kk + 1)).length + ((as.rows kk).length + (op.rows kk).length)) = p + ((e.rows (kk + 1)).length + ((as.rows kk).length + (op.rows kk).length) + 1) from by omega]
      exact h ds
    | lets b t =>
      simp only [Tr.rows, List.cons_append, List.append_assoc, List.length_cons, List.length_append, Tr.ok] at h hd o
      simp only [Tr.pv] at h
      obtain ⟨m, rfl, o1, o2, o3⟩ := o
      obtain ⟨d1, d2, d3⟩ := drop_here hd
      refine read_pre (toks := ["let"]) (by omega) hj d1 (by omega) (by decide +kernel) let_words ?_
      rw [show 2 + 2 * (m + 1) = (3 + 2 * m) + 1 from by omega]
      refine read_let (N m rfl) (by omega) o1 o2 o3 hj d2 hr bo fun ds => ?_
      rw [show p + 1 + ((b.rows 0 (kk + 1)).length + (1 + (t.rows kk).length)) = p + ((b.rows 0 (kk + 1)).length + ((t.rows kk).length + 1) + 1) from by omega]
      exact h ds
end

section
theorem gl_law (P : Params) : nsIn (KK P) mainGlobals "law" = some (some (.ref 408)) := by kernel_rfl
theorem bi_max (P : Params) : nsIn (KK P) mainGlobals "max" = some Option.none := by kernel_rfl
theorem bb_max : bootBuiltins "max" = some (.builtin "max") := by decide +kernel
theorem fn_law (P : Params) : FnK (KK P) 408 ["script"] (bodyAt P 408) (scAt P 408) where
  ex := ⟨_, _, _, _, rfl, rfl, rfl, rfl, rfl, rfl, rfl, fun vs h => match vs, h with | [_], _ => rfl⟩
  kinds := rfl
  nd := by decide +kernel
  cnd := of_decide_eq_true (by kernel_rfl)
  co := rfl
  gen := rfl
  kind := rfl
theorem fn_pool (P : Params) : FnK (KK P) 299 ["script", "k"] (bodyAt P 299) (scAt P 299) where
  ex := ⟨_, _, _, _, rfl, rfl, rfl, rfl, rfl, rfl, rfl, fun vs h => match vs, h with | [_, _], _ => rfl⟩
  kinds := rfl
  nd := by decide +kernel
  cnd := of_decide_eq_true (by kernel_rfl)
  co := rfl
  gen := rfl
  kind := rfl
section
variable {G : Gc} {d : Nat} {sc : Scope} {ρ : List (Str × PV)} {σ : List Cell} {Q : PV → List Cell → Prop} {a b : Int}
theorem VC.ge_int (h : Q (.bool (decide (b ≤ a))) σ) : VC G d (cmp2 .GtE) [.int a, .int b] σ Q := fun A Y as s vs QQ E hA R r f => by
  obtain ⟨v, u, rfl, r1, r2⟩ := r.two
  obtain ⟨t, rfl⟩ := r1.int_inv; obtain ⟨t', rfl⟩ := r2.int_inv
  exact PyProof.Rows.ge_int (f _ _ as σ s.heap _ h .refl R (.bool _))
theorem VC.pow (hb : 0 ≤ b) (hb2 : b ≤ 1000000) (ha : a.natAbs < 2 ^ 64) (h : Q (.int (a ^ b.toNat)) σ) : VC G d (bin2 .Pow) [.int a, .int b] σ Q := fun A Y as s vs QQ E hA R r f => by
  obtain ⟨v, u, rfl, r1, r2⟩ := r.two
  obtain ⟨t, rfl⟩ := r1.int_inv; obtain ⟨t', rfl⟩ := r2.int_inv
  exact pow_int_small hb hb2 ha (f _ _ as σ s.heap _ h .refl R (.int _ _))
theorem VC.int_bool {c : Bool} (h : Q (.int (if c then 1 else 0)) σ) : VC G d (callT "int") [.bool c] σ Q := fun A Y as s vs QQ E hA R r f => by
  obtain ⟨v, rfl, r1⟩ := r.one
  cases r1
  exact call_int_bool (f _ _ as σ s.heap _ h .refl R (.int _ _))
theorem VC.max2 (h : Q (.int (if b > a then b else a)) σ) : VC G d (callB "max") [.int a, .int b] σ Q := fun A Y as s vs QQ E hA R r f => by
  obtain ⟨v, u, rfl, r1, r2⟩ := r.two
  obtain ⟨t, rfl⟩ := r1.int_inv; obtain ⟨t', rfl⟩ := r2.int_inv
  refine max_two_ints hA.hh fun h' tk kk => ?_
  refine f _ _ as σ h' tk h (Ext.grown kk) (R.grown kk) ?_
  by_cases z : b > a
  · rw [if_pos z, if_pos z]; exact .int _ _
  · rw [if_neg z, if_neg z]; exact .int _ _
theorem VC.len_top {l : Addr} {vs : List Value} (hL : G.hb.IsList l vs.toArray) (hl : vs.length ≤ 100000) (h : Q (.int vs.length) σ) : VC G d (callB "len") [.top (.ref l)] σ Q := fun A Y as s us QQ E hA R r f => by
  obtain ⟨v, rfl, r1⟩ := r.one
  cases r1
  obtain ⟨o, ho, hd⟩ := hL
  refine PyProof.Rows.len_list ⟨o, R.base _ _ ho, hd⟩ (by rw [List.size_toArray]; omega) ?_
  rw [List.size_toArray]
  exact f _ _ as σ s.heap _ h .refl R (.int _ _)
theorem GI.top {l : Addr} {vs : List Value} {k n : Int} {t : Tok} (hL : G.hb.IsList l vs.toArray) (h0 : 0 ≤ k) (hk : k < 2 ^ 63) (hx : vs[k.toNat]? = some (.int n t)) (h : Q (.int n) σ) : GI G d (.top (.ref l)) (.int k) σ Q := fun A Y as s v u QQ E hA R r1 r2 f => by
  obtain ⟨t', rfl⟩ := r2.int_inv
  cases r1
  obtain ⟨o, ho, hd⟩ := hL
  exact ⟨"list", _, slot_list_getitem.lookup, ⟨_, R.base _ _ ho, hd.1⟩, wpAny_getItem_list ⟨_, R.base _ _ ho, hd⟩ h0 hk (by simpa using hx) (f _ _ as σ s.heap _ h .refl R (.int _ _))⟩
/-- a list display whose places may be stored into -/
theorem EV.listA {es : List Expr} {pos : Pos} (h : EVs G d sc es ρ σ fun xs σ1 => xs.length ≤ 1000 ∧ Q (.cell σ1.length) (σ1 ++ [.arr xs])) : EV G d sc (.List es pos) ρ σ Q := fun A env Y as s QQ E hA hE R L f => by
  refine List_ (h A env Y as s pos _ E hA hE R L fun vs xs as1 σ1 h1 tk1 q1 x1 R1 r1 => ?_)
  refine wpAny_newObj_type ?_ (by
    show vs.toArray.size ≤ sizeLine
    rw [List.size_toArray, r1.length, sizeLine_eq]; have := q1.1; omega)
  generalize ho : ({ cls := .type "list", dict := Option.none, data := .seq vs.toArray } : Obj) = o
  have fa : h1.get? h1.objs.size = Option.none := get_size h1
  have ga : (h1.push o).get? h1.objs.size = some o := Heap.get?_push_size _ (by rw [← ho]; rfl)
  have kk : ∀ b o', h1.get? b = some o' → (h1.push o).get? b = some o' := fun b o' e => Heap.get?_push_of_some _ e
  have R2 : Rep G ([h1.objs.size] ++ Y) as1 σ1 (h1.push o) := R1.enter kk fun z m => by rw [List.mem_singleton.mp m]; exact ⟨fa, by rw [ga]; exact fun x => nomatch x⟩
  have hs : ∀ b o', b ≠ h1.objs.size → (h1.push o).get? b = some o' → (h1.push o).get? b = some o' := fun _ _ _ e => e
  have sfa : s.heap.get? h1.objs.size = Option.none := by
    cases e : s.heap.get? h1.objs.size with
    | none => rfl
    | some o' =>
      by_cases lv : Live as σ h1.objs.size
      · obtain ⟨i, c, e1, _, _⟩ := lv
        exact absurd fa (R1.al _ (List.mem_of_getElem? (x1.idx e1)))
      · rw [x1.keep _ o' e lv fun z => z] at fa; cases fa
  have r2 : RVs G (okOf ([h1.objs.size] ++ Y) as1 σ1) as1 (h1.push o) vs xs := r1.enter kk fun z m => by rw [List.mem_singleton.mp m]; exact fa
  exact f _ (.cell σ1.length) (as1 ++ [h1.objs.size]) (σ1 ++ [.arr xs]) _ _ q1.2 (Ext.adopt (x1.trans (Ext.grown kk)) R2 sfa hs) (Rep.adopt (c := .arr xs) R2 (R1.fresh fa).1 hs (by rw [ga]; exact fun x => nomatch x) ⟨vs, o, ga, by rw [← ho]; exact ⟨rfl, _, rfl⟩, r2.adopt R2 hs⟩)
    (.cell (by rw [← R1.len]; simp))
end
theorem Sup.nil {ρ' : List (Str × PV)} : Sup ρ' [] := fun x pv e => by cases e
theorem Sup.add {ρ' ρ : List (Str × PV)} {y : Str} {v : PV} (h : ρ'.lookup y = some v) (s : Sup ρ' ρ) : Sup ρ' ((y, v) :: ρ) := fun x pv e => by
  rw [lookup_cons] at e
  split at e
  · rename_i z; subst z; cases e; exact h
  · exact s x pv e
section
variable {g : Gx} {σ : List Cell} {Q : PV → List Cell → Prop}
theorem VC.pool {l : Addr} {vs : List Value} {ns : List Int} (hL : g.hb.IsList l vs.toArray) (hI : IntsAre vs ns) (hn : ns.length ≤ 63) (h : ∀ s, stOk s → Q (.cell σ.length) (σ ++ [stC s])) : VC g.g 1 (fun vs => call (.ref 299) vs) [.top (.ref l), .int 0] σ Q := by
  have hlen : vs.length = ns.length := hI.length
  refine VC.fn (fn_pool g.w.params) rfl ?_
  walk_at "pv begin"
  walk_at "pva"
  refine VC.len_top hL (by omega) ?_
  walk_at "pva"
  have fin : ∀ c : Int, EX g.g 0 (scAt g.w.params 299) ((bodyAt g.w.params 299).drop 2) [(("cell" : Str), .int c), (("k" : Str), .int 0)] σ (fun _ σ' => Q .none σ') Q := fun c => by
    walk_at "pv begin"
    refine EX.assign ?_ (.inl rfl)
    refine EV.bi (bi_max _) bb_max rfl ?_
    walk_at "pva"
    refine VC.max2 ?_
    have hb : 0 ≤ (if -1 - c > c then -1 - c else c) := by split <;> omega
    generalize (if -1 - c > c then -1 - c else c) = big at hb ⊢
    walk_at "pva"
    refine VC.fmod (by decide) ?_
    walk_at "pva"
    refine VC.mul (mulOk_of (by decide)) ?_
    walk_at "pva"
    refine VC.mul (mulOk_of (by decide)) ?_
    walk_at "pva"
    refine VC.mul (mulOk_of (by decide)) ?_
    walk_at "pva"
    refine VC.mul (.of_right (Nat.le_trans (bits_lt (by decide)) (by decide))) ?_
    walk_at "pva"
    refine VC.fmod (by decide) ?_
    rw [Int.fmod_eq_emod_of_nonneg _ (by decide : (0 : Int) ≤ 2147483647)]
    have h1 := Int.emod_nonneg ((big.fmod 2147483629 + 7919 * 0 * 0 + 31 * 0 + 17) * 48271) (by decide : (2147483647 : Int) ≠ 0)
    have h2 := Int.emod_lt_of_pos ((big.fmod 2147483629 + 7919 * 0 * 0 + 31 * 0 + 17) * 48271) (by decide : (0 : Int) < 2147483647)
    generalize ((big.fmod 2147483629 + 7919 * 0 * 0 + 31 * 0 + 17) * 48271) % 2147483647 = mixed at h1 h2 ⊢
    refine EX.ret ?_
    refine EV.listA ?_
    walk_at "pva"
    refine VC.pow (by decide) (by decide) (by decide) ?_
    refine VC.ge_int ?_
    walk_at "pva"
    refine VC.int_bool ?_
    refine VC.mul (.of_right ?_) ?_
    · split <;> exact Nat.le_trans (bits_lt (by decide)) (by decide)
    walk_at "pva"
    refine h (big * (if decide ((10 : Int) ^ (18 : Int).toNat ≤ big) = true then 1 else 0), mixed) ⟨?_, h1, h2⟩
    refine Int.mul_nonneg hb ?_
    split <;> decide
  by_cases z : 0 < (vs.length : Int)
  · rw [if_pos (by simpa using z)]
    cases hI with
    | nil => exact absurd z (by simp)
    | cons n t r =>
      walk_at "pva"
      refine GI.top hL (by decide) (by decide) (t := t) rfl ?_
      refine EX.nil ?_
      exact (fin n).less (Sup.add rfl (Sup.add rfl Sup.nil))
  · rw [if_neg (by simpa using z)]
    refine EX.nil ?_
    exact (fin 0).less (Sup.add rfl (Sup.add rfl Sup.nil))
end
end

section
mutual
theorem Tr.okUp : ∀ {t : Tr} {n m : Nat}, t.ok n → n ≤ m → t.ok m
  | .atom a, n, m, h, _ => by simp only [Tr.ok] at h ⊢; exact h
  | .app f as, n, m, h, _ => by simp only [Tr.ok] at h ⊢; exact h
  | .con f as, n, m, h, _ => by simp only [Tr.ok] at h ⊢; exact h
  | .prim f as, n, m, h, _ => by simp only [Tr.ok] at h ⊢; exact h
  | .case e as o, n, m, h, z => by
    simp only [Tr.ok] at h ⊢
    obtain ⟨k, rfl, h1, h2, h3, h4⟩ := h
    exact ⟨m - 1, by omega, Tr.okUp h1 (by omega), h2, Als.okUp h3 (by omega), Op.okUp h4 (by omega)⟩
  | .lets b t, n, m, h, z => by
    simp only [Tr.ok] at h ⊢
    obtain ⟨k, rfl, h1, h2, h3⟩ := h
    exact ⟨m - 1, by omega, h1, Bds.okUp h2 (by omega), Tr.okUp h3 (by omega)⟩
theorem Als.okUp : ∀ {a : Als} {n m : Nat}, a.ok n → n ≤ m → a.ok m
  | .nil, n, m, h, _ => by simp only [Als.ok]
  | .cons k fs b r, n, m, h, z => by
    simp only [Als.ok] at h ⊢
    exact ⟨h.1, Tr.okUp h.2.1 z, Als.okUp h.2.2 z⟩
theorem Op.okUp : ∀ {o : Op} {n m : Nat}, o.ok n → n ≤ m → o.ok m
  | .no, n, m, h, _ => by simp only [Op.ok]
  | .yes t, n, m, h, z => by
    simp only [Op.ok] at h ⊢
    exact Tr.okUp h z
theorem Bds.okUp : ∀ {b : Bds} {n m : Nat}, b.ok n → n ≤ m → b.ok m
  | .nil, n, m, h, _ => by simp only [Bds.ok]
  | .cons c r, n, m, h, z => by
    simp only [Bds.ok] at h ⊢
    exact ⟨Cl.okUp h.1 z, Bds.okUp h.2 z⟩
theorem Cl.okUp : ∀ {c : Cl} {n m : Nat}, c.ok n → n ≤ m → c.ok m
  | .mk fr ps b u, n, m, h, z => by
    simp only [Cl.ok] at h ⊢
    exact ⟨h.1, h.2.1, Tr.okUp h.2.2 z⟩
end
section
variable {G : Gc} {d : Nat} {σ : List Cell} {Q : PV → List Cell → Prop} {n : Nat} {x : PV}
theorem VC.ne_same (hx : Fit n x) (z : n ≤ 64) (h : Q (.bool false) σ) : VC G d (cmp2 .NotEq) [x, x] σ Q := by
  refine VC.ne_fit hx hx z z ?_
  rw [PySem.SeqAt.eqv_refl _ hx.c]
  try simp only [Bool.not_true]
  exact h
theorem VC.eq_same (hx : Fit n x) (z : n ≤ 64) (h : Q (.bool true) σ) : VC G d (cmp2 .Eq) [x, x] σ Q := by
  refine VC.eq_fit hx hx z z ?_
  rw [PySem.SeqAt.eqv_refl _ hx.c]
  try simp only [Bool.not_true]
  exact h
end
theorem set_same {σ : List Cell} {i : Nat} {c : Cell} (h : σ[i]? = some c) : σ.set i c = σ := by
  refine List.ext_getElem? fun k => ?_
  by_cases e : i = k
  · subst e
    rw [List.getElem?_set_self (List.getElem?_eq_some_iff.mp h).1, h]
  · rw [List.getElem?_set_ne e]
theorem Tr.rows_ne (t : Tr) (k : Nat) : t.rows k ≠ [] := by cases t <;> simp [Tr.rows]
section
variable {g : Gx} {σ : List Cell} {Q : PV → List Cell → Prop} {Qn : List (Str × PV) → List Cell → Prop} {i : Nat} {s : Int × Int}
/-- the law's first part: a tree told, read back -/
theorem law_one (hs : σ[i]? = some (stC s)) (ok : stOk s) (next : ∀ (σ' : List Cell) s', σ'[i]? = some (stC s') → stOk s' → EX g.g 12 (scAt g.w.params 408) ((bodyAt g.w.params 408).drop 4) [(("source" : Str), .cell i)] σ' Qn Q) :
    EX g.g 12 (scAt g.w.params 408) ((bodyAt g.w.params 408).drop 1) [(("source" : Str), .cell i)] σ Qn Q := by
  have il : i < σ.length := (List.getElem?_eq_some_iff.mp hs).1
  walk_at "pv begin"
  walk_at "pva"
  rw [← set_same hs]
  refine VC.le (d' := 5 + 2 * 3) (tree_makes g 3 (by decide) il ok fun t s1 ot ok1 => ?_) (by decide)
  have h1 : (σ.set i (stC s1))[i]? = some (stC s1) := List.getElem?_set_self il
  have il1 : i < (σ.set i (stC s1)).length := by rw [List.length_set]; exact il
  generalize σ.set i (stC s1) = σ1 at h1 il1 ⊢
  have ro := Tr.rowsOk (kk := 0) ot
  walk_at "pva"
  refine VC.le (d' := 4 + 2 * 3) (nodes_of g 3 (by decide) t ot _ _ ?_) (by decide)
  walk_at "pva"
  refine VC.le (d' := 6 + 2 * 3) (VC.stg_text ot (by decide) ?_) (by decide)
  walk_at "pva"
  refine VC.le (d' := 1) (VC.box ro (Tr.rows_ne _ _) (by decide) (by decide) ?_) (by decide)
  have h2 : (σ1 ++ [lnC (t.rows 0)] ++ [Cell.dead])[i]? = some (stC s1) := by rw [List.append_assoc, List.getElem?_append_left il1]; exact h1
  generalize σ1 ++ [lnC (t.rows 0)] ++ [Cell.dead] = σ2 at h2 ⊢
  have il2 : i < σ2.length := (List.getElem?_eq_some_iff.mp h2).1
  have hj : σ2.length < (σ2 ++ [bxC (t.rows 0) 0]).length := by simp
  have bo : BoxOk (t.rows 0) := ⟨Nat.le_trans ro.1 (by decide), fun r m => (ro.2 r m).2.2⟩
  rw [← set_same (σ := σ2 ++ [bxC (t.rows 0) 0]) (i := σ2.length) (c := bxC (t.rows 0) 0) (by simp)]
  walk_at "pva"
  refine VC.le (d' := 3 + 2 * 3) (readsTr g 3 t ot _ _ σ2.length 0 0 (t.rows 0) [] hj (by simp) (fun r e => by cases e) bo fun ds => ?_) (by decide)
  have hj2 := stL_lt (ds := ds) hj
  walk_at "pva"
  refine VC.ne_same (Tr.fit ot) (by decide) ?_
  walk_at "pva"
  refine GI.dct (at_i hj2) rfl ?_
  walk_at "pva"
  refine GI.dct (at_i hj2) rfl ?_
  walk_at "pva"
  refine VC.len_list (by have := bo.1; simp; omega) ?_
  walk_at "pva"
  rw [show ((((0 + (t.rows 0).length : Nat)) : Int) != (((t.rows 0).map rowPV).length : Int)) = false from by simp]
  walk_at "pva"
  refine (next _ s1 ?_ ok1).less (Sup.add rfl Sup.nil)
  rw [List.getElem?_set_ne (Nat.ne_of_gt il2), List.append_assoc, List.getElem?_append_left il2]
  exact h2
end
end

section
theorem progRows_ok {c1 c2 : Cl} (o1 : c1.ok 2) (o2 : c2.ok 2) : RowsOk 0 (0 + 1 + 2 * 2) (1 + rmax 2 + (1 + rmax 2 + 1)) (progRows c1 c2) :=
  (Cl.rowsOk (kk := 0) (name := "Main.f") o2 (by decide +kernel)).append ((Cl.rowsOk (kk := 0) (name := "Main.main") o1 (by decide +kernel)).append (RowsOk.nil.cons (Nat.le_refl _) (by omega) (GT.of (by decide +kernel))))
theorem progRows_ne (c1 c2 : Cl) : progRows c1 c2 ≠ [] := by cases c2; simp [progRows, Cl.rows]
theorem Cl.pair_fit {c : Cl} {n : Nat} {name : Str} (o : c.ok n) (h : PyData.strOk name = true) : Fit (4 + 4 * n + 1 + 1) (.tup [.str name, c.pv]) := .tup (.cons (.str h) (.cons (Cl.fit o) .nil))
section
variable {g : Gx} {σ : List Cell} {Q : PV → List Cell → Prop} {Qn : List (Str × PV) → List Cell → Prop} {i : Nat} {s : Int × Int}
/-- the law's second part: a program of two closures told, both read back -/
theorem law_two (hs : σ[i]? = some (stC s)) (ok : stOk s) (next : ∀ (σ' : List Cell) s' (j p : Nat) (rows : List (Nat × Str)), i ≠ j → σ'[i]? = some (stC s') → stOk s' → σ'[j]? = some (bxC rows p) → rows[p]? = some (0, ("main " : Str) ++ "Main.main") → p + 1 = rows.length → BoxOk rows →
      EX g.g 12 (scAt g.w.params 408) ((bodyAt g.w.params 408).drop 8) [(("source" : Str), .cell i), (("box" : Str), .cell j)] σ' Qn Q) :
    EX g.g 12 (scAt g.w.params 408) ((bodyAt g.w.params 408).drop 4) [(("source" : Str), .cell i)] σ Qn Q := by
  have il : i < σ.length := (List.getElem?_eq_some_iff.mp hs).1
  walk_at "pv begin"
  refine EX.swapped (ns := ["one", "other"]) ?_ (by decide +kernel) (by intro env h; unfold swappedStores Env.blockKind Env.kindOf; rw [h]; rfl)
  walk_at "pva"
  rw [← set_same hs]
  refine VC.le (d' := (5 + 2 * 1) + 1) (VC.lclosure (n := 1) (tree_makes g 1 (by decide)) (by decide) il ok fun c1 s1 o1 ok1 => ?_) (by decide)
  walk_at "pva"
  refine VC.le (d' := (5 + 2 * 0) + 1) (VC.lclosure (n := 0) (tree_makes g 0 (by decide)) (by decide) il ok1 fun c2 s2 o2 ok2 => ?_) (by decide)
  have h1 : (σ.set i (stC s2))[i]? = some (stC s2) := List.getElem?_set_self il
  have il1 : i < (σ.set i (stC s2)).length := by rw [List.length_set]; exact il
  generalize σ.set i (stC s2) = σ1 at h1 il1 ⊢
  have p1 : c1.ok 2 := Cl.okUp o1 (by decide)
  have p2 : c2.ok 2 := Cl.okUp o2 (by decide)
  have ro := progRows_ok p1 p2
  walk_at "pva"
  refine ⟨_, .tup _, rfl, ?_⟩
  refine EX.assign ?_ (.inl rfl)
  walk_at "pv"
  refine EVs.cons ?_
  refine EV.dict2 (by decide +kernel) ?_
  walk_at "pva"
  refine VC.le (d' := (4 + 2 * 2) + 1) (VC.lambda (nodes_of g 2 (by decide)) (by decide) p1 ?_) (by decide)
  walk_at "pva"
  refine VC.le (d' := (4 + 2 * 2) + 1) (VC.lambda (nodes_of g 2 (by decide)) (by decide) p2 ?_) (by decide)
  refine EVs.cons ?_
  refine EV.dict0 ?_
  walk_at "pva"
  refine VC.le (d' := 0 + 2) (VC.mk_StgProgram ?_) (by decide)
  walk_at "pva"
  refine VC.le (d' := 12) (VC.stg_program p1 p2 ?_) (by decide)
  walk_at "pva"
  refine VC.le (d' := 1) (VC.box ro (progRows_ne _ _) (by decide) (by decide) ?_) (by decide)
  have h2 : (σ1 ++ [lnC (progRows c1 c2)] ++ [Cell.dead])[i]? = some (stC s2) := by rw [List.append_assoc, List.getElem?_append_left il1]; exact h1
  generalize σ1 ++ [lnC (progRows c1 c2)] ++ [Cell.dead] = σ2 at h2 ⊢
  have il2 : i < σ2.length := (List.getElem?_eq_some_iff.mp h2).1
  have hj : σ2.length < (σ2 ++ [bxC (progRows c1 c2) 0]).length := by simp
  have bo : BoxOk (progRows c1 c2) := ⟨Nat.le_trans ro.1 (by decide), fun r m => (ro.2 r m).2.2⟩
  have e0 : (progRows c1 c2).drop 0 = c2.rows "Main.f" 0 ++ (c1.rows "Main.main" 0 ++ [(0, ("main " : Str) ++ "Main.main")]) := rfl
  rw [← set_same (σ := σ2 ++ [bxC (progRows c1 c2) 0]) (i := σ2.length) (c := bxC (progRows c1 c2) 0) (by simp)]
  walk_at "pva"
  refine VC.le (d' := (3 + 2 * 2) + 1) (VC.read_closure (kk := 0) (readsTr g 2) (by decide) p2 (by decide +kernel) hj e0 (fun r e => by rw [Cl.rows_head e]; decide) bo fun ds => ?_) (by decide)
  have hj2 := stL_lt (ds := ds) hj
  have e1 := drop_on e0
  have l1 := len_le e0 (Nat.zero_le _)
  walk_at "pva"
  refine VC.ne_same (Cl.pair_fit p2 (by decide +kernel)) (by decide) ?_
  walk_at "pva"
  refine VC.le (d' := (3 + 2 * 2) + 1) (VC.read_closure (kk := 0) (readsTr g 2) (by decide) p1 (by decide +kernel) hj2 e1 (fun r e => by simp only [List.head?_cons, Option.some.injEq] at e; rw [← e]; decide) bo fun ds' => ?_) (by decide)
  have hj3 := stL_lt (ds := ds') hj2
  have e2 := drop_on e1
  have l2 := len_le e1 l1
  walk_at "pva"
  refine VC.ne_same (Cl.pair_fit p1 (by decide +kernel)) (by decide) ?_
  walk_at "pva"
  obtain ⟨f1, f2, f3⟩ := drop_here e2
  refine (next _ s2 σ2.length _ _ (Nat.ne_of_lt il2) ?_ ok2 (at_i hj3) f1 ?_ bo).less (Sup.add rfl (Sup.add rfl Sup.nil))
  · rw [List.getElem?_set_ne (Nat.ne_of_gt il2), List.append_assoc, List.append_assoc, List.getElem?_append_left il2]
    exact h2
  · have := congrArg List.length f2
    simp only [List.length_drop, List.length_nil] at this
    omega
end
end

section
section
variable {g : Gx} {σ : List Cell} {Q : PV → List Cell → Prop} {Qn : List (Str × PV) → List Cell → Prop} {i j p : Nat} {s : Int × Int} {rows : List (Nat × Str)}
/-- the law's third part: three atoms told apart, the program's last row -/
theorem law_three (hs : σ[i]? = some (stC s)) (ok : stOk s) (ij : i ≠ j) (hb : σ[j]? = some (bxC rows p)) (hr : rows[p]? = some (0, ("main " : Str) ++ "Main.main")) (hp : p + 1 = rows.length) (bo : BoxOk rows) (h : ∀ σ', Q (.bool true) σ') :
    EX g.g 12 (scAt g.w.params 408) ((bodyAt g.w.params 408).drop 8) [(("source" : Str), .cell i), (("box" : Str), .cell j)] σ Qn Q := by
  have il : i < σ.length := (List.getElem?_eq_some_iff.mp hs).1
  have jl : j < σ.length := (List.getElem?_eq_some_iff.mp hb).1
  have hB := bo.1
  walk_at "pv begin"
  refine EX.assign_comp ?_ rfl (.inl rfl)
  walk_at "pva"
  refine VC.range ?_
  refine ⟨_, .inr ⟨3, by decide, rfl, rfl⟩, by simp, ?_⟩
  rw [← set_same hs]
  refine CompL.src (f := At.pv) (P := At.ok) rfl (fun v s Q' ok' h' => ?_) _ [] s (by simp) ok fun bs s' hl hb' ok' => ?_
  · walk_at "pva"
    exact VC.le (VC.atom il ok' h') (by decide)
  have hl3 : bs.length = 3 := by rw [hl]; rfl
  have hb2 : (σ.set i (stC s'))[j]? = some (bxC rows p) := by rw [List.getElem?_set_ne ij]; exact hb
  have jl2 : j < (σ.set i (stC s')).length := by rw [List.length_set]; exact jl
  generalize σ.set i (stC s') = σ1 at hb2 jl2 ⊢
  walk_at "pva"
  refine EV.comp ?_ rfl
  walk_at "pva"
  refine ⟨_, .inl rfl, by simp; omega, ?_⟩
  refine CompL.mapL (f := At.pv) (r := At.pv) (P := At.ok) (fun a ao Q' h' => ⟨_, .name rfl, ?_⟩) bs [] hb' ?_
  · walk_at "pva"
    refine VC.le (d' := 2) (VC.atom_text ao ?_) (by decide)
    walk_at "pva"
    obtain ⟨r1, r2, r3⟩ := At.rd ao
    exact VC.le (d' := 1) (VC.read_atom r2 (by have := At.len ao; omega) r3 r1 h') (by decide)
  rw [List.nil_append]
  walk_at "pva"
  refine VC.ne_same (n := 2) (.list (Ats.fit hb')) (by decide) ?_
  walk_at "pva"
  refine EV.and ?_
  walk_at "pva"
  rw [← set_same hb2]
  refine VC.le (d' := 1) (VC.next jl2 hr (by omega) ?_) (by decide)
  rw [rowPV_eq]
  walk_at "pva"
  refine VC.eq_same (n := 1) (.tup (.cons (.int _) (.cons (.str (by decide +kernel)) .nil))) (by decide) ?_
  walk_at "pva"
  refine EV.bool1 ?_
  walk_at "pva"
  refine GI.dct (at_i jl2) rfl ?_
  walk_at "pva"
  refine GI.dct (at_i jl2) rfl ?_
  walk_at "pva"
  refine VC.len_list (by simp; omega) ?_
  walk_at "pva"
  rw [show (((p + 1 : Nat) : Int) == ((rows.map rowPV).length : Int)) = true from by rw [List.length_map, hp]; exact beq_self_eq_true _]
  exact h _
theorem VC.law {l : Addr} {vs : List Value} {ns : List Int} (hL : g.hb.IsList l vs.toArray) (hI : IntsAre vs ns) (hn : ns.length ≤ 63) (h : ∀ σ', Q (.bool true) σ') : VC g.g 13 (fun vs => call (.ref 408) vs) [.top (.ref l)] σ Q := by
  refine VC.fn (d := 12) (fn_law g.w.params) rfl ?_
  walk_at "pv begin"
  walk_at "pva"
  refine EV.fn (gl_pool_l _) (ke_pool_l _) rfl ?_
  walk_at "pva"
  refine VC.le (d' := 1) ?_ (by decide)
  refine VC.pool hL hI hn fun s ok => ?_
  refine EX.less (law_one (i := σ.length) (s := s) (by simp) ok fun σ1 s1 e1 ok1 => ?_) (Sup.add rfl Sup.nil)
  refine law_two e1 ok1 fun σ2 s2 j p rows ij e2 ok2 eb hr hp bo => ?_
  exact law_three e2 ok2 ij eb hr hp bo h
end
end

end Mine
set_option maxRecDepth 100000 in
set_option maxHeartbeats 8000000 in
theorem PySem.Challenge.cw_og0001_01_holds : PySem.Challenge.rw_og0001_01.Holds := by
  refine Mine.hdH ?_
  intro w s₀ s₁ mg mb G Y fa o pm cd doc dV kV ho hd' hcd hD hmg hg args vals as hpre hlay hrd hwl hlo
  have KX : (Mine.KH w.params).In s₁.heap := Y
  refine Ground.open G ?_
  intro T B D TE TW
  have efa : fa = 408 := by
    have e := mg_of KX T.g (Mine.gl_law w.params)
    rw [show mg (Str.ofString "law") = some (.ref fa) from hmg] at e
    cases e; rfl
  subst efa
  clear ho hd' hcd hD hmg B D TE TW Y G
  wrow_args hpre hlay hrd hwl hlo
  rename_i hL _ _ _ hI _ hcond _
  have R : Mine.Rep (Mine.Gx.g ⟨PySem.Challenge.rw_og0001_01.row.prog, w, s₁.heap, _, _, _, mg, mb, KX, T⟩) [] [] [] s₁.heap :=
    ⟨fun _ _ e => e, fun _ m => (nomatch m), fun _ m => (nomatch m), rfl, fun _ m => (nomatch m), fun _ m => (nomatch m), fun _ m => (nomatch m), List.nodup_nil, fun _ _ _ e => by cases e⟩
  refine Mine.VC.law (g := ⟨PySem.Challenge.rw_og0001_01.row.prog, w, s₁.heap, _, _, _, mg, mb, KX, T⟩) (σ := []) (Q := fun pv _ => pv = .bool true) hL hI (by omega) (fun _ => rfl) callerA [] [] s₁ [.ref _] _ _ ⟨rfl, by decide +kernel, by decide +kernel⟩ R (.cons (.top _) .nil) ?_
  intro v pv as' σ' h' tk q x R' r
  subst q
  cases r
  refine GoodW.toG ⟨.inl ⟨_, _, [], rfl, fun _ => rfl, ReadsW.bool true, ?_, fun _ => ⟨List.nodup_nil, fun _ m => (nomatch m)⟩⟩, fun b o e => x.keep b o e (fun ⟨i, c, e1, _, _⟩ => by simp at e1) (fun z => z), rfl, hg⟩
  first | rfl | wrow_post

