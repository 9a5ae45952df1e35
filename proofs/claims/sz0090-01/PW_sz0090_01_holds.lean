import PyProof.Rows.All
import Wide.All
import OpenK.AllK
import Wide.FinOn
import PySem.Challenge.RW_sz0090_01
open PySem PySem.W PyProof.Rows PySem.Calls
set_option Elab.async false
set_option maxRecDepth 100000
set_option linter.unusedVariables false
set_option linter.unusedSimpArgs false
set_option maxHeartbeats 4000000
namespace Mine

noncomputable def nth (l : List Stmt) (i : Nat) : Stmt := match l.drop i with
  | x :: _ => x
  | [] => .Pass default
noncomputable def inCls : Stmt → List Stmt
  | .ClassDef _ _ _ b _ _ _ _ _ _ _ => b
  | _ => []
noncomputable def argsOf : Stmt → Arguments
  | .FunctionDef _ a _ _ _ _ _ _ _ _ => a
  | _ => { posonlyargs := [], args := [], vararg := none, kwonlyargs := [], kw_defaults := [], kwarg := none, defaults := [] }
noncomputable def bodyOf : Stmt → List Stmt
  | .FunctionDef _ _ b _ _ _ _ _ _ _ => b
  | _ => []
noncomputable def scopeOf : Stmt → Scope
  | .FunctionDef _ _ _ _ _ _ s _ _ _ => s
  | _ => { kind := .function, names := [], isGenerator := false, isCoroutine := false, more := [] }
noncomputable def o2 (P : Params) : Obj := ⟨.none, none, (.dict (List.toArray [⟨(PyData.keyHash P "type.__subclasses__.Exception.0"), (.str "type.__subclasses__.Exception.0" 558), (.int 281 0)⟩, ⟨(PyData.keyHash P "type.__subclasses__.Exception.n"), (.str "type.__subclasses__.Exception.n" 559), (.int 1 0)⟩]) 2), (List.toArray [])⟩
noncomputable def o3 (P : Params) : Obj := ⟨(.type "dict"), none, (.dict (List.toArray [⟨(PyData.keyHash P "__name__"), (.str "__name__" 165), (.str "law_sz0090_01" 854)⟩, ⟨(PyData.keyHash P "__doc__"), (.str "__doc__" 166), .none⟩, ⟨(PyData.keyHash P "__package__"), (.str "__package__" 167), .none⟩, ⟨(PyData.keyHash P "__loader__"), (.str "__loader__" 168), (.builtin "__main__.__loader__#opaque")⟩, ⟨(PyData.keyHash P "__spec__"), (.str "__spec__" 169), .none⟩, ⟨(PyData.keyHash P "__annotations__"), (.str "__annotations__" 170), (.ref 6)⟩, ⟨(PyData.keyHash P "__builtins__"), (.str "__builtins__" 171), (.ref 4)⟩, ⟨(PyData.keyHash P "__file__"), (.str "__file__" 173), (.str "/claim/cut.py" 172)⟩, ⟨(PyData.keyHash P "__cached__"), (.str "__cached__" 174), .none⟩, ⟨(PyData.keyHash P "_wall"), (.str "_wall" 193), (.ref 21)⟩, ⟨(PyData.keyHash P "FIGURES"), (.str "FIGURES" 197), (.str "0123456789" 196)⟩, ⟨(PyData.keyHash P "number_text"), (.str "number_text" 205), (.ref 28)⟩, ⟨(PyData.keyHash P "HEX_FIGURES"), (.str "HEX_FIGURES" 209), (.str "0123456789abcdef" 208)⟩, ⟨(PyData.keyHash P "Thing"), (.str "Thing" 243), (.ref 45)⟩, ⟨(PyData.keyHash P "Scalar"), (.str "Scalar" 270), (.ref 66)⟩, ⟨(PyData.keyHash P "Array"), (.str "Array" 296), (.ref 85)⟩, ⟨(PyData.keyHash P "Hash"), (.str "Hash" 323), (.ref 104)⟩, ⟨(PyData.keyHash P "Code"), (.str "Code" 353), (.ref 123)⟩, ⟨(PyData.keyHash P "Glob"), (.str "Glob" 383), (.ref 142)⟩, ⟨(PyData.keyHash P "Ref"), (.str "Ref" 414), (.ref 162)⟩, ⟨(PyData.keyHash P "Heap"), (.str "Heap" 491), (.ref 225)⟩, ⟨(PyData.keyHash P "thing_word"), (.str "thing_word" 498), (.ref 236)⟩, ⟨(PyData.keyHash P "hex_of"), (.str "hex_of" 506), (.ref 243)⟩, ⟨(PyData.keyHash P "ref_text"), (.str "ref_text" 514), (.ref 250)⟩, ⟨(PyData.keyHash P "value_of"), (.str "value_of" 523), (.ref 257)⟩, ⟨(PyData.keyHash P "to_text"), (.str "to_text" 530), (.ref 264)⟩, ⟨(PyData.keyHash P "PerlError"), (.str "PerlError" 561), (.ref 281)⟩, ⟨(PyData.keyHash P "Die"), (.str "Die" 586), (.ref 301)⟩, ⟨(PyData.keyHash P "TOO_MANY"), (.str "TOO_MANY" 590), (.str "Out of memory!" 589)⟩, ⟨(PyData.keyHash P "drop_member"), (.str "drop_member" 599), (.ref 310)⟩, ⟨(PyData.keyHash P "check_room"), (.str "check_room" 607), (.ref 317)⟩, ⟨(PyData.keyHash P "has_key"), (.str "has_key" 617), (.ref 324)⟩, ⟨(PyData.keyHash P "key_place"), (.str "key_place" 627), (.ref 331)⟩, ⟨(PyData.keyHash P "delete_key"), (.str "delete_key" 636), (.ref 338)⟩, ⟨(PyData.keyHash P "clear_hash"), (.str "clear_hash" 646), (.ref 345)⟩, ⟨(PyData.keyHash P "hash_keys"), (.str "hash_keys" 653), (.ref 352)⟩, ⟨(PyData.keyHash P "hash_count"), (.str "hash_count" 660), (.ref 359)⟩, ⟨(PyData.keyHash P "delete_keys"), (.str "delete_keys" 666), (.ref 364)⟩, ⟨(PyData.keyHash P "fill_hash"), (.str "fill_hash" 679), (.ref 371)⟩, ⟨(PyData.keyHash P "Counter"), (.str "Counter" 803), (.ref 463)⟩, ⟨(PyData.keyHash P "Limits"), (.str "Limits" 853), (.ref 485)⟩, ⟨(PyData.keyHash P "_law_words"), (.str "_law_words" 863), (.ref 490)⟩, ⟨(PyData.keyHash P "_law_rest"), (.str "_law_rest" 877), (.ref 491)⟩, ⟨(PyData.keyHash P "_law_yank"), (.str "_law_yank" 886), (.ref 498)⟩, ⟨(PyData.keyHash P "_law_laid"), (.str "_law_laid" 898), (.ref 505)⟩, ⟨(PyData.keyHash P "_law_either"), (.str "_law_either" 908), (.ref 512)⟩, ⟨(PyData.keyHash P "_law_both"), (.str "_law_both" 914), (.ref 517)⟩, ⟨(PyData.keyHash P "_law_without"), (.str "_law_without" 925), (.ref 524)⟩, ⟨(PyData.keyHash P "_law_has"), (.str "_law_has" 932), (.ref 531)⟩, ⟨(PyData.keyHash P "_law_pair_right"), (.str "_law_pair_right" 938), (.ref 536)⟩, ⟨(PyData.keyHash P "law"), (.str "law" 944), (.ref 541)⟩]) 51), (List.toArray [])⟩
noncomputable def o41 (P : Params) : Obj := ⟨(.type "code"), none, (.fields (List.toArray [(.str "__init__" 222), (.str "Thing.__init__" 223), (.str "/claim/cut.py" 224), (.int 18 0), (.int 2 0), (.int 0 0), (.int 0 0), (.int 3 0), (.ref 36), (.bool true), (.int 181 0), (.ref 37), .none, (.ref 38), (.ref 39), (.ref 40), (.int 227 0), (.int 18 0), (.str "/claim/cut.py" 228)])), (List.toArray [])⟩
-- Thing.__init__
noncomputable abbrev a42 : Arguments := by
  refine' (fun (x : Arguments) (_ : argsOf (nth (inCls (nth PySem.Challenge.pw_sz0090_01.main.body 6)) 0) = x) => x) _ ?_
  rotate_left
  conv => lhs; whnf
noncomputable abbrev b42 : List Stmt := by
  refine' (fun (x : List Stmt) (_ : bodyOf (nth (inCls (nth PySem.Challenge.pw_sz0090_01.main.body 6)) 0) = x) => x) _ ?_
  rotate_left
  conv => lhs; whnf
noncomputable abbrev s42 : Scope := by
  refine' (fun (x : Scope) (_ : scopeOf (nth (inCls (nth PySem.Challenge.pw_sz0090_01.main.body 6)) 0) = x) => x) _ ?_
  rotate_left
  conv => lhs; whnf
noncomputable def o42 (P : Params) : Obj := ⟨(.type "function"), none, (.func (fnOf "__init__" "Thing.__init__" a42 b42 s42 .none .none .none (.str "perlcore.values" 206) none (.ref 41) .none)), (List.toArray [])⟩
noncomputable def o44 (P : Params) : Obj := ⟨(.type "dict"), none, (.dict (List.toArray [⟨(PyData.keyHash P "__module__"), (.str "__module__" 217), (.str "perlcore.values" 206)⟩, ⟨(PyData.keyHash P "__firstlineno__"), (.str "__firstlineno__" 221), (.int 16 220)⟩, ⟨(PyData.keyHash P "__init__"), (.str "__init__" 229), (.ref 42)⟩, ⟨(PyData.keyHash P "__static_attributes__"), (.str "__static_attributes__" 236), (.ref 43)⟩, ⟨(PyData.keyHash P "__dict__"), (.str "__dict__" 238), (.ref 46)⟩, ⟨(PyData.keyHash P "__weakref__"), (.str "__weakref__" 240), (.ref 47)⟩, ⟨(PyData.keyHash P "__doc__"), (.str "__doc__" 241), .none⟩]) 4), (List.toArray [])⟩
noncomputable def o45 (P : Params) : Obj := ⟨(.type "type"), none, (.cls ⟨"Thing", [(.type "object")], [(.ref 45), (.type "object")], 44, "Thing", true, [], [(.ref 66), (.ref 85), (.ref 104), (.ref 123), (.ref 142)], false, none, false⟩), (List.toArray [none, none, (some (.str "Thing" 210)), (some (.str "Thing" 218)), (some (.builtin "object.__new__")), (some (.bool true))])⟩
noncomputable def o62 (P : Params) : Obj := ⟨(.type "code"), none, (.fields (List.toArray [(.str "__init__" 256), (.str "Scalar.__init__" 257), (.str "/claim/cut.py" 258), (.int 27 0), (.int 3 0), (.int 0 0), (.int 0 0), (.int 3 0), (.ref 57), (.bool true), (.int 181 0), (.ref 58), .none, (.ref 59), (.ref 60), (.ref 61), (.int 262 0), (.int 27 0), (.str "/claim/cut.py" 263)])), (List.toArray [])⟩
-- Scalar.__init__
noncomputable abbrev a63 : Arguments := by
  refine' (fun (x : Arguments) (_ : argsOf (nth (inCls (nth PySem.Challenge.pw_sz0090_01.main.body 7)) 0) = x) => x) _ ?_
  rotate_left
  conv => lhs; whnf
noncomputable abbrev b63 : List Stmt := by
  refine' (fun (x : List Stmt) (_ : bodyOf (nth (inCls (nth PySem.Challenge.pw_sz0090_01.main.body 7)) 0) = x) => x) _ ?_
  rotate_left
  conv => lhs; whnf
noncomputable abbrev s63 : Scope := by
  refine' (fun (x : Scope) (_ : scopeOf (nth (inCls (nth PySem.Challenge.pw_sz0090_01.main.body 7)) 0) = x) => x) _ ?_
  rotate_left
  conv => lhs; whnf
noncomputable def o63 (P : Params) : Obj := ⟨(.type "function"), none, (.func (fnOf "__init__" "Scalar.__init__" a63 b63 s63 .none .none .none (.str "perlcore.values" 206) none (.ref 62) .none)), (List.toArray [])⟩
noncomputable def o65 (P : Params) : Obj := ⟨(.type "dict"), none, (.dict (List.toArray [⟨(PyData.keyHash P "__module__"), (.str "__module__" 251), (.str "perlcore.values" 206)⟩, ⟨(PyData.keyHash P "__firstlineno__"), (.str "__firstlineno__" 255), (.int 25 254)⟩, ⟨(PyData.keyHash P "__init__"), (.str "__init__" 264), (.ref 63)⟩, ⟨(PyData.keyHash P "__static_attributes__"), (.str "__static_attributes__" 267), (.ref 64)⟩, ⟨(PyData.keyHash P "__doc__"), (.str "__doc__" 268), .none⟩]) 2), (List.toArray [])⟩
noncomputable def o66 (P : Params) : Obj := ⟨(.type "type"), none, (.cls ⟨"Scalar", [(.ref 45)], [(.ref 66), (.ref 45), (.type "object")], 65, "Scalar", true, [], [], false, none, false⟩), (List.toArray [(some (.ref 50)), none, (some (.str "Scalar" 244)), (some (.str "Scalar" 252)), (some (.builtin "object.__new__")), (some (.bool true))])⟩
noncomputable def o100 (P : Params) : Obj := ⟨(.type "code"), none, (.fields (List.toArray [(.str "__init__" 309), (.str "Hash.__init__" 310), (.str "/claim/cut.py" 311), (.int 39 0), (.int 2 0), (.int 0 0), (.int 0 0), (.int 3 0), (.ref 95), (.bool true), (.int 181 0), (.ref 96), .none, (.ref 97), (.ref 98), (.ref 99), (.int 314 0), (.int 39 0), (.str "/claim/cut.py" 315)])), (List.toArray [])⟩
-- Hash.__init__
noncomputable abbrev a101 : Arguments := by
  refine' (fun (x : Arguments) (_ : argsOf (nth (inCls (nth PySem.Challenge.pw_sz0090_01.main.body 9)) 0) = x) => x) _ ?_
  rotate_left
  conv => lhs; whnf
noncomputable abbrev b101 : List Stmt := by
  refine' (fun (x : List Stmt) (_ : bodyOf (nth (inCls (nth PySem.Challenge.pw_sz0090_01.main.body 9)) 0) = x) => x) _ ?_
  rotate_left
  conv => lhs; whnf
noncomputable abbrev s101 : Scope := by
  refine' (fun (x : Scope) (_ : scopeOf (nth (inCls (nth PySem.Challenge.pw_sz0090_01.main.body 9)) 0) = x) => x) _ ?_
  rotate_left
  conv => lhs; whnf
noncomputable def o101 (P : Params) : Obj := ⟨(.type "function"), none, (.func (fnOf "__init__" "Hash.__init__" a101 b101 s101 .none .none .none (.str "perlcore.values" 206) none (.ref 100) .none)), (List.toArray [])⟩
noncomputable def o103 (P : Params) : Obj := ⟨(.type "dict"), none, (.dict (List.toArray [⟨(PyData.keyHash P "__module__"), (.str "__module__" 304), (.str "perlcore.values" 206)⟩, ⟨(PyData.keyHash P "__firstlineno__"), (.str "__firstlineno__" 308), (.int 37 307)⟩, ⟨(PyData.keyHash P "__init__"), (.str "__init__" 316), (.ref 101)⟩, ⟨(PyData.keyHash P "__static_attributes__"), (.str "__static_attributes__" 320), (.ref 102)⟩, ⟨(PyData.keyHash P "__doc__"), (.str "__doc__" 321), .none⟩]) 2), (List.toArray [])⟩
noncomputable def o104 (P : Params) : Obj := ⟨(.type "type"), none, (.cls ⟨"Hash", [(.ref 45)], [(.ref 104), (.ref 45), (.type "object")], 103, "Hash", true, [], [], false, none, false⟩), (List.toArray [(some (.ref 88)), none, (some (.str "Hash" 297)), (some (.str "Hash" 305)), (some (.builtin "object.__new__")), (some (.bool true))])⟩
noncomputable def o161 (P : Params) : Obj := ⟨(.type "dict"), none, (.dict (List.toArray [⟨(PyData.keyHash P "__module__"), (.str "__module__" 391), (.str "perlcore.values" 206)⟩, ⟨(PyData.keyHash P "__firstlineno__"), (.str "__firstlineno__" 395), (.int 61 394)⟩, ⟨(PyData.keyHash P "__init__"), (.str "__init__" 404), (.ref 159)⟩, ⟨(PyData.keyHash P "__static_attributes__"), (.str "__static_attributes__" 407), (.ref 160)⟩, ⟨(PyData.keyHash P "__dict__"), (.str "__dict__" 409), (.ref 163)⟩, ⟨(PyData.keyHash P "__weakref__"), (.str "__weakref__" 411), (.ref 164)⟩, ⟨(PyData.keyHash P "__doc__"), (.str "__doc__" 412), .none⟩]) 4), (List.toArray [])⟩
noncomputable def o162 (P : Params) : Obj := ⟨(.type "type"), none, (.cls ⟨"Ref", [(.type "object")], [(.ref 162), (.type "object")], 161, "Ref", true, [], [], false, none, false⟩), (List.toArray [none, none, (some (.str "Ref" 384)), (some (.str "Ref" 392)), (some (.builtin "object.__new__")), (some (.bool true))])⟩
noncomputable def o179 (P : Params) : Obj := ⟨(.type "code"), none, (.fields (List.toArray [(.str "__init__" 427), (.str "Heap.__init__" 428), (.str "/claim/cut.py" 429), (.int 68 0), (.int 2 0), (.int 0 0), (.int 0 0), (.int 3 0), (.ref 174), (.bool true), (.int 181 0), (.ref 175), .none, (.ref 176), (.ref 177), (.ref 178), (.int 432 0), (.int 68 0), (.str "/claim/cut.py" 433)])), (List.toArray [])⟩
-- Heap.__init__
noncomputable abbrev a180 : Arguments := by
  refine' (fun (x : Arguments) (_ : argsOf (nth (inCls (nth PySem.Challenge.pw_sz0090_01.main.body 13)) 0) = x) => x) _ ?_
  rotate_left
  conv => lhs; whnf
noncomputable abbrev b180 : List Stmt := by
  refine' (fun (x : List Stmt) (_ : bodyOf (nth (inCls (nth PySem.Challenge.pw_sz0090_01.main.body 13)) 0) = x) => x) _ ?_
  rotate_left
  conv => lhs; whnf
noncomputable abbrev s180 : Scope := by
  refine' (fun (x : Scope) (_ : scopeOf (nth (inCls (nth PySem.Challenge.pw_sz0090_01.main.body 13)) 0) = x) => x) _ ?_
  rotate_left
  conv => lhs; whnf
noncomputable def o180 (P : Params) : Obj := ⟨(.type "function"), none, (.func (fnOf "__init__" "Heap.__init__" a180 b180 s180 .none .none .none (.str "perlcore.values" 206) none (.ref 179) .none)), (List.toArray [])⟩
noncomputable def o186 (P : Params) : Obj := ⟨(.type "code"), none, (.fields (List.toArray [(.str "next_number" 435), (.str "Heap.next_number" 436), (.str "/claim/cut.py" 437), (.int 73 0), (.int 1 0), (.int 0 0), (.int 0 0), (.int 3 0), (.ref 181), (.bool true), (.int 181 0), (.ref 182), .none, (.ref 183), (.ref 184), (.ref 185), (.int 439 0), (.int 73 0), (.str "/claim/cut.py" 440)])), (List.toArray [])⟩
-- Heap.next_number
noncomputable abbrev a187 : Arguments := by
  refine' (fun (x : Arguments) (_ : argsOf (nth (inCls (nth PySem.Challenge.pw_sz0090_01.main.body 13)) 1) = x) => x) _ ?_
  rotate_left
  conv => lhs; whnf
noncomputable abbrev b187 : List Stmt := by
  refine' (fun (x : List Stmt) (_ : bodyOf (nth (inCls (nth PySem.Challenge.pw_sz0090_01.main.body 13)) 1) = x) => x) _ ?_
  rotate_left
  conv => lhs; whnf
noncomputable abbrev s187 : Scope := by
  refine' (fun (x : Scope) (_ : scopeOf (nth (inCls (nth PySem.Challenge.pw_sz0090_01.main.body 13)) 1) = x) => x) _ ?_
  rotate_left
  conv => lhs; whnf
noncomputable def o187 (P : Params) : Obj := ⟨(.type "function"), none, (.func (fnOf "next_number" "Heap.next_number" a187 b187 s187 .none .none .none (.str "perlcore.values" 206) none (.ref 186) .none)), (List.toArray [])⟩
noncomputable def o193 (P : Params) : Obj := ⟨(.type "code"), none, (.fields (List.toArray [(.str "new_scalar" 442), (.str "Heap.new_scalar" 443), (.str "/claim/cut.py" 444), (.int 77 0), (.int 2 0), (.int 0 0), (.int 0 0), (.int 3 0), (.ref 188), (.bool true), (.int 181 0), (.ref 189), .none, (.ref 190), (.ref 191), (.ref 192), (.int 447 0), (.int 77 0), (.str "/claim/cut.py" 448)])), (List.toArray [])⟩
-- Heap.new_scalar
noncomputable abbrev a194 : Arguments := by
  refine' (fun (x : Arguments) (_ : argsOf (nth (inCls (nth PySem.Challenge.pw_sz0090_01.main.body 13)) 2) = x) => x) _ ?_
  rotate_left
  conv => lhs; whnf
noncomputable abbrev b194 : List Stmt := by
  refine' (fun (x : List Stmt) (_ : bodyOf (nth (inCls (nth PySem.Challenge.pw_sz0090_01.main.body 13)) 2) = x) => x) _ ?_
  rotate_left
  conv => lhs; whnf
noncomputable abbrev s194 : Scope := by
  refine' (fun (x : Scope) (_ : scopeOf (nth (inCls (nth PySem.Challenge.pw_sz0090_01.main.body 13)) 2) = x) => x) _ ?_
  rotate_left
  conv => lhs; whnf
noncomputable def o194 (P : Params) : Obj := ⟨(.type "function"), none, (.func (fnOf "new_scalar" "Heap.new_scalar" a194 b194 s194 .none .none .none (.str "perlcore.values" 206) none (.ref 193) .none)), (List.toArray [])⟩
noncomputable def o207 (P : Params) : Obj := ⟨(.type "code"), none, (.fields (List.toArray [(.str "new_hash" 457), (.str "Heap.new_hash" 458), (.str "/claim/cut.py" 459), (.int 83 0), (.int 1 0), (.int 0 0), (.int 0 0), (.int 3 0), (.ref 202), (.bool true), (.int 181 0), (.ref 203), .none, (.ref 204), (.ref 205), (.ref 206), (.int 461 0), (.int 83 0), (.str "/claim/cut.py" 462)])), (List.toArray [])⟩
-- Heap.new_hash
noncomputable abbrev a208 : Arguments := by
  refine' (fun (x : Arguments) (_ : argsOf (nth (inCls (nth PySem.Challenge.pw_sz0090_01.main.body 13)) 4) = x) => x) _ ?_
  rotate_left
  conv => lhs; whnf
noncomputable abbrev b208 : List Stmt := by
  refine' (fun (x : List Stmt) (_ : bodyOf (nth (inCls (nth PySem.Challenge.pw_sz0090_01.main.body 13)) 4) = x) => x) _ ?_
  rotate_left
  conv => lhs; whnf
noncomputable abbrev s208 : Scope := by
  refine' (fun (x : Scope) (_ : scopeOf (nth (inCls (nth PySem.Challenge.pw_sz0090_01.main.body 13)) 4) = x) => x) _ ?_
  rotate_left
  conv => lhs; whnf
noncomputable def o208 (P : Params) : Obj := ⟨(.type "function"), none, (.func (fnOf "new_hash" "Heap.new_hash" a208 b208 s208 .none .none .none (.str "perlcore.values" 206) none (.ref 207) .none)), (List.toArray [])⟩
noncomputable def o224 (P : Params) : Obj := ⟨(.type "dict"), none, (.dict (List.toArray [⟨(PyData.keyHash P "__module__"), (.str "__module__" 422), (.str "perlcore.values" 206)⟩, ⟨(PyData.keyHash P "__firstlineno__"), (.str "__firstlineno__" 426), (.int 66 425)⟩, ⟨(PyData.keyHash P "__init__"), (.str "__init__" 434), (.ref 180)⟩, ⟨(PyData.keyHash P "next_number"), (.str "next_number" 441), (.ref 187)⟩, ⟨(PyData.keyHash P "new_scalar"), (.str "new_scalar" 449), (.ref 194)⟩, ⟨(PyData.keyHash P "new_array"), (.str "new_array" 456), (.ref 201)⟩, ⟨(PyData.keyHash P "new_hash"), (.str "new_hash" 463), (.ref 208)⟩, ⟨(PyData.keyHash P "new_code"), (.str "new_code" 472), (.ref 215)⟩, ⟨(PyData.keyHash P "new_glob"), (.str "new_glob" 480), (.ref 222)⟩, ⟨(PyData.keyHash P "__static_attributes__"), (.str "__static_attributes__" 484), (.ref 223)⟩, ⟨(PyData.keyHash P "__dict__"), (.str "__dict__" 486), (.ref 226)⟩, ⟨(PyData.keyHash P "__weakref__"), (.str "__weakref__" 488), (.ref 227)⟩, ⟨(PyData.keyHash P "__doc__"), (.str "__doc__" 489), .none⟩]) 4), (List.toArray [])⟩
noncomputable def o225 (P : Params) : Obj := ⟨(.type "type"), none, (.cls ⟨"Heap", [(.type "object")], [(.ref 225), (.type "object")], 224, "Heap", true, [], [], false, none, false⟩), (List.toArray [none, none, (some (.str "Heap" 415)), (some (.str "Heap" 423)), (some (.builtin "object.__new__")), (some (.bool true))])⟩
noncomputable def o256 (P : Params) : Obj := ⟨(.type "code"), none, (.fields (List.toArray [(.str "value_of" 517), (.str "value_of" 518), (.str "/claim/cut.py" 519), (.int 115 0), (.int 1 0), (.int 0 0), (.int 0 0), (.int 3 0), (.ref 251), (.bool true), (.int 181 0), (.ref 252), .none, (.ref 253), (.ref 254), (.ref 255), (.int 521 0), (.int 115 0), (.str "/claim/cut.py" 522)])), (List.toArray [])⟩
-- value_of
noncomputable abbrev a257 : Arguments := by
  refine' (fun (x : Arguments) (_ : argsOf (nth PySem.Challenge.pw_sz0090_01.main.body 18) = x) => x) _ ?_
  rotate_left
  conv => lhs; whnf
noncomputable abbrev b257 : List Stmt := by
  refine' (fun (x : List Stmt) (_ : bodyOf (nth PySem.Challenge.pw_sz0090_01.main.body 18) = x) => x) _ ?_
  rotate_left
  conv => lhs; whnf
noncomputable abbrev s257 : Scope := by
  refine' (fun (x : Scope) (_ : scopeOf (nth PySem.Challenge.pw_sz0090_01.main.body 18) = x) => x) _ ?_
  rotate_left
  conv => lhs; whnf
noncomputable def o257 (P : Params) : Obj := ⟨(.type "function"), none, (.func (fnOf "value_of" "value_of" a257 b257 s257 .none .none .none (.str "perlcore.convert" 515) none (.ref 256) .none)), (List.toArray [])⟩
noncomputable def o263 (P : Params) : Obj := ⟨(.type "code"), none, (.fields (List.toArray [(.str "to_text" 524), (.str "to_text" 525), (.str "/claim/cut.py" 526), (.int 121 0), (.int 1 0), (.int 0 0), (.int 0 0), (.int 3 0), (.ref 258), (.bool true), (.int 181 0), (.ref 259), .none, (.ref 260), (.ref 261), (.ref 262), (.int 528 0), (.int 121 0), (.str "/claim/cut.py" 529)])), (List.toArray [])⟩
-- to_text
noncomputable abbrev a264 : Arguments := by
  refine' (fun (x : Arguments) (_ : argsOf (nth PySem.Challenge.pw_sz0090_01.main.body 19) = x) => x) _ ?_
  rotate_left
  conv => lhs; whnf
noncomputable abbrev b264 : List Stmt := by
  refine' (fun (x : List Stmt) (_ : bodyOf (nth PySem.Challenge.pw_sz0090_01.main.body 19) = x) => x) _ ?_
  rotate_left
  conv => lhs; whnf
noncomputable abbrev s264 : Scope := by
  refine' (fun (x : Scope) (_ : scopeOf (nth PySem.Challenge.pw_sz0090_01.main.body 19) = x) => x) _ ?_
  rotate_left
  conv => lhs; whnf
noncomputable def o264 (P : Params) : Obj := ⟨(.type "function"), none, (.func (fnOf "to_text" "to_text" a264 b264 s264 .none .none .none (.str "perlcore.convert" 515) none (.ref 263) .none)), (List.toArray [])⟩
noncomputable def o309 (P : Params) : Obj := ⟨(.type "code"), none, (.fields (List.toArray [(.str "drop_member" 591), (.str "drop_member" 592), (.str "/claim/cut.py" 593), (.int 142 0), (.int 2 0), (.int 0 0), (.int 0 0), (.int 3 0), (.ref 304), (.bool true), (.int 181 0), (.ref 305), .none, (.ref 306), (.ref 307), (.ref 308), (.int 597 0), (.int 142 0), (.str "/claim/cut.py" 598)])), (List.toArray [])⟩
-- drop_member
noncomputable abbrev a310 : Arguments := by
  refine' (fun (x : Arguments) (_ : argsOf (nth PySem.Challenge.pw_sz0090_01.main.body 25) = x) => x) _ ?_
  rotate_left
  conv => lhs; whnf
noncomputable abbrev b310 : List Stmt := by
  refine' (fun (x : List Stmt) (_ : bodyOf (nth PySem.Challenge.pw_sz0090_01.main.body 25) = x) => x) _ ?_
  rotate_left
  conv => lhs; whnf
noncomputable abbrev s310 : Scope := by
  refine' (fun (x : Scope) (_ : scopeOf (nth PySem.Challenge.pw_sz0090_01.main.body 25) = x) => x) _ ?_
  rotate_left
  conv => lhs; whnf
noncomputable def o310 (P : Params) : Obj := ⟨(.type "function"), none, (.func (fnOf "drop_member" "drop_member" a310 b310 s310 .none .none .none (.str "perlcore.listops" 587) none (.ref 309) .none)), (List.toArray [])⟩
noncomputable def o316 (P : Params) : Obj := ⟨(.type "code"), none, (.fields (List.toArray [(.str "check_room" 600), (.str "check_room" 601), (.str "/claim/cut.py" 602), (.int 148 0), (.int 2 0), (.int 0 0), (.int 0 0), (.int 3 0), (.ref 311), (.bool true), (.int 181 0), (.ref 312), .none, (.ref 313), (.ref 314), (.ref 315), (.int 605 0), (.int 148 0), (.str "/claim/cut.py" 606)])), (List.toArray [])⟩
-- check_room
noncomputable abbrev a317 : Arguments := by
  refine' (fun (x : Arguments) (_ : argsOf (nth PySem.Challenge.pw_sz0090_01.main.body 26) = x) => x) _ ?_
  rotate_left
  conv => lhs; whnf
noncomputable abbrev b317 : List Stmt := by
  refine' (fun (x : List Stmt) (_ : bodyOf (nth PySem.Challenge.pw_sz0090_01.main.body 26) = x) => x) _ ?_
  rotate_left
  conv => lhs; whnf
noncomputable abbrev s317 : Scope := by
  refine' (fun (x : Scope) (_ : scopeOf (nth PySem.Challenge.pw_sz0090_01.main.body 26) = x) => x) _ ?_
  rotate_left
  conv => lhs; whnf
noncomputable def o317 (P : Params) : Obj := ⟨(.type "function"), none, (.func (fnOf "check_room" "check_room" a317 b317 s317 .none .none .none (.str "perlcore.listops" 587) none (.ref 316) .none)), (List.toArray [])⟩
noncomputable def o323 (P : Params) : Obj := ⟨(.type "code"), none, (.fields (List.toArray [(.str "has_key" 610), (.str "has_key" 611), (.str "/claim/cut.py" 612), (.int 152 0), (.int 2 0), (.int 0 0), (.int 0 0), (.int 3 0), (.ref 318), (.bool true), (.int 181 0), (.ref 319), .none, (.ref 320), (.ref 321), (.ref 322), (.int 615 0), (.int 152 0), (.str "/claim/cut.py" 616)])), (List.toArray [])⟩
-- has_key
noncomputable abbrev a324 : Arguments := by
  refine' (fun (x : Arguments) (_ : argsOf (nth PySem.Challenge.pw_sz0090_01.main.body 28) = x) => x) _ ?_
  rotate_left
  conv => lhs; whnf
noncomputable abbrev b324 : List Stmt := by
  refine' (fun (x : List Stmt) (_ : bodyOf (nth PySem.Challenge.pw_sz0090_01.main.body 28) = x) => x) _ ?_
  rotate_left
  conv => lhs; whnf
noncomputable abbrev s324 : Scope := by
  refine' (fun (x : Scope) (_ : scopeOf (nth PySem.Challenge.pw_sz0090_01.main.body 28) = x) => x) _ ?_
  rotate_left
  conv => lhs; whnf
noncomputable def o324 (P : Params) : Obj := ⟨(.type "function"), none, (.func (fnOf "has_key" "has_key" a324 b324 s324 .none .none .none (.str "perlcore.hashops" 608) none (.ref 323) .none)), (List.toArray [])⟩
noncomputable def o330 (P : Params) : Obj := ⟨(.type "code"), none, (.fields (List.toArray [(.str "key_place" 618), (.str "key_place" 619), (.str "/claim/cut.py" 620), (.int 154 0), (.int 2 0), (.int 0 0), (.int 0 0), (.int 3 0), (.ref 325), (.bool true), (.int 181 0), (.ref 326), .none, (.ref 327), (.ref 328), (.ref 329), (.int 625 0), (.int 154 0), (.str "/claim/cut.py" 626)])), (List.toArray [])⟩
-- key_place
noncomputable abbrev a331 : Arguments := by
  refine' (fun (x : Arguments) (_ : argsOf (nth PySem.Challenge.pw_sz0090_01.main.body 29) = x) => x) _ ?_
  rotate_left
  conv => lhs; whnf
noncomputable abbrev b331 : List Stmt := by
  refine' (fun (x : List Stmt) (_ : bodyOf (nth PySem.Challenge.pw_sz0090_01.main.body 29) = x) => x) _ ?_
  rotate_left
  conv => lhs; whnf
noncomputable abbrev s331 : Scope := by
  refine' (fun (x : Scope) (_ : scopeOf (nth PySem.Challenge.pw_sz0090_01.main.body 29) = x) => x) _ ?_
  rotate_left
  conv => lhs; whnf
noncomputable def o331 (P : Params) : Obj := ⟨(.type "function"), none, (.func (fnOf "key_place" "key_place" a331 b331 s331 .none .none .none (.str "perlcore.hashops" 608) none (.ref 330) .none)), (List.toArray [])⟩
noncomputable def o337 (P : Params) : Obj := ⟨(.type "code"), none, (.fields (List.toArray [(.str "delete_key" 628), (.str "delete_key" 629), (.str "/claim/cut.py" 630), (.int 161 0), (.int 3 0), (.int 0 0), (.int 0 0), (.int 3 0), (.ref 332), (.bool true), (.int 181 0), (.ref 333), .none, (.ref 334), (.ref 335), (.ref 336), (.int 634 0), (.int 161 0), (.str "/claim/cut.py" 635)])), (List.toArray [])⟩
-- delete_key
noncomputable abbrev a338 : Arguments := by
  refine' (fun (x : Arguments) (_ : argsOf (nth PySem.Challenge.pw_sz0090_01.main.body 30) = x) => x) _ ?_
  rotate_left
  conv => lhs; whnf
noncomputable abbrev b338 : List Stmt := by
  refine' (fun (x : List Stmt) (_ : bodyOf (nth PySem.Challenge.pw_sz0090_01.main.body 30) = x) => x) _ ?_
  rotate_left
  conv => lhs; whnf
noncomputable abbrev s338 : Scope := by
  refine' (fun (x : Scope) (_ : scopeOf (nth PySem.Challenge.pw_sz0090_01.main.body 30) = x) => x) _ ?_
  rotate_left
  conv => lhs; whnf
noncomputable def o338 (P : Params) : Obj := ⟨(.type "function"), none, (.func (fnOf "delete_key" "delete_key" a338 b338 s338 .none .none .none (.str "perlcore.hashops" 608) none (.ref 337) .none)), (List.toArray [])⟩
noncomputable def o344 (P : Params) : Obj := ⟨(.type "code"), none, (.fields (List.toArray [(.str "clear_hash" 637), (.str "clear_hash" 638), (.str "/claim/cut.py" 639), (.int 167 0), (.int 2 0), (.int 0 0), (.int 0 0), (.int 3 0), (.ref 339), (.bool true), (.int 181 0), (.ref 340), .none, (.ref 341), (.ref 342), (.ref 343), (.int 644 0), (.int 167 0), (.str "/claim/cut.py" 645)])), (List.toArray [])⟩
-- clear_hash
noncomputable abbrev a345 : Arguments := by
  refine' (fun (x : Arguments) (_ : argsOf (nth PySem.Challenge.pw_sz0090_01.main.body 31) = x) => x) _ ?_
  rotate_left
  conv => lhs; whnf
noncomputable abbrev b345 : List Stmt := by
  refine' (fun (x : List Stmt) (_ : bodyOf (nth PySem.Challenge.pw_sz0090_01.main.body 31) = x) => x) _ ?_
  rotate_left
  conv => lhs; whnf
noncomputable abbrev s345 : Scope := by
  refine' (fun (x : Scope) (_ : scopeOf (nth PySem.Challenge.pw_sz0090_01.main.body 31) = x) => x) _ ?_
  rotate_left
  conv => lhs; whnf
noncomputable def o345 (P : Params) : Obj := ⟨(.type "function"), none, (.func (fnOf "clear_hash" "clear_hash" a345 b345 s345 .none .none .none (.str "perlcore.hashops" 608) none (.ref 344) .none)), (List.toArray [])⟩
noncomputable def o351 (P : Params) : Obj := ⟨(.type "code"), none, (.fields (List.toArray [(.str "hash_keys" 647), (.str "hash_keys" 648), (.str "/claim/cut.py" 649), (.int 173 0), (.int 1 0), (.int 0 0), (.int 0 0), (.int 3 0), (.ref 346), (.bool true), (.int 181 0), (.ref 347), .none, (.ref 348), (.ref 349), (.ref 350), (.int 651 0), (.int 173 0), (.str "/claim/cut.py" 652)])), (List.toArray [])⟩
-- hash_keys
noncomputable abbrev a352 : Arguments := by
  refine' (fun (x : Arguments) (_ : argsOf (nth PySem.Challenge.pw_sz0090_01.main.body 32) = x) => x) _ ?_
  rotate_left
  conv => lhs; whnf
noncomputable abbrev b352 : List Stmt := by
  refine' (fun (x : List Stmt) (_ : bodyOf (nth PySem.Challenge.pw_sz0090_01.main.body 32) = x) => x) _ ?_
  rotate_left
  conv => lhs; whnf
noncomputable abbrev s352 : Scope := by
  refine' (fun (x : Scope) (_ : scopeOf (nth PySem.Challenge.pw_sz0090_01.main.body 32) = x) => x) _ ?_
  rotate_left
  conv => lhs; whnf
noncomputable def o352 (P : Params) : Obj := ⟨(.type "function"), none, (.func (fnOf "hash_keys" "hash_keys" a352 b352 s352 .none .none .none (.str "perlcore.hashops" 608) none (.ref 351) .none)), (List.toArray [])⟩
noncomputable def o358 (P : Params) : Obj := ⟨(.type "code"), none, (.fields (List.toArray [(.str "hash_count" 654), (.str "hash_count" 655), (.str "/claim/cut.py" 656), (.int 176 0), (.int 1 0), (.int 0 0), (.int 0 0), (.int 3 0), (.ref 353), (.bool true), (.int 181 0), (.ref 354), .none, (.ref 355), (.ref 356), (.ref 357), (.int 658 0), (.int 176 0), (.str "/claim/cut.py" 659)])), (List.toArray [])⟩
-- hash_count
noncomputable abbrev a359 : Arguments := by
  refine' (fun (x : Arguments) (_ : argsOf (nth PySem.Challenge.pw_sz0090_01.main.body 33) = x) => x) _ ?_
  rotate_left
  conv => lhs; whnf
noncomputable abbrev b359 : List Stmt := by
  refine' (fun (x : List Stmt) (_ : bodyOf (nth PySem.Challenge.pw_sz0090_01.main.body 33) = x) => x) _ ?_
  rotate_left
  conv => lhs; whnf
noncomputable abbrev s359 : Scope := by
  refine' (fun (x : Scope) (_ : scopeOf (nth PySem.Challenge.pw_sz0090_01.main.body 33) = x) => x) _ ?_
  rotate_left
  conv => lhs; whnf
noncomputable def o359 (P : Params) : Obj := ⟨(.type "function"), none, (.func (fnOf "hash_count" "hash_count" a359 b359 s359 .none .none .none (.str "perlcore.hashops" 608) none (.ref 358) .none)), (List.toArray [])⟩
noncomputable def o363 (P : Params) : Obj := ⟨(.type "code"), none, (.fields (List.toArray [(.str "delete_keys" 661), (.str "delete_keys" 662), (.str "/claim/cut.py" 663), (.int 178 0), (.int 3 0), (.int 0 0), (.int 0 0), (.int 3 0), (.ref 360), (.bool true), (.int 181 0), (.ref 361), .none, .none, .none, (.ref 362), (.int 664 0), (.int 178 0), (.str "/claim/cut.py" 665)])), (List.toArray [])⟩
-- delete_keys
noncomputable abbrev a364 : Arguments := by
  refine' (fun (x : Arguments) (_ : argsOf (nth PySem.Challenge.pw_sz0090_01.main.body 34) = x) => x) _ ?_
  rotate_left
  conv => lhs; whnf
noncomputable abbrev b364 : List Stmt := by
  refine' (fun (x : List Stmt) (_ : bodyOf (nth PySem.Challenge.pw_sz0090_01.main.body 34) = x) => x) _ ?_
  rotate_left
  conv => lhs; whnf
noncomputable abbrev s364 : Scope := by
  refine' (fun (x : Scope) (_ : scopeOf (nth PySem.Challenge.pw_sz0090_01.main.body 34) = x) => x) _ ?_
  rotate_left
  conv => lhs; whnf
noncomputable def o364 (P : Params) : Obj := ⟨(.type "function"), none, (.func (fnOf "delete_keys" "delete_keys" a364 b364 s364 .none .none .none (.str "perlcore.hashops" 608) none (.ref 363) .none)), (List.toArray [])⟩
noncomputable def o370 (P : Params) : Obj := ⟨(.type "code"), none, (.fields (List.toArray [(.str "fill_hash" 667), (.str "fill_hash" 668), (.str "/claim/cut.py" 669), (.int 180 0), (.int 3 0), (.int 0 0), (.int 0 0), (.int 3 0), (.ref 365), (.bool true), (.int 181 0), (.ref 366), .none, (.ref 367), (.ref 368), (.ref 369), (.int 677 0), (.int 180 0), (.str "/claim/cut.py" 678)])), (List.toArray [])⟩
-- fill_hash
noncomputable abbrev a371 : Arguments := by
  refine' (fun (x : Arguments) (_ : argsOf (nth PySem.Challenge.pw_sz0090_01.main.body 35) = x) => x) _ ?_
  rotate_left
  conv => lhs; whnf
noncomputable abbrev b371 : List Stmt := by
  refine' (fun (x : List Stmt) (_ : bodyOf (nth PySem.Challenge.pw_sz0090_01.main.body 35) = x) => x) _ ?_
  rotate_left
  conv => lhs; whnf
noncomputable abbrev s371 : Scope := by
  refine' (fun (x : Scope) (_ : scopeOf (nth PySem.Challenge.pw_sz0090_01.main.body 35) = x) => x) _ ?_
  rotate_left
  conv => lhs; whnf
noncomputable def o371 (P : Params) : Obj := ⟨(.type "function"), none, (.func (fnOf "fill_hash" "fill_hash" a371 b371 s371 .none .none .none (.str "perlcore.hashops" 608) none (.ref 370) .none)), (List.toArray [])⟩
noncomputable def o384 (P : Params) : Obj := ⟨(.type "code"), none, (.fields (List.toArray [(.str "__init__" 694), (.str "Counter.__init__" 695), (.str "/claim/cut.py" 696), (.int 195 0), (.int 3 0), (.int 0 0), (.int 0 0), (.int 3 0), (.ref 379), (.bool true), (.int 181 0), (.ref 380), .none, (.ref 381), (.ref 382), (.ref 383), (.int 700 0), (.int 195 0), (.str "/claim/cut.py" 701)])), (List.toArray [])⟩
-- Counter.__init__
noncomputable abbrev a385 : Arguments := by
  refine' (fun (x : Arguments) (_ : argsOf (nth (inCls (nth PySem.Challenge.pw_sz0090_01.main.body 37)) 0) = x) => x) _ ?_
  rotate_left
  conv => lhs; whnf
noncomputable abbrev b385 : List Stmt := by
  refine' (fun (x : List Stmt) (_ : bodyOf (nth (inCls (nth PySem.Challenge.pw_sz0090_01.main.body 37)) 0) = x) => x) _ ?_
  rotate_left
  conv => lhs; whnf
noncomputable abbrev s385 : Scope := by
  refine' (fun (x : Scope) (_ : scopeOf (nth (inCls (nth PySem.Challenge.pw_sz0090_01.main.body 37)) 0) = x) => x) _ ?_
  rotate_left
  conv => lhs; whnf
noncomputable def o385 (P : Params) : Obj := ⟨(.type "function"), none, (.func (fnOf "__init__" "Counter.__init__" a385 b385 s385 .none .none .none (.str "perlcore.counts" 680) none (.ref 384) .none)), (List.toArray [])⟩
noncomputable def o398 (P : Params) : Obj := ⟨(.type "code"), none, (.fields (List.toArray [(.str "let_go" 711), (.str "Counter.let_go" 712), (.str "/claim/cut.py" 713), (.int 204 0), (.int 2 0), (.int 0 0), (.int 0 0), (.int 3 0), (.ref 393), (.bool true), (.int 181 0), (.ref 394), .none, (.ref 395), (.ref 396), (.ref 397), (.int 716 0), (.int 204 0), (.str "/claim/cut.py" 717)])), (List.toArray [])⟩
-- Counter.let_go
noncomputable abbrev a399 : Arguments := by
  refine' (fun (x : Arguments) (_ : argsOf (nth (inCls (nth PySem.Challenge.pw_sz0090_01.main.body 37)) 2) = x) => x) _ ?_
  rotate_left
  conv => lhs; whnf
noncomputable abbrev b399 : List Stmt := by
  refine' (fun (x : List Stmt) (_ : bodyOf (nth (inCls (nth PySem.Challenge.pw_sz0090_01.main.body 37)) 2) = x) => x) _ ?_
  rotate_left
  conv => lhs; whnf
noncomputable abbrev s399 : Scope := by
  refine' (fun (x : Scope) (_ : scopeOf (nth (inCls (nth PySem.Challenge.pw_sz0090_01.main.body 37)) 2) = x) => x) _ ?_
  rotate_left
  conv => lhs; whnf
noncomputable def o399 (P : Params) : Obj := ⟨(.type "function"), none, (.func (fnOf "let_go" "Counter.let_go" a399 b399 s399 .none .none .none (.str "perlcore.counts" 680) none (.ref 398) .none)), (List.toArray [])⟩
noncomputable def o412 (P : Params) : Obj := ⟨(.type "code"), none, (.fields (List.toArray [(.str "take" 727), (.str "Counter.take" 728), (.str "/claim/cut.py" 729), (.int 212 0), (.int 2 0), (.int 0 0), (.int 0 0), (.int 3 0), (.ref 407), (.bool true), (.int 181 0), (.ref 408), .none, (.ref 409), (.ref 410), (.ref 411), (.int 732 0), (.int 212 0), (.str "/claim/cut.py" 733)])), (List.toArray [])⟩
-- Counter.take
noncomputable abbrev a413 : Arguments := by
  refine' (fun (x : Arguments) (_ : argsOf (nth (inCls (nth PySem.Challenge.pw_sz0090_01.main.body 37)) 4) = x) => x) _ ?_
  rotate_left
  conv => lhs; whnf
noncomputable abbrev b413 : List Stmt := by
  refine' (fun (x : List Stmt) (_ : bodyOf (nth (inCls (nth PySem.Challenge.pw_sz0090_01.main.body 37)) 4) = x) => x) _ ?_
  rotate_left
  conv => lhs; whnf
noncomputable abbrev s413 : Scope := by
  refine' (fun (x : Scope) (_ : scopeOf (nth (inCls (nth PySem.Challenge.pw_sz0090_01.main.body 37)) 4) = x) => x) _ ?_
  rotate_left
  conv => lhs; whnf
noncomputable def o413 (P : Params) : Obj := ⟨(.type "function"), none, (.func (fnOf "take" "Counter.take" a413 b413 s413 .none .none .none (.str "perlcore.counts" 680) none (.ref 412) .none)), (List.toArray [])⟩
noncomputable def o417 (P : Params) : Obj := ⟨(.type "code"), none, (.fields (List.toArray [(.str "put_off" 735), (.str "Counter.put_off" 736), (.str "/claim/cut.py" 737), (.int 220 0), (.int 3 0), (.int 0 0), (.int 0 0), (.int 3 0), (.ref 414), (.bool true), (.int 181 0), (.ref 415), .none, .none, .none, (.ref 416), (.int 738 0), (.int 220 0), (.str "/claim/cut.py" 739)])), (List.toArray [])⟩
-- Counter.put_off
noncomputable abbrev a418 : Arguments := by
  refine' (fun (x : Arguments) (_ : argsOf (nth (inCls (nth PySem.Challenge.pw_sz0090_01.main.body 37)) 5) = x) => x) _ ?_
  rotate_left
  conv => lhs; whnf
noncomputable abbrev b418 : List Stmt := by
  refine' (fun (x : List Stmt) (_ : bodyOf (nth (inCls (nth PySem.Challenge.pw_sz0090_01.main.body 37)) 5) = x) => x) _ ?_
  rotate_left
  conv => lhs; whnf
noncomputable abbrev s418 : Scope := by
  refine' (fun (x : Scope) (_ : scopeOf (nth (inCls (nth PySem.Challenge.pw_sz0090_01.main.body 37)) 5) = x) => x) _ ?_
  rotate_left
  conv => lhs; whnf
noncomputable def o418 (P : Params) : Obj := ⟨(.type "function"), none, (.func (fnOf "put_off" "Counter.put_off" a418 b418 s418 .none .none .none (.str "perlcore.counts" 680) none (.ref 417) .none)), (List.toArray [])⟩
noncomputable def o424 (P : Params) : Obj := ⟨(.type "code"), none, (.fields (List.toArray [(.str "store" 741), (.str "Counter.store" 742), (.str "/claim/cut.py" 743), (.int 228 0), (.int 3 0), (.int 0 0), (.int 0 0), (.int 3 0), (.ref 419), (.bool true), (.int 181 0), (.ref 420), .none, (.ref 421), (.ref 422), (.ref 423), (.int 748 0), (.int 228 0), (.str "/claim/cut.py" 749)])), (List.toArray [])⟩
-- Counter.store
noncomputable abbrev a425 : Arguments := by
  refine' (fun (x : Arguments) (_ : argsOf (nth (inCls (nth PySem.Challenge.pw_sz0090_01.main.body 37)) 6) = x) => x) _ ?_
  rotate_left
  conv => lhs; whnf
noncomputable abbrev b425 : List Stmt := by
  refine' (fun (x : List Stmt) (_ : bodyOf (nth (inCls (nth PySem.Challenge.pw_sz0090_01.main.body 37)) 6) = x) => x) _ ?_
  rotate_left
  conv => lhs; whnf
noncomputable abbrev s425 : Scope := by
  refine' (fun (x : Scope) (_ : scopeOf (nth (inCls (nth PySem.Challenge.pw_sz0090_01.main.body 37)) 6) = x) => x) _ ?_
  rotate_left
  conv => lhs; whnf
noncomputable def o425 (P : Params) : Obj := ⟨(.type "function"), none, (.func (fnOf "store" "Counter.store" a425 b425 s425 .none .none .none (.str "perlcore.counts" 680) none (.ref 424) .none)), (List.toArray [])⟩
noncomputable def o431 (P : Params) : Obj := ⟨(.type "code"), none, (.fields (List.toArray [(.str "fresh" 751), (.str "Counter.fresh" 752), (.str "/claim/cut.py" 753), (.int 238 0), (.int 2 0), (.int 0 0), (.int 0 0), (.int 3 0), (.ref 426), (.bool true), (.int 181 0), (.ref 427), .none, (.ref 428), (.ref 429), (.ref 430), (.int 757 0), (.int 238 0), (.str "/claim/cut.py" 758)])), (List.toArray [])⟩
-- Counter.fresh
noncomputable abbrev a432 : Arguments := by
  refine' (fun (x : Arguments) (_ : argsOf (nth (inCls (nth PySem.Challenge.pw_sz0090_01.main.body 37)) 7) = x) => x) _ ?_
  rotate_left
  conv => lhs; whnf
noncomputable abbrev b432 : List Stmt := by
  refine' (fun (x : List Stmt) (_ : bodyOf (nth (inCls (nth PySem.Challenge.pw_sz0090_01.main.body 37)) 7) = x) => x) _ ?_
  rotate_left
  conv => lhs; whnf
noncomputable abbrev s432 : Scope := by
  refine' (fun (x : Scope) (_ : scopeOf (nth (inCls (nth PySem.Challenge.pw_sz0090_01.main.body 37)) 7) = x) => x) _ ?_
  rotate_left
  conv => lhs; whnf
noncomputable def o432 (P : Params) : Obj := ⟨(.type "function"), none, (.func (fnOf "fresh" "Counter.fresh" a432 b432 s432 .none .none .none (.str "perlcore.counts" 680) none (.ref 431) .none)), (List.toArray [])⟩
noncomputable def o438 (P : Params) : Obj := ⟨(.type "code"), none, (.fields (List.toArray [(.str "drop" 760), (.str "Counter.drop" 761), (.str "/claim/cut.py" 762), (.int 243 0), (.int 2 0), (.int 0 0), (.int 0 0), (.int 3 0), (.ref 433), (.bool true), (.int 181 0), (.ref 434), .none, (.ref 435), (.ref 436), (.ref 437), (.int 765 0), (.int 243 0), (.str "/claim/cut.py" 766)])), (List.toArray [])⟩
-- Counter.drop
noncomputable abbrev a439 : Arguments := by
  refine' (fun (x : Arguments) (_ : argsOf (nth (inCls (nth PySem.Challenge.pw_sz0090_01.main.body 37)) 8) = x) => x) _ ?_
  rotate_left
  conv => lhs; whnf
noncomputable abbrev b439 : List Stmt := by
  refine' (fun (x : List Stmt) (_ : bodyOf (nth (inCls (nth PySem.Challenge.pw_sz0090_01.main.body 37)) 8) = x) => x) _ ?_
  rotate_left
  conv => lhs; whnf
noncomputable abbrev s439 : Scope := by
  refine' (fun (x : Scope) (_ : scopeOf (nth (inCls (nth PySem.Challenge.pw_sz0090_01.main.body 37)) 8) = x) => x) _ ?_
  rotate_left
  conv => lhs; whnf
noncomputable def o439 (P : Params) : Obj := ⟨(.type "function"), none, (.func (fnOf "drop" "Counter.drop" a439 b439 s439 .none .none .none (.str "perlcore.counts" 680) none (.ref 438) .none)), (List.toArray [])⟩
noncomputable def o462 (P : Params) : Obj := ⟨(.type "dict"), none, (.dict (List.toArray [⟨(PyData.keyHash P "__module__"), (.str "__module__" 689), (.str "perlcore.counts" 680)⟩, ⟨(PyData.keyHash P "__firstlineno__"), (.str "__firstlineno__" 693), (.int 193 692)⟩, ⟨(PyData.keyHash P "__init__"), (.str "__init__" 702), (.ref 385)⟩, ⟨(PyData.keyHash P "hold"), (.str "hold" 710), (.ref 392)⟩, ⟨(PyData.keyHash P "let_go"), (.str "let_go" 718), (.ref 399)⟩, ⟨(PyData.keyHash P "note"), (.str "note" 726), (.ref 406)⟩, ⟨(PyData.keyHash P "take"), (.str "take" 734), (.ref 413)⟩, ⟨(PyData.keyHash P "put_off"), (.str "put_off" 740), (.ref 418)⟩, ⟨(PyData.keyHash P "store"), (.str "store" 750), (.ref 425)⟩, ⟨(PyData.keyHash P "fresh"), (.str "fresh" 759), (.ref 432)⟩, ⟨(PyData.keyHash P "drop"), (.str "drop" 767), (.ref 439)⟩, ⟨(PyData.keyHash P "settle"), (.str "settle" 775), (.ref 446)⟩, ⟨(PyData.keyHash P "finish"), (.str "finish" 783), (.ref 453)⟩, ⟨(PyData.keyHash P "free"), (.str "free" 791), (.ref 460)⟩, ⟨(PyData.keyHash P "__static_attributes__"), (.str "__static_attributes__" 796), (.ref 461)⟩, ⟨(PyData.keyHash P "__dict__"), (.str "__dict__" 798), (.ref 464)⟩, ⟨(PyData.keyHash P "__weakref__"), (.str "__weakref__" 800), (.ref 465)⟩, ⟨(PyData.keyHash P "__doc__"), (.str "__doc__" 801), .none⟩]) 4), (List.toArray [])⟩
noncomputable def o463 (P : Params) : Obj := ⟨(.type "type"), none, (.cls ⟨"Counter", [(.type "object")], [(.ref 463), (.type "object")], 462, "Counter", true, [], [], false, none, false⟩), (List.toArray [none, none, (some (.str "Counter" 682)), (some (.str "Counter" 690)), (some (.builtin "object.__new__")), (some (.bool true))])⟩
noncomputable def o481 (P : Params) : Obj := ⟨(.type "code"), none, (.fields (List.toArray [(.str "__init__" 829), (.str "Limits.__init__" 830), (.str "/claim/cut.py" 831), (.int 257 0), (.int 6 0), (.int 0 0), (.int 0 0), (.int 3 0), (.ref 476), (.bool true), (.int 181 0), (.ref 477), .none, (.ref 478), (.ref 479), (.ref 480), (.int 838 0), (.int 257 0), (.str "/claim/cut.py" 839)])), (List.toArray [])⟩
-- Limits.__init__
noncomputable abbrev a482 : Arguments := by
  refine' (fun (x : Arguments) (_ : argsOf (nth (inCls (nth PySem.Challenge.pw_sz0090_01.main.body 39)) 0) = x) => x) _ ?_
  rotate_left
  conv => lhs; whnf
noncomputable abbrev b482 : List Stmt := by
  refine' (fun (x : List Stmt) (_ : bodyOf (nth (inCls (nth PySem.Challenge.pw_sz0090_01.main.body 39)) 0) = x) => x) _ ?_
  rotate_left
  conv => lhs; whnf
noncomputable abbrev s482 : Scope := by
  refine' (fun (x : Scope) (_ : scopeOf (nth (inCls (nth PySem.Challenge.pw_sz0090_01.main.body 39)) 0) = x) => x) _ ?_
  rotate_left
  conv => lhs; whnf
noncomputable def o482 (P : Params) : Obj := ⟨(.type "function"), none, (.func (fnOf "__init__" "Limits.__init__" a482 b482 s482 (.ref 475) .none .none (.str "perlcore.limits" 804) none (.ref 481) .none)), (List.toArray [])⟩
noncomputable def o484 (P : Params) : Obj := ⟨(.type "dict"), none, (.dict (List.toArray [⟨(PyData.keyHash P "__module__"), (.str "__module__" 813), (.str "perlcore.limits" 804)⟩, ⟨(PyData.keyHash P "__firstlineno__"), (.str "__firstlineno__" 817), (.int 255 816)⟩, ⟨(PyData.keyHash P "__init__"), (.str "__init__" 840), (.ref 482)⟩, ⟨(PyData.keyHash P "__static_attributes__"), (.str "__static_attributes__" 846), (.ref 483)⟩, ⟨(PyData.keyHash P "__dict__"), (.str "__dict__" 848), (.ref 486)⟩, ⟨(PyData.keyHash P "__weakref__"), (.str "__weakref__" 850), (.ref 487)⟩, ⟨(PyData.keyHash P "__doc__"), (.str "__doc__" 851), .none⟩]) 4), (List.toArray [])⟩
noncomputable def o485 (P : Params) : Obj := ⟨(.type "type"), none, (.cls ⟨"Limits", [(.type "object")], [(.ref 485), (.type "object")], 484, "Limits", true, [], [], false, none, false⟩), (List.toArray [none, none, (some (.str "Limits" 806)), (some (.str "Limits" 814)), (some (.builtin "object.__new__")), (some (.bool true))])⟩
noncomputable def o490 (P : Params) : Obj := ⟨(.type "tuple"), none, (.seq (List.toArray [(.str "" 856), (.str "0" 857), (.str "a" 858), (.str "b" 859), (.str "ab" 860), (.str "ba" 861), (.str "00" 862)]) 0), (List.toArray [])⟩
noncomputable def o491 (P : Params) : Obj := ⟨(.type "tuple"), none, (.seq (List.toArray [(.int 3 864), (.int 0 865), (.int 2 866), (.int 3 867), (.int 3 868), (.int 2 869), (.int 4 870), (.int 2 871), (.int 4 872), (.int 3 873), (.int 1 874), (.int 0 875), (.int 6 876)]) 0), (List.toArray [])⟩
noncomputable def o497 (P : Params) : Obj := ⟨(.type "code"), none, (.fields (List.toArray [(.str "_law_yank" 878), (.str "_law_yank" 879), (.str "/claim/cut.py" 880), (.int 266 0), (.int 2 0), (.int 0 0), (.int 0 0), (.int 3 0), (.ref 492), (.bool true), (.int 181 0), (.ref 493), .none, (.ref 494), (.ref 495), (.ref 496), (.int 884 0), (.int 266 0), (.str "/claim/cut.py" 885)])), (List.toArray [])⟩
-- _law_yank
noncomputable abbrev a498 : Arguments := by
  refine' (fun (x : Arguments) (_ : argsOf (nth PySem.Challenge.pw_sz0090_01.main.body 43) = x) => x) _ ?_
  rotate_left
  conv => lhs; whnf
noncomputable abbrev b498 : List Stmt := by
  refine' (fun (x : List Stmt) (_ : bodyOf (nth PySem.Challenge.pw_sz0090_01.main.body 43) = x) => x) _ ?_
  rotate_left
  conv => lhs; whnf
noncomputable abbrev s498 : Scope := by
  refine' (fun (x : Scope) (_ : scopeOf (nth PySem.Challenge.pw_sz0090_01.main.body 43) = x) => x) _ ?_
  rotate_left
  conv => lhs; whnf
noncomputable def o498 (P : Params) : Obj := ⟨(.type "function"), none, (.func (fnOf "_law_yank" "_law_yank" a498 b498 s498 .none .none .none (.str "law_sz0090_01" 854) none (.ref 497) .none)), (List.toArray [])⟩
noncomputable def o504 (P : Params) : Obj := ⟨(.type "code"), none, (.fields (List.toArray [(.str "_law_laid" 887), (.str "_law_laid" 888), (.str "/claim/cut.py" 889), (.int 270 0), (.int 3 0), (.int 0 0), (.int 0 0), (.int 3 0), (.ref 499), (.bool true), (.int 181 0), (.ref 500), .none, (.ref 501), (.ref 502), (.ref 503), (.int 896 0), (.int 270 0), (.str "/claim/cut.py" 897)])), (List.toArray [])⟩
-- _law_laid
noncomputable abbrev a505 : Arguments := by
  refine' (fun (x : Arguments) (_ : argsOf (nth PySem.Challenge.pw_sz0090_01.main.body 44) = x) => x) _ ?_
  rotate_left
  conv => lhs; whnf
noncomputable abbrev b505 : List Stmt := by
  refine' (fun (x : List Stmt) (_ : bodyOf (nth PySem.Challenge.pw_sz0090_01.main.body 44) = x) => x) _ ?_
  rotate_left
  conv => lhs; whnf
noncomputable abbrev s505 : Scope := by
  refine' (fun (x : Scope) (_ : scopeOf (nth PySem.Challenge.pw_sz0090_01.main.body 44) = x) => x) _ ?_
  rotate_left
  conv => lhs; whnf
noncomputable def o505 (P : Params) : Obj := ⟨(.type "function"), none, (.func (fnOf "_law_laid" "_law_laid" a505 b505 s505 .none .none .none (.str "law_sz0090_01" 854) none (.ref 504) .none)), (List.toArray [])⟩
noncomputable def o511 (P : Params) : Obj := ⟨(.type "code"), none, (.fields (List.toArray [(.str "_law_either" 899), (.str "_law_either" 900), (.str "/claim/cut.py" 901), (.int 279 0), (.int 4 0), (.int 0 0), (.int 0 0), (.int 3 0), (.ref 506), (.bool true), (.int 181 0), (.ref 507), .none, (.ref 508), (.ref 509), (.ref 510), (.int 906 0), (.int 279 0), (.str "/claim/cut.py" 907)])), (List.toArray [])⟩
-- _law_either
noncomputable abbrev a512 : Arguments := by
  refine' (fun (x : Arguments) (_ : argsOf (nth PySem.Challenge.pw_sz0090_01.main.body 45) = x) => x) _ ?_
  rotate_left
  conv => lhs; whnf
noncomputable abbrev b512 : List Stmt := by
  refine' (fun (x : List Stmt) (_ : bodyOf (nth PySem.Challenge.pw_sz0090_01.main.body 45) = x) => x) _ ?_
  rotate_left
  conv => lhs; whnf
noncomputable abbrev s512 : Scope := by
  refine' (fun (x : Scope) (_ : scopeOf (nth PySem.Challenge.pw_sz0090_01.main.body 45) = x) => x) _ ?_
  rotate_left
  conv => lhs; whnf
noncomputable def o512 (P : Params) : Obj := ⟨(.type "function"), none, (.func (fnOf "_law_either" "_law_either" a512 b512 s512 .none .none .none (.str "law_sz0090_01" 854) none (.ref 511) .none)), (List.toArray [])⟩
noncomputable def o516 (P : Params) : Obj := ⟨(.type "code"), none, (.fields (List.toArray [(.str "_law_both" 909), (.str "_law_both" 910), (.str "/claim/cut.py" 911), (.int 281 0), (.int 4 0), (.int 0 0), (.int 0 0), (.int 3 0), (.ref 513), (.bool true), (.int 181 0), (.ref 514), .none, .none, .none, (.ref 515), (.int 912 0), (.int 281 0), (.str "/claim/cut.py" 913)])), (List.toArray [])⟩
-- _law_both
noncomputable abbrev a517 : Arguments := by
  refine' (fun (x : Arguments) (_ : argsOf (nth PySem.Challenge.pw_sz0090_01.main.body 46) = x) => x) _ ?_
  rotate_left
  conv => lhs; whnf
noncomputable abbrev b517 : List Stmt := by
  refine' (fun (x : List Stmt) (_ : bodyOf (nth PySem.Challenge.pw_sz0090_01.main.body 46) = x) => x) _ ?_
  rotate_left
  conv => lhs; whnf
noncomputable abbrev s517 : Scope := by
  refine' (fun (x : Scope) (_ : scopeOf (nth PySem.Challenge.pw_sz0090_01.main.body 46) = x) => x) _ ?_
  rotate_left
  conv => lhs; whnf
noncomputable def o517 (P : Params) : Obj := ⟨(.type "function"), none, (.func (fnOf "_law_both" "_law_both" a517 b517 s517 .none .none .none (.str "law_sz0090_01" 854) none (.ref 516) .none)), (List.toArray [])⟩
noncomputable def o523 (P : Params) : Obj := ⟨(.type "code"), none, (.fields (List.toArray [(.str "_law_without" 915), (.str "_law_without" 916), (.str "/claim/cut.py" 917), (.int 283 0), (.int 4 0), (.int 0 0), (.int 0 0), (.int 3 0), (.ref 518), (.bool true), (.int 181 0), (.ref 519), .none, (.ref 520), (.ref 521), (.ref 522), (.int 923 0), (.int 283 0), (.str "/claim/cut.py" 924)])), (List.toArray [])⟩
-- _law_without
noncomputable abbrev a524 : Arguments := by
  refine' (fun (x : Arguments) (_ : argsOf (nth PySem.Challenge.pw_sz0090_01.main.body 47) = x) => x) _ ?_
  rotate_left
  conv => lhs; whnf
noncomputable abbrev b524 : List Stmt := by
  refine' (fun (x : List Stmt) (_ : bodyOf (nth PySem.Challenge.pw_sz0090_01.main.body 47) = x) => x) _ ?_
  rotate_left
  conv => lhs; whnf
noncomputable abbrev s524 : Scope := by
  refine' (fun (x : Scope) (_ : scopeOf (nth PySem.Challenge.pw_sz0090_01.main.body 47) = x) => x) _ ?_
  rotate_left
  conv => lhs; whnf
noncomputable def o524 (P : Params) : Obj := ⟨(.type "function"), none, (.func (fnOf "_law_without" "_law_without" a524 b524 s524 .none .none .none (.str "law_sz0090_01" 854) none (.ref 523) .none)), (List.toArray [])⟩
noncomputable def o530 (P : Params) : Obj := ⟨(.type "code"), none, (.fields (List.toArray [(.str "_law_has" 926), (.str "_law_has" 927), (.str "/claim/cut.py" 928), (.int 287 0), (.int 1 0), (.int 0 0), (.int 0 0), (.int 3 0), (.ref 525), (.bool true), (.int 181 0), (.ref 526), .none, (.ref 527), (.ref 528), (.ref 529), (.int 930 0), (.int 287 0), (.str "/claim/cut.py" 931)])), (List.toArray [])⟩
-- _law_has
noncomputable abbrev a531 : Arguments := by
  refine' (fun (x : Arguments) (_ : argsOf (nth PySem.Challenge.pw_sz0090_01.main.body 48) = x) => x) _ ?_
  rotate_left
  conv => lhs; whnf
noncomputable abbrev b531 : List Stmt := by
  refine' (fun (x : List Stmt) (_ : bodyOf (nth PySem.Challenge.pw_sz0090_01.main.body 48) = x) => x) _ ?_
  rotate_left
  conv => lhs; whnf
noncomputable abbrev s531 : Scope := by
  refine' (fun (x : Scope) (_ : scopeOf (nth PySem.Challenge.pw_sz0090_01.main.body 48) = x) => x) _ ?_
  rotate_left
  conv => lhs; whnf
noncomputable def o531 (P : Params) : Obj := ⟨(.type "function"), none, (.func (fnOf "_law_has" "_law_has" a531 b531 s531 .none .none .none (.str "law_sz0090_01" 854) none (.ref 530) .none)), (List.toArray [])⟩
noncomputable def o535 (P : Params) : Obj := ⟨(.type "code"), none, (.fields (List.toArray [(.str "_law_pair_right" 933), (.str "_law_pair_right" 934), (.str "/claim/cut.py" 935), (.int 289 0), (.int 5 0), (.int 0 0), (.int 0 0), (.int 3 0), (.ref 532), (.bool true), (.int 181 0), (.ref 533), .none, .none, .none, (.ref 534), (.int 936 0), (.int 289 0), (.str "/claim/cut.py" 937)])), (List.toArray [])⟩
-- _law_pair_right
noncomputable abbrev a536 : Arguments := by
  refine' (fun (x : Arguments) (_ : argsOf (nth PySem.Challenge.pw_sz0090_01.main.body 49) = x) => x) _ ?_
  rotate_left
  conv => lhs; whnf
noncomputable abbrev b536 : List Stmt := by
  refine' (fun (x : List Stmt) (_ : bodyOf (nth PySem.Challenge.pw_sz0090_01.main.body 49) = x) => x) _ ?_
  rotate_left
  conv => lhs; whnf
noncomputable abbrev s536 : Scope := by
  refine' (fun (x : Scope) (_ : scopeOf (nth PySem.Challenge.pw_sz0090_01.main.body 49) = x) => x) _ ?_
  rotate_left
  conv => lhs; whnf
noncomputable def o536 (P : Params) : Obj := ⟨(.type "function"), none, (.func (fnOf "_law_pair_right" "_law_pair_right" a536 b536 s536 .none .none .none (.str "law_sz0090_01" 854) none (.ref 535) .none)), (List.toArray [])⟩
noncomputable def o540 (P : Params) : Obj := ⟨(.type "code"), none, (.fields (List.toArray [(.str "law" 939), (.str "law" 940), (.str "/claim/cut.py" 941), (.int 304 0), (.int 1 0), (.int 0 0), (.int 0 0), (.int 3 0), (.ref 537), (.bool true), (.int 181 0), (.ref 538), .none, .none, .none, (.ref 539), (.int 942 0), (.int 304 0), (.str "/claim/cut.py" 943)])), (List.toArray [])⟩
-- law
noncomputable abbrev a541 : Arguments := by
  refine' (fun (x : Arguments) (_ : argsOf (nth PySem.Challenge.pw_sz0090_01.main.body 50) = x) => x) _ ?_
  rotate_left
  conv => lhs; whnf
noncomputable abbrev b541 : List Stmt := by
  refine' (fun (x : List Stmt) (_ : bodyOf (nth PySem.Challenge.pw_sz0090_01.main.body 50) = x) => x) _ ?_
  rotate_left
  conv => lhs; whnf
noncomputable abbrev s541 : Scope := by
  refine' (fun (x : Scope) (_ : scopeOf (nth PySem.Challenge.pw_sz0090_01.main.body 50) = x) => x) _ ?_
  rotate_left
  conv => lhs; whnf
noncomputable def o541 (P : Params) : Obj := ⟨(.type "function"), none, (.func (fnOf "law" "law" a541 b541 s541 .none .none .none (.str "law_sz0090_01" 854) none (.ref 540) .none)), (List.toArray [])⟩
noncomputable def K (P : Params) : Frag := (nat_lit 2, o2 P) :: (nat_lit 3, o3 P) :: (nat_lit 41, o41 P) :: (nat_lit 42, o42 P) :: (nat_lit 44, o44 P) :: (nat_lit 45, o45 P) :: (nat_lit 62, o62 P) :: (nat_lit 63, o63 P) :: (nat_lit 65, o65 P) :: (nat_lit 66, o66 P) :: (nat_lit 100, o100 P) :: (nat_lit 101, o101 P) :: (nat_lit 103, o103 P) :: (nat_lit 104, o104 P) :: (nat_lit 161, o161 P) :: (nat_lit 162, o162 P) :: (nat_lit 179, o179 P) :: (nat_lit 180, o180 P) :: (nat_lit 186, o186 P) :: (nat_lit 187, o187 P) :: (nat_lit 193, o193 P) :: (nat_lit 194, o194 P) :: (nat_lit 207, o207 P) :: (nat_lit 208, o208 P) :: (nat_lit 224, o224 P) :: (nat_lit 225, o225 P) :: (nat_lit 256, o256 P) :: (nat_lit 257, o257 P) :: (nat_lit 263, o263 P) :: (nat_lit 264, o264 P) :: (nat_lit 309, o309 P) :: (nat_lit 310, o310 P) :: (nat_lit 316, o316 P) :: (nat_lit 317, o317 P) :: (nat_lit 323, o323 P) :: (nat_lit 324, o324 P) :: (nat_lit 330, o330 P) :: (nat_lit 331, o331 P) :: (nat_lit 337, o337 P) :: (nat_lit 338, o338 P) :: (nat_lit 344, o344 P) :: (nat_lit 345, o345 P) :: (nat_lit 351, o351 P) :: (nat_lit 352, o352 P) :: (nat_lit 358, o358 P) :: (nat_lit 359, o359 P) :: (nat_lit 363, o363 P) :: (nat_lit 364, o364 P) :: (nat_lit 370, o370 P) :: (nat_lit 371, o371 P) :: (nat_lit 384, o384 P) :: (nat_lit 385, o385 P) :: (nat_lit 398, o398 P) :: (nat_lit 399, o399 P) :: (nat_lit 412, o412 P) :: (nat_lit 413, o413 P) :: (nat_lit 417, o417 P) :: (nat_lit 418, o418 P) :: (nat_lit 424, o424 P) :: (nat_lit 425, o425 P) :: (nat_lit 431, o431 P) :: (nat_lit 432, o432 P) :: (nat_lit 438, o438 P) :: (nat_lit 439, o439 P) :: (nat_lit 462, o462 P) :: (nat_lit 463, o463 P) :: (nat_lit 481, o481 P) :: (nat_lit 482, o482 P) :: (nat_lit 484, o484 P) :: (nat_lit 485, o485 P) :: (nat_lit 490, o490 P) :: (nat_lit 491, o491 P) :: (nat_lit 497, o497 P) :: (nat_lit 498, o498 P) :: (nat_lit 504, o504 P) :: (nat_lit 505, o505 P) :: (nat_lit 511, o511 P) :: (nat_lit 512, o512 P) :: (nat_lit 516, o516 P) :: (nat_lit 517, o517 P) :: (nat_lit 523, o523 P) :: (nat_lit 524, o524 P) :: (nat_lit 530, o530 P) :: (nat_lit 531, o531 P) :: (nat_lit 535, o535 P) :: (nat_lit 536, o536 P) :: (nat_lit 540, o540 P) :: (nat_lit 541, o541 P) :: []
noncomputable def Kas : List Nat := [2, 3, 42]
noncomputable def o475 (P : Params) : Obj := ⟨(.type "tuple"), none, (.seq (List.toArray [(.int 64 818), (.int 50 819), (.int 1000000 822), (.int 100000 825), (.int 10000 828)]) 0), (List.toArray [])⟩
noncomputable def K2 (P : Params) : Frag := (nat_lit 2, o2 P) :: (nat_lit 3, o3 P) :: (nat_lit 41, o41 P) :: (nat_lit 42, o42 P) :: (nat_lit 44, o44 P) :: (nat_lit 45, o45 P) :: (nat_lit 62, o62 P) :: (nat_lit 63, o63 P) :: (nat_lit 65, o65 P) :: (nat_lit 66, o66 P) :: (nat_lit 100, o100 P) :: (nat_lit 101, o101 P) :: (nat_lit 103, o103 P) :: (nat_lit 104, o104 P) :: (nat_lit 161, o161 P) :: (nat_lit 162, o162 P) :: (nat_lit 179, o179 P) :: (nat_lit 180, o180 P) :: (nat_lit 186, o186 P) :: (nat_lit 187, o187 P) :: (nat_lit 193, o193 P) :: (nat_lit 194, o194 P) :: (nat_lit 207, o207 P) :: (nat_lit 208, o208 P) :: (nat_lit 224, o224 P) :: (nat_lit 225, o225 P) :: (nat_lit 256, o256 P) :: (nat_lit 257, o257 P) :: (nat_lit 263, o263 P) :: (nat_lit 264, o264 P) :: (nat_lit 309, o309 P) :: (nat_lit 310, o310 P) :: (nat_lit 316, o316 P) :: (nat_lit 317, o317 P) :: (nat_lit 323, o323 P) :: (nat_lit 324, o324 P) :: (nat_lit 330, o330 P) :: (nat_lit 331, o331 P) :: (nat_lit 337, o337 P) :: (nat_lit 338, o338 P) :: (nat_lit 344, o344 P) :: (nat_lit 345, o345 P) :: (nat_lit 351, o351 P) :: (nat_lit 352, o352 P) :: (nat_lit 358, o358 P) :: (nat_lit 359, o359 P) :: (nat_lit 363, o363 P) :: (nat_lit 364, o364 P) :: (nat_lit 370, o370 P) :: (nat_lit 371, o371 P) :: (nat_lit 384, o384 P) :: (nat_lit 385, o385 P) :: (nat_lit 398, o398 P) :: (nat_lit 399, o399 P) :: (nat_lit 412, o412 P) :: (nat_lit 413, o413 P) :: (nat_lit 417, o417 P) :: (nat_lit 418, o418 P) :: (nat_lit 424, o424 P) :: (nat_lit 425, o425 P) :: (nat_lit 431, o431 P) :: (nat_lit 432, o432 P) :: (nat_lit 438, o438 P) :: (nat_lit 439, o439 P) :: (nat_lit 462, o462 P) :: (nat_lit 463, o463 P) :: (nat_lit 475, o475 P) :: (nat_lit 481, o481 P) :: (nat_lit 482, o482 P) :: (nat_lit 484, o484 P) :: (nat_lit 485, o485 P) :: (nat_lit 490, o490 P) :: (nat_lit 491, o491 P) :: (nat_lit 497, o497 P) :: (nat_lit 498, o498 P) :: (nat_lit 504, o504 P) :: (nat_lit 505, o505 P) :: (nat_lit 511, o511 P) :: (nat_lit 512, o512 P) :: (nat_lit 516, o516 P) :: (nat_lit 517, o517 P) :: (nat_lit 523, o523 P) :: (nat_lit 524, o524 P) :: (nat_lit 530, o530 P) :: (nat_lit 531, o531 P) :: (nat_lit 535, o535 P) :: (nat_lit 536, o536 P) :: (nat_lit 540, o540 P) :: (nat_lit 541, o541 P) :: []
theorem fillK : (fun P => K P) = K ∧ PySem.Challenge.rw_sz0090_01 = PySem.Challenge.rw_sz0090_01 := by
  k_fill
  exact ⟨rfl, rfl⟩
theorem fillK2 : (fun P => K2 P) = K2 ∧ PySem.Challenge.rw_sz0090_01 = PySem.Challenge.rw_sz0090_01 := by
  k_fill
  exact ⟨rfl, rfl⟩
noncomputable abbrev pg : Program := PySem.Challenge.pw_sz0090_01
noncomputable def keepIx : List Nat := [0, 2, 3, 5, 6, 7, 8, 9, 10, 11, 12, 13, 14, 15, 16, 18, 19, 21, 22, 24, 25, 26, 28, 29, 30, 31, 32, 33, 34, 35, 37, 39, 41, 42, 43, 44, 45, 46, 47, 48, 49, 50]
noncomputable def Kadr : List Addr := [2, 3, 41, 42, 44, 45, 62, 63, 65, 66, 100, 101, 103, 104, 161, 162, 179, 180, 186, 187, 193, 194, 207, 208, 224, 225, 256, 257, 263, 264, 309, 310, 316, 317, 323, 324, 330, 331, 337, 338, 344, 345, 351, 352, 358, 359, 363, 364, 370, 371, 384, 385, 398, 399, 412, 413, 417, 418, 424, 425, 431, 432, 438, 439, 462, 463, 475, 481, 482, 484, 485, 490, 491, 497, 498, 504, 505, 511, 512, 516, 517, 523, 524, 530, 531, 535, 536, 540, 541]
theorem kadr_eq (P : Params) : Kadr = (K2 P).map (·.1) := by kernel_rfl
noncomputable def lo1 : List Str := [Str.ofString "Limits"]
noncomputable def p0 : Pos := ⟨0, 0, 0, 0⟩
noncomputable def p1 : Pos := ⟨304, 0, 324, 91⟩
noncomputable def xA11 (P : Params) : Obj := ⟨(.type "tuple"), none, (.seq #[] 0), #[]⟩
noncomputable def xA12 (P : Params) : Obj := ⟨.none, none, (.fields #[]), #[]⟩
noncomputable def xA13 (P : Params) : Obj := ⟨(.type "code"), none, (.fields #[(.str "<module>" 182), (.str "<module>" 183), (.str "/claim/cut.py" 184), (.int 1 0), (.int 0 0), (.int 0 0), (.int 0 0), (.int 0 0), (.ref 11), (.bool false), (.int 181 0), (.ref 12), .none, .none, .none, .none, (.int 185 0), (.int 1 0), (.str "/claim/cut.py" 186)]), #[]⟩
noncomputable def xA14 (P : Params) : Obj := ⟨(.type "frame"), none, .plain, #[(some (.ref 13)), (some (.ref 3)), (some (.ref 3)), none, (some (.str "__main__" 164)), none, (some (.ref 0))]⟩
noncomputable def heapA (o0 : Params → Obj) (P : Params) : Heap := ⟨⟨[o0 P, boot_o_1 P, boot_o_2 P, boot_o_3 P, boot_o_4 P, boot_o_5 P, boot_o_6 P, boot_o_7 P, boot_o_8 P, boot_o_9 P, boot_o_10 P, xA11 P, xA12 P, xA13 P, xA14 P]⟩, {}⟩
noncomputable def treeA (o0 : Params → Obj) (P : Params) : BT := (.node (o0 P) (.node (boot_o_1 P) (.node (boot_o_3 P) (.node (boot_o_7 P) .nil .nil) (.node (xA11 P) .nil .nil)) (.node (boot_o_5 P) (.node (boot_o_9 P) .nil .nil) (.node (xA13 P) .nil .nil))) (.node (boot_o_2 P) (.node (boot_o_4 P) (.node (boot_o_8 P) .nil .nil) (.node (xA12 P) .nil .nil)) (.node (boot_o_6 P) (.node (boot_o_10 P) .nil .nil) (.node (xA14 P) .nil .nil))))
noncomputable def envE (p : Program) : Env := { scope := p.main.scope, locals := mainNs, globals := mainNs, cells := [], code := .ref 13, frame := some 14 }

noncomputable def cE (p : Program) : Code := .body (behindTheImports p) (envE p)
noncomputable def annE : Option Value := some (.ref 6)
noncomputable def topXt (p : Program) (s : Shared) : Bool := xlAt (view p keepIx) [] s && recOk [] s
noncomputable def S0 (p : Program) (w : World) (os : OsState) : SharedT := ⟨treeA boot_o_0 w.params, 15, {}, #[], boot_drawn, 187, os⟩
noncomputable abbrev q0 : Pos := p0
noncomputable def fnB (n q : Str) (s : Stmt) : FuncData := { fnOf n q (argsOf s) (bodyOf s) (scopeOf s) .none .none .none .none none .none .none with globals := builtinsNs }
noncomputable def fnC (n q : Str) (s : Stmt) (a b c d : Value) (e : Option Addr) (f g : Value) : FuncData := fnOf n q (argsOf s) (bodyOf s) (scopeOf s) a b c d e f g
noncomputable def z1 : Str := ⟨⟨[nat_lit 95, nat_lit 95, nat_lit 110, nat_lit 97, nat_lit 109, nat_lit 101, nat_lit 95, nat_lit 95]⟩⟩
noncomputable def z2 : Str := ⟨⟨[nat_lit 112, nat_lit 101, nat_lit 114, nat_lit 108, nat_lit 99, nat_lit 111, nat_lit 114, nat_lit 101, nat_lit 46, nat_lit 118, nat_lit 97, nat_lit 108, nat_lit 117, nat_lit 101, nat_lit 115]⟩⟩
noncomputable def z3 : Str := ⟨⟨[nat_lit 95, nat_lit 95, nat_lit 100, nat_lit 111, nat_lit 99, nat_lit 95, nat_lit 95]⟩⟩
noncomputable def z4 : Str := ⟨⟨[nat_lit 95, nat_lit 95, nat_lit 112, nat_lit 97, nat_lit 99, nat_lit 107, nat_lit 97, nat_lit 103, nat_lit 101, nat_lit 95, nat_lit 95]⟩⟩
noncomputable def z5 : Str := ⟨⟨[nat_lit 95, nat_lit 95, nat_lit 108, nat_lit 111, nat_lit 97, nat_lit 100, nat_lit 101, nat_lit 114, nat_lit 95, nat_lit 95]⟩⟩
noncomputable def z6 : Str := ⟨⟨[nat_lit 95, nat_lit 95, nat_lit 115, nat_lit 112, nat_lit 101, nat_lit 99, nat_lit 95, nat_lit 95]⟩⟩
noncomputable def z7 : Str := ⟨⟨[nat_lit 95, nat_lit 95, nat_lit 97, nat_lit 110, nat_lit 110, nat_lit 111, nat_lit 116, nat_lit 97, nat_lit 116, nat_lit 105, nat_lit 111, nat_lit 110, nat_lit 115, nat_lit 95, nat_lit 95]⟩⟩
noncomputable def z8 : Str := ⟨⟨[nat_lit 95, nat_lit 95, nat_lit 98, nat_lit 117, nat_lit 105, nat_lit 108, nat_lit 116, nat_lit 105, nat_lit 110, nat_lit 115, nat_lit 95, nat_lit 95]⟩⟩
noncomputable def z9 : Str := ⟨⟨[nat_lit 95, nat_lit 95, nat_lit 102, nat_lit 105, nat_lit 108, nat_lit 101, nat_lit 95, nat_lit 95]⟩⟩
noncomputable def z10 : Str := ⟨⟨[nat_lit 47, nat_lit 99, nat_lit 108, nat_lit 97, nat_lit 105, nat_lit 109, nat_lit 47, nat_lit 99, nat_lit 117, nat_lit 116, nat_lit 46, nat_lit 112, nat_lit 121]⟩⟩
noncomputable def z11 : Str := ⟨⟨[nat_lit 95, nat_lit 95, nat_lit 99, nat_lit 97, nat_lit 99, nat_lit 104, nat_lit 101, nat_lit 100, nat_lit 95, nat_lit 95]⟩⟩
noncomputable def z12 : Str := ⟨⟨[nat_lit 95, nat_lit 119, nat_lit 97, nat_lit 108, nat_lit 108]⟩⟩
noncomputable def z13 : Str := ⟨⟨[nat_lit 70, nat_lit 73, nat_lit 71, nat_lit 85, nat_lit 82, nat_lit 69, nat_lit 83]⟩⟩
noncomputable def z14 : Str := ⟨⟨[nat_lit 48, nat_lit 49, nat_lit 50, nat_lit 51, nat_lit 52, nat_lit 53, nat_lit 54, nat_lit 55, nat_lit 56, nat_lit 57]⟩⟩
noncomputable def z15 : Str := ⟨⟨[nat_lit 110, nat_lit 117, nat_lit 109, nat_lit 98, nat_lit 101, nat_lit 114, nat_lit 95, nat_lit 116, nat_lit 101, nat_lit 120, nat_lit 116]⟩⟩
noncomputable def z16 : Str := ⟨⟨[nat_lit 72, nat_lit 69, nat_lit 88, nat_lit 95, nat_lit 70, nat_lit 73, nat_lit 71, nat_lit 85, nat_lit 82, nat_lit 69, nat_lit 83]⟩⟩
noncomputable def z17 : Str := ⟨⟨[nat_lit 48, nat_lit 49, nat_lit 50, nat_lit 51, nat_lit 52, nat_lit 53, nat_lit 54, nat_lit 55, nat_lit 56, nat_lit 57, nat_lit 97, nat_lit 98, nat_lit 99, nat_lit 100, nat_lit 101, nat_lit 102]⟩⟩
noncomputable def z18 : Str := ⟨⟨[nat_lit 84, nat_lit 104, nat_lit 105, nat_lit 110, nat_lit 103]⟩⟩
noncomputable def z19 : Str := ⟨⟨[nat_lit 83, nat_lit 99, nat_lit 97, nat_lit 108, nat_lit 97, nat_lit 114]⟩⟩
noncomputable def z20 : Str := ⟨⟨[nat_lit 107]⟩⟩
noncomputable def z21 : Str := ⟨⟨[nat_lit 95, nat_lit 95, nat_lit 109, nat_lit 97, nat_lit 105, nat_lit 110, nat_lit 95, nat_lit 95]⟩⟩
noncomputable def z22 : Str := ⟨⟨[nat_lit 110]⟩⟩
noncomputable def z23 : Str := ⟨⟨[nat_lit 116, nat_lit 101, nat_lit 120, nat_lit 116]⟩⟩
noncomputable def z24 : Str := ⟨⟨[nat_lit 112, nat_lit 101, nat_lit 114, nat_lit 108, nat_lit 99, nat_lit 111, nat_lit 114, nat_lit 101, nat_lit 46, nat_lit 110, nat_lit 117, nat_lit 109, nat_lit 98, nat_lit 101, nat_lit 114, nat_lit 115]⟩⟩
noncomputable def z25 : Str := ⟨⟨[nat_lit 95, nat_lit 95, nat_lit 109, nat_lit 111, nat_lit 100, nat_lit 117, nat_lit 108, nat_lit 101, nat_lit 95, nat_lit 95]⟩⟩
noncomputable def z26 : Str := ⟨⟨[nat_lit 95, nat_lit 95, nat_lit 113, nat_lit 117, nat_lit 97, nat_lit 108, nat_lit 110, nat_lit 97, nat_lit 109, nat_lit 101, nat_lit 95, nat_lit 95]⟩⟩
noncomputable def z27 : Str := ⟨⟨[nat_lit 95, nat_lit 95, nat_lit 102, nat_lit 105, nat_lit 114, nat_lit 115, nat_lit 116, nat_lit 108, nat_lit 105, nat_lit 110, nat_lit 101, nat_lit 110, nat_lit 111, nat_lit 95, nat_lit 95]⟩⟩
noncomputable def z28 : Str := ⟨⟨[nat_lit 95, nat_lit 95, nat_lit 105, nat_lit 110, nat_lit 105, nat_lit 116, nat_lit 95, nat_lit 95]⟩⟩
noncomputable def z29 : Str := ⟨⟨[nat_lit 95, nat_lit 95, nat_lit 115, nat_lit 116, nat_lit 97, nat_lit 116, nat_lit 105, nat_lit 99, nat_lit 95, nat_lit 97, nat_lit 116, nat_lit 116, nat_lit 114, nat_lit 105, nat_lit 98, nat_lit 117, nat_lit 116, nat_lit 101, nat_lit 115, nat_lit 95, nat_lit 95]⟩⟩
noncomputable def z30 : Str := ⟨⟨[nat_lit 115, nat_lit 101, nat_lit 108, nat_lit 102]⟩⟩
noncomputable def z31 : Str := ⟨⟨[nat_lit 110, nat_lit 117, nat_lit 109, nat_lit 98, nat_lit 101, nat_lit 114]⟩⟩
noncomputable def z32 : Str := ⟨⟨[nat_lit 84, nat_lit 104, nat_lit 105, nat_lit 110, nat_lit 103, nat_lit 46, nat_lit 95, nat_lit 95, nat_lit 105, nat_lit 110, nat_lit 105, nat_lit 116, nat_lit 95, nat_lit 95]⟩⟩
noncomputable def z33 : Str := ⟨⟨[nat_lit 98, nat_lit 108, nat_lit 101, nat_lit 115, nat_lit 115, nat_lit 101, nat_lit 100]⟩⟩
noncomputable def z34 : Str := ⟨⟨[nat_lit 99, nat_lit 111, nat_lit 117, nat_lit 110, nat_lit 116]⟩⟩
noncomputable def z35 : Str := ⟨⟨[nat_lit 105, nat_lit 115, nat_lit 95, nat_lit 100, nat_lit 101, nat_lit 115, nat_lit 116, nat_lit 114, nat_lit 111, nat_lit 121, nat_lit 101, nat_lit 100]⟩⟩
noncomputable def z36 : Str := ⟨⟨[nat_lit 105, nat_lit 115, nat_lit 95, nat_lit 102, nat_lit 114, nat_lit 101, nat_lit 101, nat_lit 100]⟩⟩
noncomputable def z37 : Str := ⟨⟨[nat_lit 119, nat_lit 101, nat_lit 97, nat_lit 107]⟩⟩
noncomputable def z38 : Str := ⟨⟨[nat_lit 95, nat_lit 95, nat_lit 100, nat_lit 105, nat_lit 99, nat_lit 116, nat_lit 95, nat_lit 95]⟩⟩
noncomputable def z39 : Str := ⟨⟨[nat_lit 95, nat_lit 95, nat_lit 119, nat_lit 101, nat_lit 97, nat_lit 107, nat_lit 114, nat_lit 101, nat_lit 102, nat_lit 95, nat_lit 95]⟩⟩
noncomputable def z40 : Str := ⟨⟨[nat_lit 118, nat_lit 97, nat_lit 108, nat_lit 117, nat_lit 101]⟩⟩
noncomputable def z41 : Str := ⟨⟨[nat_lit 83, nat_lit 99, nat_lit 97, nat_lit 108, nat_lit 97, nat_lit 114, nat_lit 46, nat_lit 95, nat_lit 95, nat_lit 105, nat_lit 110, nat_lit 105, nat_lit 116, nat_lit 95, nat_lit 95]⟩⟩
noncomputable def z42 : Str := ⟨⟨[nat_lit 109, nat_lit 97, nat_lit 103, nat_lit 105, nat_lit 99]⟩⟩
noncomputable def z43 : Str := ⟨⟨[nat_lit 65, nat_lit 114, nat_lit 114, nat_lit 97, nat_lit 121]⟩⟩
noncomputable def z44 : Str := ⟨⟨[nat_lit 72, nat_lit 97, nat_lit 115, nat_lit 104]⟩⟩
noncomputable def z45 : Str := ⟨⟨[nat_lit 65, nat_lit 114, nat_lit 114, nat_lit 97, nat_lit 121, nat_lit 46, nat_lit 95, nat_lit 95, nat_lit 105, nat_lit 110, nat_lit 105, nat_lit 116, nat_lit 95, nat_lit 95]⟩⟩
noncomputable def z46 : Str := ⟨⟨[nat_lit 105, nat_lit 116, nat_lit 101, nat_lit 109, nat_lit 115]⟩⟩
noncomputable def z47 : Str := ⟨⟨[nat_lit 116, nat_lit 105, nat_lit 101, nat_lit 100]⟩⟩
noncomputable def z48 : Str := ⟨⟨[nat_lit 72, nat_lit 97, nat_lit 115, nat_lit 104, nat_lit 46, nat_lit 95, nat_lit 95, nat_lit 105, nat_lit 110, nat_lit 105, nat_lit 116, nat_lit 95, nat_lit 95]⟩⟩
noncomputable def z49 : Str := ⟨⟨[nat_lit 97, nat_lit 116]⟩⟩
noncomputable def z50 : Str := ⟨⟨[nat_lit 116, nat_lit 97, nat_lit 98, nat_lit 108, nat_lit 101]⟩⟩
noncomputable def z51 : Str := ⟨⟨[nat_lit 67, nat_lit 111, nat_lit 100, nat_lit 101]⟩⟩
noncomputable def z52 : Str := ⟨⟨[nat_lit 71, nat_lit 108, nat_lit 111, nat_lit 98]⟩⟩
noncomputable def z53 : Str := ⟨⟨[nat_lit 115, nat_lit 117, nat_lit 98]⟩⟩
noncomputable def z54 : Str := ⟨⟨[nat_lit 99, nat_lit 97, nat_lit 112, nat_lit 116, nat_lit 117, nat_lit 114, nat_lit 101, nat_lit 115]⟩⟩
noncomputable def z55 : Str := ⟨⟨[nat_lit 67, nat_lit 111, nat_lit 100, nat_lit 101, nat_lit 46, nat_lit 95, nat_lit 95, nat_lit 105, nat_lit 110, nat_lit 105, nat_lit 116, nat_lit 95, nat_lit 95]⟩⟩
noncomputable def z56 : Str := ⟨⟨[nat_lit 98, nat_lit 117, nat_lit 105, nat_lit 108, nat_lit 116, nat_lit 105, nat_lit 110]⟩⟩
noncomputable def z57 : Str := ⟨⟨[nat_lit 112, nat_lit 97, nat_lit 99, nat_lit 107, nat_lit 97, nat_lit 103, nat_lit 101]⟩⟩
noncomputable def z58 : Str := ⟨⟨[nat_lit 110, nat_lit 97, nat_lit 109, nat_lit 101]⟩⟩
noncomputable def z59 : Str := ⟨⟨[nat_lit 71, nat_lit 108, nat_lit 111, nat_lit 98, nat_lit 46, nat_lit 95, nat_lit 95, nat_lit 105, nat_lit 110, nat_lit 105, nat_lit 116, nat_lit 95, nat_lit 95]⟩⟩
noncomputable def z60 : Str := ⟨⟨[nat_lit 97, nat_lit 114, nat_lit 114, nat_lit 97, nat_lit 121]⟩⟩
noncomputable def z61 : Str := ⟨⟨[nat_lit 99, nat_lit 111, nat_lit 100, nat_lit 101]⟩⟩
noncomputable def z62 : Str := ⟨⟨[nat_lit 104, nat_lit 97, nat_lit 115, nat_lit 104]⟩⟩
noncomputable def z63 : Str := ⟨⟨[nat_lit 115, nat_lit 99, nat_lit 97, nat_lit 108, nat_lit 97, nat_lit 114]⟩⟩
noncomputable def z64 : Str := ⟨⟨[nat_lit 82, nat_lit 101, nat_lit 102]⟩⟩
noncomputable def z65 : Str := ⟨⟨[nat_lit 72, nat_lit 101, nat_lit 97, nat_lit 112]⟩⟩
noncomputable def z66 : Str := ⟨⟨[nat_lit 116, nat_lit 97, nat_lit 114, nat_lit 103, nat_lit 101, nat_lit 116]⟩⟩
noncomputable def z67 : Str := ⟨⟨[nat_lit 105, nat_lit 115, nat_lit 95, nat_lit 119, nat_lit 101, nat_lit 97, nat_lit 107]⟩⟩
noncomputable def z68 : Str := ⟨⟨[nat_lit 82, nat_lit 101, nat_lit 102, nat_lit 46, nat_lit 95, nat_lit 95, nat_lit 105, nat_lit 110, nat_lit 105, nat_lit 116, nat_lit 95, nat_lit 95]⟩⟩
noncomputable def z69 : Str := ⟨⟨[nat_lit 110, nat_lit 101, nat_lit 120, nat_lit 116, nat_lit 95, nat_lit 110, nat_lit 117, nat_lit 109, nat_lit 98, nat_lit 101, nat_lit 114]⟩⟩
noncomputable def z70 : Str := ⟨⟨[nat_lit 110, nat_lit 101, nat_lit 119, nat_lit 95, nat_lit 115, nat_lit 99, nat_lit 97, nat_lit 108, nat_lit 97, nat_lit 114]⟩⟩
noncomputable def z71 : Str := ⟨⟨[nat_lit 110, nat_lit 101, nat_lit 119, nat_lit 95, nat_lit 97, nat_lit 114, nat_lit 114, nat_lit 97, nat_lit 121]⟩⟩
noncomputable def z72 : Str := ⟨⟨[nat_lit 110, nat_lit 101, nat_lit 119, nat_lit 95, nat_lit 104, nat_lit 97, nat_lit 115, nat_lit 104]⟩⟩
noncomputable def z73 : Str := ⟨⟨[nat_lit 110, nat_lit 101, nat_lit 119, nat_lit 95, nat_lit 99, nat_lit 111, nat_lit 100, nat_lit 101]⟩⟩
noncomputable def z74 : Str := ⟨⟨[nat_lit 110, nat_lit 101, nat_lit 119, nat_lit 95, nat_lit 103, nat_lit 108, nat_lit 111, nat_lit 98]⟩⟩
noncomputable def z75 : Str := ⟨⟨[nat_lit 108, nat_lit 105, nat_lit 109, nat_lit 105, nat_lit 116, nat_lit 115]⟩⟩
noncomputable def z76 : Str := ⟨⟨[nat_lit 72, nat_lit 101, nat_lit 97, nat_lit 112, nat_lit 46, nat_lit 95, nat_lit 95, nat_lit 105, nat_lit 110, nat_lit 105, nat_lit 116, nat_lit 95, nat_lit 95]⟩⟩
noncomputable def z77 : Str := ⟨⟨[nat_lit 72, nat_lit 101, nat_lit 97, nat_lit 112, nat_lit 46, nat_lit 110, nat_lit 101, nat_lit 120, nat_lit 116, nat_lit 95, nat_lit 110, nat_lit 117, nat_lit 109, nat_lit 98, nat_lit 101, nat_lit 114]⟩⟩
noncomputable def z78 : Str := ⟨⟨[nat_lit 72, nat_lit 101, nat_lit 97, nat_lit 112, nat_lit 46, nat_lit 110, nat_lit 101, nat_lit 119, nat_lit 95, nat_lit 115, nat_lit 99, nat_lit 97, nat_lit 108, nat_lit 97, nat_lit 114]⟩⟩
noncomputable def z79 : Str := ⟨⟨[nat_lit 72, nat_lit 101, nat_lit 97, nat_lit 112, nat_lit 46, nat_lit 110, nat_lit 101, nat_lit 119, nat_lit 95, nat_lit 97, nat_lit 114, nat_lit 114, nat_lit 97, nat_lit 121]⟩⟩
noncomputable def z80 : Str := ⟨⟨[nat_lit 72, nat_lit 101, nat_lit 97, nat_lit 112, nat_lit 46, nat_lit 110, nat_lit 101, nat_lit 119, nat_lit 95, nat_lit 104, nat_lit 97, nat_lit 115, nat_lit 104]⟩⟩
noncomputable def z81 : Str := ⟨⟨[nat_lit 72, nat_lit 101, nat_lit 97, nat_lit 112, nat_lit 46, nat_lit 110, nat_lit 101, nat_lit 119, nat_lit 95, nat_lit 99, nat_lit 111, nat_lit 100, nat_lit 101]⟩⟩
noncomputable def z82 : Str := ⟨⟨[nat_lit 72, nat_lit 101, nat_lit 97, nat_lit 112, nat_lit 46, nat_lit 110, nat_lit 101, nat_lit 119, nat_lit 95, nat_lit 103, nat_lit 108, nat_lit 111, nat_lit 98]⟩⟩
noncomputable def z83 : Str := ⟨⟨[nat_lit 108, nat_lit 97, nat_lit 115, nat_lit 116]⟩⟩
noncomputable def z84 : Str := ⟨⟨[nat_lit 122, nat_lit 101, nat_lit 114, nat_lit 111]⟩⟩
noncomputable def z85 : Str := ⟨⟨[nat_lit 116, nat_lit 121, nat_lit 112, nat_lit 101, nat_lit 46, nat_lit 95, nat_lit 95, nat_lit 115, nat_lit 117, nat_lit 98, nat_lit 99, nat_lit 108, nat_lit 97, nat_lit 115, nat_lit 115, nat_lit 101, nat_lit 115, nat_lit 95, nat_lit 95, nat_lit 46, nat_lit 69, nat_lit 120, nat_lit 99, nat_lit 101, nat_lit 112, nat_lit 116, nat_lit 105, nat_lit 111, nat_lit 110, nat_lit 46, nat_lit 48]⟩⟩
noncomputable def z86 : Str := ⟨⟨[nat_lit 116, nat_lit 121, nat_lit 112, nat_lit 101, nat_lit 46, nat_lit 95, nat_lit 95, nat_lit 115, nat_lit 117, nat_lit 98, nat_lit 99, nat_lit 108, nat_lit 97, nat_lit 115, nat_lit 115, nat_lit 101, nat_lit 115, nat_lit 95, nat_lit 95, nat_lit 46, nat_lit 69, nat_lit 120, nat_lit 99, nat_lit 101, nat_lit 112, nat_lit 116, nat_lit 105, nat_lit 111, nat_lit 110, nat_lit 46, nat_lit 110]⟩⟩
noncomputable def z87 : Str := ⟨⟨[nat_lit 112, nat_lit 101, nat_lit 114, nat_lit 108, nat_lit 99, nat_lit 111, nat_lit 114, nat_lit 101, nat_lit 46, nat_lit 101, nat_lit 114, nat_lit 114, nat_lit 111, nat_lit 114, nat_lit 115]⟩⟩
noncomputable def z88 : Str := ⟨⟨[nat_lit 116, nat_lit 104, nat_lit 105, nat_lit 110, nat_lit 103, nat_lit 95, nat_lit 119, nat_lit 111, nat_lit 114, nat_lit 100]⟩⟩
noncomputable def z89 : Str := ⟨⟨[nat_lit 104, nat_lit 101, nat_lit 120, nat_lit 95, nat_lit 111, nat_lit 102]⟩⟩
noncomputable def z90 : Str := ⟨⟨[nat_lit 114, nat_lit 101, nat_lit 102, nat_lit 95, nat_lit 116, nat_lit 101, nat_lit 120, nat_lit 116]⟩⟩
noncomputable def z91 : Str := ⟨⟨[nat_lit 118, nat_lit 97, nat_lit 108, nat_lit 117, nat_lit 101, nat_lit 95, nat_lit 111, nat_lit 102]⟩⟩
noncomputable def z92 : Str := ⟨⟨[nat_lit 116, nat_lit 111, nat_lit 95, nat_lit 116, nat_lit 101, nat_lit 120, nat_lit 116]⟩⟩
noncomputable def z93 : Str := ⟨⟨[nat_lit 80, nat_lit 101, nat_lit 114, nat_lit 108, nat_lit 69, nat_lit 114, nat_lit 114, nat_lit 111, nat_lit 114]⟩⟩
noncomputable def z94 : Str := ⟨⟨[nat_lit 68, nat_lit 105, nat_lit 101]⟩⟩
noncomputable def z95 : Str := ⟨⟨[nat_lit 116, nat_lit 104, nat_lit 105, nat_lit 110, nat_lit 103]⟩⟩
noncomputable def z96 : Str := ⟨⟨[nat_lit 114, nat_lit 101, nat_lit 102]⟩⟩
noncomputable def z97 : Str := ⟨⟨[nat_lit 120]⟩⟩
noncomputable def z98 : Str := ⟨⟨[nat_lit 112, nat_lit 101, nat_lit 114, nat_lit 108, nat_lit 99, nat_lit 111, nat_lit 114, nat_lit 101, nat_lit 46, nat_lit 99, nat_lit 111, nat_lit 110, nat_lit 118, nat_lit 101, nat_lit 114, nat_lit 116]⟩⟩
noncomputable def z99 : Str := ⟨⟨[nat_lit 80, nat_lit 101, nat_lit 114, nat_lit 108, nat_lit 69, nat_lit 114, nat_lit 114, nat_lit 111, nat_lit 114, nat_lit 46, nat_lit 95, nat_lit 95, nat_lit 105, nat_lit 110, nat_lit 105, nat_lit 116, nat_lit 95, nat_lit 95]⟩⟩
noncomputable def z100 : Str := ⟨⟨[nat_lit 68, nat_lit 105, nat_lit 101, nat_lit 46, nat_lit 95, nat_lit 95, nat_lit 105, nat_lit 110, nat_lit 105, nat_lit 116, nat_lit 95, nat_lit 95]⟩⟩
noncomputable def z101 : Str := ⟨⟨[nat_lit 112, nat_lit 101, nat_lit 114, nat_lit 108, nat_lit 99, nat_lit 111, nat_lit 114, nat_lit 101, nat_lit 46, nat_lit 99, nat_lit 111, nat_lit 117, nat_lit 110, nat_lit 116, nat_lit 115]⟩⟩
noncomputable def z102 : Str := ⟨⟨[nat_lit 84, nat_lit 79, nat_lit 79, nat_lit 95, nat_lit 77, nat_lit 65, nat_lit 78, nat_lit 89]⟩⟩
noncomputable def z103 : Str := ⟨⟨[nat_lit 79, nat_lit 117, nat_lit 116, nat_lit 32, nat_lit 111, nat_lit 102, nat_lit 32, nat_lit 109, nat_lit 101, nat_lit 109, nat_lit 111, nat_lit 114, nat_lit 121, nat_lit 33]⟩⟩
noncomputable def z104 : Str := ⟨⟨[nat_lit 100, nat_lit 114, nat_lit 111, nat_lit 112, nat_lit 95, nat_lit 109, nat_lit 101, nat_lit 109, nat_lit 98, nat_lit 101, nat_lit 114]⟩⟩
noncomputable def z105 : Str := ⟨⟨[nat_lit 99, nat_lit 104, nat_lit 101, nat_lit 99, nat_lit 107, nat_lit 95, nat_lit 114, nat_lit 111, nat_lit 111, nat_lit 109]⟩⟩
noncomputable def z106 : Str := ⟨⟨[nat_lit 104, nat_lit 97, nat_lit 115, nat_lit 95, nat_lit 107, nat_lit 101, nat_lit 121]⟩⟩
noncomputable def z107 : Str := ⟨⟨[nat_lit 107, nat_lit 101, nat_lit 121, nat_lit 95, nat_lit 112, nat_lit 108, nat_lit 97, nat_lit 99, nat_lit 101]⟩⟩
noncomputable def z108 : Str := ⟨⟨[nat_lit 100, nat_lit 101, nat_lit 108, nat_lit 101, nat_lit 116, nat_lit 101, nat_lit 95, nat_lit 107, nat_lit 101, nat_lit 121]⟩⟩
noncomputable def z109 : Str := ⟨⟨[nat_lit 99, nat_lit 108, nat_lit 101, nat_lit 97, nat_lit 114, nat_lit 95, nat_lit 104, nat_lit 97, nat_lit 115, nat_lit 104]⟩⟩
noncomputable def z110 : Str := ⟨⟨[nat_lit 104, nat_lit 97, nat_lit 115, nat_lit 104, nat_lit 95, nat_lit 107, nat_lit 101, nat_lit 121, nat_lit 115]⟩⟩
noncomputable def z111 : Str := ⟨⟨[nat_lit 104, nat_lit 97, nat_lit 115, nat_lit 104, nat_lit 95, nat_lit 99, nat_lit 111, nat_lit 117, nat_lit 110, nat_lit 116]⟩⟩
noncomputable def z112 : Str := ⟨⟨[nat_lit 100, nat_lit 101, nat_lit 108, nat_lit 101, nat_lit 116, nat_lit 101, nat_lit 95, nat_lit 107, nat_lit 101, nat_lit 121, nat_lit 115]⟩⟩
noncomputable def z113 : Str := ⟨⟨[nat_lit 102, nat_lit 105, nat_lit 108, nat_lit 108, nat_lit 95, nat_lit 104, nat_lit 97, nat_lit 115, nat_lit 104]⟩⟩
noncomputable def z114 : Str := ⟨⟨[nat_lit 99, nat_lit 111, nat_lit 117, nat_lit 110, nat_lit 116, nat_lit 101, nat_lit 114]⟩⟩
noncomputable def z115 : Str := ⟨⟨[nat_lit 109, nat_lit 101, nat_lit 109, nat_lit 98, nat_lit 101, nat_lit 114]⟩⟩
noncomputable def z116 : Str := ⟨⟨[nat_lit 112, nat_lit 101, nat_lit 114, nat_lit 108, nat_lit 99, nat_lit 111, nat_lit 114, nat_lit 101, nat_lit 46, nat_lit 108, nat_lit 105, nat_lit 115, nat_lit 116, nat_lit 111, nat_lit 112, nat_lit 115]⟩⟩
noncomputable def z117 : Str := ⟨⟨[nat_lit 115, nat_lit 105, nat_lit 122, nat_lit 101]⟩⟩
noncomputable def z118 : Str := ⟨⟨[nat_lit 116, nat_lit 97, nat_lit 98, nat_lit 108, nat_lit 101, nat_lit 95, nat_lit 116, nat_lit 104, nat_lit 105, nat_lit 110, nat_lit 103]⟩⟩
noncomputable def z119 : Str := ⟨⟨[nat_lit 107, nat_lit 101, nat_lit 121]⟩⟩
noncomputable def z120 : Str := ⟨⟨[nat_lit 112, nat_lit 101, nat_lit 114, nat_lit 108, nat_lit 99, nat_lit 111, nat_lit 114, nat_lit 101, nat_lit 46, nat_lit 104, nat_lit 97, nat_lit 115, nat_lit 104, nat_lit 111, nat_lit 112, nat_lit 115]⟩⟩
noncomputable def z121 : Str := ⟨⟨[nat_lit 112, nat_lit 108, nat_lit 97, nat_lit 99, nat_lit 101]⟩⟩
noncomputable def z122 : Str := ⟨⟨[nat_lit 111, nat_lit 116, nat_lit 104, nat_lit 101, nat_lit 114]⟩⟩
noncomputable def z123 : Str := ⟨⟨[nat_lit 103, nat_lit 111, nat_lit 110, nat_lit 101]⟩⟩
noncomputable def z124 : Str := ⟨⟨[nat_lit 118, nat_lit 97, nat_lit 108, nat_lit 117, nat_lit 101, nat_lit 115]⟩⟩
noncomputable def z125 : Str := ⟨⟨[nat_lit 109, nat_lit 97, nat_lit 100, nat_lit 101]⟩⟩
noncomputable def z126 : Str := ⟨⟨[nat_lit 112, nat_lit 101, nat_lit 114, nat_lit 108, nat_lit 99, nat_lit 111, nat_lit 114, nat_lit 101, nat_lit 46, nat_lit 108, nat_lit 105, nat_lit 109, nat_lit 105, nat_lit 116, nat_lit 115]⟩⟩
noncomputable def z127 : Str := ⟨⟨[nat_lit 67, nat_lit 111, nat_lit 117, nat_lit 110, nat_lit 116, nat_lit 101, nat_lit 114]⟩⟩
noncomputable def z128 : Str := ⟨⟨[nat_lit 104, nat_lit 111, nat_lit 108, nat_lit 100]⟩⟩
noncomputable def z129 : Str := ⟨⟨[nat_lit 108, nat_lit 101, nat_lit 116, nat_lit 95, nat_lit 103, nat_lit 111]⟩⟩
noncomputable def z130 : Str := ⟨⟨[nat_lit 110, nat_lit 111, nat_lit 116, nat_lit 101]⟩⟩
noncomputable def z131 : Str := ⟨⟨[nat_lit 116, nat_lit 97, nat_lit 107, nat_lit 101]⟩⟩
noncomputable def z132 : Str := ⟨⟨[nat_lit 112, nat_lit 117, nat_lit 116, nat_lit 95, nat_lit 111, nat_lit 102, nat_lit 102]⟩⟩
noncomputable def z133 : Str := ⟨⟨[nat_lit 115, nat_lit 116, nat_lit 111, nat_lit 114, nat_lit 101]⟩⟩
noncomputable def z134 : Str := ⟨⟨[nat_lit 102, nat_lit 114, nat_lit 101, nat_lit 115, nat_lit 104]⟩⟩
noncomputable def z135 : Str := ⟨⟨[nat_lit 100, nat_lit 114, nat_lit 111, nat_lit 112]⟩⟩
noncomputable def z136 : Str := ⟨⟨[nat_lit 115, nat_lit 101, nat_lit 116, nat_lit 116, nat_lit 108, nat_lit 101]⟩⟩
noncomputable def z137 : Str := ⟨⟨[nat_lit 102, nat_lit 105, nat_lit 110, nat_lit 105, nat_lit 115, nat_lit 104]⟩⟩
noncomputable def z138 : Str := ⟨⟨[nat_lit 102, nat_lit 114, nat_lit 101, nat_lit 101]⟩⟩
noncomputable def z139 : Str := ⟨⟨[nat_lit 104, nat_lit 101, nat_lit 97, nat_lit 112]⟩⟩
noncomputable def z140 : Str := ⟨⟨[nat_lit 100, nat_lit 101, nat_lit 115, nat_lit 116, nat_lit 114, nat_lit 111, nat_lit 121]⟩⟩
noncomputable def z141 : Str := ⟨⟨[nat_lit 67, nat_lit 111, nat_lit 117, nat_lit 110, nat_lit 116, nat_lit 101, nat_lit 114, nat_lit 46, nat_lit 95, nat_lit 95, nat_lit 105, nat_lit 110, nat_lit 105, nat_lit 116, nat_lit 95, nat_lit 95]⟩⟩
noncomputable def z142 : Str := ⟨⟨[nat_lit 67, nat_lit 111, nat_lit 117, nat_lit 110, nat_lit 116, nat_lit 101, nat_lit 114, nat_lit 46, nat_lit 104, nat_lit 111, nat_lit 108, nat_lit 100]⟩⟩
noncomputable def z143 : Str := ⟨⟨[nat_lit 67, nat_lit 111, nat_lit 117, nat_lit 110, nat_lit 116, nat_lit 101, nat_lit 114, nat_lit 46, nat_lit 108, nat_lit 101, nat_lit 116, nat_lit 95, nat_lit 103, nat_lit 111]⟩⟩
noncomputable def z144 : Str := ⟨⟨[nat_lit 67, nat_lit 111, nat_lit 117, nat_lit 110, nat_lit 116, nat_lit 101, nat_lit 114, nat_lit 46, nat_lit 110, nat_lit 111, nat_lit 116, nat_lit 101]⟩⟩
noncomputable def z145 : Str := ⟨⟨[nat_lit 67, nat_lit 111, nat_lit 117, nat_lit 110, nat_lit 116, nat_lit 101, nat_lit 114, nat_lit 46, nat_lit 116, nat_lit 97, nat_lit 107, nat_lit 101]⟩⟩
noncomputable def z146 : Str := ⟨⟨[nat_lit 67, nat_lit 111, nat_lit 117, nat_lit 110, nat_lit 116, nat_lit 101, nat_lit 114, nat_lit 46, nat_lit 112, nat_lit 117, nat_lit 116, nat_lit 95, nat_lit 111, nat_lit 102, nat_lit 102]⟩⟩
noncomputable def z147 : Str := ⟨⟨[nat_lit 111, nat_lit 108, nat_lit 100]⟩⟩
noncomputable def z148 : Str := ⟨⟨[nat_lit 67, nat_lit 111, nat_lit 117, nat_lit 110, nat_lit 116, nat_lit 101, nat_lit 114, nat_lit 46, nat_lit 115, nat_lit 116, nat_lit 111, nat_lit 114, nat_lit 101]⟩⟩
noncomputable def z149 : Str := ⟨⟨[nat_lit 67, nat_lit 111, nat_lit 117, nat_lit 110, nat_lit 116, nat_lit 101, nat_lit 114, nat_lit 46, nat_lit 102, nat_lit 114, nat_lit 101, nat_lit 115, nat_lit 104]⟩⟩
noncomputable def z150 : Str := ⟨⟨[nat_lit 67, nat_lit 111, nat_lit 117, nat_lit 110, nat_lit 116, nat_lit 101, nat_lit 114, nat_lit 46, nat_lit 100, nat_lit 114, nat_lit 111, nat_lit 112]⟩⟩
noncomputable def z151 : Str := ⟨⟨[nat_lit 115, nat_lit 116, nat_lit 97, nat_lit 114, nat_lit 116]⟩⟩
noncomputable def z152 : Str := ⟨⟨[nat_lit 67, nat_lit 111, nat_lit 117, nat_lit 110, nat_lit 116, nat_lit 101, nat_lit 114, nat_lit 46, nat_lit 115, nat_lit 101, nat_lit 116, nat_lit 116, nat_lit 108, nat_lit 101]⟩⟩
noncomputable def z153 : Str := ⟨⟨[nat_lit 67, nat_lit 111, nat_lit 117, nat_lit 110, nat_lit 116, nat_lit 101, nat_lit 114, nat_lit 46, nat_lit 102, nat_lit 105, nat_lit 110, nat_lit 105, nat_lit 115, nat_lit 104]⟩⟩
noncomputable def z154 : Str := ⟨⟨[nat_lit 67, nat_lit 111, nat_lit 117, nat_lit 110, nat_lit 116, nat_lit 101, nat_lit 114, nat_lit 46, nat_lit 102, nat_lit 114, nat_lit 101, nat_lit 101]⟩⟩
noncomputable def z155 : Str := ⟨⟨[nat_lit 101, nat_lit 109, nat_lit 112, nat_lit 116, nat_lit 105, nat_lit 101, nat_lit 115]⟩⟩
noncomputable def z156 : Str := ⟨⟨[nat_lit 112, nat_lit 108, nat_lit 97, nat_lit 99, nat_lit 101, nat_lit 115]⟩⟩
noncomputable def z157 : Str := ⟨⟨[nat_lit 108, nat_lit 97, nat_lit 119, nat_lit 95, nat_lit 115, nat_lit 122, nat_lit 48, nat_lit 48, nat_lit 57, nat_lit 48, nat_lit 95, nat_lit 48, nat_lit 49]⟩⟩
noncomputable def z158 : Str := ⟨⟨[nat_lit 76, nat_lit 105, nat_lit 109, nat_lit 105, nat_lit 116, nat_lit 115]⟩⟩
noncomputable def z159 : Str := ⟨⟨[nat_lit 95, nat_lit 108, nat_lit 97, nat_lit 119, nat_lit 95, nat_lit 119, nat_lit 111, nat_lit 114, nat_lit 100, nat_lit 115]⟩⟩
noncomputable def z160 : Str := ⟨⟨[nat_lit 95, nat_lit 108, nat_lit 97, nat_lit 119, nat_lit 95, nat_lit 114, nat_lit 101, nat_lit 115, nat_lit 116]⟩⟩
noncomputable def z161 : Str := ⟨⟨[nat_lit 95, nat_lit 108, nat_lit 97, nat_lit 119, nat_lit 95, nat_lit 121, nat_lit 97, nat_lit 110, nat_lit 107]⟩⟩
noncomputable def z162 : Str := ⟨⟨[nat_lit 95, nat_lit 108, nat_lit 97, nat_lit 119, nat_lit 95, nat_lit 108, nat_lit 97, nat_lit 105, nat_lit 100]⟩⟩
noncomputable def z163 : Str := ⟨⟨[nat_lit 95, nat_lit 108, nat_lit 97, nat_lit 119, nat_lit 95, nat_lit 101, nat_lit 105, nat_lit 116, nat_lit 104, nat_lit 101, nat_lit 114]⟩⟩
noncomputable def z164 : Str := ⟨⟨[nat_lit 95, nat_lit 108, nat_lit 97, nat_lit 119, nat_lit 95, nat_lit 98, nat_lit 111, nat_lit 116, nat_lit 104]⟩⟩
noncomputable def z165 : Str := ⟨⟨[nat_lit 95, nat_lit 108, nat_lit 97, nat_lit 119, nat_lit 95, nat_lit 119, nat_lit 105, nat_lit 116, nat_lit 104, nat_lit 111, nat_lit 117, nat_lit 116]⟩⟩
noncomputable def z166 : Str := ⟨⟨[nat_lit 95, nat_lit 108, nat_lit 97, nat_lit 119, nat_lit 95, nat_lit 104, nat_lit 97, nat_lit 115]⟩⟩
noncomputable def z167 : Str := ⟨⟨[nat_lit 95, nat_lit 108, nat_lit 97, nat_lit 119, nat_lit 95, nat_lit 112, nat_lit 97, nat_lit 105, nat_lit 114, nat_lit 95, nat_lit 114, nat_lit 105, nat_lit 103, nat_lit 104, nat_lit 116]⟩⟩
noncomputable def z168 : Str := ⟨⟨[nat_lit 108, nat_lit 97, nat_lit 119]⟩⟩
noncomputable def z169 : Str := ⟨⟨[nat_lit 119, nat_lit 105, nat_lit 100, nat_lit 116, nat_lit 104]⟩⟩
noncomputable def z170 : Str := ⟨⟨[nat_lit 100, nat_lit 101, nat_lit 112, nat_lit 116, nat_lit 104]⟩⟩
noncomputable def z171 : Str := ⟨⟨[nat_lit 115, nat_lit 116, nat_lit 101, nat_lit 112, nat_lit 115]⟩⟩
noncomputable def z172 : Str := ⟨⟨[nat_lit 76, nat_lit 105, nat_lit 109, nat_lit 105, nat_lit 116, nat_lit 115, nat_lit 46, nat_lit 95, nat_lit 95, nat_lit 105, nat_lit 110, nat_lit 105, nat_lit 116, nat_lit 95, nat_lit 95]⟩⟩
noncomputable def z173 : Str := ⟨⟨[]⟩⟩
noncomputable def z174 : Str := ⟨⟨[nat_lit 48]⟩⟩
noncomputable def z175 : Str := ⟨⟨[nat_lit 97]⟩⟩
noncomputable def z176 : Str := ⟨⟨[nat_lit 98]⟩⟩
noncomputable def z177 : Str := ⟨⟨[nat_lit 97, nat_lit 98]⟩⟩
noncomputable def z178 : Str := ⟨⟨[nat_lit 98, nat_lit 97]⟩⟩
noncomputable def z179 : Str := ⟨⟨[nat_lit 48, nat_lit 48]⟩⟩
noncomputable def z180 : Str := ⟨⟨[nat_lit 114, nat_lit 111, nat_lit 112, nat_lit 101]⟩⟩
noncomputable def z181 : Str := ⟨⟨[nat_lit 109, nat_lit 97, nat_lit 110, nat_lit 121]⟩⟩
noncomputable def z182 : Str := ⟨⟨[nat_lit 115, nat_lit 112, nat_lit 111, nat_lit 116]⟩⟩
noncomputable def z183 : Str := ⟨⟨[nat_lit 115, nat_lit 104, nat_lit 101, nat_lit 108, nat_lit 102]⟩⟩
noncomputable def z184 : Str := ⟨⟨[nat_lit 119, nat_lit 111, nat_lit 114, nat_lit 100, nat_lit 115]⟩⟩
noncomputable def z185 : Str := ⟨⟨[nat_lit 112, nat_lit 97, nat_lit 105, nat_lit 114, nat_lit 115]⟩⟩
noncomputable def z186 : Str := ⟨⟨[nat_lit 119, nat_lit 111, nat_lit 114, nat_lit 100]⟩⟩
noncomputable def z187 : Str := ⟨⟨[nat_lit 111, nat_lit 110, nat_lit 101]⟩⟩
noncomputable def m15 (P : Params) : Obj := ⟨(.type "tuple"), none, (.seq (List.toArray []) 0), (List.toArray [])⟩
noncomputable def m16 (P : Params) : Obj := ⟨.none, none, (.fields (List.toArray [])), (List.toArray [])⟩
noncomputable def m17 (P : Params) : Obj := ⟨(.type "tuple"), none, (.seq (List.toArray [(.str z20 190)]) 0), (List.toArray [])⟩
noncomputable def m18 (P : Params) : Obj := ⟨(.type "tuple"), none, (.seq (List.toArray []) 0), (List.toArray [])⟩
noncomputable def m19 (p : Program) (P : Params) : Obj := ⟨.none, none, (.func (fnB z12 z12 (nth p.main.body 0))), (List.toArray [])⟩
noncomputable def m20 (P : Params) : Obj := ⟨(.type "code"), none, (.fields (List.toArray [(.str z12 187), (.str z12 188), (.str z10 189), (.int 1 0), (.int 1 0), (.int 0 0), (.int 0 0), (.int 3 0), (.ref 15), (.bool true), (.int 181 0), (.ref 16), .none, (.ref 17), (.ref 18), (.ref 19), (.int 191 0), (.int 1 0), (.str z10 192)])), (List.toArray [])⟩
noncomputable def m21 (p : Program) (P : Params) : Obj := ⟨(.type "function"), none, (.func (fnC z12 z12 (nth p.main.body 0) .none .none .none (.str z21 164) none (.ref 20) .none)), (List.toArray [])⟩
noncomputable def m22 (P : Params) : Obj := ⟨(.type "tuple"), none, (.seq (List.toArray []) 0), (List.toArray [])⟩
noncomputable def m23 (P : Params) : Obj := ⟨.none, none, (.fields (List.toArray [])), (List.toArray [])⟩
noncomputable def m24 (P : Params) : Obj := ⟨(.type "tuple"), none, (.seq (List.toArray [(.str z22 201), (.str z23 202)]) 0), (List.toArray [])⟩
noncomputable def m25 (P : Params) : Obj := ⟨(.type "tuple"), none, (.seq (List.toArray []) 0), (List.toArray [])⟩
noncomputable def m26 (p : Program) (P : Params) : Obj := ⟨.none, none, (.func (fnB z15 z15 (nth p.main.body 3))), (List.toArray [])⟩
noncomputable def m27 (P : Params) : Obj := ⟨(.type "code"), none, (.fields (List.toArray [(.str z15 198), (.str z15 199), (.str z10 200), (.int 6 0), (.int 1 0), (.int 0 0), (.int 0 0), (.int 3 0), (.ref 22), (.bool true), (.int 181 0), (.ref 23), .none, (.ref 24), (.ref 25), (.ref 26), (.int 203 0), (.int 6 0), (.str z10 204)])), (List.toArray [])⟩
noncomputable def m28 (p : Program) (P : Params) : Obj := ⟨(.type "function"), none, (.func (fnC z15 z15 (nth p.main.body 3) .none .none .none (.str z24 194) none (.ref 27) .none)), (List.toArray [])⟩
noncomputable def m29 (P : Params) : Obj := ⟨(.type "tuple"), none, (.seq (List.toArray []) 0), (List.toArray [])⟩
noncomputable def m30 (P : Params) : Obj := ⟨(.type "builtin_function_or_method"), none, (.fields (List.toArray [(.builtin "type.__prepare__"), (.type "type")])), (List.toArray [])⟩
noncomputable def m31 (P : Params) : Obj := ⟨(.type "dict"), none, (.dict (List.toArray [⟨(PyData.keyHash P z25), (.str z25 217), (.str z2 206)⟩, ⟨(PyData.keyHash P z26), (.str z26 219), (.str z18 218)⟩, ⟨(PyData.keyHash P z27), (.str z27 221), (.int 16 220)⟩, ⟨(PyData.keyHash P z28), (.str z28 229), (.ref 42)⟩, ⟨(PyData.keyHash P z29), (.str z29 236), (.ref 43)⟩]) 5), (List.toArray [])⟩
noncomputable def m32 (P : Params) : Obj := ⟨(.type "tuple"), none, (.seq (List.toArray []) 0), (List.toArray [])⟩
noncomputable def m33 (P : Params) : Obj := ⟨.none, none, (.fields (List.toArray [(.int 18 0), (.int 4 0), (.ref 41)])), (List.toArray [])⟩
noncomputable def m34 (P : Params) : Obj := ⟨(.type "code"), none, (.fields (List.toArray [(.str z18 212), (.str z18 213), (.str z10 214), (.int 16 0), (.int 0 0), (.int 0 0), (.int 0 0), (.int 0 0), (.ref 32), (.bool false), (.int 181 0), (.ref 33), .none, .none, .none, .none, (.int 215 0), (.int 16 0), (.str z10 216)])), (List.toArray [])⟩
noncomputable def m35 (P : Params) : Obj := ⟨(.type "frame"), none, .plain, (List.toArray [(some (.ref 34)), (some (.ref 3)), (some (.ref 31)), none, (some (.str z2 206)), none, (some (.ref 0))])⟩
noncomputable def m36 (P : Params) : Obj := ⟨(.type "tuple"), none, (.seq (List.toArray []) 0), (List.toArray [])⟩
noncomputable def m37 (P : Params) : Obj := ⟨.none, none, (.fields (List.toArray [])), (List.toArray [])⟩
noncomputable def m38 (P : Params) : Obj := ⟨(.type "tuple"), none, (.seq (List.toArray [(.str z30 225), (.str z31 226)]) 0), (List.toArray [])⟩
noncomputable def m39 (P : Params) : Obj := ⟨(.type "tuple"), none, (.seq (List.toArray []) 0), (List.toArray [])⟩
noncomputable def m40 (p : Program) (P : Params) : Obj := ⟨.none, none, (.func (fnB z28 z32 (nth (inCls (nth p.main.body 6)) 0))), (List.toArray [])⟩
noncomputable def m41 (P : Params) : Obj := ⟨(.type "code"), none, (.fields (List.toArray [(.str z28 222), (.str z32 223), (.str z10 224), (.int 18 0), (.int 2 0), (.int 0 0), (.int 0 0), (.int 3 0), (.ref 36), (.bool true), (.int 181 0), (.ref 37), .none, (.ref 38), (.ref 39), (.ref 40), (.int 227 0), (.int 18 0), (.str z10 228)])), (List.toArray [])⟩
noncomputable def m42 (p : Program) (P : Params) : Obj := ⟨(.type "function"), none, (.func (fnC z28 z32 (nth (inCls (nth p.main.body 6)) 0) .none .none .none (.str z2 206) none (.ref 41) .none)), (List.toArray [])⟩
noncomputable def m43 (P : Params) : Obj := ⟨(.type "tuple"), none, (.seq (List.toArray [(.str z33 230), (.str z34 231), (.str z35 232), (.str z36 233), (.str z31 234), (.str z37 235)]) 0), (List.toArray [])⟩
noncomputable def m44 (P : Params) : Obj := ⟨(.type "dict"), none, (.dict (List.toArray [⟨(PyData.keyHash P z25), (.str z25 217), (.str z2 206)⟩, ⟨(PyData.keyHash P z27), (.str z27 221), (.int 16 220)⟩, ⟨(PyData.keyHash P z28), (.str z28 229), (.ref 42)⟩, ⟨(PyData.keyHash P z29), (.str z29 236), (.ref 43)⟩, ⟨(PyData.keyHash P z38), (.str z38 238), (.ref 46)⟩, ⟨(PyData.keyHash P z39), (.str z39 240), (.ref 47)⟩, ⟨(PyData.keyHash P z3), (.str z3 241), .none⟩]) 4), (List.toArray [])⟩
noncomputable def m46 (P : Params) : Obj := ⟨(.type "getset_descriptor"), none, (.fields (List.toArray [(.str z38 237), (.ref 45), (.builtin "function.__dict__"), (.builtin "function.__dict__#set")])), (List.toArray [])⟩
noncomputable def m47 (P : Params) : Obj := ⟨(.type "getset_descriptor"), none, (.fields (List.toArray [(.str z39 239), (.ref 45), (.builtin "ExceptionGroup.__weakref__"), .none])), (List.toArray [])⟩
noncomputable def m48 (P : Params) : Obj := ⟨(.type "super"), none, (.fields (List.toArray [(.ref 45), (.ref 45), (.ref 45)])), (List.toArray [])⟩
noncomputable def m49 (P : Params) : Obj := ⟨(.type "builtin_function_or_method"), none, (.fields (List.toArray [(.builtin "object.__init_subclass__"), (.ref 45)])), (List.toArray [])⟩
noncomputable def m50 (P : Params) : Obj := ⟨(.type "tuple"), none, (.seq (List.toArray [(.ref 45)]) 0), (List.toArray [])⟩
noncomputable def m51 (P : Params) : Obj := ⟨(.type "builtin_function_or_method"), none, (.fields (List.toArray [(.builtin "type.__prepare__"), (.type "type")])), (List.toArray [])⟩
noncomputable def m52 (P : Params) : Obj := ⟨(.type "dict"), none, (.dict (List.toArray [⟨(PyData.keyHash P z25), (.str z25 251), (.str z2 206)⟩, ⟨(PyData.keyHash P z26), (.str z26 253), (.str z19 252)⟩, ⟨(PyData.keyHash P z27), (.str z27 255), (.int 25 254)⟩, ⟨(PyData.keyHash P z28), (.str z28 264), (.ref 63)⟩, ⟨(PyData.keyHash P z29), (.str z29 267), (.ref 64)⟩]) 5), (List.toArray [])⟩
noncomputable def m53 (P : Params) : Obj := ⟨(.type "tuple"), none, (.seq (List.toArray []) 0), (List.toArray [])⟩
noncomputable def m54 (P : Params) : Obj := ⟨.none, none, (.fields (List.toArray [(.int 27 0), (.int 4 0), (.ref 62)])), (List.toArray [])⟩
noncomputable def m55 (P : Params) : Obj := ⟨(.type "code"), none, (.fields (List.toArray [(.str z19 246), (.str z19 247), (.str z10 248), (.int 25 0), (.int 0 0), (.int 0 0), (.int 0 0), (.int 0 0), (.ref 53), (.bool false), (.int 181 0), (.ref 54), .none, .none, .none, .none, (.int 249 0), (.int 25 0), (.str z10 250)])), (List.toArray [])⟩
noncomputable def m56 (P : Params) : Obj := ⟨(.type "frame"), none, .plain, (List.toArray [(some (.ref 55)), (some (.ref 3)), (some (.ref 52)), none, (some (.str z2 206)), none, (some (.ref 0))])⟩
noncomputable def m57 (P : Params) : Obj := ⟨(.type "tuple"), none, (.seq (List.toArray []) 0), (List.toArray [])⟩
noncomputable def m58 (P : Params) : Obj := ⟨.none, none, (.fields (List.toArray [])), (List.toArray [])⟩
noncomputable def m59 (P : Params) : Obj := ⟨(.type "tuple"), none, (.seq (List.toArray [(.str z30 259), (.str z31 260), (.str z40 261)]) 0), (List.toArray [])⟩
noncomputable def m60 (P : Params) : Obj := ⟨(.type "tuple"), none, (.seq (List.toArray []) 0), (List.toArray [])⟩
noncomputable def m61 (p : Program) (P : Params) : Obj := ⟨.none, none, (.func (fnB z28 z41 (nth (inCls (nth p.main.body 7)) 0))), (List.toArray [])⟩
noncomputable def m62 (P : Params) : Obj := ⟨(.type "code"), none, (.fields (List.toArray [(.str z28 256), (.str z41 257), (.str z10 258), (.int 27 0), (.int 3 0), (.int 0 0), (.int 0 0), (.int 3 0), (.ref 57), (.bool true), (.int 181 0), (.ref 58), .none, (.ref 59), (.ref 60), (.ref 61), (.int 262 0), (.int 27 0), (.str z10 263)])), (List.toArray [])⟩
noncomputable def m63 (p : Program) (P : Params) : Obj := ⟨(.type "function"), none, (.func (fnC z28 z41 (nth (inCls (nth p.main.body 7)) 0) .none .none .none (.str z2 206) none (.ref 62) .none)), (List.toArray [])⟩
noncomputable def m64 (P : Params) : Obj := ⟨(.type "tuple"), none, (.seq (List.toArray [(.str z42 265), (.str z40 266)]) 0), (List.toArray [])⟩
noncomputable def m65 (P : Params) : Obj := ⟨(.type "dict"), none, (.dict (List.toArray [⟨(PyData.keyHash P z25), (.str z25 251), (.str z2 206)⟩, ⟨(PyData.keyHash P z27), (.str z27 255), (.int 25 254)⟩, ⟨(PyData.keyHash P z28), (.str z28 264), (.ref 63)⟩, ⟨(PyData.keyHash P z29), (.str z29 267), (.ref 64)⟩, ⟨(PyData.keyHash P z3), (.str z3 268), .none⟩]) 2), (List.toArray [])⟩
noncomputable def m66 (P : Params) : Obj := ⟨(.type "type"), none, (.cls ⟨z19, [(.ref 45)], [(.ref 66), (.ref 45), (.type "object")], 65, z19, true, [], [], false, none, false⟩), (List.toArray [(some (.ref 50)), none, (some (.str z19 244)), (some (.str z19 252)), (some (.builtin "object.__new__")), (some (.bool true))])⟩
noncomputable def m67 (P : Params) : Obj := ⟨(.type "super"), none, (.fields (List.toArray [(.ref 66), (.ref 66), (.ref 66)])), (List.toArray [])⟩
noncomputable def m68 (P : Params) : Obj := ⟨(.type "builtin_function_or_method"), none, (.fields (List.toArray [(.builtin "object.__init_subclass__"), (.ref 66)])), (List.toArray [])⟩
noncomputable def m3v1 (P : Params) : Obj := ⟨(.type "dict"), none, (.dict (List.toArray [⟨(PyData.keyHash P z1), (.str z1 165), (.str z2 206)⟩, ⟨(PyData.keyHash P z3), (.str z3 166), .none⟩, ⟨(PyData.keyHash P z4), (.str z4 167), .none⟩, ⟨(PyData.keyHash P z5), (.str z5 168), (.builtin "__main__.__loader__#opaque")⟩, ⟨(PyData.keyHash P z6), (.str z6 169), .none⟩, ⟨(PyData.keyHash P z7), (.str z7 170), (.ref 6)⟩, ⟨(PyData.keyHash P z8), (.str z8 171), (.ref 4)⟩, ⟨(PyData.keyHash P z9), (.str z9 173), (.str z10 172)⟩, ⟨(PyData.keyHash P z11), (.str z11 174), .none⟩, ⟨(PyData.keyHash P z12), (.str z12 193), (.ref 21)⟩, ⟨(PyData.keyHash P z13), (.str z13 197), (.str z14 196)⟩, ⟨(PyData.keyHash P z15), (.str z15 205), (.ref 28)⟩, ⟨(PyData.keyHash P z16), (.str z16 209), (.str z17 208)⟩, ⟨(PyData.keyHash P z18), (.str z18 243), (.ref 45)⟩, ⟨(PyData.keyHash P z19), (.str z19 270), (.ref 66)⟩, ⟨(PyData.keyHash P z43), (.str z43 296), (.ref 85)⟩, ⟨(PyData.keyHash P z44), (.str z44 323), (.ref 104)⟩]) 17), (List.toArray [])⟩
noncomputable def m12v1 (P : Params) : Obj := ⟨.none, none, (.fields (List.toArray [(.int 1 0), (.int 0 0), (.ref 20), (.int 6 0), (.int 0 0), (.ref 27), (.int 16 0), (.int 0 0), (.ref 34), (.int 25 0), (.int 0 0), (.ref 55), (.int 31 0), (.int 0 0), (.ref 74), (.int 37 0), (.int 0 0), (.ref 93)])), (List.toArray [])⟩
noncomputable def m45v1 (P : Params) : Obj := ⟨(.type "type"), none, (.cls ⟨z18, [(.type "object")], [(.ref 45), (.type "object")], 44, z18, true, [], [(.ref 66), (.ref 85), (.ref 104)], false, none, false⟩), (List.toArray [none, none, (some (.str z18 210)), (some (.str z18 218)), (some (.builtin "object.__new__")), (some (.bool true))])⟩
noncomputable def m69 (P : Params) : Obj := ⟨(.type "tuple"), none, (.seq (List.toArray [(.ref 45)]) 0), (List.toArray [])⟩
noncomputable def m70 (P : Params) : Obj := ⟨(.type "builtin_function_or_method"), none, (.fields (List.toArray [(.builtin "type.__prepare__"), (.type "type")])), (List.toArray [])⟩
noncomputable def m71 (P : Params) : Obj := ⟨(.type "dict"), none, (.dict (List.toArray [⟨(PyData.keyHash P z25), (.str z25 278), (.str z2 206)⟩, ⟨(PyData.keyHash P z26), (.str z26 280), (.str z43 279)⟩, ⟨(PyData.keyHash P z27), (.str z27 282), (.int 31 281)⟩, ⟨(PyData.keyHash P z28), (.str z28 290), (.ref 82)⟩, ⟨(PyData.keyHash P z29), (.str z29 293), (.ref 83)⟩]) 5), (List.toArray [])⟩
noncomputable def m72 (P : Params) : Obj := ⟨(.type "tuple"), none, (.seq (List.toArray []) 0), (List.toArray [])⟩
noncomputable def m73 (P : Params) : Obj := ⟨.none, none, (.fields (List.toArray [(.int 33 0), (.int 4 0), (.ref 81)])), (List.toArray [])⟩
noncomputable def m74 (P : Params) : Obj := ⟨(.type "code"), none, (.fields (List.toArray [(.str z43 273), (.str z43 274), (.str z10 275), (.int 31 0), (.int 0 0), (.int 0 0), (.int 0 0), (.int 0 0), (.ref 72), (.bool false), (.int 181 0), (.ref 73), .none, .none, .none, .none, (.int 276 0), (.int 31 0), (.str z10 277)])), (List.toArray [])⟩
noncomputable def m75 (P : Params) : Obj := ⟨(.type "frame"), none, .plain, (List.toArray [(some (.ref 74)), (some (.ref 3)), (some (.ref 71)), none, (some (.str z2 206)), none, (some (.ref 0))])⟩
noncomputable def m76 (P : Params) : Obj := ⟨(.type "tuple"), none, (.seq (List.toArray []) 0), (List.toArray [])⟩
noncomputable def m77 (P : Params) : Obj := ⟨.none, none, (.fields (List.toArray [])), (List.toArray [])⟩
noncomputable def m78 (P : Params) : Obj := ⟨(.type "tuple"), none, (.seq (List.toArray [(.str z30 286), (.str z31 287)]) 0), (List.toArray [])⟩
noncomputable def m79 (P : Params) : Obj := ⟨(.type "tuple"), none, (.seq (List.toArray []) 0), (List.toArray [])⟩
noncomputable def m80 (p : Program) (P : Params) : Obj := ⟨.none, none, (.func (fnB z28 z45 (nth (inCls (nth p.main.body 8)) 0))), (List.toArray [])⟩
noncomputable def m81 (P : Params) : Obj := ⟨(.type "code"), none, (.fields (List.toArray [(.str z28 283), (.str z45 284), (.str z10 285), (.int 33 0), (.int 2 0), (.int 0 0), (.int 0 0), (.int 3 0), (.ref 76), (.bool true), (.int 181 0), (.ref 77), .none, (.ref 78), (.ref 79), (.ref 80), (.int 288 0), (.int 33 0), (.str z10 289)])), (List.toArray [])⟩
noncomputable def m82 (p : Program) (P : Params) : Obj := ⟨(.type "function"), none, (.func (fnC z28 z45 (nth (inCls (nth p.main.body 8)) 0) .none .none .none (.str z2 206) none (.ref 81) .none)), (List.toArray [])⟩
noncomputable def m83 (P : Params) : Obj := ⟨(.type "tuple"), none, (.seq (List.toArray [(.str z46 291), (.str z47 292)]) 0), (List.toArray [])⟩
noncomputable def m84 (P : Params) : Obj := ⟨(.type "dict"), none, (.dict (List.toArray [⟨(PyData.keyHash P z25), (.str z25 278), (.str z2 206)⟩, ⟨(PyData.keyHash P z27), (.str z27 282), (.int 31 281)⟩, ⟨(PyData.keyHash P z28), (.str z28 290), (.ref 82)⟩, ⟨(PyData.keyHash P z29), (.str z29 293), (.ref 83)⟩, ⟨(PyData.keyHash P z3), (.str z3 294), .none⟩]) 2), (List.toArray [])⟩
noncomputable def m85 (P : Params) : Obj := ⟨(.type "type"), none, (.cls ⟨z43, [(.ref 45)], [(.ref 85), (.ref 45), (.type "object")], 84, z43, true, [], [], false, none, false⟩), (List.toArray [(some (.ref 69)), none, (some (.str z43 271)), (some (.str z43 279)), (some (.builtin "object.__new__")), (some (.bool true))])⟩
noncomputable def m86 (P : Params) : Obj := ⟨(.type "super"), none, (.fields (List.toArray [(.ref 85), (.ref 85), (.ref 85)])), (List.toArray [])⟩
noncomputable def m87 (P : Params) : Obj := ⟨(.type "builtin_function_or_method"), none, (.fields (List.toArray [(.builtin "object.__init_subclass__"), (.ref 85)])), (List.toArray [])⟩
noncomputable def m88 (P : Params) : Obj := ⟨(.type "tuple"), none, (.seq (List.toArray [(.ref 45)]) 0), (List.toArray [])⟩
noncomputable def m89 (P : Params) : Obj := ⟨(.type "builtin_function_or_method"), none, (.fields (List.toArray [(.builtin "type.__prepare__"), (.type "type")])), (List.toArray [])⟩
noncomputable def m90 (P : Params) : Obj := ⟨(.type "dict"), none, (.dict (List.toArray [⟨(PyData.keyHash P z25), (.str z25 304), (.str z2 206)⟩, ⟨(PyData.keyHash P z26), (.str z26 306), (.str z44 305)⟩, ⟨(PyData.keyHash P z27), (.str z27 308), (.int 37 307)⟩, ⟨(PyData.keyHash P z28), (.str z28 316), (.ref 101)⟩, ⟨(PyData.keyHash P z29), (.str z29 320), (.ref 102)⟩]) 5), (List.toArray [])⟩
noncomputable def m91 (P : Params) : Obj := ⟨(.type "tuple"), none, (.seq (List.toArray []) 0), (List.toArray [])⟩
noncomputable def m92 (P : Params) : Obj := ⟨.none, none, (.fields (List.toArray [(.int 39 0), (.int 4 0), (.ref 100)])), (List.toArray [])⟩
noncomputable def m93 (P : Params) : Obj := ⟨(.type "code"), none, (.fields (List.toArray [(.str z44 299), (.str z44 300), (.str z10 301), (.int 37 0), (.int 0 0), (.int 0 0), (.int 0 0), (.int 0 0), (.ref 91), (.bool false), (.int 181 0), (.ref 92), .none, .none, .none, .none, (.int 302 0), (.int 37 0), (.str z10 303)])), (List.toArray [])⟩
noncomputable def m94 (P : Params) : Obj := ⟨(.type "frame"), none, .plain, (List.toArray [(some (.ref 93)), (some (.ref 3)), (some (.ref 90)), none, (some (.str z2 206)), none, (some (.ref 0))])⟩
noncomputable def m95 (P : Params) : Obj := ⟨(.type "tuple"), none, (.seq (List.toArray []) 0), (List.toArray [])⟩
noncomputable def m96 (P : Params) : Obj := ⟨.none, none, (.fields (List.toArray [])), (List.toArray [])⟩
noncomputable def m97 (P : Params) : Obj := ⟨(.type "tuple"), none, (.seq (List.toArray [(.str z30 312), (.str z31 313)]) 0), (List.toArray [])⟩
noncomputable def m98 (P : Params) : Obj := ⟨(.type "tuple"), none, (.seq (List.toArray []) 0), (List.toArray [])⟩
noncomputable def m99 (p : Program) (P : Params) : Obj := ⟨.none, none, (.func (fnB z28 z48 (nth (inCls (nth p.main.body 9)) 0))), (List.toArray [])⟩
noncomputable def m100 (P : Params) : Obj := ⟨(.type "code"), none, (.fields (List.toArray [(.str z28 309), (.str z48 310), (.str z10 311), (.int 39 0), (.int 2 0), (.int 0 0), (.int 0 0), (.int 3 0), (.ref 95), (.bool true), (.int 181 0), (.ref 96), .none, (.ref 97), (.ref 98), (.ref 99), (.int 314 0), (.int 39 0), (.str z10 315)])), (List.toArray [])⟩
noncomputable def m101 (p : Program) (P : Params) : Obj := ⟨(.type "function"), none, (.func (fnC z28 z48 (nth (inCls (nth p.main.body 9)) 0) .none .none .none (.str z2 206) none (.ref 100) .none)), (List.toArray [])⟩
noncomputable def m102 (P : Params) : Obj := ⟨(.type "tuple"), none, (.seq (List.toArray [(.str z49 317), (.str z50 318), (.str z47 319)]) 0), (List.toArray [])⟩
noncomputable def m103 (P : Params) : Obj := ⟨(.type "dict"), none, (.dict (List.toArray [⟨(PyData.keyHash P z25), (.str z25 304), (.str z2 206)⟩, ⟨(PyData.keyHash P z27), (.str z27 308), (.int 37 307)⟩, ⟨(PyData.keyHash P z28), (.str z28 316), (.ref 101)⟩, ⟨(PyData.keyHash P z29), (.str z29 320), (.ref 102)⟩, ⟨(PyData.keyHash P z3), (.str z3 321), .none⟩]) 2), (List.toArray [])⟩
noncomputable def m104 (P : Params) : Obj := ⟨(.type "type"), none, (.cls ⟨z44, [(.ref 45)], [(.ref 104), (.ref 45), (.type "object")], 103, z44, true, [], [], false, none, false⟩), (List.toArray [(some (.ref 88)), none, (some (.str z44 297)), (some (.str z44 305)), (some (.builtin "object.__new__")), (some (.bool true))])⟩
noncomputable def m105 (P : Params) : Obj := ⟨(.type "super"), none, (.fields (List.toArray [(.ref 104), (.ref 104), (.ref 104)])), (List.toArray [])⟩
noncomputable def m106 (P : Params) : Obj := ⟨(.type "builtin_function_or_method"), none, (.fields (List.toArray [(.builtin "object.__init_subclass__"), (.ref 104)])), (List.toArray [])⟩
noncomputable def tr1 (p : Program) (P : Params) : BT := (.node (boot_o_0 P) (.node (boot_o_1 P) (.node (m3v1 P) (.node (boot_o_7 P) (.node (m15 P) (.node (m31 P) (.node (m63 p P) .nil .nil) (.node (m95 P) .nil .nil)) (.node (m47 P) (.node (m79 P) .nil .nil) .nil)) (.node (m23 P) (.node (m39 P) (.node (m71 P) .nil .nil) (.node (m103 P) .nil .nil)) (.node (m55 P) (.node (m87 P) .nil .nil) .nil))) (.node (xA11 P) (.node (m19 p P) (.node (m35 P) (.node (m67 P) .nil .nil) (.node (m99 p P) .nil .nil)) (.node (m51 P) (.node (m83 P) .nil .nil) .nil)) (.node (m27 P) (.node (m43 P) (.node (m75 P) .nil .nil) .nil) (.node (m59 P) (.node (m91 P) .nil .nil) .nil)))) (.node (boot_o_5 P) (.node (boot_o_9 P) (.node (m17 P) (.node (m33 P) (.node (m65 P) .nil .nil) (.node (m97 P) .nil .nil)) (.node (m49 P) (.node (m81 P) .nil .nil) .nil)) (.node (m25 P) (.node (m41 P) (.node (m73 P) .nil .nil) (.node (m105 P) .nil .nil)) (.node (m57 P) (.node (m89 P) .nil .nil) .nil))) (.node (xA13 P) (.node (m21 p P) (.node (m37 P) (.node (m69 P) .nil .nil) (.node (m101 p P) .nil .nil)) (.node (m53 P) (.node (m85 P) .nil .nil) .nil)) (.node (m29 P) (.node (m45v1 P) (.node (m77 P) .nil .nil) .nil) (.node (m61 p P) (.node (m93 P) .nil .nil) .nil))))) (.node (boot_o_2 P) (.node (boot_o_4 P) (.node (boot_o_8 P) (.node (m16 P) (.node (m32 P) (.node (m64 P) .nil .nil) (.node (m96 P) .nil .nil)) (.node (m48 P) (.node (m80 p P) .nil .nil) .nil)) (.node (m24 P) (.node (m40 p P) (.node (m72 P) .nil .nil) (.node (m104 P) .nil .nil)) (.node (m56 P) (.node (m88 P) .nil .nil) .nil))) (.node (m12v1 P) (.node (m20 P) (.node (m36 P) (.node (m68 P) .nil .nil) (.node (m100 P) .nil .nil)) (.node (m52 P) (.node (m84 P) .nil .nil) .nil)) (.node (m28 p P) (.node (m44 P) (.node (m76 P) .nil .nil) .nil) (.node (m60 P) (.node (m92 P) .nil .nil) .nil)))) (.node (boot_o_6 P) (.node (boot_o_10 P) (.node (m18 P) (.node (m34 P) (.node (m66 P) .nil .nil) (.node (m98 P) .nil .nil)) (.node (m50 P) (.node (m82 p P) .nil .nil) .nil)) (.node (m26 p P) (.node (m42 p P) (.node (m74 P) .nil .nil) (.node (m106 P) .nil .nil)) (.node (m58 P) (.node (m90 P) .nil .nil) .nil))) (.node (xA14 P) (.node (m22 P) (.node (m38 P) (.node (m70 P) .nil .nil) (.node (m102 P) .nil .nil)) (.node (m54 P) (.node (m86 P) .nil .nil) .nil)) (.node (m30 P) (.node (m46 P) (.node (m78 P) .nil .nil) .nil) (.node (m62 P) (.node (m94 P) .nil .nil) .nil))))))
noncomputable def q1 : Pos := ⟨37, 0, 43, 24⟩
noncomputable def S1 (p : Program) (w : World) (os : OsState) : SharedT := ⟨tr1 p w.params, 107, {}, #[], boot_drawn, 324, os⟩
noncomputable def m45v2 (P : Params) : Obj := ⟨(.type "type"), none, (.cls ⟨z18, [(.type "object")], [(.ref 45), (.type "object")], 44, z18, true, [], [(.ref 66), (.ref 85), (.ref 104), (.ref 123), (.ref 142)], false, none, false⟩), (List.toArray [none, none, (some (.str z18 210)), (some (.str z18 218)), (some (.builtin "object.__new__")), (some (.bool true))])⟩
noncomputable def m107 (P : Params) : Obj := ⟨(.type "tuple"), none, (.seq (List.toArray [(.ref 45)]) 0), (List.toArray [])⟩
noncomputable def m108 (P : Params) : Obj := ⟨(.type "builtin_function_or_method"), none, (.fields (List.toArray [(.builtin "type.__prepare__"), (.type "type")])), (List.toArray [])⟩
noncomputable def m109 (P : Params) : Obj := ⟨(.type "dict"), none, (.dict (List.toArray [⟨(PyData.keyHash P z25), (.str z25 331), (.str z2 206)⟩, ⟨(PyData.keyHash P z26), (.str z26 333), (.str z51 332)⟩, ⟨(PyData.keyHash P z27), (.str z27 335), (.int 44 334)⟩, ⟨(PyData.keyHash P z28), (.str z28 345), (.ref 120)⟩, ⟨(PyData.keyHash P z29), (.str z29 350), (.ref 121)⟩]) 5), (List.toArray [])⟩
noncomputable def m110 (P : Params) : Obj := ⟨(.type "tuple"), none, (.seq (List.toArray []) 0), (List.toArray [])⟩
noncomputable def m111 (P : Params) : Obj := ⟨.none, none, (.fields (List.toArray [(.int 46 0), (.int 4 0), (.ref 119)])), (List.toArray [])⟩
noncomputable def m112 (P : Params) : Obj := ⟨(.type "code"), none, (.fields (List.toArray [(.str z51 326), (.str z51 327), (.str z10 328), (.int 44 0), (.int 0 0), (.int 0 0), (.int 0 0), (.int 0 0), (.ref 110), (.bool false), (.int 181 0), (.ref 111), .none, .none, .none, .none, (.int 329 0), (.int 44 0), (.str z10 330)])), (List.toArray [])⟩
noncomputable def m113 (P : Params) : Obj := ⟨(.type "frame"), none, .plain, (List.toArray [(some (.ref 112)), (some (.ref 3)), (some (.ref 109)), none, (some (.str z2 206)), none, (some (.ref 0))])⟩
noncomputable def m114 (P : Params) : Obj := ⟨(.type "tuple"), none, (.seq (List.toArray []) 0), (List.toArray [])⟩
noncomputable def m115 (P : Params) : Obj := ⟨.none, none, (.fields (List.toArray [])), (List.toArray [])⟩
noncomputable def m116 (P : Params) : Obj := ⟨(.type "tuple"), none, (.seq (List.toArray [(.str z30 339), (.str z31 340), (.str z53 341), (.str z54 342)]) 0), (List.toArray [])⟩
noncomputable def m117 (P : Params) : Obj := ⟨(.type "tuple"), none, (.seq (List.toArray []) 0), (List.toArray [])⟩
noncomputable def m118 (p : Program) (P : Params) : Obj := ⟨.none, none, (.func (fnB z28 z55 (nth (inCls (nth p.main.body 10)) 0))), (List.toArray [])⟩
noncomputable def m119 (P : Params) : Obj := ⟨(.type "code"), none, (.fields (List.toArray [(.str z28 336), (.str z55 337), (.str z10 338), (.int 46 0), (.int 4 0), (.int 0 0), (.int 0 0), (.int 3 0), (.ref 114), (.bool true), (.int 181 0), (.ref 115), .none, (.ref 116), (.ref 117), (.ref 118), (.int 343 0), (.int 46 0), (.str z10 344)])), (List.toArray [])⟩
noncomputable def m120 (p : Program) (P : Params) : Obj := ⟨(.type "function"), none, (.func (fnC z28 z55 (nth (inCls (nth p.main.body 10)) 0) .none .none .none (.str z2 206) none (.ref 119) .none)), (List.toArray [])⟩
noncomputable def m121 (P : Params) : Obj := ⟨(.type "tuple"), none, (.seq (List.toArray [(.str z56 346), (.str z54 347), (.str z57 348), (.str z53 349)]) 0), (List.toArray [])⟩
noncomputable def m122 (P : Params) : Obj := ⟨(.type "dict"), none, (.dict (List.toArray [⟨(PyData.keyHash P z25), (.str z25 331), (.str z2 206)⟩, ⟨(PyData.keyHash P z27), (.str z27 335), (.int 44 334)⟩, ⟨(PyData.keyHash P z28), (.str z28 345), (.ref 120)⟩, ⟨(PyData.keyHash P z29), (.str z29 350), (.ref 121)⟩, ⟨(PyData.keyHash P z3), (.str z3 351), .none⟩]) 2), (List.toArray [])⟩
noncomputable def m123 (P : Params) : Obj := ⟨(.type "type"), none, (.cls ⟨z51, [(.ref 45)], [(.ref 123), (.ref 45), (.type "object")], 122, z51, true, [], [], false, none, false⟩), (List.toArray [(some (.ref 107)), none, (some (.str z51 324)), (some (.str z51 332)), (some (.builtin "object.__new__")), (some (.bool true))])⟩
noncomputable def m124 (P : Params) : Obj := ⟨(.type "super"), none, (.fields (List.toArray [(.ref 123), (.ref 123), (.ref 123)])), (List.toArray [])⟩
noncomputable def m125 (P : Params) : Obj := ⟨(.type "builtin_function_or_method"), none, (.fields (List.toArray [(.builtin "object.__init_subclass__"), (.ref 123)])), (List.toArray [])⟩
noncomputable def m126 (P : Params) : Obj := ⟨(.type "tuple"), none, (.seq (List.toArray [(.ref 45)]) 0), (List.toArray [])⟩
noncomputable def m127 (P : Params) : Obj := ⟨(.type "builtin_function_or_method"), none, (.fields (List.toArray [(.builtin "type.__prepare__"), (.type "type")])), (List.toArray [])⟩
noncomputable def m128 (P : Params) : Obj := ⟨(.type "dict"), none, (.dict (List.toArray [⟨(PyData.keyHash P z25), (.str z25 361), (.str z2 206)⟩, ⟨(PyData.keyHash P z26), (.str z26 363), (.str z52 362)⟩, ⟨(PyData.keyHash P z27), (.str z27 365), (.int 52 364)⟩, ⟨(PyData.keyHash P z28), (.str z28 374), (.ref 139)⟩, ⟨(PyData.keyHash P z29), (.str z29 380), (.ref 140)⟩]) 5), (List.toArray [])⟩
noncomputable def m129 (P : Params) : Obj := ⟨(.type "tuple"), none, (.seq (List.toArray []) 0), (List.toArray [])⟩
noncomputable def m130 (P : Params) : Obj := ⟨.none, none, (.fields (List.toArray [(.int 54 0), (.int 4 0), (.ref 138)])), (List.toArray [])⟩
noncomputable def m131 (P : Params) : Obj := ⟨(.type "code"), none, (.fields (List.toArray [(.str z52 356), (.str z52 357), (.str z10 358), (.int 52 0), (.int 0 0), (.int 0 0), (.int 0 0), (.int 0 0), (.ref 129), (.bool false), (.int 181 0), (.ref 130), .none, .none, .none, .none, (.int 359 0), (.int 52 0), (.str z10 360)])), (List.toArray [])⟩
noncomputable def m132 (P : Params) : Obj := ⟨(.type "frame"), none, .plain, (List.toArray [(some (.ref 131)), (some (.ref 3)), (some (.ref 128)), none, (some (.str z2 206)), none, (some (.ref 0))])⟩
noncomputable def m133 (P : Params) : Obj := ⟨(.type "tuple"), none, (.seq (List.toArray []) 0), (List.toArray [])⟩
noncomputable def m134 (P : Params) : Obj := ⟨.none, none, (.fields (List.toArray [])), (List.toArray [])⟩
noncomputable def m135 (P : Params) : Obj := ⟨(.type "tuple"), none, (.seq (List.toArray [(.str z30 369), (.str z31 370), (.str z58 371)]) 0), (List.toArray [])⟩
noncomputable def m136 (P : Params) : Obj := ⟨(.type "tuple"), none, (.seq (List.toArray []) 0), (List.toArray [])⟩
noncomputable def m137 (p : Program) (P : Params) : Obj := ⟨.none, none, (.func (fnB z28 z59 (nth (inCls (nth p.main.body 11)) 0))), (List.toArray [])⟩
noncomputable def m138 (P : Params) : Obj := ⟨(.type "code"), none, (.fields (List.toArray [(.str z28 366), (.str z59 367), (.str z10 368), (.int 54 0), (.int 3 0), (.int 0 0), (.int 0 0), (.int 3 0), (.ref 133), (.bool true), (.int 181 0), (.ref 134), .none, (.ref 135), (.ref 136), (.ref 137), (.int 372 0), (.int 54 0), (.str z10 373)])), (List.toArray [])⟩
noncomputable def m139 (p : Program) (P : Params) : Obj := ⟨(.type "function"), none, (.func (fnC z28 z59 (nth (inCls (nth p.main.body 11)) 0) .none .none .none (.str z2 206) none (.ref 138) .none)), (List.toArray [])⟩
noncomputable def m140 (P : Params) : Obj := ⟨(.type "tuple"), none, (.seq (List.toArray [(.str z60 375), (.str z61 376), (.str z62 377), (.str z58 378), (.str z63 379)]) 0), (List.toArray [])⟩
noncomputable def m141 (P : Params) : Obj := ⟨(.type "dict"), none, (.dict (List.toArray [⟨(PyData.keyHash P z25), (.str z25 361), (.str z2 206)⟩, ⟨(PyData.keyHash P z27), (.str z27 365), (.int 52 364)⟩, ⟨(PyData.keyHash P z28), (.str z28 374), (.ref 139)⟩, ⟨(PyData.keyHash P z29), (.str z29 380), (.ref 140)⟩, ⟨(PyData.keyHash P z3), (.str z3 381), .none⟩]) 2), (List.toArray [])⟩
noncomputable def m142 (P : Params) : Obj := ⟨(.type "type"), none, (.cls ⟨z52, [(.ref 45)], [(.ref 142), (.ref 45), (.type "object")], 141, z52, true, [], [], false, none, false⟩), (List.toArray [(some (.ref 126)), none, (some (.str z52 354)), (some (.str z52 362)), (some (.builtin "object.__new__")), (some (.bool true))])⟩
noncomputable def m143 (P : Params) : Obj := ⟨(.type "super"), none, (.fields (List.toArray [(.ref 142), (.ref 142), (.ref 142)])), (List.toArray [])⟩
noncomputable def m144 (P : Params) : Obj := ⟨(.type "builtin_function_or_method"), none, (.fields (List.toArray [(.builtin "object.__init_subclass__"), (.ref 142)])), (List.toArray [])⟩
noncomputable def m3v3 (P : Params) : Obj := ⟨(.type "dict"), none, (.dict (List.toArray [⟨(PyData.keyHash P z1), (.str z1 165), (.str z2 206)⟩, ⟨(PyData.keyHash P z3), (.str z3 166), .none⟩, ⟨(PyData.keyHash P z4), (.str z4 167), .none⟩, ⟨(PyData.keyHash P z5), (.str z5 168), (.builtin "__main__.__loader__#opaque")⟩, ⟨(PyData.keyHash P z6), (.str z6 169), .none⟩, ⟨(PyData.keyHash P z7), (.str z7 170), (.ref 6)⟩, ⟨(PyData.keyHash P z8), (.str z8 171), (.ref 4)⟩, ⟨(PyData.keyHash P z9), (.str z9 173), (.str z10 172)⟩, ⟨(PyData.keyHash P z11), (.str z11 174), .none⟩, ⟨(PyData.keyHash P z12), (.str z12 193), (.ref 21)⟩, ⟨(PyData.keyHash P z13), (.str z13 197), (.str z14 196)⟩, ⟨(PyData.keyHash P z15), (.str z15 205), (.ref 28)⟩, ⟨(PyData.keyHash P z16), (.str z16 209), (.str z17 208)⟩, ⟨(PyData.keyHash P z18), (.str z18 243), (.ref 45)⟩, ⟨(PyData.keyHash P z19), (.str z19 270), (.ref 66)⟩, ⟨(PyData.keyHash P z43), (.str z43 296), (.ref 85)⟩, ⟨(PyData.keyHash P z44), (.str z44 323), (.ref 104)⟩, ⟨(PyData.keyHash P z51), (.str z51 353), (.ref 123)⟩, ⟨(PyData.keyHash P z52), (.str z52 383), (.ref 142)⟩, ⟨(PyData.keyHash P z64), (.str z64 414), (.ref 162)⟩, ⟨(PyData.keyHash P z65), (.str z65 491), (.ref 225)⟩]) 21), (List.toArray [])⟩
noncomputable def m12v3 (P : Params) : Obj := ⟨.none, none, (.fields (List.toArray [(.int 1 0), (.int 0 0), (.ref 20), (.int 6 0), (.int 0 0), (.ref 27), (.int 16 0), (.int 0 0), (.ref 34), (.int 25 0), (.int 0 0), (.ref 55), (.int 31 0), (.int 0 0), (.ref 74), (.int 37 0), (.int 0 0), (.ref 93), (.int 44 0), (.int 0 0), (.ref 112), (.int 52 0), (.int 0 0), (.ref 131), (.int 61 0), (.int 0 0), (.ref 150), (.int 66 0), (.int 0 0), (.ref 172)])), (List.toArray [])⟩
noncomputable def m145 (P : Params) : Obj := ⟨(.type "tuple"), none, (.seq (List.toArray []) 0), (List.toArray [])⟩
noncomputable def m146 (P : Params) : Obj := ⟨(.type "builtin_function_or_method"), none, (.fields (List.toArray [(.builtin "type.__prepare__"), (.type "type")])), (List.toArray [])⟩
noncomputable def m147 (P : Params) : Obj := ⟨(.type "dict"), none, (.dict (List.toArray [⟨(PyData.keyHash P z25), (.str z25 391), (.str z2 206)⟩, ⟨(PyData.keyHash P z26), (.str z26 393), (.str z64 392)⟩, ⟨(PyData.keyHash P z27), (.str z27 395), (.int 61 394)⟩, ⟨(PyData.keyHash P z28), (.str z28 404), (.ref 159)⟩, ⟨(PyData.keyHash P z29), (.str z29 407), (.ref 160)⟩]) 5), (List.toArray [])⟩
noncomputable def m148 (P : Params) : Obj := ⟨(.type "tuple"), none, (.seq (List.toArray []) 0), (List.toArray [])⟩
noncomputable def m149 (P : Params) : Obj := ⟨.none, none, (.fields (List.toArray [(.int 63 0), (.int 4 0), (.ref 158)])), (List.toArray [])⟩
noncomputable def m150 (P : Params) : Obj := ⟨(.type "code"), none, (.fields (List.toArray [(.str z64 386), (.str z64 387), (.str z10 388), (.int 61 0), (.int 0 0), (.int 0 0), (.int 0 0), (.int 0 0), (.ref 148), (.bool false), (.int 181 0), (.ref 149), .none, .none, .none, .none, (.int 389 0), (.int 61 0), (.str z10 390)])), (List.toArray [])⟩
noncomputable def m151 (P : Params) : Obj := ⟨(.type "frame"), none, .plain, (List.toArray [(some (.ref 150)), (some (.ref 3)), (some (.ref 147)), none, (some (.str z2 206)), none, (some (.ref 0))])⟩
noncomputable def m152 (P : Params) : Obj := ⟨(.type "tuple"), none, (.seq (List.toArray [(.bool false)]) 0), (List.toArray [])⟩
noncomputable def m153 (P : Params) : Obj := ⟨(.type "tuple"), none, (.seq (List.toArray []) 0), (List.toArray [])⟩
noncomputable def m154 (P : Params) : Obj := ⟨.none, none, (.fields (List.toArray [])), (List.toArray [])⟩
noncomputable def m155 (P : Params) : Obj := ⟨(.type "tuple"), none, (.seq (List.toArray [(.str z30 399), (.str z66 400), (.str z67 401)]) 0), (List.toArray [])⟩
noncomputable def m156 (P : Params) : Obj := ⟨(.type "tuple"), none, (.seq (List.toArray []) 0), (List.toArray [])⟩
noncomputable def m157 (p : Program) (P : Params) : Obj := ⟨.none, none, (.func (fnB z28 z68 (nth (inCls (nth p.main.body 12)) 0))), (List.toArray [])⟩
noncomputable def m158 (P : Params) : Obj := ⟨(.type "code"), none, (.fields (List.toArray [(.str z28 396), (.str z68 397), (.str z10 398), (.int 63 0), (.int 3 0), (.int 0 0), (.int 0 0), (.int 3 0), (.ref 153), (.bool true), (.int 181 0), (.ref 154), .none, (.ref 155), (.ref 156), (.ref 157), (.int 402 0), (.int 63 0), (.str z10 403)])), (List.toArray [])⟩
noncomputable def m159 (p : Program) (P : Params) : Obj := ⟨(.type "function"), none, (.func (fnC z28 z68 (nth (inCls (nth p.main.body 12)) 0) (.ref 152) .none .none (.str z2 206) none (.ref 158) .none)), (List.toArray [])⟩
noncomputable def m160 (P : Params) : Obj := ⟨(.type "tuple"), none, (.seq (List.toArray [(.str z67 405), (.str z66 406)]) 0), (List.toArray [])⟩
noncomputable def m161 (P : Params) : Obj := ⟨(.type "dict"), none, (.dict (List.toArray [⟨(PyData.keyHash P z25), (.str z25 391), (.str z2 206)⟩, ⟨(PyData.keyHash P z27), (.str z27 395), (.int 61 394)⟩, ⟨(PyData.keyHash P z28), (.str z28 404), (.ref 159)⟩, ⟨(PyData.keyHash P z29), (.str z29 407), (.ref 160)⟩, ⟨(PyData.keyHash P z38), (.str z38 409), (.ref 163)⟩, ⟨(PyData.keyHash P z39), (.str z39 411), (.ref 164)⟩, ⟨(PyData.keyHash P z3), (.str z3 412), .none⟩]) 4), (List.toArray [])⟩
noncomputable def m162 (P : Params) : Obj := ⟨(.type "type"), none, (.cls ⟨z64, [(.type "object")], [(.ref 162), (.type "object")], 161, z64, true, [], [], false, none, false⟩), (List.toArray [none, none, (some (.str z64 384)), (some (.str z64 392)), (some (.builtin "object.__new__")), (some (.bool true))])⟩
noncomputable def m163 (P : Params) : Obj := ⟨(.type "getset_descriptor"), none, (.fields (List.toArray [(.str z38 408), (.ref 162), (.builtin "function.__dict__"), (.builtin "function.__dict__#set")])), (List.toArray [])⟩
noncomputable def m164 (P : Params) : Obj := ⟨(.type "getset_descriptor"), none, (.fields (List.toArray [(.str z39 410), (.ref 162), (.builtin "ExceptionGroup.__weakref__"), .none])), (List.toArray [])⟩
noncomputable def m165 (P : Params) : Obj := ⟨(.type "super"), none, (.fields (List.toArray [(.ref 162), (.ref 162), (.ref 162)])), (List.toArray [])⟩
noncomputable def m166 (P : Params) : Obj := ⟨(.type "builtin_function_or_method"), none, (.fields (List.toArray [(.builtin "object.__init_subclass__"), (.ref 162)])), (List.toArray [])⟩
noncomputable def m167 (P : Params) : Obj := ⟨(.type "tuple"), none, (.seq (List.toArray []) 0), (List.toArray [])⟩
noncomputable def m168 (P : Params) : Obj := ⟨(.type "builtin_function_or_method"), none, (.fields (List.toArray [(.builtin "type.__prepare__"), (.type "type")])), (List.toArray [])⟩
noncomputable def m169 (P : Params) : Obj := ⟨(.type "dict"), none, (.dict (List.toArray [⟨(PyData.keyHash P z25), (.str z25 422), (.str z2 206)⟩, ⟨(PyData.keyHash P z26), (.str z26 424), (.str z65 423)⟩, ⟨(PyData.keyHash P z27), (.str z27 426), (.int 66 425)⟩, ⟨(PyData.keyHash P z28), (.str z28 434), (.ref 180)⟩, ⟨(PyData.keyHash P z69), (.str z69 441), (.ref 187)⟩, ⟨(PyData.keyHash P z70), (.str z70 449), (.ref 194)⟩, ⟨(PyData.keyHash P z71), (.str z71 456), (.ref 201)⟩, ⟨(PyData.keyHash P z72), (.str z72 463), (.ref 208)⟩, ⟨(PyData.keyHash P z73), (.str z73 472), (.ref 215)⟩, ⟨(PyData.keyHash P z74), (.str z74 480), (.ref 222)⟩, ⟨(PyData.keyHash P z29), (.str z29 484), (.ref 223)⟩]) 11), (List.toArray [])⟩
noncomputable def m170 (P : Params) : Obj := ⟨(.type "tuple"), none, (.seq (List.toArray []) 0), (List.toArray [])⟩
noncomputable def m171 (P : Params) : Obj := ⟨.none, none, (.fields (List.toArray [(.int 68 0), (.int 4 0), (.ref 179), (.int 73 0), (.int 4 0), (.ref 186), (.int 77 0), (.int 4 0), (.ref 193), (.int 80 0), (.int 4 0), (.ref 200), (.int 83 0), (.int 4 0), (.ref 207), (.int 86 0), (.int 4 0), (.ref 214), (.int 89 0), (.int 4 0), (.ref 221)])), (List.toArray [])⟩
noncomputable def m172 (P : Params) : Obj := ⟨(.type "code"), none, (.fields (List.toArray [(.str z65 417), (.str z65 418), (.str z10 419), (.int 66 0), (.int 0 0), (.int 0 0), (.int 0 0), (.int 0 0), (.ref 170), (.bool false), (.int 181 0), (.ref 171), .none, .none, .none, .none, (.int 420 0), (.int 66 0), (.str z10 421)])), (List.toArray [])⟩
noncomputable def m173 (P : Params) : Obj := ⟨(.type "frame"), none, .plain, (List.toArray [(some (.ref 172)), (some (.ref 3)), (some (.ref 169)), none, (some (.str z2 206)), none, (some (.ref 0))])⟩
noncomputable def m174 (P : Params) : Obj := ⟨(.type "tuple"), none, (.seq (List.toArray []) 0), (List.toArray [])⟩
noncomputable def m175 (P : Params) : Obj := ⟨.none, none, (.fields (List.toArray [])), (List.toArray [])⟩
noncomputable def m176 (P : Params) : Obj := ⟨(.type "tuple"), none, (.seq (List.toArray [(.str z30 430), (.str z75 431)]) 0), (List.toArray [])⟩
noncomputable def m177 (P : Params) : Obj := ⟨(.type "tuple"), none, (.seq (List.toArray []) 0), (List.toArray [])⟩
noncomputable def m178 (p : Program) (P : Params) : Obj := ⟨.none, none, (.func (fnB z28 z76 (nth (inCls (nth p.main.body 13)) 0))), (List.toArray [])⟩
noncomputable def m179 (P : Params) : Obj := ⟨(.type "code"), none, (.fields (List.toArray [(.str z28 427), (.str z76 428), (.str z10 429), (.int 68 0), (.int 2 0), (.int 0 0), (.int 0 0), (.int 3 0), (.ref 174), (.bool true), (.int 181 0), (.ref 175), .none, (.ref 176), (.ref 177), (.ref 178), (.int 432 0), (.int 68 0), (.str z10 433)])), (List.toArray [])⟩
noncomputable def m180 (p : Program) (P : Params) : Obj := ⟨(.type "function"), none, (.func (fnC z28 z76 (nth (inCls (nth p.main.body 13)) 0) .none .none .none (.str z2 206) none (.ref 179) .none)), (List.toArray [])⟩
noncomputable def m181 (P : Params) : Obj := ⟨(.type "tuple"), none, (.seq (List.toArray []) 0), (List.toArray [])⟩
noncomputable def m182 (P : Params) : Obj := ⟨.none, none, (.fields (List.toArray [])), (List.toArray [])⟩
noncomputable def m183 (P : Params) : Obj := ⟨(.type "tuple"), none, (.seq (List.toArray [(.str z30 438)]) 0), (List.toArray [])⟩
noncomputable def m184 (P : Params) : Obj := ⟨(.type "tuple"), none, (.seq (List.toArray []) 0), (List.toArray [])⟩
noncomputable def m185 (p : Program) (P : Params) : Obj := ⟨.none, none, (.func (fnB z69 z77 (nth (inCls (nth p.main.body 13)) 1))), (List.toArray [])⟩
noncomputable def m186 (P : Params) : Obj := ⟨(.type "code"), none, (.fields (List.toArray [(.str z69 435), (.str z77 436), (.str z10 437), (.int 73 0), (.int 1 0), (.int 0 0), (.int 0 0), (.int 3 0), (.ref 181), (.bool true), (.int 181 0), (.ref 182), .none, (.ref 183), (.ref 184), (.ref 185), (.int 439 0), (.int 73 0), (.str z10 440)])), (List.toArray [])⟩
noncomputable def m187 (p : Program) (P : Params) : Obj := ⟨(.type "function"), none, (.func (fnC z69 z77 (nth (inCls (nth p.main.body 13)) 1) .none .none .none (.str z2 206) none (.ref 186) .none)), (List.toArray [])⟩
noncomputable def m188 (P : Params) : Obj := ⟨(.type "tuple"), none, (.seq (List.toArray []) 0), (List.toArray [])⟩
noncomputable def m189 (P : Params) : Obj := ⟨.none, none, (.fields (List.toArray [])), (List.toArray [])⟩
noncomputable def m190 (P : Params) : Obj := ⟨(.type "tuple"), none, (.seq (List.toArray [(.str z30 445), (.str z40 446)]) 0), (List.toArray [])⟩
noncomputable def m191 (P : Params) : Obj := ⟨(.type "tuple"), none, (.seq (List.toArray []) 0), (List.toArray [])⟩
noncomputable def m192 (p : Program) (P : Params) : Obj := ⟨.none, none, (.func (fnB z70 z78 (nth (inCls (nth p.main.body 13)) 2))), (List.toArray [])⟩
noncomputable def m193 (P : Params) : Obj := ⟨(.type "code"), none, (.fields (List.toArray [(.str z70 442), (.str z78 443), (.str z10 444), (.int 77 0), (.int 2 0), (.int 0 0), (.int 0 0), (.int 3 0), (.ref 188), (.bool true), (.int 181 0), (.ref 189), .none, (.ref 190), (.ref 191), (.ref 192), (.int 447 0), (.int 77 0), (.str z10 448)])), (List.toArray [])⟩
noncomputable def m194 (p : Program) (P : Params) : Obj := ⟨(.type "function"), none, (.func (fnC z70 z78 (nth (inCls (nth p.main.body 13)) 2) .none .none .none (.str z2 206) none (.ref 193) .none)), (List.toArray [])⟩
noncomputable def m195 (P : Params) : Obj := ⟨(.type "tuple"), none, (.seq (List.toArray []) 0), (List.toArray [])⟩
noncomputable def m196 (P : Params) : Obj := ⟨.none, none, (.fields (List.toArray [])), (List.toArray [])⟩
noncomputable def m197 (P : Params) : Obj := ⟨(.type "tuple"), none, (.seq (List.toArray [(.str z30 453)]) 0), (List.toArray [])⟩
noncomputable def m198 (P : Params) : Obj := ⟨(.type "tuple"), none, (.seq (List.toArray []) 0), (List.toArray [])⟩
noncomputable def m199 (p : Program) (P : Params) : Obj := ⟨.none, none, (.func (fnB z71 z79 (nth (inCls (nth p.main.body 13)) 3))), (List.toArray [])⟩
noncomputable def m200 (P : Params) : Obj := ⟨(.type "code"), none, (.fields (List.toArray [(.str z71 450), (.str z79 451), (.str z10 452), (.int 80 0), (.int 1 0), (.int 0 0), (.int 0 0), (.int 3 0), (.ref 195), (.bool true), (.int 181 0), (.ref 196), .none, (.ref 197), (.ref 198), (.ref 199), (.int 454 0), (.int 80 0), (.str z10 455)])), (List.toArray [])⟩
noncomputable def m201 (p : Program) (P : Params) : Obj := ⟨(.type "function"), none, (.func (fnC z71 z79 (nth (inCls (nth p.main.body 13)) 3) .none .none .none (.str z2 206) none (.ref 200) .none)), (List.toArray [])⟩
noncomputable def m202 (P : Params) : Obj := ⟨(.type "tuple"), none, (.seq (List.toArray []) 0), (List.toArray [])⟩
noncomputable def m203 (P : Params) : Obj := ⟨.none, none, (.fields (List.toArray [])), (List.toArray [])⟩
noncomputable def m204 (P : Params) : Obj := ⟨(.type "tuple"), none, (.seq (List.toArray [(.str z30 460)]) 0), (List.toArray [])⟩
noncomputable def m205 (P : Params) : Obj := ⟨(.type "tuple"), none, (.seq (List.toArray []) 0), (List.toArray [])⟩
noncomputable def m206 (p : Program) (P : Params) : Obj := ⟨.none, none, (.func (fnB z72 z80 (nth (inCls (nth p.main.body 13)) 4))), (List.toArray [])⟩
noncomputable def m207 (P : Params) : Obj := ⟨(.type "code"), none, (.fields (List.toArray [(.str z72 457), (.str z80 458), (.str z10 459), (.int 83 0), (.int 1 0), (.int 0 0), (.int 0 0), (.int 3 0), (.ref 202), (.bool true), (.int 181 0), (.ref 203), .none, (.ref 204), (.ref 205), (.ref 206), (.int 461 0), (.int 83 0), (.str z10 462)])), (List.toArray [])⟩
noncomputable def m208 (p : Program) (P : Params) : Obj := ⟨(.type "function"), none, (.func (fnC z72 z80 (nth (inCls (nth p.main.body 13)) 4) .none .none .none (.str z2 206) none (.ref 207) .none)), (List.toArray [])⟩
noncomputable def m209 (P : Params) : Obj := ⟨(.type "tuple"), none, (.seq (List.toArray []) 0), (List.toArray [])⟩
noncomputable def m210 (P : Params) : Obj := ⟨.none, none, (.fields (List.toArray [])), (List.toArray [])⟩
noncomputable def m211 (P : Params) : Obj := ⟨(.type "tuple"), none, (.seq (List.toArray [(.str z30 467), (.str z53 468), (.str z54 469)]) 0), (List.toArray [])⟩
noncomputable def m212 (P : Params) : Obj := ⟨(.type "tuple"), none, (.seq (List.toArray []) 0), (List.toArray [])⟩
noncomputable def m213 (p : Program) (P : Params) : Obj := ⟨.none, none, (.func (fnB z73 z81 (nth (inCls (nth p.main.body 13)) 5))), (List.toArray [])⟩
noncomputable def m214 (P : Params) : Obj := ⟨(.type "code"), none, (.fields (List.toArray [(.str z73 464), (.str z81 465), (.str z10 466), (.int 86 0), (.int 3 0), (.int 0 0), (.int 0 0), (.int 3 0), (.ref 209), (.bool true), (.int 181 0), (.ref 210), .none, (.ref 211), (.ref 212), (.ref 213), (.int 470 0), (.int 86 0), (.str z10 471)])), (List.toArray [])⟩
noncomputable def m215 (p : Program) (P : Params) : Obj := ⟨(.type "function"), none, (.func (fnC z73 z81 (nth (inCls (nth p.main.body 13)) 5) .none .none .none (.str z2 206) none (.ref 214) .none)), (List.toArray [])⟩
noncomputable def m216 (P : Params) : Obj := ⟨(.type "tuple"), none, (.seq (List.toArray []) 0), (List.toArray [])⟩
noncomputable def m217 (P : Params) : Obj := ⟨.none, none, (.fields (List.toArray [])), (List.toArray [])⟩
noncomputable def m218 (P : Params) : Obj := ⟨(.type "tuple"), none, (.seq (List.toArray [(.str z30 476), (.str z58 477)]) 0), (List.toArray [])⟩
noncomputable def m219 (P : Params) : Obj := ⟨(.type "tuple"), none, (.seq (List.toArray []) 0), (List.toArray [])⟩
noncomputable def m220 (p : Program) (P : Params) : Obj := ⟨.none, none, (.func (fnB z74 z82 (nth (inCls (nth p.main.body 13)) 6))), (List.toArray [])⟩
noncomputable def m221 (P : Params) : Obj := ⟨(.type "code"), none, (.fields (List.toArray [(.str z74 473), (.str z82 474), (.str z10 475), (.int 89 0), (.int 2 0), (.int 0 0), (.int 0 0), (.int 3 0), (.ref 216), (.bool true), (.int 181 0), (.ref 217), .none, (.ref 218), (.ref 219), (.ref 220), (.int 478 0), (.int 89 0), (.str z10 479)])), (List.toArray [])⟩
noncomputable def m222 (p : Program) (P : Params) : Obj := ⟨(.type "function"), none, (.func (fnC z74 z82 (nth (inCls (nth p.main.body 13)) 6) .none .none .none (.str z2 206) none (.ref 221) .none)), (List.toArray [])⟩
noncomputable def m223 (P : Params) : Obj := ⟨(.type "tuple"), none, (.seq (List.toArray [(.str z83 481), (.str z75 482), (.str z84 483)]) 0), (List.toArray [])⟩
noncomputable def m224 (P : Params) : Obj := ⟨(.type "dict"), none, (.dict (List.toArray [⟨(PyData.keyHash P z25), (.str z25 422), (.str z2 206)⟩, ⟨(PyData.keyHash P z27), (.str z27 426), (.int 66 425)⟩, ⟨(PyData.keyHash P z28), (.str z28 434), (.ref 180)⟩, ⟨(PyData.keyHash P z69), (.str z69 441), (.ref 187)⟩, ⟨(PyData.keyHash P z70), (.str z70 449), (.ref 194)⟩, ⟨(PyData.keyHash P z71), (.str z71 456), (.ref 201)⟩, ⟨(PyData.keyHash P z72), (.str z72 463), (.ref 208)⟩, ⟨(PyData.keyHash P z73), (.str z73 472), (.ref 215)⟩, ⟨(PyData.keyHash P z74), (.str z74 480), (.ref 222)⟩, ⟨(PyData.keyHash P z29), (.str z29 484), (.ref 223)⟩, ⟨(PyData.keyHash P z38), (.str z38 486), (.ref 226)⟩, ⟨(PyData.keyHash P z39), (.str z39 488), (.ref 227)⟩, ⟨(PyData.keyHash P z3), (.str z3 489), .none⟩]) 4), (List.toArray [])⟩
noncomputable def m225 (P : Params) : Obj := ⟨(.type "type"), none, (.cls ⟨z65, [(.type "object")], [(.ref 225), (.type "object")], 224, z65, true, [], [], false, none, false⟩), (List.toArray [none, none, (some (.str z65 415)), (some (.str z65 423)), (some (.builtin "object.__new__")), (some (.bool true))])⟩
noncomputable def m226 (P : Params) : Obj := ⟨(.type "getset_descriptor"), none, (.fields (List.toArray [(.str z38 485), (.ref 225), (.builtin "function.__dict__"), (.builtin "function.__dict__#set")])), (List.toArray [])⟩
noncomputable def m227 (P : Params) : Obj := ⟨(.type "getset_descriptor"), none, (.fields (List.toArray [(.str z39 487), (.ref 225), (.builtin "ExceptionGroup.__weakref__"), .none])), (List.toArray [])⟩
noncomputable def m228 (P : Params) : Obj := ⟨(.type "super"), none, (.fields (List.toArray [(.ref 225), (.ref 225), (.ref 225)])), (List.toArray [])⟩
noncomputable def m229 (P : Params) : Obj := ⟨(.type "builtin_function_or_method"), none, (.fields (List.toArray [(.builtin "object.__init_subclass__"), (.ref 225)])), (List.toArray [])⟩
noncomputable def tr2 (p : Program) (P : Params) : BT := (.node (boot_o_0 P) (.node (boot_o_1 P) (.node (m3v3 P) (.node (boot_o_7 P) (.node (m15 P) (.node (m31 P) (.node (m63 p P) (.node (m127 P) .nil .nil) (.node (m191 P) .nil .nil)) (.node (m95 P) (.node (m159 p P) .nil .nil) (.node (m223 P) .nil .nil))) (.node (m47 P) (.node (m79 P) (.node (m143 P) .nil .nil) (.node (m207 P) .nil .nil)) (.node (m111 P) (.node (m175 P) .nil .nil) .nil))) (.node (m23 P) (.node (m39 P) (.node (m71 P) (.node (m135 P) .nil .nil) (.node (m199 p P) .nil .nil)) (.node (m103 P) (.node (m167 P) .nil .nil) .nil)) (.node (m55 P) (.node (m87 P) (.node (m151 P) .nil .nil) (.node (m215 p P) .nil .nil)) (.node (m119 P) (.node (m183 P) .nil .nil) .nil)))) (.node (xA11 P) (.node (m19 p P) (.node (m35 P) (.node (m67 P) (.node (m131 P) .nil .nil) (.node (m195 P) .nil .nil)) (.node (m99 p P) (.node (m163 P) .nil .nil) (.node (m227 P) .nil .nil))) (.node (m51 P) (.node (m83 P) (.node (m147 P) .nil .nil) (.node (m211 P) .nil .nil)) (.node (m115 P) (.node (m179 P) .nil .nil) .nil))) (.node (m27 P) (.node (m43 P) (.node (m75 P) (.node (m139 p P) .nil .nil) (.node (m203 P) .nil .nil)) (.node (m107 P) (.node (m171 P) .nil .nil) .nil)) (.node (m59 P) (.node (m91 P) (.node (m155 P) .nil .nil) (.node (m219 P) .nil .nil)) (.node (m123 P) (.node (m187 p P) .nil .nil) .nil))))) (.node (boot_o_5 P) (.node (boot_o_9 P) (.node (m17 P) (.node (m33 P) (.node (m65 P) (.node (m129 P) .nil .nil) (.node (m193 P) .nil .nil)) (.node (m97 P) (.node (m161 P) .nil .nil) (.node (m225 P) .nil .nil))) (.node (m49 P) (.node (m81 P) (.node (m145 P) .nil .nil) (.node (m209 P) .nil .nil)) (.node (m113 P) (.node (m177 P) .nil .nil) .nil))) (.node (m25 P) (.node (m41 P) (.node (m73 P) (.node (m137 p P) .nil .nil) (.node (m201 p P) .nil .nil)) (.node (m105 P) (.node (m169 P) .nil .nil) .nil)) (.node (m57 P) (.node (m89 P) (.node (m153 P) .nil .nil) (.node (m217 P) .nil .nil)) (.node (m121 P) (.node (m185 p P) .nil .nil) .nil)))) (.node (xA13 P) (.node (m21 p P) (.node (m37 P) (.node (m69 P) (.node (m133 P) .nil .nil) (.node (m197 P) .nil .nil)) (.node (m101 p P) (.node (m165 P) .nil .nil) (.node (m229 P) .nil .nil))) (.node (m53 P) (.node (m85 P) (.node (m149 P) .nil .nil) (.node (m213 p P) .nil .nil)) (.node (m117 P) (.node (m181 P) .nil .nil) .nil))) (.node (m29 P) (.node (m45v2 P) (.node (m77 P) (.node (m141 P) .nil .nil) (.node (m205 P) .nil .nil)) (.node (m109 P) (.node (m173 P) .nil .nil) .nil)) (.node (m61 p P) (.node (m93 P) (.node (m157 p P) .nil .nil) (.node (m221 P) .nil .nil)) (.node (m125 P) (.node (m189 P) .nil .nil) .nil)))))) (.node (boot_o_2 P) (.node (boot_o_4 P) (.node (boot_o_8 P) (.node (m16 P) (.node (m32 P) (.node (m64 P) (.node (m128 P) .nil .nil) (.node (m192 p P) .nil .nil)) (.node (m96 P) (.node (m160 P) .nil .nil) (.node (m224 P) .nil .nil))) (.node (m48 P) (.node (m80 p P) (.node (m144 P) .nil .nil) (.node (m208 p P) .nil .nil)) (.node (m112 P) (.node (m176 P) .nil .nil) .nil))) (.node (m24 P) (.node (m40 p P) (.node (m72 P) (.node (m136 P) .nil .nil) (.node (m200 P) .nil .nil)) (.node (m104 P) (.node (m168 P) .nil .nil) .nil)) (.node (m56 P) (.node (m88 P) (.node (m152 P) .nil .nil) (.node (m216 P) .nil .nil)) (.node (m120 p P) (.node (m184 P) .nil .nil) .nil)))) (.node (m12v3 P) (.node (m20 P) (.node (m36 P) (.node (m68 P) (.node (m132 P) .nil .nil) (.node (m196 P) .nil .nil)) (.node (m100 P) (.node (m164 P) .nil .nil) (.node (m228 P) .nil .nil))) (.node (m52 P) (.node (m84 P) (.node (m148 P) .nil .nil) (.node (m212 P) .nil .nil)) (.node (m116 P) (.node (m180 p P) .nil .nil) .nil))) (.node (m28 p P) (.node (m44 P) (.node (m76 P) (.node (m140 P) .nil .nil) (.node (m204 P) .nil .nil)) (.node (m108 P) (.node (m172 P) .nil .nil) .nil)) (.node (m60 P) (.node (m92 P) (.node (m156 P) .nil .nil) (.node (m220 p P) .nil .nil)) (.node (m124 P) (.node (m188 P) .nil .nil) .nil))))) (.node (boot_o_6 P) (.node (boot_o_10 P) (.node (m18 P) (.node (m34 P) (.node (m66 P) (.node (m130 P) .nil .nil) (.node (m194 p P) .nil .nil)) (.node (m98 P) (.node (m162 P) .nil .nil) (.node (m226 P) .nil .nil))) (.node (m50 P) (.node (m82 p P) (.node (m146 P) .nil .nil) (.node (m210 P) .nil .nil)) (.node (m114 P) (.node (m178 p P) .nil .nil) .nil))) (.node (m26 p P) (.node (m42 p P) (.node (m74 P) (.node (m138 P) .nil .nil) (.node (m202 P) .nil .nil)) (.node (m106 P) (.node (m170 P) .nil .nil) .nil)) (.node (m58 P) (.node (m90 P) (.node (m154 P) .nil .nil) (.node (m218 P) .nil .nil)) (.node (m122 P) (.node (m186 P) .nil .nil) .nil)))) (.node (xA14 P) (.node (m22 P) (.node (m38 P) (.node (m70 P) (.node (m134 P) .nil .nil) (.node (m198 P) .nil .nil)) (.node (m102 P) (.node (m166 P) .nil .nil) .nil)) (.node (m54 P) (.node (m86 P) (.node (m150 P) .nil .nil) (.node (m214 P) .nil .nil)) (.node (m118 p P) (.node (m182 P) .nil .nil) .nil))) (.node (m30 P) (.node (m46 P) (.node (m78 P) (.node (m142 P) .nil .nil) (.node (m206 p P) .nil .nil)) (.node (m110 P) (.node (m174 P) .nil .nil) .nil)) (.node (m62 P) (.node (m94 P) (.node (m158 P) .nil .nil) (.node (m222 p P) .nil .nil)) (.node (m126 P) (.node (m190 P) .nil .nil) .nil)))))))
noncomputable def q2 : Pos := ⟨66, 0, 90, 16⟩
noncomputable def S2 (p : Program) (w : World) (os : OsState) : SharedT := ⟨tr2 p w.params, 230, {}, #[], boot_drawn, 492, os⟩
noncomputable def m2 (P : Params) : Obj := ⟨.none, none, (.dict (List.toArray [⟨(PyData.keyHash P z85), (.str z85 558), (.int 281 0)⟩, ⟨(PyData.keyHash P z86), (.str z86 559), (.int 1 0)⟩]) 2), (List.toArray [])⟩
noncomputable def m230 (P : Params) : Obj := ⟨(.type "tuple"), none, (.seq (List.toArray []) 0), (List.toArray [])⟩
noncomputable def m231 (P : Params) : Obj := ⟨.none, none, (.fields (List.toArray [])), (List.toArray [])⟩
noncomputable def m232 (P : Params) : Obj := ⟨(.type "tuple"), none, (.seq (List.toArray [(.str z95 495)]) 0), (List.toArray [])⟩
noncomputable def m233 (P : Params) : Obj := ⟨(.type "tuple"), none, (.seq (List.toArray []) 0), (List.toArray [])⟩
noncomputable def m234 (p : Program) (P : Params) : Obj := ⟨.none, none, (.func (fnB z88 z88 (nth p.main.body 14))), (List.toArray [])⟩
noncomputable def m235 (P : Params) : Obj := ⟨(.type "code"), none, (.fields (List.toArray [(.str z88 492), (.str z88 493), (.str z10 494), (.int 91 0), (.int 1 0), (.int 0 0), (.int 0 0), (.int 3 0), (.ref 230), (.bool true), (.int 181 0), (.ref 231), .none, (.ref 232), (.ref 233), (.ref 234), (.int 496 0), (.int 91 0), (.str z10 497)])), (List.toArray [])⟩
noncomputable def m236 (p : Program) (P : Params) : Obj := ⟨(.type "function"), none, (.func (fnC z88 z88 (nth p.main.body 14) .none .none .none (.str z2 206) none (.ref 235) .none)), (List.toArray [])⟩
noncomputable def m237 (P : Params) : Obj := ⟨(.type "tuple"), none, (.seq (List.toArray []) 0), (List.toArray [])⟩
noncomputable def m238 (P : Params) : Obj := ⟨.none, none, (.fields (List.toArray [])), (List.toArray [])⟩
noncomputable def m239 (P : Params) : Obj := ⟨(.type "tuple"), none, (.seq (List.toArray [(.str z31 502), (.str z23 503)]) 0), (List.toArray [])⟩
noncomputable def m240 (P : Params) : Obj := ⟨(.type "tuple"), none, (.seq (List.toArray []) 0), (List.toArray [])⟩
noncomputable def m241 (p : Program) (P : Params) : Obj := ⟨.none, none, (.func (fnB z89 z89 (nth p.main.body 15))), (List.toArray [])⟩
noncomputable def m242 (P : Params) : Obj := ⟨(.type "code"), none, (.fields (List.toArray [(.str z89 499), (.str z89 500), (.str z10 501), (.int 103 0), (.int 1 0), (.int 0 0), (.int 0 0), (.int 3 0), (.ref 237), (.bool true), (.int 181 0), (.ref 238), .none, (.ref 239), (.ref 240), (.ref 241), (.int 504 0), (.int 103 0), (.str z10 505)])), (List.toArray [])⟩
noncomputable def m243 (p : Program) (P : Params) : Obj := ⟨(.type "function"), none, (.func (fnC z89 z89 (nth p.main.body 15) .none .none .none (.str z2 206) none (.ref 242) .none)), (List.toArray [])⟩
noncomputable def m244 (P : Params) : Obj := ⟨(.type "tuple"), none, (.seq (List.toArray []) 0), (List.toArray [])⟩
noncomputable def m245 (P : Params) : Obj := ⟨.none, none, (.fields (List.toArray [])), (List.toArray [])⟩
noncomputable def m246 (P : Params) : Obj := ⟨(.type "tuple"), none, (.seq (List.toArray [(.str z96 510), (.str z23 511)]) 0), (List.toArray [])⟩
noncomputable def m247 (P : Params) : Obj := ⟨(.type "tuple"), none, (.seq (List.toArray []) 0), (List.toArray [])⟩
noncomputable def m248 (p : Program) (P : Params) : Obj := ⟨.none, none, (.func (fnB z90 z90 (nth p.main.body 16))), (List.toArray [])⟩
noncomputable def m249 (P : Params) : Obj := ⟨(.type "code"), none, (.fields (List.toArray [(.str z90 507), (.str z90 508), (.str z10 509), (.int 109 0), (.int 1 0), (.int 0 0), (.int 0 0), (.int 3 0), (.ref 244), (.bool true), (.int 181 0), (.ref 245), .none, (.ref 246), (.ref 247), (.ref 248), (.int 512 0), (.int 109 0), (.str z10 513)])), (List.toArray [])⟩
noncomputable def m250 (p : Program) (P : Params) : Obj := ⟨(.type "function"), none, (.func (fnC z90 z90 (nth p.main.body 16) .none .none .none (.str z2 206) none (.ref 249) .none)), (List.toArray [])⟩
noncomputable def m251 (P : Params) : Obj := ⟨(.type "tuple"), none, (.seq (List.toArray []) 0), (List.toArray [])⟩
noncomputable def m252 (P : Params) : Obj := ⟨.none, none, (.fields (List.toArray [])), (List.toArray [])⟩
noncomputable def m253 (P : Params) : Obj := ⟨(.type "tuple"), none, (.seq (List.toArray [(.str z97 520)]) 0), (List.toArray [])⟩
noncomputable def m254 (P : Params) : Obj := ⟨(.type "tuple"), none, (.seq (List.toArray []) 0), (List.toArray [])⟩
noncomputable def m255 (p : Program) (P : Params) : Obj := ⟨.none, none, (.func (fnB z91 z91 (nth p.main.body 18))), (List.toArray [])⟩
noncomputable def m256 (P : Params) : Obj := ⟨(.type "code"), none, (.fields (List.toArray [(.str z91 517), (.str z91 518), (.str z10 519), (.int 115 0), (.int 1 0), (.int 0 0), (.int 0 0), (.int 3 0), (.ref 251), (.bool true), (.int 181 0), (.ref 252), .none, (.ref 253), (.ref 254), (.ref 255), (.int 521 0), (.int 115 0), (.str z10 522)])), (List.toArray [])⟩
noncomputable def m257 (p : Program) (P : Params) : Obj := ⟨(.type "function"), none, (.func (fnC z91 z91 (nth p.main.body 18) .none .none .none (.str z98 515) none (.ref 256) .none)), (List.toArray [])⟩
noncomputable def m258 (P : Params) : Obj := ⟨(.type "tuple"), none, (.seq (List.toArray []) 0), (List.toArray [])⟩
noncomputable def m259 (P : Params) : Obj := ⟨.none, none, (.fields (List.toArray [])), (List.toArray [])⟩
noncomputable def m260 (P : Params) : Obj := ⟨(.type "tuple"), none, (.seq (List.toArray [(.str z40 527)]) 0), (List.toArray [])⟩
noncomputable def m261 (P : Params) : Obj := ⟨(.type "tuple"), none, (.seq (List.toArray []) 0), (List.toArray [])⟩
noncomputable def m262 (p : Program) (P : Params) : Obj := ⟨.none, none, (.func (fnB z92 z92 (nth p.main.body 19))), (List.toArray [])⟩
noncomputable def m263 (P : Params) : Obj := ⟨(.type "code"), none, (.fields (List.toArray [(.str z92 524), (.str z92 525), (.str z10 526), (.int 121 0), (.int 1 0), (.int 0 0), (.int 0 0), (.int 3 0), (.ref 258), (.bool true), (.int 181 0), (.ref 259), .none, (.ref 260), (.ref 261), (.ref 262), (.int 528 0), (.int 121 0), (.str z10 529)])), (List.toArray [])⟩
noncomputable def m264 (p : Program) (P : Params) : Obj := ⟨(.type "function"), none, (.func (fnC z92 z92 (nth p.main.body 19) .none .none .none (.str z98 515) none (.ref 263) .none)), (List.toArray [])⟩
noncomputable def m265 (P : Params) : Obj := ⟨(.type "tuple"), none, (.seq (List.toArray [(.type "Exception")]) 0), (List.toArray [])⟩
noncomputable def m266 (P : Params) : Obj := ⟨(.type "builtin_function_or_method"), none, (.fields (List.toArray [(.builtin "type.__prepare__"), (.type "type")])), (List.toArray [])⟩
noncomputable def m267 (P : Params) : Obj := ⟨(.type "dict"), none, (.dict (List.toArray [⟨(PyData.keyHash P z25), (.str z25 540), (.str z87 531)⟩, ⟨(PyData.keyHash P z26), (.str z26 542), (.str z93 541)⟩, ⟨(PyData.keyHash P z27), (.str z27 544), (.int 130 543)⟩, ⟨(PyData.keyHash P z28), (.str z28 552), (.ref 278)⟩, ⟨(PyData.keyHash P z29), (.str z29 554), (.ref 279)⟩]) 5), (List.toArray [])⟩
noncomputable def m268 (P : Params) : Obj := ⟨(.type "tuple"), none, (.seq (List.toArray []) 0), (List.toArray [])⟩
noncomputable def m269 (P : Params) : Obj := ⟨.none, none, (.fields (List.toArray [(.int 132 0), (.int 4 0), (.ref 277)])), (List.toArray [])⟩
noncomputable def m270 (P : Params) : Obj := ⟨(.type "code"), none, (.fields (List.toArray [(.str z93 535), (.str z93 536), (.str z10 537), (.int 130 0), (.int 0 0), (.int 0 0), (.int 0 0), (.int 0 0), (.ref 268), (.bool false), (.int 181 0), (.ref 269), .none, .none, .none, .none, (.int 538 0), (.int 130 0), (.str z10 539)])), (List.toArray [])⟩
noncomputable def m271 (P : Params) : Obj := ⟨(.type "frame"), none, .plain, (List.toArray [(some (.ref 270)), (some (.ref 3)), (some (.ref 267)), none, (some (.str z87 531)), none, (some (.ref 0))])⟩
noncomputable def m272 (P : Params) : Obj := ⟨(.type "tuple"), none, (.seq (List.toArray []) 0), (List.toArray [])⟩
noncomputable def m273 (P : Params) : Obj := ⟨.none, none, (.fields (List.toArray [])), (List.toArray [])⟩
noncomputable def m274 (P : Params) : Obj := ⟨(.type "tuple"), none, (.seq (List.toArray [(.str z30 548), (.str z23 549)]) 0), (List.toArray [])⟩
noncomputable def m275 (P : Params) : Obj := ⟨(.type "tuple"), none, (.seq (List.toArray []) 0), (List.toArray [])⟩
noncomputable def m276 (p : Program) (P : Params) : Obj := ⟨.none, none, (.func (fnB z28 z99 (nth (inCls (nth p.main.body 21)) 0))), (List.toArray [])⟩
noncomputable def m277 (P : Params) : Obj := ⟨(.type "code"), none, (.fields (List.toArray [(.str z28 545), (.str z99 546), (.str z10 547), (.int 132 0), (.int 2 0), (.int 0 0), (.int 0 0), (.int 3 0), (.ref 272), (.bool true), (.int 181 0), (.ref 273), .none, (.ref 274), (.ref 275), (.ref 276), (.int 550 0), (.int 132 0), (.str z10 551)])), (List.toArray [])⟩
noncomputable def m278 (p : Program) (P : Params) : Obj := ⟨(.type "function"), none, (.func (fnC z28 z99 (nth (inCls (nth p.main.body 21)) 0) .none .none .none (.str z87 531) none (.ref 277) .none)), (List.toArray [])⟩
noncomputable def m279 (P : Params) : Obj := ⟨(.type "tuple"), none, (.seq (List.toArray [(.str z23 553)]) 0), (List.toArray [])⟩
noncomputable def m280 (P : Params) : Obj := ⟨(.type "dict"), none, (.dict (List.toArray [⟨(PyData.keyHash P z25), (.str z25 540), (.str z87 531)⟩, ⟨(PyData.keyHash P z27), (.str z27 544), (.int 130 543)⟩, ⟨(PyData.keyHash P z28), (.str z28 552), (.ref 278)⟩, ⟨(PyData.keyHash P z29), (.str z29 554), (.ref 279)⟩, ⟨(PyData.keyHash P z39), (.str z39 556), (.ref 282)⟩, ⟨(PyData.keyHash P z3), (.str z3 557), .none⟩]) 3), (List.toArray [])⟩
noncomputable def m281 (P : Params) : Obj := ⟨(.type "type"), none, (.cls ⟨z93, [(.type "Exception")], [(.ref 281), (.type "Exception"), (.type "BaseException"), (.type "object")], 280, z93, true, [], [(.ref 301)], false, none, false⟩), (List.toArray [(some (.ref 265)), none, (some (.str z93 533)), (some (.str z93 541)), (some (.builtin "Exception.__new__")), (some (.bool true))])⟩
noncomputable def m282 (P : Params) : Obj := ⟨(.type "getset_descriptor"), none, (.fields (List.toArray [(.str z39 555), (.ref 281), (.builtin "ExceptionGroup.__weakref__"), .none])), (List.toArray [])⟩
noncomputable def m283 (P : Params) : Obj := ⟨(.type "super"), none, (.fields (List.toArray [(.ref 281), (.ref 281), (.ref 281)])), (List.toArray [])⟩
noncomputable def m284 (P : Params) : Obj := ⟨(.type "builtin_function_or_method"), none, (.fields (List.toArray [(.builtin "object.__init_subclass__"), (.ref 281)])), (List.toArray [])⟩
noncomputable def m285 (P : Params) : Obj := ⟨(.type "tuple"), none, (.seq (List.toArray [(.ref 281)]) 0), (List.toArray [])⟩
noncomputable def m286 (P : Params) : Obj := ⟨(.type "builtin_function_or_method"), none, (.fields (List.toArray [(.builtin "type.__prepare__"), (.type "type")])), (List.toArray [])⟩
noncomputable def m287 (P : Params) : Obj := ⟨(.type "dict"), none, (.dict (List.toArray [⟨(PyData.keyHash P z25), (.str z25 569), (.str z87 531)⟩, ⟨(PyData.keyHash P z26), (.str z26 571), (.str z94 570)⟩, ⟨(PyData.keyHash P z27), (.str z27 573), (.int 135 572)⟩, ⟨(PyData.keyHash P z28), (.str z28 581), (.ref 298)⟩, ⟨(PyData.keyHash P z29), (.str z29 583), (.ref 299)⟩]) 5), (List.toArray [])⟩
noncomputable def m288 (P : Params) : Obj := ⟨(.type "tuple"), none, (.seq (List.toArray []) 0), (List.toArray [])⟩
noncomputable def m289 (P : Params) : Obj := ⟨.none, none, (.fields (List.toArray [(.int 137 0), (.int 4 0), (.ref 297)])), (List.toArray [])⟩
noncomputable def m290 (P : Params) : Obj := ⟨(.type "code"), none, (.fields (List.toArray [(.str z94 564), (.str z94 565), (.str z10 566), (.int 135 0), (.int 0 0), (.int 0 0), (.int 0 0), (.int 0 0), (.ref 288), (.bool false), (.int 181 0), (.ref 289), .none, .none, .none, .none, (.int 567 0), (.int 135 0), (.str z10 568)])), (List.toArray [])⟩
noncomputable def m291 (P : Params) : Obj := ⟨(.type "frame"), none, .plain, (List.toArray [(some (.ref 290)), (some (.ref 3)), (some (.ref 287)), none, (some (.str z87 531)), none, (some (.ref 0))])⟩
noncomputable def m292 (P : Params) : Obj := ⟨(.type "tuple"), none, (.seq (List.toArray []) 0), (List.toArray [])⟩
noncomputable def m293 (P : Params) : Obj := ⟨.none, none, (.fields (List.toArray [])), (List.toArray [])⟩
noncomputable def m294 (P : Params) : Obj := ⟨(.type "tuple"), none, (.seq (List.toArray [(.str z30 577), (.str z40 578)]) 0), (List.toArray [])⟩
noncomputable def m295 (P : Params) : Obj := ⟨(.type "tuple"), none, (.seq (List.toArray []) 0), (List.toArray [])⟩
noncomputable def m296 (p : Program) (P : Params) : Obj := ⟨.none, none, (.func (fnB z28 z100 (nth (inCls (nth p.main.body 22)) 0))), (List.toArray [])⟩
noncomputable def m297 (P : Params) : Obj := ⟨(.type "code"), none, (.fields (List.toArray [(.str z28 574), (.str z100 575), (.str z10 576), (.int 137 0), (.int 2 0), (.int 0 0), (.int 0 0), (.int 3 0), (.ref 292), (.bool true), (.int 181 0), (.ref 293), .none, (.ref 294), (.ref 295), (.ref 296), (.int 579 0), (.int 137 0), (.str z10 580)])), (List.toArray [])⟩
noncomputable def m298 (p : Program) (P : Params) : Obj := ⟨(.type "function"), none, (.func (fnC z28 z100 (nth (inCls (nth p.main.body 22)) 0) .none .none .none (.str z87 531) none (.ref 297) .none)), (List.toArray [])⟩
noncomputable def m299 (P : Params) : Obj := ⟨(.type "tuple"), none, (.seq (List.toArray [(.str z40 582)]) 0), (List.toArray [])⟩
noncomputable def m300 (P : Params) : Obj := ⟨(.type "dict"), none, (.dict (List.toArray [⟨(PyData.keyHash P z25), (.str z25 569), (.str z87 531)⟩, ⟨(PyData.keyHash P z27), (.str z27 573), (.int 135 572)⟩, ⟨(PyData.keyHash P z28), (.str z28 581), (.ref 298)⟩, ⟨(PyData.keyHash P z29), (.str z29 583), (.ref 299)⟩, ⟨(PyData.keyHash P z3), (.str z3 584), .none⟩]) 2), (List.toArray [])⟩
noncomputable def m301 (P : Params) : Obj := ⟨(.type "type"), none, (.cls ⟨z94, [(.ref 281)], [(.ref 301), (.ref 281), (.type "Exception"), (.type "BaseException"), (.type "object")], 300, z94, true, [], [], false, none, false⟩), (List.toArray [(some (.ref 285)), none, (some (.str z94 562)), (some (.str z94 570)), (some (.builtin "Exception.__new__")), (some (.bool true))])⟩
noncomputable def m302 (P : Params) : Obj := ⟨(.type "super"), none, (.fields (List.toArray [(.ref 301), (.ref 301), (.ref 301)])), (List.toArray [])⟩
noncomputable def m303 (P : Params) : Obj := ⟨(.type "builtin_function_or_method"), none, (.fields (List.toArray [(.builtin "object.__init_subclass__"), (.ref 301)])), (List.toArray [])⟩
noncomputable def m3v5 (P : Params) : Obj := ⟨(.type "dict"), none, (.dict (List.toArray [⟨(PyData.keyHash P z1), (.str z1 165), (.str z101 680)⟩, ⟨(PyData.keyHash P z3), (.str z3 166), .none⟩, ⟨(PyData.keyHash P z4), (.str z4 167), .none⟩, ⟨(PyData.keyHash P z5), (.str z5 168), (.builtin "__main__.__loader__#opaque")⟩, ⟨(PyData.keyHash P z6), (.str z6 169), .none⟩, ⟨(PyData.keyHash P z7), (.str z7 170), (.ref 6)⟩, ⟨(PyData.keyHash P z8), (.str z8 171), (.ref 4)⟩, ⟨(PyData.keyHash P z9), (.str z9 173), (.str z10 172)⟩, ⟨(PyData.keyHash P z11), (.str z11 174), .none⟩, ⟨(PyData.keyHash P z12), (.str z12 193), (.ref 21)⟩, ⟨(PyData.keyHash P z13), (.str z13 197), (.str z14 196)⟩, ⟨(PyData.keyHash P z15), (.str z15 205), (.ref 28)⟩, ⟨(PyData.keyHash P z16), (.str z16 209), (.str z17 208)⟩, ⟨(PyData.keyHash P z18), (.str z18 243), (.ref 45)⟩, ⟨(PyData.keyHash P z19), (.str z19 270), (.ref 66)⟩, ⟨(PyData.keyHash P z43), (.str z43 296), (.ref 85)⟩, ⟨(PyData.keyHash P z44), (.str z44 323), (.ref 104)⟩, ⟨(PyData.keyHash P z51), (.str z51 353), (.ref 123)⟩, ⟨(PyData.keyHash P z52), (.str z52 383), (.ref 142)⟩, ⟨(PyData.keyHash P z64), (.str z64 414), (.ref 162)⟩, ⟨(PyData.keyHash P z65), (.str z65 491), (.ref 225)⟩, ⟨(PyData.keyHash P z88), (.str z88 498), (.ref 236)⟩, ⟨(PyData.keyHash P z89), (.str z89 506), (.ref 243)⟩, ⟨(PyData.keyHash P z90), (.str z90 514), (.ref 250)⟩, ⟨(PyData.keyHash P z91), (.str z91 523), (.ref 257)⟩, ⟨(PyData.keyHash P z92), (.str z92 530), (.ref 264)⟩, ⟨(PyData.keyHash P z93), (.str z93 561), (.ref 281)⟩, ⟨(PyData.keyHash P z94), (.str z94 586), (.ref 301)⟩, ⟨(PyData.keyHash P z102), (.str z102 590), (.str z103 589)⟩, ⟨(PyData.keyHash P z104), (.str z104 599), (.ref 310)⟩, ⟨(PyData.keyHash P z105), (.str z105 607), (.ref 317)⟩, ⟨(PyData.keyHash P z106), (.str z106 617), (.ref 324)⟩, ⟨(PyData.keyHash P z107), (.str z107 627), (.ref 331)⟩, ⟨(PyData.keyHash P z108), (.str z108 636), (.ref 338)⟩, ⟨(PyData.keyHash P z109), (.str z109 646), (.ref 345)⟩, ⟨(PyData.keyHash P z110), (.str z110 653), (.ref 352)⟩, ⟨(PyData.keyHash P z111), (.str z111 660), (.ref 359)⟩, ⟨(PyData.keyHash P z112), (.str z112 666), (.ref 364)⟩, ⟨(PyData.keyHash P z113), (.str z113 679), (.ref 371)⟩]) 39), (List.toArray [])⟩
noncomputable def m12v5 (P : Params) : Obj := ⟨.none, none, (.fields (List.toArray [(.int 1 0), (.int 0 0), (.ref 20), (.int 6 0), (.int 0 0), (.ref 27), (.int 16 0), (.int 0 0), (.ref 34), (.int 25 0), (.int 0 0), (.ref 55), (.int 31 0), (.int 0 0), (.ref 74), (.int 37 0), (.int 0 0), (.ref 93), (.int 44 0), (.int 0 0), (.ref 112), (.int 52 0), (.int 0 0), (.ref 131), (.int 61 0), (.int 0 0), (.ref 150), (.int 66 0), (.int 0 0), (.ref 172), (.int 91 0), (.int 0 0), (.ref 235), (.int 103 0), (.int 0 0), (.ref 242), (.int 109 0), (.int 0 0), (.ref 249), (.int 115 0), (.int 0 0), (.ref 256), (.int 121 0), (.int 0 0), (.ref 263), (.int 130 0), (.int 0 0), (.ref 270), (.int 135 0), (.int 0 0), (.ref 290), (.int 142 0), (.int 0 0), (.ref 309), (.int 148 0), (.int 0 0), (.ref 316), (.int 152 0), (.int 0 0), (.ref 323), (.int 154 0), (.int 0 0), (.ref 330), (.int 161 0), (.int 0 0), (.ref 337), (.int 167 0), (.int 0 0), (.ref 344), (.int 173 0), (.int 0 0), (.ref 351), (.int 176 0), (.int 0 0), (.ref 358), (.int 178 0), (.int 0 0), (.ref 363), (.int 180 0), (.int 0 0), (.ref 370)])), (List.toArray [])⟩
noncomputable def m304 (P : Params) : Obj := ⟨(.type "tuple"), none, (.seq (List.toArray []) 0), (List.toArray [])⟩
noncomputable def m305 (P : Params) : Obj := ⟨.none, none, (.fields (List.toArray [])), (List.toArray [])⟩
noncomputable def m306 (P : Params) : Obj := ⟨(.type "tuple"), none, (.seq (List.toArray [(.str z114 594), (.str z115 595), (.str z40 596)]) 0), (List.toArray [])⟩
noncomputable def m307 (P : Params) : Obj := ⟨(.type "tuple"), none, (.seq (List.toArray []) 0), (List.toArray [])⟩
noncomputable def m308 (p : Program) (P : Params) : Obj := ⟨.none, none, (.func (fnB z104 z104 (nth p.main.body 25))), (List.toArray [])⟩
noncomputable def m309 (P : Params) : Obj := ⟨(.type "code"), none, (.fields (List.toArray [(.str z104 591), (.str z104 592), (.str z10 593), (.int 142 0), (.int 2 0), (.int 0 0), (.int 0 0), (.int 3 0), (.ref 304), (.bool true), (.int 181 0), (.ref 305), .none, (.ref 306), (.ref 307), (.ref 308), (.int 597 0), (.int 142 0), (.str z10 598)])), (List.toArray [])⟩
noncomputable def m310 (p : Program) (P : Params) : Obj := ⟨(.type "function"), none, (.func (fnC z104 z104 (nth p.main.body 25) .none .none .none (.str z116 587) none (.ref 309) .none)), (List.toArray [])⟩
noncomputable def m311 (P : Params) : Obj := ⟨(.type "tuple"), none, (.seq (List.toArray []) 0), (List.toArray [])⟩
noncomputable def m312 (P : Params) : Obj := ⟨.none, none, (.fields (List.toArray [])), (List.toArray [])⟩
noncomputable def m313 (P : Params) : Obj := ⟨(.type "tuple"), none, (.seq (List.toArray [(.str z114 603), (.str z117 604)]) 0), (List.toArray [])⟩
noncomputable def m314 (P : Params) : Obj := ⟨(.type "tuple"), none, (.seq (List.toArray []) 0), (List.toArray [])⟩
noncomputable def m315 (p : Program) (P : Params) : Obj := ⟨.none, none, (.func (fnB z105 z105 (nth p.main.body 26))), (List.toArray [])⟩
noncomputable def m316 (P : Params) : Obj := ⟨(.type "code"), none, (.fields (List.toArray [(.str z105 600), (.str z105 601), (.str z10 602), (.int 148 0), (.int 2 0), (.int 0 0), (.int 0 0), (.int 3 0), (.ref 311), (.bool true), (.int 181 0), (.ref 312), .none, (.ref 313), (.ref 314), (.ref 315), (.int 605 0), (.int 148 0), (.str z10 606)])), (List.toArray [])⟩
noncomputable def m317 (p : Program) (P : Params) : Obj := ⟨(.type "function"), none, (.func (fnC z105 z105 (nth p.main.body 26) .none .none .none (.str z116 587) none (.ref 316) .none)), (List.toArray [])⟩
noncomputable def m318 (P : Params) : Obj := ⟨(.type "tuple"), none, (.seq (List.toArray []) 0), (List.toArray [])⟩
noncomputable def m319 (P : Params) : Obj := ⟨.none, none, (.fields (List.toArray [])), (List.toArray [])⟩
noncomputable def m320 (P : Params) : Obj := ⟨(.type "tuple"), none, (.seq (List.toArray [(.str z118 613), (.str z119 614)]) 0), (List.toArray [])⟩
noncomputable def m321 (P : Params) : Obj := ⟨(.type "tuple"), none, (.seq (List.toArray []) 0), (List.toArray [])⟩
noncomputable def m322 (p : Program) (P : Params) : Obj := ⟨.none, none, (.func (fnB z106 z106 (nth p.main.body 28))), (List.toArray [])⟩
noncomputable def m323 (P : Params) : Obj := ⟨(.type "code"), none, (.fields (List.toArray [(.str z106 610), (.str z106 611), (.str z10 612), (.int 152 0), (.int 2 0), (.int 0 0), (.int 0 0), (.int 3 0), (.ref 318), (.bool true), (.int 181 0), (.ref 319), .none, (.ref 320), (.ref 321), (.ref 322), (.int 615 0), (.int 152 0), (.str z10 616)])), (List.toArray [])⟩
noncomputable def m324 (p : Program) (P : Params) : Obj := ⟨(.type "function"), none, (.func (fnC z106 z106 (nth p.main.body 28) .none .none .none (.str z120 608) none (.ref 323) .none)), (List.toArray [])⟩
noncomputable def m325 (P : Params) : Obj := ⟨(.type "tuple"), none, (.seq (List.toArray []) 0), (List.toArray [])⟩
noncomputable def m326 (P : Params) : Obj := ⟨.none, none, (.fields (List.toArray [])), (List.toArray [])⟩
noncomputable def m327 (P : Params) : Obj := ⟨(.type "tuple"), none, (.seq (List.toArray [(.str z118 621), (.str z119 622), (.str z121 623), (.str z122 624)]) 0), (List.toArray [])⟩
noncomputable def m328 (P : Params) : Obj := ⟨(.type "tuple"), none, (.seq (List.toArray []) 0), (List.toArray [])⟩
noncomputable def m329 (p : Program) (P : Params) : Obj := ⟨.none, none, (.func (fnB z107 z107 (nth p.main.body 29))), (List.toArray [])⟩
noncomputable def m330 (P : Params) : Obj := ⟨(.type "code"), none, (.fields (List.toArray [(.str z107 618), (.str z107 619), (.str z10 620), (.int 154 0), (.int 2 0), (.int 0 0), (.int 0 0), (.int 3 0), (.ref 325), (.bool true), (.int 181 0), (.ref 326), .none, (.ref 327), (.ref 328), (.ref 329), (.int 625 0), (.int 154 0), (.str z10 626)])), (List.toArray [])⟩
noncomputable def m331 (p : Program) (P : Params) : Obj := ⟨(.type "function"), none, (.func (fnC z107 z107 (nth p.main.body 29) .none .none .none (.str z120 608) none (.ref 330) .none)), (List.toArray [])⟩
noncomputable def m332 (P : Params) : Obj := ⟨(.type "tuple"), none, (.seq (List.toArray []) 0), (List.toArray [])⟩
noncomputable def m333 (P : Params) : Obj := ⟨.none, none, (.fields (List.toArray [])), (List.toArray [])⟩
noncomputable def m334 (P : Params) : Obj := ⟨(.type "tuple"), none, (.seq (List.toArray [(.str z114 631), (.str z118 632), (.str z119 633)]) 0), (List.toArray [])⟩
noncomputable def m335 (P : Params) : Obj := ⟨(.type "tuple"), none, (.seq (List.toArray []) 0), (List.toArray [])⟩
noncomputable def m336 (p : Program) (P : Params) : Obj := ⟨.none, none, (.func (fnB z108 z108 (nth p.main.body 30))), (List.toArray [])⟩
noncomputable def m337 (P : Params) : Obj := ⟨(.type "code"), none, (.fields (List.toArray [(.str z108 628), (.str z108 629), (.str z10 630), (.int 161 0), (.int 3 0), (.int 0 0), (.int 0 0), (.int 3 0), (.ref 332), (.bool true), (.int 181 0), (.ref 333), .none, (.ref 334), (.ref 335), (.ref 336), (.int 634 0), (.int 161 0), (.str z10 635)])), (List.toArray [])⟩
noncomputable def m338 (p : Program) (P : Params) : Obj := ⟨(.type "function"), none, (.func (fnC z108 z108 (nth p.main.body 30) .none .none .none (.str z120 608) none (.ref 337) .none)), (List.toArray [])⟩
noncomputable def m339 (P : Params) : Obj := ⟨(.type "tuple"), none, (.seq (List.toArray []) 0), (List.toArray [])⟩
noncomputable def m340 (P : Params) : Obj := ⟨.none, none, (.fields (List.toArray [])), (List.toArray [])⟩
noncomputable def m341 (P : Params) : Obj := ⟨(.type "tuple"), none, (.seq (List.toArray [(.str z114 640), (.str z118 641), (.str z123 642), (.str z119 643)]) 0), (List.toArray [])⟩
noncomputable def m342 (P : Params) : Obj := ⟨(.type "tuple"), none, (.seq (List.toArray []) 0), (List.toArray [])⟩
noncomputable def m343 (p : Program) (P : Params) : Obj := ⟨.none, none, (.func (fnB z109 z109 (nth p.main.body 31))), (List.toArray [])⟩
noncomputable def m344 (P : Params) : Obj := ⟨(.type "code"), none, (.fields (List.toArray [(.str z109 637), (.str z109 638), (.str z10 639), (.int 167 0), (.int 2 0), (.int 0 0), (.int 0 0), (.int 3 0), (.ref 339), (.bool true), (.int 181 0), (.ref 340), .none, (.ref 341), (.ref 342), (.ref 343), (.int 644 0), (.int 167 0), (.str z10 645)])), (List.toArray [])⟩
noncomputable def m345 (p : Program) (P : Params) : Obj := ⟨(.type "function"), none, (.func (fnC z109 z109 (nth p.main.body 31) .none .none .none (.str z120 608) none (.ref 344) .none)), (List.toArray [])⟩
noncomputable def m346 (P : Params) : Obj := ⟨(.type "tuple"), none, (.seq (List.toArray []) 0), (List.toArray [])⟩
noncomputable def m347 (P : Params) : Obj := ⟨.none, none, (.fields (List.toArray [])), (List.toArray [])⟩
noncomputable def m348 (P : Params) : Obj := ⟨(.type "tuple"), none, (.seq (List.toArray [(.str z118 650)]) 0), (List.toArray [])⟩
noncomputable def m349 (P : Params) : Obj := ⟨(.type "tuple"), none, (.seq (List.toArray []) 0), (List.toArray [])⟩
noncomputable def m350 (p : Program) (P : Params) : Obj := ⟨.none, none, (.func (fnB z110 z110 (nth p.main.body 32))), (List.toArray [])⟩
noncomputable def m351 (P : Params) : Obj := ⟨(.type "code"), none, (.fields (List.toArray [(.str z110 647), (.str z110 648), (.str z10 649), (.int 173 0), (.int 1 0), (.int 0 0), (.int 0 0), (.int 3 0), (.ref 346), (.bool true), (.int 181 0), (.ref 347), .none, (.ref 348), (.ref 349), (.ref 350), (.int 651 0), (.int 173 0), (.str z10 652)])), (List.toArray [])⟩
noncomputable def m352 (p : Program) (P : Params) : Obj := ⟨(.type "function"), none, (.func (fnC z110 z110 (nth p.main.body 32) .none .none .none (.str z120 608) none (.ref 351) .none)), (List.toArray [])⟩
noncomputable def m353 (P : Params) : Obj := ⟨(.type "tuple"), none, (.seq (List.toArray []) 0), (List.toArray [])⟩
noncomputable def m354 (P : Params) : Obj := ⟨.none, none, (.fields (List.toArray [])), (List.toArray [])⟩
noncomputable def m355 (P : Params) : Obj := ⟨(.type "tuple"), none, (.seq (List.toArray [(.str z118 657)]) 0), (List.toArray [])⟩
noncomputable def m356 (P : Params) : Obj := ⟨(.type "tuple"), none, (.seq (List.toArray []) 0), (List.toArray [])⟩
noncomputable def m357 (p : Program) (P : Params) : Obj := ⟨.none, none, (.func (fnB z111 z111 (nth p.main.body 33))), (List.toArray [])⟩
noncomputable def m358 (P : Params) : Obj := ⟨(.type "code"), none, (.fields (List.toArray [(.str z111 654), (.str z111 655), (.str z10 656), (.int 176 0), (.int 1 0), (.int 0 0), (.int 0 0), (.int 3 0), (.ref 353), (.bool true), (.int 181 0), (.ref 354), .none, (.ref 355), (.ref 356), (.ref 357), (.int 658 0), (.int 176 0), (.str z10 659)])), (List.toArray [])⟩
noncomputable def m359 (p : Program) (P : Params) : Obj := ⟨(.type "function"), none, (.func (fnC z111 z111 (nth p.main.body 33) .none .none .none (.str z120 608) none (.ref 358) .none)), (List.toArray [])⟩
noncomputable def m360 (P : Params) : Obj := ⟨(.type "tuple"), none, (.seq (List.toArray []) 0), (List.toArray [])⟩
noncomputable def m361 (P : Params) : Obj := ⟨.none, none, (.fields (List.toArray [])), (List.toArray [])⟩
noncomputable def m362 (p : Program) (P : Params) : Obj := ⟨.none, none, (.func (fnB z112 z112 (nth p.main.body 34))), (List.toArray [])⟩
noncomputable def m363 (P : Params) : Obj := ⟨(.type "code"), none, (.fields (List.toArray [(.str z112 661), (.str z112 662), (.str z10 663), (.int 178 0), (.int 3 0), (.int 0 0), (.int 0 0), (.int 3 0), (.ref 360), (.bool true), (.int 181 0), (.ref 361), .none, .none, .none, (.ref 362), (.int 664 0), (.int 178 0), (.str z10 665)])), (List.toArray [])⟩
noncomputable def m364 (p : Program) (P : Params) : Obj := ⟨(.type "function"), none, (.func (fnC z112 z112 (nth p.main.body 34) .none .none .none (.str z120 608) none (.ref 363) .none)), (List.toArray [])⟩
noncomputable def m365 (P : Params) : Obj := ⟨(.type "tuple"), none, (.seq (List.toArray []) 0), (List.toArray [])⟩
noncomputable def m366 (P : Params) : Obj := ⟨.none, none, (.fields (List.toArray [])), (List.toArray [])⟩
noncomputable def m367 (P : Params) : Obj := ⟨(.type "tuple"), none, (.seq (List.toArray [(.str z114 670), (.str z118 671), (.str z124 672), (.str z125 673), (.str z49 674), (.str z119 675), (.str z40 676)]) 0), (List.toArray [])⟩
noncomputable def m368 (P : Params) : Obj := ⟨(.type "tuple"), none, (.seq (List.toArray []) 0), (List.toArray [])⟩
noncomputable def m369 (p : Program) (P : Params) : Obj := ⟨.none, none, (.func (fnB z113 z113 (nth p.main.body 35))), (List.toArray [])⟩
noncomputable def m370 (P : Params) : Obj := ⟨(.type "code"), none, (.fields (List.toArray [(.str z113 667), (.str z113 668), (.str z10 669), (.int 180 0), (.int 3 0), (.int 0 0), (.int 0 0), (.int 3 0), (.ref 365), (.bool true), (.int 181 0), (.ref 366), .none, (.ref 367), (.ref 368), (.ref 369), (.int 677 0), (.int 180 0), (.str z10 678)])), (List.toArray [])⟩
noncomputable def m371 (p : Program) (P : Params) : Obj := ⟨(.type "function"), none, (.func (fnC z113 z113 (nth p.main.body 35) .none .none .none (.str z120 608) none (.ref 370) .none)), (List.toArray [])⟩
noncomputable def tr3 (p : Program) (P : Params) : BT := (.node (boot_o_0 P) (.node (boot_o_1 P) (.node (m3v5 P) (.node (boot_o_7 P) (.node (m15 P) (.node (m31 P) (.node (m63 p P) (.node (m127 P) (.node (m255 p P) .nil .nil) .nil) (.node (m191 P) (.node (m319 P) .nil .nil) .nil)) (.node (m95 P) (.node (m159 p P) (.node (m287 P) .nil .nil) .nil) (.node (m223 P) (.node (m351 P) .nil .nil) .nil))) (.node (m47 P) (.node (m79 P) (.node (m143 P) (.node (m271 P) .nil .nil) .nil) (.node (m207 P) (.node (m335 P) .nil .nil) .nil)) (.node (m111 P) (.node (m175 P) (.node (m303 P) .nil .nil) .nil) (.node (m239 P) (.node (m367 P) .nil .nil) .nil)))) (.node (m23 P) (.node (m39 P) (.node (m71 P) (.node (m135 P) (.node (m263 P) .nil .nil) .nil) (.node (m199 p P) (.node (m327 P) .nil .nil) .nil)) (.node (m103 P) (.node (m167 P) (.node (m295 P) .nil .nil) .nil) (.node (m231 P) (.node (m359 p P) .nil .nil) .nil))) (.node (m55 P) (.node (m87 P) (.node (m151 P) (.node (m279 P) .nil .nil) .nil) (.node (m215 p P) (.node (m343 p P) .nil .nil) .nil)) (.node (m119 P) (.node (m183 P) (.node (m311 P) .nil .nil) .nil) (.node (m247 P) .nil .nil))))) (.node (xA11 P) (.node (m19 p P) (.node (m35 P) (.node (m67 P) (.node (m131 P) (.node (m259 P) .nil .nil) .nil) (.node (m195 P) (.node (m323 P) .nil .nil) .nil)) (.node (m99 p P) (.node (m163 P) (.node (m291 P) .nil .nil) .nil) (.node (m227 P) (.node (m355 P) .nil .nil) .nil))) (.node (m51 P) (.node (m83 P) (.node (m147 P) (.node (m275 P) .nil .nil) .nil) (.node (m211 P) (.node (m339 P) .nil .nil) .nil)) (.node (m115 P) (.node (m179 P) (.node (m307 P) .nil .nil) .nil) (.node (m243 p P) (.node (m371 p P) .nil .nil) .nil)))) (.node (m27 P) (.node (m43 P) (.node (m75 P) (.node (m139 p P) (.node (m267 P) .nil .nil) .nil) (.node (m203 P) (.node (m331 p P) .nil .nil) .nil)) (.node (m107 P) (.node (m171 P) (.node (m299 P) .nil .nil) .nil) (.node (m235 P) (.node (m363 P) .nil .nil) .nil))) (.node (m59 P) (.node (m91 P) (.node (m155 P) (.node (m283 P) .nil .nil) .nil) (.node (m219 P) (.node (m347 P) .nil .nil) .nil)) (.node (m123 P) (.node (m187 p P) (.node (m315 p P) .nil .nil) .nil) (.node (m251 P) .nil .nil)))))) (.node (boot_o_5 P) (.node (boot_o_9 P) (.node (m17 P) (.node (m33 P) (.node (m65 P) (.node (m129 P) (.node (m257 p P) .nil .nil) .nil) (.node (m193 P) (.node (m321 P) .nil .nil) .nil)) (.node (m97 P) (.node (m161 P) (.node (m289 P) .nil .nil) .nil) (.node (m225 P) (.node (m353 P) .nil .nil) .nil))) (.node (m49 P) (.node (m81 P) (.node (m145 P) (.node (m273 P) .nil .nil) .nil) (.node (m209 P) (.node (m337 P) .nil .nil) .nil)) (.node (m113 P) (.node (m177 P) (.node (m305 P) .nil .nil) .nil) (.node (m241 p P) (.node (m369 p P) .nil .nil) .nil)))) (.node (m25 P) (.node (m41 P) (.node (m73 P) (.node (m137 p P) (.node (m265 P) .nil .nil) .nil) (.node (m201 p P) (.node (m329 p P) .nil .nil) .nil)) (.node (m105 P) (.node (m169 P) (.node (m297 P) .nil .nil) .nil) (.node (m233 P) (.node (m361 P) .nil .nil) .nil))) (.node (m57 P) (.node (m89 P) (.node (m153 P) (.node (m281 P) .nil .nil) .nil) (.node (m217 P) (.node (m345 p P) .nil .nil) .nil)) (.node (m121 P) (.node (m185 p P) (.node (m313 P) .nil .nil) .nil) (.node (m249 P) .nil .nil))))) (.node (xA13 P) (.node (m21 p P) (.node (m37 P) (.node (m69 P) (.node (m133 P) (.node (m261 P) .nil .nil) .nil) (.node (m197 P) (.node (m325 P) .nil .nil) .nil)) (.node (m101 p P) (.node (m165 P) (.node (m293 P) .nil .nil) .nil) (.node (m229 P) (.node (m357 p P) .nil .nil) .nil))) (.node (m53 P) (.node (m85 P) (.node (m149 P) (.node (m277 P) .nil .nil) .nil) (.node (m213 p P) (.node (m341 P) .nil .nil) .nil)) (.node (m117 P) (.node (m181 P) (.node (m309 P) .nil .nil) .nil) (.node (m245 P) .nil .nil)))) (.node (m29 P) (.node (m45v2 P) (.node (m77 P) (.node (m141 P) (.node (m269 P) .nil .nil) .nil) (.node (m205 P) (.node (m333 P) .nil .nil) .nil)) (.node (m109 P) (.node (m173 P) (.node (m301 P) .nil .nil) .nil) (.node (m237 P) (.node (m365 P) .nil .nil) .nil))) (.node (m61 p P) (.node (m93 P) (.node (m157 p P) (.node (m285 P) .nil .nil) .nil) (.node (m221 P) (.node (m349 P) .nil .nil) .nil)) (.node (m125 P) (.node (m189 P) (.node (m317 p P) .nil .nil) .nil) (.node (m253 P) .nil .nil))))))) (.node (m2 P) (.node (boot_o_4 P) (.node (boot_o_8 P) (.node (m16 P) (.node (m32 P) (.node (m64 P) (.node (m128 P) (.node (m256 P) .nil .nil) .nil) (.node (m192 p P) (.node (m320 P) .nil .nil) .nil)) (.node (m96 P) (.node (m160 P) (.node (m288 P) .nil .nil) .nil) (.node (m224 P) (.node (m352 p P) .nil .nil) .nil))) (.node (m48 P) (.node (m80 p P) (.node (m144 P) (.node (m272 P) .nil .nil) .nil) (.node (m208 p P) (.node (m336 p P) .nil .nil) .nil)) (.node (m112 P) (.node (m176 P) (.node (m304 P) .nil .nil) .nil) (.node (m240 P) (.node (m368 P) .nil .nil) .nil)))) (.node (m24 P) (.node (m40 p P) (.node (m72 P) (.node (m136 P) (.node (m264 p P) .nil .nil) .nil) (.node (m200 P) (.node (m328 P) .nil .nil) .nil)) (.node (m104 P) (.node (m168 P) (.node (m296 p P) .nil .nil) .nil) (.node (m232 P) (.node (m360 P) .nil .nil) .nil))) (.node (m56 P) (.node (m88 P) (.node (m152 P) (.node (m280 P) .nil .nil) .nil) (.node (m216 P) (.node (m344 P) .nil .nil) .nil)) (.node (m120 p P) (.node (m184 P) (.node (m312 P) .nil .nil) .nil) (.node (m248 p P) .nil .nil))))) (.node (m12v5 P) (.node (m20 P) (.node (m36 P) (.node (m68 P) (.node (m132 P) (.node (m260 P) .nil .nil) .nil) (.node (m196 P) (.node (m324 p P) .nil .nil) .nil)) (.node (m100 P) (.node (m164 P) (.node (m292 P) .nil .nil) .nil) (.node (m228 P) (.node (m356 P) .nil .nil) .nil))) (.node (m52 P) (.node (m84 P) (.node (m148 P) (.node (m276 p P) .nil .nil) .nil) (.node (m212 P) (.node (m340 P) .nil .nil) .nil)) (.node (m116 P) (.node (m180 p P) (.node (m308 p P) .nil .nil) .nil) (.node (m244 P) .nil .nil)))) (.node (m28 p P) (.node (m44 P) (.node (m76 P) (.node (m140 P) (.node (m268 P) .nil .nil) .nil) (.node (m204 P) (.node (m332 P) .nil .nil) .nil)) (.node (m108 P) (.node (m172 P) (.node (m300 P) .nil .nil) .nil) (.node (m236 p P) (.node (m364 p P) .nil .nil) .nil))) (.node (m60 P) (.node (m92 P) (.node (m156 P) (.node (m284 P) .nil .nil) .nil) (.node (m220 p P) (.node (m348 P) .nil .nil) .nil)) (.node (m124 P) (.node (m188 P) (.node (m316 P) .nil .nil) .nil) (.node (m252 P) .nil .nil)))))) (.node (boot_o_6 P) (.node (boot_o_10 P) (.node (m18 P) (.node (m34 P) (.node (m66 P) (.node (m130 P) (.node (m258 P) .nil .nil) .nil) (.node (m194 p P) (.node (m322 p P) .nil .nil) .nil)) (.node (m98 P) (.node (m162 P) (.node (m290 P) .nil .nil) .nil) (.node (m226 P) (.node (m354 P) .nil .nil) .nil))) (.node (m50 P) (.node (m82 p P) (.node (m146 P) (.node (m274 P) .nil .nil) .nil) (.node (m210 P) (.node (m338 p P) .nil .nil) .nil)) (.node (m114 P) (.node (m178 p P) (.node (m306 P) .nil .nil) .nil) (.node (m242 P) (.node (m370 P) .nil .nil) .nil)))) (.node (m26 p P) (.node (m42 p P) (.node (m74 P) (.node (m138 P) (.node (m266 P) .nil .nil) .nil) (.node (m202 P) (.node (m330 P) .nil .nil) .nil)) (.node (m106 P) (.node (m170 P) (.node (m298 p P) .nil .nil) .nil) (.node (m234 p P) (.node (m362 p P) .nil .nil) .nil))) (.node (m58 P) (.node (m90 P) (.node (m154 P) (.node (m282 P) .nil .nil) .nil) (.node (m218 P) (.node (m346 P) .nil .nil) .nil)) (.node (m122 P) (.node (m186 P) (.node (m314 P) .nil .nil) .nil) (.node (m250 p P) .nil .nil))))) (.node (xA14 P) (.node (m22 P) (.node (m38 P) (.node (m70 P) (.node (m134 P) (.node (m262 p P) .nil .nil) .nil) (.node (m198 P) (.node (m326 P) .nil .nil) .nil)) (.node (m102 P) (.node (m166 P) (.node (m294 P) .nil .nil) .nil) (.node (m230 P) (.node (m358 P) .nil .nil) .nil))) (.node (m54 P) (.node (m86 P) (.node (m150 P) (.node (m278 p P) .nil .nil) .nil) (.node (m214 P) (.node (m342 P) .nil .nil) .nil)) (.node (m118 p P) (.node (m182 P) (.node (m310 p P) .nil .nil) .nil) (.node (m246 P) .nil .nil)))) (.node (m30 P) (.node (m46 P) (.node (m78 P) (.node (m142 P) (.node (m270 P) .nil .nil) .nil) (.node (m206 p P) (.node (m334 P) .nil .nil) .nil)) (.node (m110 P) (.node (m174 P) (.node (m302 P) .nil .nil) .nil) (.node (m238 P) (.node (m366 P) .nil .nil) .nil))) (.node (m62 P) (.node (m94 P) (.node (m158 P) (.node (m286 P) .nil .nil) .nil) (.node (m222 p P) (.node (m350 p P) .nil .nil) .nil)) (.node (m126 P) (.node (m190 P) (.node (m318 P) .nil .nil) .nil) (.node (m254 P) .nil .nil))))))))
noncomputable def q3 : Pos := ⟨192, 0, 192, 8⟩
noncomputable def S3 (p : Program) (w : World) (os : OsState) : SharedT := ⟨tr3 p w.params, 372, {}, #[], boot_drawn, 682, os⟩
noncomputable def m372 (P : Params) : Obj := ⟨(.type "tuple"), none, (.seq (List.toArray []) 0), (List.toArray [])⟩
noncomputable def m373 (P : Params) : Obj := ⟨(.type "builtin_function_or_method"), none, (.fields (List.toArray [(.builtin "type.__prepare__"), (.type "type")])), (List.toArray [])⟩
noncomputable def m374 (P : Params) : Obj := ⟨(.type "dict"), none, (.dict (List.toArray [⟨(PyData.keyHash P z25), (.str z25 689), (.str z101 680)⟩, ⟨(PyData.keyHash P z26), (.str z26 691), (.str z127 690)⟩, ⟨(PyData.keyHash P z27), (.str z27 693), (.int 193 692)⟩, ⟨(PyData.keyHash P z28), (.str z28 702), (.ref 385)⟩, ⟨(PyData.keyHash P z128), (.str z128 710), (.ref 392)⟩, ⟨(PyData.keyHash P z129), (.str z129 718), (.ref 399)⟩, ⟨(PyData.keyHash P z130), (.str z130 726), (.ref 406)⟩, ⟨(PyData.keyHash P z131), (.str z131 734), (.ref 413)⟩, ⟨(PyData.keyHash P z132), (.str z132 740), (.ref 418)⟩, ⟨(PyData.keyHash P z133), (.str z133 750), (.ref 425)⟩, ⟨(PyData.keyHash P z134), (.str z134 759), (.ref 432)⟩, ⟨(PyData.keyHash P z135), (.str z135 767), (.ref 439)⟩, ⟨(PyData.keyHash P z136), (.str z136 775), (.ref 446)⟩, ⟨(PyData.keyHash P z137), (.str z137 783), (.ref 453)⟩, ⟨(PyData.keyHash P z138), (.str z138 791), (.ref 460)⟩, ⟨(PyData.keyHash P z29), (.str z29 796), (.ref 461)⟩]) 16), (List.toArray [])⟩
noncomputable def m375 (P : Params) : Obj := ⟨(.type "tuple"), none, (.seq (List.toArray []) 0), (List.toArray [])⟩
noncomputable def m376 (P : Params) : Obj := ⟨.none, none, (.fields (List.toArray [(.int 195 0), (.int 4 0), (.ref 384), (.int 201 0), (.int 4 0), (.ref 391), (.int 204 0), (.int 4 0), (.ref 398), (.int 209 0), (.int 4 0), (.ref 405), (.int 212 0), (.int 4 0), (.ref 412), (.int 220 0), (.int 4 0), (.ref 417), (.int 228 0), (.int 4 0), (.ref 424), (.int 238 0), (.int 4 0), (.ref 431), (.int 243 0), (.int 4 0), (.ref 438), (.int 246 0), (.int 4 0), (.ref 445), (.int 249 0), (.int 4 0), (.ref 452), (.int 252 0), (.int 4 0), (.ref 459)])), (List.toArray [])⟩
noncomputable def m377 (P : Params) : Obj := ⟨(.type "code"), none, (.fields (List.toArray [(.str z127 684), (.str z127 685), (.str z10 686), (.int 193 0), (.int 0 0), (.int 0 0), (.int 0 0), (.int 0 0), (.ref 375), (.bool false), (.int 181 0), (.ref 376), .none, .none, .none, .none, (.int 687 0), (.int 193 0), (.str z10 688)])), (List.toArray [])⟩
noncomputable def m378 (P : Params) : Obj := ⟨(.type "frame"), none, .plain, (List.toArray [(some (.ref 377)), (some (.ref 3)), (some (.ref 374)), none, (some (.str z101 680)), none, (some (.ref 0))])⟩
noncomputable def m379 (P : Params) : Obj := ⟨(.type "tuple"), none, (.seq (List.toArray []) 0), (List.toArray [])⟩
noncomputable def m380 (P : Params) : Obj := ⟨.none, none, (.fields (List.toArray [])), (List.toArray [])⟩
noncomputable def m381 (P : Params) : Obj := ⟨(.type "tuple"), none, (.seq (List.toArray [(.str z30 697), (.str z139 698), (.str z140 699)]) 0), (List.toArray [])⟩
noncomputable def m382 (P : Params) : Obj := ⟨(.type "tuple"), none, (.seq (List.toArray []) 0), (List.toArray [])⟩
noncomputable def m383 (p : Program) (P : Params) : Obj := ⟨.none, none, (.func (fnB z28 z141 (nth (inCls (nth p.main.body 37)) 0))), (List.toArray [])⟩
noncomputable def m384 (P : Params) : Obj := ⟨(.type "code"), none, (.fields (List.toArray [(.str z28 694), (.str z141 695), (.str z10 696), (.int 195 0), (.int 3 0), (.int 0 0), (.int 0 0), (.int 3 0), (.ref 379), (.bool true), (.int 181 0), (.ref 380), .none, (.ref 381), (.ref 382), (.ref 383), (.int 700 0), (.int 195 0), (.str z10 701)])), (List.toArray [])⟩
noncomputable def m385 (p : Program) (P : Params) : Obj := ⟨(.type "function"), none, (.func (fnC z28 z141 (nth (inCls (nth p.main.body 37)) 0) .none .none .none (.str z101 680) none (.ref 384) .none)), (List.toArray [])⟩
noncomputable def m386 (P : Params) : Obj := ⟨(.type "tuple"), none, (.seq (List.toArray []) 0), (List.toArray [])⟩
noncomputable def m387 (P : Params) : Obj := ⟨.none, none, (.fields (List.toArray [])), (List.toArray [])⟩
noncomputable def m388 (P : Params) : Obj := ⟨(.type "tuple"), none, (.seq (List.toArray [(.str z30 706), (.str z95 707)]) 0), (List.toArray [])⟩
noncomputable def m389 (P : Params) : Obj := ⟨(.type "tuple"), none, (.seq (List.toArray []) 0), (List.toArray [])⟩
noncomputable def m390 (p : Program) (P : Params) : Obj := ⟨.none, none, (.func (fnB z128 z142 (nth (inCls (nth p.main.body 37)) 1))), (List.toArray [])⟩
noncomputable def m391 (P : Params) : Obj := ⟨(.type "code"), none, (.fields (List.toArray [(.str z128 703), (.str z142 704), (.str z10 705), (.int 201 0), (.int 2 0), (.int 0 0), (.int 0 0), (.int 3 0), (.ref 386), (.bool true), (.int 181 0), (.ref 387), .none, (.ref 388), (.ref 389), (.ref 390), (.int 708 0), (.int 201 0), (.str z10 709)])), (List.toArray [])⟩
noncomputable def m392 (p : Program) (P : Params) : Obj := ⟨(.type "function"), none, (.func (fnC z128 z142 (nth (inCls (nth p.main.body 37)) 1) .none .none .none (.str z101 680) none (.ref 391) .none)), (List.toArray [])⟩
noncomputable def m393 (P : Params) : Obj := ⟨(.type "tuple"), none, (.seq (List.toArray []) 0), (List.toArray [])⟩
noncomputable def m394 (P : Params) : Obj := ⟨.none, none, (.fields (List.toArray [])), (List.toArray [])⟩
noncomputable def m395 (P : Params) : Obj := ⟨(.type "tuple"), none, (.seq (List.toArray [(.str z30 714), (.str z95 715)]) 0), (List.toArray [])⟩
noncomputable def m396 (P : Params) : Obj := ⟨(.type "tuple"), none, (.seq (List.toArray []) 0), (List.toArray [])⟩
noncomputable def m397 (p : Program) (P : Params) : Obj := ⟨.none, none, (.func (fnB z129 z143 (nth (inCls (nth p.main.body 37)) 2))), (List.toArray [])⟩
noncomputable def m398 (P : Params) : Obj := ⟨(.type "code"), none, (.fields (List.toArray [(.str z129 711), (.str z143 712), (.str z10 713), (.int 204 0), (.int 2 0), (.int 0 0), (.int 0 0), (.int 3 0), (.ref 393), (.bool true), (.int 181 0), (.ref 394), .none, (.ref 395), (.ref 396), (.ref 397), (.int 716 0), (.int 204 0), (.str z10 717)])), (List.toArray [])⟩
noncomputable def m399 (p : Program) (P : Params) : Obj := ⟨(.type "function"), none, (.func (fnC z129 z143 (nth (inCls (nth p.main.body 37)) 2) .none .none .none (.str z101 680) none (.ref 398) .none)), (List.toArray [])⟩
noncomputable def m400 (P : Params) : Obj := ⟨(.type "tuple"), none, (.seq (List.toArray []) 0), (List.toArray [])⟩
noncomputable def m401 (P : Params) : Obj := ⟨.none, none, (.fields (List.toArray [])), (List.toArray [])⟩
noncomputable def m402 (P : Params) : Obj := ⟨(.type "tuple"), none, (.seq (List.toArray [(.str z30 722), (.str z95 723)]) 0), (List.toArray [])⟩
noncomputable def m403 (P : Params) : Obj := ⟨(.type "tuple"), none, (.seq (List.toArray []) 0), (List.toArray [])⟩
noncomputable def m404 (p : Program) (P : Params) : Obj := ⟨.none, none, (.func (fnB z130 z144 (nth (inCls (nth p.main.body 37)) 3))), (List.toArray [])⟩
noncomputable def m405 (P : Params) : Obj := ⟨(.type "code"), none, (.fields (List.toArray [(.str z130 719), (.str z144 720), (.str z10 721), (.int 209 0), (.int 2 0), (.int 0 0), (.int 0 0), (.int 3 0), (.ref 400), (.bool true), (.int 181 0), (.ref 401), .none, (.ref 402), (.ref 403), (.ref 404), (.int 724 0), (.int 209 0), (.str z10 725)])), (List.toArray [])⟩
noncomputable def m406 (p : Program) (P : Params) : Obj := ⟨(.type "function"), none, (.func (fnC z130 z144 (nth (inCls (nth p.main.body 37)) 3) .none .none .none (.str z101 680) none (.ref 405) .none)), (List.toArray [])⟩
noncomputable def m407 (P : Params) : Obj := ⟨(.type "tuple"), none, (.seq (List.toArray []) 0), (List.toArray [])⟩
noncomputable def m408 (P : Params) : Obj := ⟨.none, none, (.fields (List.toArray [])), (List.toArray [])⟩
noncomputable def m409 (P : Params) : Obj := ⟨(.type "tuple"), none, (.seq (List.toArray [(.str z30 730), (.str z40 731)]) 0), (List.toArray [])⟩
noncomputable def m410 (P : Params) : Obj := ⟨(.type "tuple"), none, (.seq (List.toArray []) 0), (List.toArray [])⟩
noncomputable def m411 (p : Program) (P : Params) : Obj := ⟨.none, none, (.func (fnB z131 z145 (nth (inCls (nth p.main.body 37)) 4))), (List.toArray [])⟩
noncomputable def m412 (P : Params) : Obj := ⟨(.type "code"), none, (.fields (List.toArray [(.str z131 727), (.str z145 728), (.str z10 729), (.int 212 0), (.int 2 0), (.int 0 0), (.int 0 0), (.int 3 0), (.ref 407), (.bool true), (.int 181 0), (.ref 408), .none, (.ref 409), (.ref 410), (.ref 411), (.int 732 0), (.int 212 0), (.str z10 733)])), (List.toArray [])⟩
noncomputable def m413 (p : Program) (P : Params) : Obj := ⟨(.type "function"), none, (.func (fnC z131 z145 (nth (inCls (nth p.main.body 37)) 4) .none .none .none (.str z101 680) none (.ref 412) .none)), (List.toArray [])⟩
noncomputable def m414 (P : Params) : Obj := ⟨(.type "tuple"), none, (.seq (List.toArray []) 0), (List.toArray [])⟩
noncomputable def m415 (P : Params) : Obj := ⟨.none, none, (.fields (List.toArray [])), (List.toArray [])⟩
noncomputable def m416 (p : Program) (P : Params) : Obj := ⟨.none, none, (.func (fnB z132 z146 (nth (inCls (nth p.main.body 37)) 5))), (List.toArray [])⟩
noncomputable def m417 (P : Params) : Obj := ⟨(.type "code"), none, (.fields (List.toArray [(.str z132 735), (.str z146 736), (.str z10 737), (.int 220 0), (.int 3 0), (.int 0 0), (.int 0 0), (.int 3 0), (.ref 414), (.bool true), (.int 181 0), (.ref 415), .none, .none, .none, (.ref 416), (.int 738 0), (.int 220 0), (.str z10 739)])), (List.toArray [])⟩
noncomputable def m418 (p : Program) (P : Params) : Obj := ⟨(.type "function"), none, (.func (fnC z132 z146 (nth (inCls (nth p.main.body 37)) 5) .none .none .none (.str z101 680) none (.ref 417) .none)), (List.toArray [])⟩
noncomputable def m419 (P : Params) : Obj := ⟨(.type "tuple"), none, (.seq (List.toArray []) 0), (List.toArray [])⟩
noncomputable def m420 (P : Params) : Obj := ⟨.none, none, (.fields (List.toArray [])), (List.toArray [])⟩
noncomputable def m421 (P : Params) : Obj := ⟨(.type "tuple"), none, (.seq (List.toArray [(.str z30 744), (.str z63 745), (.str z40 746), (.str z147 747)]) 0), (List.toArray [])⟩
noncomputable def m422 (P : Params) : Obj := ⟨(.type "tuple"), none, (.seq (List.toArray []) 0), (List.toArray [])⟩
noncomputable def m423 (p : Program) (P : Params) : Obj := ⟨.none, none, (.func (fnB z133 z148 (nth (inCls (nth p.main.body 37)) 6))), (List.toArray [])⟩
noncomputable def m424 (P : Params) : Obj := ⟨(.type "code"), none, (.fields (List.toArray [(.str z133 741), (.str z148 742), (.str z10 743), (.int 228 0), (.int 3 0), (.int 0 0), (.int 0 0), (.int 3 0), (.ref 419), (.bool true), (.int 181 0), (.ref 420), .none, (.ref 421), (.ref 422), (.ref 423), (.int 748 0), (.int 228 0), (.str z10 749)])), (List.toArray [])⟩
noncomputable def m425 (p : Program) (P : Params) : Obj := ⟨(.type "function"), none, (.func (fnC z133 z148 (nth (inCls (nth p.main.body 37)) 6) .none .none .none (.str z101 680) none (.ref 424) .none)), (List.toArray [])⟩
noncomputable def m426 (P : Params) : Obj := ⟨(.type "tuple"), none, (.seq (List.toArray []) 0), (List.toArray [])⟩
noncomputable def m427 (P : Params) : Obj := ⟨.none, none, (.fields (List.toArray [])), (List.toArray [])⟩
noncomputable def m428 (P : Params) : Obj := ⟨(.type "tuple"), none, (.seq (List.toArray [(.str z30 754), (.str z40 755), (.str z63 756)]) 0), (List.toArray [])⟩
noncomputable def m429 (P : Params) : Obj := ⟨(.type "tuple"), none, (.seq (List.toArray []) 0), (List.toArray [])⟩
noncomputable def m430 (p : Program) (P : Params) : Obj := ⟨.none, none, (.func (fnB z134 z149 (nth (inCls (nth p.main.body 37)) 7))), (List.toArray [])⟩
noncomputable def m431 (P : Params) : Obj := ⟨(.type "code"), none, (.fields (List.toArray [(.str z134 751), (.str z149 752), (.str z10 753), (.int 238 0), (.int 2 0), (.int 0 0), (.int 0 0), (.int 3 0), (.ref 426), (.bool true), (.int 181 0), (.ref 427), .none, (.ref 428), (.ref 429), (.ref 430), (.int 757 0), (.int 238 0), (.str z10 758)])), (List.toArray [])⟩
noncomputable def m432 (p : Program) (P : Params) : Obj := ⟨(.type "function"), none, (.func (fnC z134 z149 (nth (inCls (nth p.main.body 37)) 7) .none .none .none (.str z101 680) none (.ref 431) .none)), (List.toArray [])⟩
noncomputable def m433 (P : Params) : Obj := ⟨(.type "tuple"), none, (.seq (List.toArray []) 0), (List.toArray [])⟩
noncomputable def m434 (P : Params) : Obj := ⟨.none, none, (.fields (List.toArray [])), (List.toArray [])⟩
noncomputable def m435 (P : Params) : Obj := ⟨(.type "tuple"), none, (.seq (List.toArray [(.str z30 763), (.str z63 764)]) 0), (List.toArray [])⟩
noncomputable def m436 (P : Params) : Obj := ⟨(.type "tuple"), none, (.seq (List.toArray []) 0), (List.toArray [])⟩
noncomputable def m437 (p : Program) (P : Params) : Obj := ⟨.none, none, (.func (fnB z135 z150 (nth (inCls (nth p.main.body 37)) 8))), (List.toArray [])⟩
noncomputable def m438 (P : Params) : Obj := ⟨(.type "code"), none, (.fields (List.toArray [(.str z135 760), (.str z150 761), (.str z10 762), (.int 243 0), (.int 2 0), (.int 0 0), (.int 0 0), (.int 3 0), (.ref 433), (.bool true), (.int 181 0), (.ref 434), .none, (.ref 435), (.ref 436), (.ref 437), (.int 765 0), (.int 243 0), (.str z10 766)])), (List.toArray [])⟩
noncomputable def m439 (p : Program) (P : Params) : Obj := ⟨(.type "function"), none, (.func (fnC z135 z150 (nth (inCls (nth p.main.body 37)) 8) .none .none .none (.str z101 680) none (.ref 438) .none)), (List.toArray [])⟩
noncomputable def m440 (P : Params) : Obj := ⟨(.type "tuple"), none, (.seq (List.toArray []) 0), (List.toArray [])⟩
noncomputable def m441 (P : Params) : Obj := ⟨.none, none, (.fields (List.toArray [])), (List.toArray [])⟩
noncomputable def m442 (P : Params) : Obj := ⟨(.type "tuple"), none, (.seq (List.toArray [(.str z30 771), (.str z151 772)]) 0), (List.toArray [])⟩
noncomputable def m443 (P : Params) : Obj := ⟨(.type "tuple"), none, (.seq (List.toArray []) 0), (List.toArray [])⟩
noncomputable def m444 (p : Program) (P : Params) : Obj := ⟨.none, none, (.func (fnB z136 z152 (nth (inCls (nth p.main.body 37)) 9))), (List.toArray [])⟩
noncomputable def m445 (P : Params) : Obj := ⟨(.type "code"), none, (.fields (List.toArray [(.str z136 768), (.str z152 769), (.str z10 770), (.int 246 0), (.int 2 0), (.int 0 0), (.int 0 0), (.int 3 0), (.ref 440), (.bool true), (.int 181 0), (.ref 441), .none, (.ref 442), (.ref 443), (.ref 444), (.int 773 0), (.int 246 0), (.str z10 774)])), (List.toArray [])⟩
noncomputable def m446 (p : Program) (P : Params) : Obj := ⟨(.type "function"), none, (.func (fnC z136 z152 (nth (inCls (nth p.main.body 37)) 9) .none .none .none (.str z101 680) none (.ref 445) .none)), (List.toArray [])⟩
noncomputable def m447 (P : Params) : Obj := ⟨(.type "tuple"), none, (.seq (List.toArray []) 0), (List.toArray [])⟩
noncomputable def m448 (P : Params) : Obj := ⟨.none, none, (.fields (List.toArray [])), (List.toArray [])⟩
noncomputable def m449 (P : Params) : Obj := ⟨(.type "tuple"), none, (.seq (List.toArray [(.str z30 779), (.str z95 780)]) 0), (List.toArray [])⟩
noncomputable def m450 (P : Params) : Obj := ⟨(.type "tuple"), none, (.seq (List.toArray []) 0), (List.toArray [])⟩
noncomputable def m451 (p : Program) (P : Params) : Obj := ⟨.none, none, (.func (fnB z137 z153 (nth (inCls (nth p.main.body 37)) 10))), (List.toArray [])⟩
noncomputable def m452 (P : Params) : Obj := ⟨(.type "code"), none, (.fields (List.toArray [(.str z137 776), (.str z153 777), (.str z10 778), (.int 249 0), (.int 2 0), (.int 0 0), (.int 0 0), (.int 3 0), (.ref 447), (.bool true), (.int 181 0), (.ref 448), .none, (.ref 449), (.ref 450), (.ref 451), (.int 781 0), (.int 249 0), (.str z10 782)])), (List.toArray [])⟩
noncomputable def m453 (p : Program) (P : Params) : Obj := ⟨(.type "function"), none, (.func (fnC z137 z153 (nth (inCls (nth p.main.body 37)) 10) .none .none .none (.str z101 680) none (.ref 452) .none)), (List.toArray [])⟩
noncomputable def m454 (P : Params) : Obj := ⟨(.type "tuple"), none, (.seq (List.toArray []) 0), (List.toArray [])⟩
noncomputable def m455 (P : Params) : Obj := ⟨.none, none, (.fields (List.toArray [])), (List.toArray [])⟩
noncomputable def m456 (P : Params) : Obj := ⟨(.type "tuple"), none, (.seq (List.toArray [(.str z30 787), (.str z95 788)]) 0), (List.toArray [])⟩
noncomputable def m457 (P : Params) : Obj := ⟨(.type "tuple"), none, (.seq (List.toArray []) 0), (List.toArray [])⟩
noncomputable def m458 (p : Program) (P : Params) : Obj := ⟨.none, none, (.func (fnB z138 z154 (nth (inCls (nth p.main.body 37)) 11))), (List.toArray [])⟩
noncomputable def m459 (P : Params) : Obj := ⟨(.type "code"), none, (.fields (List.toArray [(.str z138 784), (.str z154 785), (.str z10 786), (.int 252 0), (.int 2 0), (.int 0 0), (.int 0 0), (.int 3 0), (.ref 454), (.bool true), (.int 181 0), (.ref 455), .none, (.ref 456), (.ref 457), (.ref 458), (.int 789 0), (.int 252 0), (.str z10 790)])), (List.toArray [])⟩
noncomputable def m460 (p : Program) (P : Params) : Obj := ⟨(.type "function"), none, (.func (fnC z138 z154 (nth (inCls (nth p.main.body 37)) 11) .none .none .none (.str z101 680) none (.ref 459) .none)), (List.toArray [])⟩
noncomputable def m461 (P : Params) : Obj := ⟨(.type "tuple"), none, (.seq (List.toArray [(.str z140 792), (.str z155 793), (.str z139 794), (.str z156 795)]) 0), (List.toArray [])⟩
noncomputable def m462 (P : Params) : Obj := ⟨(.type "dict"), none, (.dict (List.toArray [⟨(PyData.keyHash P z25), (.str z25 689), (.str z101 680)⟩, ⟨(PyData.keyHash P z27), (.str z27 693), (.int 193 692)⟩, ⟨(PyData.keyHash P z28), (.str z28 702), (.ref 385)⟩, ⟨(PyData.keyHash P z128), (.str z128 710), (.ref 392)⟩, ⟨(PyData.keyHash P z129), (.str z129 718), (.ref 399)⟩, ⟨(PyData.keyHash P z130), (.str z130 726), (.ref 406)⟩, ⟨(PyData.keyHash P z131), (.str z131 734), (.ref 413)⟩, ⟨(PyData.keyHash P z132), (.str z132 740), (.ref 418)⟩, ⟨(PyData.keyHash P z133), (.str z133 750), (.ref 425)⟩, ⟨(PyData.keyHash P z134), (.str z134 759), (.ref 432)⟩, ⟨(PyData.keyHash P z135), (.str z135 767), (.ref 439)⟩, ⟨(PyData.keyHash P z136), (.str z136 775), (.ref 446)⟩, ⟨(PyData.keyHash P z137), (.str z137 783), (.ref 453)⟩, ⟨(PyData.keyHash P z138), (.str z138 791), (.ref 460)⟩, ⟨(PyData.keyHash P z29), (.str z29 796), (.ref 461)⟩, ⟨(PyData.keyHash P z38), (.str z38 798), (.ref 464)⟩, ⟨(PyData.keyHash P z39), (.str z39 800), (.ref 465)⟩, ⟨(PyData.keyHash P z3), (.str z3 801), .none⟩]) 4), (List.toArray [])⟩
noncomputable def m463 (P : Params) : Obj := ⟨(.type "type"), none, (.cls ⟨z127, [(.type "object")], [(.ref 463), (.type "object")], 462, z127, true, [], [], false, none, false⟩), (List.toArray [none, none, (some (.str z127 682)), (some (.str z127 690)), (some (.builtin "object.__new__")), (some (.bool true))])⟩
noncomputable def m464 (P : Params) : Obj := ⟨(.type "getset_descriptor"), none, (.fields (List.toArray [(.str z38 797), (.ref 463), (.builtin "function.__dict__"), (.builtin "function.__dict__#set")])), (List.toArray [])⟩
noncomputable def m465 (P : Params) : Obj := ⟨(.type "getset_descriptor"), none, (.fields (List.toArray [(.str z39 799), (.ref 463), (.builtin "ExceptionGroup.__weakref__"), .none])), (List.toArray [])⟩
noncomputable def m466 (P : Params) : Obj := ⟨(.type "super"), none, (.fields (List.toArray [(.ref 463), (.ref 463), (.ref 463)])), (List.toArray [])⟩
noncomputable def m467 (P : Params) : Obj := ⟨(.type "builtin_function_or_method"), none, (.fields (List.toArray [(.builtin "object.__init_subclass__"), (.ref 463)])), (List.toArray [])⟩
noncomputable def m3v7 (P : Params) : Obj := ⟨(.type "dict"), none, (.dict (List.toArray [⟨(PyData.keyHash P z1), (.str z1 165), (.str z157 854)⟩, ⟨(PyData.keyHash P z3), (.str z3 166), .none⟩, ⟨(PyData.keyHash P z4), (.str z4 167), .none⟩, ⟨(PyData.keyHash P z5), (.str z5 168), (.builtin "__main__.__loader__#opaque")⟩, ⟨(PyData.keyHash P z6), (.str z6 169), .none⟩, ⟨(PyData.keyHash P z7), (.str z7 170), (.ref 6)⟩, ⟨(PyData.keyHash P z8), (.str z8 171), (.ref 4)⟩, ⟨(PyData.keyHash P z9), (.str z9 173), (.str z10 172)⟩, ⟨(PyData.keyHash P z11), (.str z11 174), .none⟩, ⟨(PyData.keyHash P z12), (.str z12 193), (.ref 21)⟩, ⟨(PyData.keyHash P z13), (.str z13 197), (.str z14 196)⟩, ⟨(PyData.keyHash P z15), (.str z15 205), (.ref 28)⟩, ⟨(PyData.keyHash P z16), (.str z16 209), (.str z17 208)⟩, ⟨(PyData.keyHash P z18), (.str z18 243), (.ref 45)⟩, ⟨(PyData.keyHash P z19), (.str z19 270), (.ref 66)⟩, ⟨(PyData.keyHash P z43), (.str z43 296), (.ref 85)⟩, ⟨(PyData.keyHash P z44), (.str z44 323), (.ref 104)⟩, ⟨(PyData.keyHash P z51), (.str z51 353), (.ref 123)⟩, ⟨(PyData.keyHash P z52), (.str z52 383), (.ref 142)⟩, ⟨(PyData.keyHash P z64), (.str z64 414), (.ref 162)⟩, ⟨(PyData.keyHash P z65), (.str z65 491), (.ref 225)⟩, ⟨(PyData.keyHash P z88), (.str z88 498), (.ref 236)⟩, ⟨(PyData.keyHash P z89), (.str z89 506), (.ref 243)⟩, ⟨(PyData.keyHash P z90), (.str z90 514), (.ref 250)⟩, ⟨(PyData.keyHash P z91), (.str z91 523), (.ref 257)⟩, ⟨(PyData.keyHash P z92), (.str z92 530), (.ref 264)⟩, ⟨(PyData.keyHash P z93), (.str z93 561), (.ref 281)⟩, ⟨(PyData.keyHash P z94), (.str z94 586), (.ref 301)⟩, ⟨(PyData.keyHash P z102), (.str z102 590), (.str z103 589)⟩, ⟨(PyData.keyHash P z104), (.str z104 599), (.ref 310)⟩, ⟨(PyData.keyHash P z105), (.str z105 607), (.ref 317)⟩, ⟨(PyData.keyHash P z106), (.str z106 617), (.ref 324)⟩, ⟨(PyData.keyHash P z107), (.str z107 627), (.ref 331)⟩, ⟨(PyData.keyHash P z108), (.str z108 636), (.ref 338)⟩, ⟨(PyData.keyHash P z109), (.str z109 646), (.ref 345)⟩, ⟨(PyData.keyHash P z110), (.str z110 653), (.ref 352)⟩, ⟨(PyData.keyHash P z111), (.str z111 660), (.ref 359)⟩, ⟨(PyData.keyHash P z112), (.str z112 666), (.ref 364)⟩, ⟨(PyData.keyHash P z113), (.str z113 679), (.ref 371)⟩, ⟨(PyData.keyHash P z127), (.str z127 803), (.ref 463)⟩, ⟨(PyData.keyHash P z158), (.str z158 853), (.ref 485)⟩, ⟨(PyData.keyHash P z159), (.str z159 863), (.ref 490)⟩, ⟨(PyData.keyHash P z160), (.str z160 877), (.ref 491)⟩, ⟨(PyData.keyHash P z161), (.str z161 886), (.ref 498)⟩, ⟨(PyData.keyHash P z162), (.str z162 898), (.ref 505)⟩, ⟨(PyData.keyHash P z163), (.str z163 908), (.ref 512)⟩, ⟨(PyData.keyHash P z164), (.str z164 914), (.ref 517)⟩, ⟨(PyData.keyHash P z165), (.str z165 925), (.ref 524)⟩, ⟨(PyData.keyHash P z166), (.str z166 932), (.ref 531)⟩, ⟨(PyData.keyHash P z167), (.str z167 938), (.ref 536)⟩, ⟨(PyData.keyHash P z168), (.str z168 944), (.ref 541)⟩]) 51), (List.toArray [])⟩
noncomputable def m12v7 (P : Params) : Obj := ⟨.none, none, (.fields (List.toArray [(.int 1 0), (.int 0 0), (.ref 20), (.int 6 0), (.int 0 0), (.ref 27), (.int 16 0), (.int 0 0), (.ref 34), (.int 25 0), (.int 0 0), (.ref 55), (.int 31 0), (.int 0 0), (.ref 74), (.int 37 0), (.int 0 0), (.ref 93), (.int 44 0), (.int 0 0), (.ref 112), (.int 52 0), (.int 0 0), (.ref 131), (.int 61 0), (.int 0 0), (.ref 150), (.int 66 0), (.int 0 0), (.ref 172), (.int 91 0), (.int 0 0), (.ref 235), (.int 103 0), (.int 0 0), (.ref 242), (.int 109 0), (.int 0 0), (.ref 249), (.int 115 0), (.int 0 0), (.ref 256), (.int 121 0), (.int 0 0), (.ref 263), (.int 130 0), (.int 0 0), (.ref 270), (.int 135 0), (.int 0 0), (.ref 290), (.int 142 0), (.int 0 0), (.ref 309), (.int 148 0), (.int 0 0), (.ref 316), (.int 152 0), (.int 0 0), (.ref 323), (.int 154 0), (.int 0 0), (.ref 330), (.int 161 0), (.int 0 0), (.ref 337), (.int 167 0), (.int 0 0), (.ref 344), (.int 173 0), (.int 0 0), (.ref 351), (.int 176 0), (.int 0 0), (.ref 358), (.int 178 0), (.int 0 0), (.ref 363), (.int 180 0), (.int 0 0), (.ref 370), (.int 193 0), (.int 0 0), (.ref 377), (.int 255 0), (.int 0 0), (.ref 473), (.int 266 0), (.int 0 0), (.ref 497), (.int 270 0), (.int 0 0), (.ref 504), (.int 279 0), (.int 0 0), (.ref 511), (.int 281 0), (.int 0 0), (.ref 516), (.int 283 0), (.int 0 0), (.ref 523), (.int 287 0), (.int 0 0), (.ref 530), (.int 289 0), (.int 0 0), (.ref 535), (.int 304 0), (.int 0 0), (.ref 540)])), (List.toArray [])⟩
noncomputable def m468 (P : Params) : Obj := ⟨(.type "tuple"), none, (.seq (List.toArray []) 0), (List.toArray [])⟩
noncomputable def m469 (P : Params) : Obj := ⟨(.type "builtin_function_or_method"), none, (.fields (List.toArray [(.builtin "type.__prepare__"), (.type "type")])), (List.toArray [])⟩
noncomputable def m470 (P : Params) : Obj := ⟨(.type "dict"), none, (.dict (List.toArray [⟨(PyData.keyHash P z25), (.str z25 813), (.str z126 804)⟩, ⟨(PyData.keyHash P z26), (.str z26 815), (.str z158 814)⟩, ⟨(PyData.keyHash P z27), (.str z27 817), (.int 255 816)⟩, ⟨(PyData.keyHash P z28), (.str z28 840), (.ref 482)⟩, ⟨(PyData.keyHash P z29), (.str z29 846), (.ref 483)⟩]) 5), (List.toArray [])⟩
noncomputable def m471 (P : Params) : Obj := ⟨(.type "tuple"), none, (.seq (List.toArray []) 0), (List.toArray [])⟩
noncomputable def m472 (P : Params) : Obj := ⟨.none, none, (.fields (List.toArray [(.int 257 0), (.int 4 0), (.ref 481)])), (List.toArray [])⟩
noncomputable def m473 (P : Params) : Obj := ⟨(.type "code"), none, (.fields (List.toArray [(.str z158 808), (.str z158 809), (.str z10 810), (.int 255 0), (.int 0 0), (.int 0 0), (.int 0 0), (.int 0 0), (.ref 471), (.bool false), (.int 181 0), (.ref 472), .none, .none, .none, .none, (.int 811 0), (.int 255 0), (.str z10 812)])), (List.toArray [])⟩
noncomputable def m474 (P : Params) : Obj := ⟨(.type "frame"), none, .plain, (List.toArray [(some (.ref 473)), (some (.ref 3)), (some (.ref 470)), none, (some (.str z126 804)), none, (some (.ref 0))])⟩
noncomputable def m475 (P : Params) : Obj := ⟨(.type "tuple"), none, (.seq (List.toArray [(.int 64 818), (.int 50 819), (.int 1000000 822), (.int 100000 825), (.int 10000 828)]) 0), (List.toArray [])⟩
noncomputable def m476 (P : Params) : Obj := ⟨(.type "tuple"), none, (.seq (List.toArray []) 0), (List.toArray [])⟩
noncomputable def m477 (P : Params) : Obj := ⟨.none, none, (.fields (List.toArray [])), (List.toArray [])⟩
noncomputable def m478 (P : Params) : Obj := ⟨(.type "tuple"), none, (.seq (List.toArray [(.str z30 832), (.str z169 833), (.str z170 834), (.str z171 835), (.str z23 836), (.str z46 837)]) 0), (List.toArray [])⟩
noncomputable def m479 (P : Params) : Obj := ⟨(.type "tuple"), none, (.seq (List.toArray []) 0), (List.toArray [])⟩
noncomputable def m480 (p : Program) (P : Params) : Obj := ⟨.none, none, (.func (fnB z28 z172 (nth (inCls (nth p.main.body 39)) 0))), (List.toArray [])⟩
noncomputable def m481 (P : Params) : Obj := ⟨(.type "code"), none, (.fields (List.toArray [(.str z28 829), (.str z172 830), (.str z10 831), (.int 257 0), (.int 6 0), (.int 0 0), (.int 0 0), (.int 3 0), (.ref 476), (.bool true), (.int 181 0), (.ref 477), .none, (.ref 478), (.ref 479), (.ref 480), (.int 838 0), (.int 257 0), (.str z10 839)])), (List.toArray [])⟩
noncomputable def m482 (p : Program) (P : Params) : Obj := ⟨(.type "function"), none, (.func (fnC z28 z172 (nth (inCls (nth p.main.body 39)) 0) (.ref 475) .none .none (.str z126 804) none (.ref 481) .none)), (List.toArray [])⟩
noncomputable def m483 (P : Params) : Obj := ⟨(.type "tuple"), none, (.seq (List.toArray [(.str z170 841), (.str z46 842), (.str z171 843), (.str z23 844), (.str z169 845)]) 0), (List.toArray [])⟩
noncomputable def m484 (P : Params) : Obj := ⟨(.type "dict"), none, (.dict (List.toArray [⟨(PyData.keyHash P z25), (.str z25 813), (.str z126 804)⟩, ⟨(PyData.keyHash P z27), (.str z27 817), (.int 255 816)⟩, ⟨(PyData.keyHash P z28), (.str z28 840), (.ref 482)⟩, ⟨(PyData.keyHash P z29), (.str z29 846), (.ref 483)⟩, ⟨(PyData.keyHash P z38), (.str z38 848), (.ref 486)⟩, ⟨(PyData.keyHash P z39), (.str z39 850), (.ref 487)⟩, ⟨(PyData.keyHash P z3), (.str z3 851), .none⟩]) 4), (List.toArray [])⟩
noncomputable def m485 (P : Params) : Obj := ⟨(.type "type"), none, (.cls ⟨z158, [(.type "object")], [(.ref 485), (.type "object")], 484, z158, true, [], [], false, none, false⟩), (List.toArray [none, none, (some (.str z158 806)), (some (.str z158 814)), (some (.builtin "object.__new__")), (some (.bool true))])⟩
noncomputable def m486 (P : Params) : Obj := ⟨(.type "getset_descriptor"), none, (.fields (List.toArray [(.str z38 847), (.ref 485), (.builtin "function.__dict__"), (.builtin "function.__dict__#set")])), (List.toArray [])⟩
noncomputable def m487 (P : Params) : Obj := ⟨(.type "getset_descriptor"), none, (.fields (List.toArray [(.str z39 849), (.ref 485), (.builtin "ExceptionGroup.__weakref__"), .none])), (List.toArray [])⟩
noncomputable def m488 (P : Params) : Obj := ⟨(.type "super"), none, (.fields (List.toArray [(.ref 485), (.ref 485), (.ref 485)])), (List.toArray [])⟩
noncomputable def m489 (P : Params) : Obj := ⟨(.type "builtin_function_or_method"), none, (.fields (List.toArray [(.builtin "object.__init_subclass__"), (.ref 485)])), (List.toArray [])⟩
noncomputable def m490 (P : Params) : Obj := ⟨(.type "tuple"), none, (.seq (List.toArray [(.str z173 856), (.str z174 857), (.str z175 858), (.str z176 859), (.str z177 860), (.str z178 861), (.str z179 862)]) 0), (List.toArray [])⟩
noncomputable def m491 (P : Params) : Obj := ⟨(.type "tuple"), none, (.seq (List.toArray [(.int 3 864), (.int 0 865), (.int 2 866), (.int 3 867), (.int 3 868), (.int 2 869), (.int 4 870), (.int 2 871), (.int 4 872), (.int 3 873), (.int 1 874), (.int 0 875), (.int 6 876)]) 0), (List.toArray [])⟩
noncomputable def m492 (P : Params) : Obj := ⟨(.type "tuple"), none, (.seq (List.toArray []) 0), (List.toArray [])⟩
noncomputable def m493 (P : Params) : Obj := ⟨.none, none, (.fields (List.toArray [])), (List.toArray [])⟩
noncomputable def m494 (P : Params) : Obj := ⟨(.type "tuple"), none, (.seq (List.toArray [(.str z180 881), (.str z181 882), (.str z182 883)]) 0), (List.toArray [])⟩
noncomputable def m495 (P : Params) : Obj := ⟨(.type "tuple"), none, (.seq (List.toArray []) 0), (List.toArray [])⟩
noncomputable def m496 (p : Program) (P : Params) : Obj := ⟨.none, none, (.func (fnB z161 z161 (nth p.main.body 43))), (List.toArray [])⟩
noncomputable def m497 (P : Params) : Obj := ⟨(.type "code"), none, (.fields (List.toArray [(.str z161 878), (.str z161 879), (.str z10 880), (.int 266 0), (.int 2 0), (.int 0 0), (.int 0 0), (.int 3 0), (.ref 492), (.bool true), (.int 181 0), (.ref 493), .none, (.ref 494), (.ref 495), (.ref 496), (.int 884 0), (.int 266 0), (.str z10 885)])), (List.toArray [])⟩
noncomputable def m498 (p : Program) (P : Params) : Obj := ⟨(.type "function"), none, (.func (fnC z161 z161 (nth p.main.body 43) .none .none .none (.str z157 854) none (.ref 497) .none)), (List.toArray [])⟩
noncomputable def m499 (P : Params) : Obj := ⟨(.type "tuple"), none, (.seq (List.toArray []) 0), (List.toArray [])⟩
noncomputable def m500 (P : Params) : Obj := ⟨.none, none, (.fields (List.toArray [])), (List.toArray [])⟩
noncomputable def m501 (P : Params) : Obj := ⟨(.type "tuple"), none, (.seq (List.toArray [(.str z114 890), (.str z183 891), (.str z184 892), (.str z125 893), (.str z185 894), (.str z186 895)]) 0), (List.toArray [])⟩
noncomputable def m502 (P : Params) : Obj := ⟨(.type "tuple"), none, (.seq (List.toArray []) 0), (List.toArray [])⟩
noncomputable def m503 (p : Program) (P : Params) : Obj := ⟨.none, none, (.func (fnB z162 z162 (nth p.main.body 44))), (List.toArray [])⟩
noncomputable def m504 (P : Params) : Obj := ⟨(.type "code"), none, (.fields (List.toArray [(.str z162 887), (.str z162 888), (.str z10 889), (.int 270 0), (.int 3 0), (.int 0 0), (.int 0 0), (.int 3 0), (.ref 499), (.bool true), (.int 181 0), (.ref 500), .none, (.ref 501), (.ref 502), (.ref 503), (.int 896 0), (.int 270 0), (.str z10 897)])), (List.toArray [])⟩
noncomputable def m505 (p : Program) (P : Params) : Obj := ⟨(.type "function"), none, (.func (fnC z162 z162 (nth p.main.body 44) .none .none .none (.str z157 854) none (.ref 504) .none)), (List.toArray [])⟩
noncomputable def m506 (P : Params) : Obj := ⟨(.type "tuple"), none, (.seq (List.toArray []) 0), (List.toArray [])⟩
noncomputable def m507 (P : Params) : Obj := ⟨.none, none, (.fields (List.toArray [])), (List.toArray [])⟩
noncomputable def m508 (P : Params) : Obj := ⟨(.type "tuple"), none, (.seq (List.toArray [(.str z114 902), (.str z183 903), (.str z187 904), (.str z122 905)]) 0), (List.toArray [])⟩
noncomputable def m509 (P : Params) : Obj := ⟨(.type "tuple"), none, (.seq (List.toArray []) 0), (List.toArray [])⟩
noncomputable def m510 (p : Program) (P : Params) : Obj := ⟨.none, none, (.func (fnB z163 z163 (nth p.main.body 45))), (List.toArray [])⟩
noncomputable def m511 (P : Params) : Obj := ⟨(.type "code"), none, (.fields (List.toArray [(.str z163 899), (.str z163 900), (.str z10 901), (.int 279 0), (.int 4 0), (.int 0 0), (.int 0 0), (.int 3 0), (.ref 506), (.bool true), (.int 181 0), (.ref 507), .none, (.ref 508), (.ref 509), (.ref 510), (.int 906 0), (.int 279 0), (.str z10 907)])), (List.toArray [])⟩
noncomputable def m512 (p : Program) (P : Params) : Obj := ⟨(.type "function"), none, (.func (fnC z163 z163 (nth p.main.body 45) .none .none .none (.str z157 854) none (.ref 511) .none)), (List.toArray [])⟩
noncomputable def m513 (P : Params) : Obj := ⟨(.type "tuple"), none, (.seq (List.toArray []) 0), (List.toArray [])⟩
noncomputable def m514 (P : Params) : Obj := ⟨.none, none, (.fields (List.toArray [])), (List.toArray [])⟩
noncomputable def m515 (p : Program) (P : Params) : Obj := ⟨.none, none, (.func (fnB z164 z164 (nth p.main.body 46))), (List.toArray [])⟩
noncomputable def m516 (P : Params) : Obj := ⟨(.type "code"), none, (.fields (List.toArray [(.str z164 909), (.str z164 910), (.str z10 911), (.int 281 0), (.int 4 0), (.int 0 0), (.int 0 0), (.int 3 0), (.ref 513), (.bool true), (.int 181 0), (.ref 514), .none, .none, .none, (.ref 515), (.int 912 0), (.int 281 0), (.str z10 913)])), (List.toArray [])⟩
noncomputable def m517 (p : Program) (P : Params) : Obj := ⟨(.type "function"), none, (.func (fnC z164 z164 (nth p.main.body 46) .none .none .none (.str z157 854) none (.ref 516) .none)), (List.toArray [])⟩
noncomputable def m518 (P : Params) : Obj := ⟨(.type "tuple"), none, (.seq (List.toArray []) 0), (List.toArray [])⟩
noncomputable def m519 (P : Params) : Obj := ⟨.none, none, (.fields (List.toArray [])), (List.toArray [])⟩
noncomputable def m520 (P : Params) : Obj := ⟨(.type "tuple"), none, (.seq (List.toArray [(.str z114 918), (.str z183 919), (.str z187 920), (.str z122 921), (.str z125 922)]) 0), (List.toArray [])⟩
noncomputable def m521 (P : Params) : Obj := ⟨(.type "tuple"), none, (.seq (List.toArray []) 0), (List.toArray [])⟩
noncomputable def m522 (p : Program) (P : Params) : Obj := ⟨.none, none, (.func (fnB z165 z165 (nth p.main.body 47))), (List.toArray [])⟩
noncomputable def m523 (P : Params) : Obj := ⟨(.type "code"), none, (.fields (List.toArray [(.str z165 915), (.str z165 916), (.str z10 917), (.int 283 0), (.int 4 0), (.int 0 0), (.int 0 0), (.int 3 0), (.ref 518), (.bool true), (.int 181 0), (.ref 519), .none, (.ref 520), (.ref 521), (.ref 522), (.int 923 0), (.int 283 0), (.str z10 924)])), (List.toArray [])⟩
noncomputable def m524 (p : Program) (P : Params) : Obj := ⟨(.type "function"), none, (.func (fnC z165 z165 (nth p.main.body 47) .none .none .none (.str z157 854) none (.ref 523) .none)), (List.toArray [])⟩
noncomputable def m525 (P : Params) : Obj := ⟨(.type "tuple"), none, (.seq (List.toArray []) 0), (List.toArray [])⟩
noncomputable def m526 (P : Params) : Obj := ⟨.none, none, (.fields (List.toArray [])), (List.toArray [])⟩
noncomputable def m527 (P : Params) : Obj := ⟨(.type "tuple"), none, (.seq (List.toArray [(.str z125 929)]) 0), (List.toArray [])⟩
noncomputable def m528 (P : Params) : Obj := ⟨(.type "tuple"), none, (.seq (List.toArray []) 0), (List.toArray [])⟩
noncomputable def m529 (p : Program) (P : Params) : Obj := ⟨.none, none, (.func (fnB z166 z166 (nth p.main.body 48))), (List.toArray [])⟩
noncomputable def m530 (P : Params) : Obj := ⟨(.type "code"), none, (.fields (List.toArray [(.str z166 926), (.str z166 927), (.str z10 928), (.int 287 0), (.int 1 0), (.int 0 0), (.int 0 0), (.int 3 0), (.ref 525), (.bool true), (.int 181 0), (.ref 526), .none, (.ref 527), (.ref 528), (.ref 529), (.int 930 0), (.int 287 0), (.str z10 931)])), (List.toArray [])⟩
noncomputable def m531 (p : Program) (P : Params) : Obj := ⟨(.type "function"), none, (.func (fnC z166 z166 (nth p.main.body 48) .none .none .none (.str z157 854) none (.ref 530) .none)), (List.toArray [])⟩
noncomputable def m532 (P : Params) : Obj := ⟨(.type "tuple"), none, (.seq (List.toArray []) 0), (List.toArray [])⟩
noncomputable def m533 (P : Params) : Obj := ⟨.none, none, (.fields (List.toArray [])), (List.toArray [])⟩
noncomputable def m534 (p : Program) (P : Params) : Obj := ⟨.none, none, (.func (fnB z167 z167 (nth p.main.body 49))), (List.toArray [])⟩
noncomputable def m535 (P : Params) : Obj := ⟨(.type "code"), none, (.fields (List.toArray [(.str z167 933), (.str z167 934), (.str z10 935), (.int 289 0), (.int 5 0), (.int 0 0), (.int 0 0), (.int 3 0), (.ref 532), (.bool true), (.int 181 0), (.ref 533), .none, .none, .none, (.ref 534), (.int 936 0), (.int 289 0), (.str z10 937)])), (List.toArray [])⟩
noncomputable def m536 (p : Program) (P : Params) : Obj := ⟨(.type "function"), none, (.func (fnC z167 z167 (nth p.main.body 49) .none .none .none (.str z157 854) none (.ref 535) .none)), (List.toArray [])⟩
noncomputable def m537 (P : Params) : Obj := ⟨(.type "tuple"), none, (.seq (List.toArray []) 0), (List.toArray [])⟩
noncomputable def m538 (P : Params) : Obj := ⟨.none, none, (.fields (List.toArray [])), (List.toArray [])⟩
noncomputable def m539 (p : Program) (P : Params) : Obj := ⟨.none, none, (.func (fnB z168 z168 (nth p.main.body 50))), (List.toArray [])⟩
noncomputable def m540 (P : Params) : Obj := ⟨(.type "code"), none, (.fields (List.toArray [(.str z168 939), (.str z168 940), (.str z10 941), (.int 304 0), (.int 1 0), (.int 0 0), (.int 0 0), (.int 3 0), (.ref 537), (.bool true), (.int 181 0), (.ref 538), .none, .none, .none, (.ref 539), (.int 942 0), (.int 304 0), (.str z10 943)])), (List.toArray [])⟩
noncomputable def m541 (p : Program) (P : Params) : Obj := ⟨(.type "function"), none, (.func (fnC z168 z168 (nth p.main.body 50) .none .none .none (.str z157 854) none (.ref 540) .none)), (List.toArray [])⟩
noncomputable def tr4 (p : Program) (P : Params) : BT := (.node (boot_o_0 P) (.node (boot_o_1 P) (.node (m3v7 P) (.node (boot_o_7 P) (.node (m15 P) (.node (m31 P) (.node (m63 p P) (.node (m127 P) (.node (m255 p P) (.node (m511 P) .nil .nil) .nil) (.node (m383 p P) .nil .nil)) (.node (m191 P) (.node (m319 P) .nil .nil) (.node (m447 P) .nil .nil))) (.node (m95 P) (.node (m159 p P) (.node (m287 P) .nil .nil) (.node (m415 P) .nil .nil)) (.node (m223 P) (.node (m351 P) .nil .nil) (.node (m479 P) .nil .nil)))) (.node (m47 P) (.node (m79 P) (.node (m143 P) (.node (m271 P) (.node (m527 P) .nil .nil) .nil) (.node (m399 p P) .nil .nil)) (.node (m207 P) (.node (m335 P) .nil .nil) (.node (m463 P) .nil .nil))) (.node (m111 P) (.node (m175 P) (.node (m303 P) .nil .nil) (.node (m431 P) .nil .nil)) (.node (m239 P) (.node (m367 P) .nil .nil) (.node (m495 P) .nil .nil))))) (.node (m23 P) (.node (m39 P) (.node (m71 P) (.node (m135 P) (.node (m263 P) (.node (m519 P) .nil .nil) .nil) (.node (m391 P) .nil .nil)) (.node (m199 p P) (.node (m327 P) .nil .nil) (.node (m455 P) .nil .nil))) (.node (m103 P) (.node (m167 P) (.node (m295 P) .nil .nil) (.node (m423 p P) .nil .nil)) (.node (m231 P) (.node (m359 p P) .nil .nil) (.node (m487 P) .nil .nil)))) (.node (m55 P) (.node (m87 P) (.node (m151 P) (.node (m279 P) (.node (m535 P) .nil .nil) .nil) (.node (m407 P) .nil .nil)) (.node (m215 p P) (.node (m343 p P) .nil .nil) (.node (m471 P) .nil .nil))) (.node (m119 P) (.node (m183 P) (.node (m311 P) .nil .nil) (.node (m439 p P) .nil .nil)) (.node (m247 P) (.node (m375 P) .nil .nil) (.node (m503 p P) .nil .nil)))))) (.node (xA11 P) (.node (m19 p P) (.node (m35 P) (.node (m67 P) (.node (m131 P) (.node (m259 P) (.node (m515 p P) .nil .nil) .nil) (.node (m387 P) .nil .nil)) (.node (m195 P) (.node (m323 P) .nil .nil) (.node (m451 p P) .nil .nil))) (.node (m99 p P) (.node (m163 P) (.node (m291 P) .nil .nil) (.node (m419 P) .nil .nil)) (.node (m227 P) (.node (m355 P) .nil .nil) (.node (m483 P) .nil .nil)))) (.node (m51 P) (.node (m83 P) (.node (m147 P) (.node (m275 P) (.node (m531 p P) .nil .nil) .nil) (.node (m403 P) .nil .nil)) (.node (m211 P) (.node (m339 P) .nil .nil) (.node (m467 P) .nil .nil))) (.node (m115 P) (.node (m179 P) (.node (m307 P) .nil .nil) (.node (m435 P) .nil .nil)) (.node (m243 p P) (.node (m371 p P) .nil .nil) (.node (m499 P) .nil .nil))))) (.node (m27 P) (.node (m43 P) (.node (m75 P) (.node (m139 p P) (.node (m267 P) (.node (m523 P) .nil .nil) .nil) (.node (m395 P) .nil .nil)) (.node (m203 P) (.node (m331 p P) .nil .nil) (.node (m459 P) .nil .nil))) (.node (m107 P) (.node (m171 P) (.node (m299 P) .nil .nil) (.node (m427 P) .nil .nil)) (.node (m235 P) (.node (m363 P) .nil .nil) (.node (m491 P) .nil .nil)))) (.node (m59 P) (.node (m91 P) (.node (m155 P) (.node (m283 P) (.node (m539 p P) .nil .nil) .nil) (.node (m411 p P) .nil .nil)) (.node (m219 P) (.node (m347 P) .nil .nil) (.node (m475 P) .nil .nil))) (.node (m123 P) (.node (m187 p P) (.node (m315 p P) .nil .nil) (.node (m443 P) .nil .nil)) (.node (m251 P) (.node (m379 P) .nil .nil) (.node (m507 P) .nil .nil))))))) (.node (boot_o_5 P) (.node (boot_o_9 P) (.node (m17 P) (.node (m33 P) (.node (m65 P) (.node (m129 P) (.node (m257 p P) (.node (m513 P) .nil .nil) .nil) (.node (m385 p P) .nil .nil)) (.node (m193 P) (.node (m321 P) .nil .nil) (.node (m449 P) .nil .nil))) (.node (m97 P) (.node (m161 P) (.node (m289 P) .nil .nil) (.node (m417 P) .nil .nil)) (.node (m225 P) (.node (m353 P) .nil .nil) (.node (m481 P) .nil .nil)))) (.node (m49 P) (.node (m81 P) (.node (m145 P) (.node (m273 P) (.node (m529 p P) .nil .nil) .nil) (.node (m401 P) .nil .nil)) (.node (m209 P) (.node (m337 P) .nil .nil) (.node (m465 P) .nil .nil))) (.node (m113 P) (.node (m177 P) (.node (m305 P) .nil .nil) (.node (m433 P) .nil .nil)) (.node (m241 p P) (.node (m369 p P) .nil .nil) (.node (m497 P) .nil .nil))))) (.node (m25 P) (.node (m41 P) (.node (m73 P) (.node (m137 p P) (.node (m265 P) (.node (m521 P) .nil .nil) .nil) (.node (m393 P) .nil .nil)) (.node (m201 p P) (.node (m329 p P) .nil .nil) (.node (m457 P) .nil .nil))) (.node (m105 P) (.node (m169 P) (.node (m297 P) .nil .nil) (.node (m425 p P) .nil .nil)) (.node (m233 P) (.node (m361 P) .nil .nil) (.node (m489 P) .nil .nil)))) (.node (m57 P) (.node (m89 P) (.node (m153 P) (.node (m281 P) (.node (m537 P) .nil .nil) .nil) (.node (m409 P) .nil .nil)) (.node (m217 P) (.node (m345 p P) .nil .nil) (.node (m473 P) .nil .nil))) (.node (m121 P) (.node (m185 p P) (.node (m313 P) .nil .nil) (.node (m441 P) .nil .nil)) (.node (m249 P) (.node (m377 P) .nil .nil) (.node (m505 p P) .nil .nil)))))) (.node (xA13 P) (.node (m21 p P) (.node (m37 P) (.node (m69 P) (.node (m133 P) (.node (m261 P) (.node (m517 p P) .nil .nil) .nil) (.node (m389 P) .nil .nil)) (.node (m197 P) (.node (m325 P) .nil .nil) (.node (m453 p P) .nil .nil))) (.node (m101 p P) (.node (m165 P) (.node (m293 P) .nil .nil) (.node (m421 P) .nil .nil)) (.node (m229 P) (.node (m357 p P) .nil .nil) (.node (m485 P) .nil .nil)))) (.node (m53 P) (.node (m85 P) (.node (m149 P) (.node (m277 P) (.node (m533 P) .nil .nil) .nil) (.node (m405 P) .nil .nil)) (.node (m213 p P) (.node (m341 P) .nil .nil) (.node (m469 P) .nil .nil))) (.node (m117 P) (.node (m181 P) (.node (m309 P) .nil .nil) (.node (m437 p P) .nil .nil)) (.node (m245 P) (.node (m373 P) .nil .nil) (.node (m501 P) .nil .nil))))) (.node (m29 P) (.node (m45v2 P) (.node (m77 P) (.node (m141 P) (.node (m269 P) (.node (m525 P) .nil .nil) .nil) (.node (m397 p P) .nil .nil)) (.node (m205 P) (.node (m333 P) .nil .nil) (.node (m461 P) .nil .nil))) (.node (m109 P) (.node (m173 P) (.node (m301 P) .nil .nil) (.node (m429 P) .nil .nil)) (.node (m237 P) (.node (m365 P) .nil .nil) (.node (m493 P) .nil .nil)))) (.node (m61 p P) (.node (m93 P) (.node (m157 p P) (.node (m285 P) (.node (m541 p P) .nil .nil) .nil) (.node (m413 p P) .nil .nil)) (.node (m221 P) (.node (m349 P) .nil .nil) (.node (m477 P) .nil .nil))) (.node (m125 P) (.node (m189 P) (.node (m317 p P) .nil .nil) (.node (m445 P) .nil .nil)) (.node (m253 P) (.node (m381 P) .nil .nil) (.node (m509 P) .nil .nil)))))))) (.node (m2 P) (.node (boot_o_4 P) (.node (boot_o_8 P) (.node (m16 P) (.node (m32 P) (.node (m64 P) (.node (m128 P) (.node (m256 P) (.node (m512 p P) .nil .nil) .nil) (.node (m384 P) .nil .nil)) (.node (m192 p P) (.node (m320 P) .nil .nil) (.node (m448 P) .nil .nil))) (.node (m96 P) (.node (m160 P) (.node (m288 P) .nil .nil) (.node (m416 p P) .nil .nil)) (.node (m224 P) (.node (m352 p P) .nil .nil) (.node (m480 p P) .nil .nil)))) (.node (m48 P) (.node (m80 p P) (.node (m144 P) (.node (m272 P) (.node (m528 P) .nil .nil) .nil) (.node (m400 P) .nil .nil)) (.node (m208 p P) (.node (m336 p P) .nil .nil) (.node (m464 P) .nil .nil))) (.node (m112 P) (.node (m176 P) (.node (m304 P) .nil .nil) (.node (m432 p P) .nil .nil)) (.node (m240 P) (.node (m368 P) .nil .nil) (.node (m496 p P) .nil .nil))))) (.node (m24 P) (.node (m40 p P) (.node (m72 P) (.node (m136 P) (.node (m264 p P) (.node (m520 P) .nil .nil) .nil) (.node (m392 p P) .nil .nil)) (.node (m200 P) (.node (m328 P) .nil .nil) (.node (m456 P) .nil .nil))) (.node (m104 P) (.node (m168 P) (.node (m296 p P) .nil .nil) (.node (m424 P) .nil .nil)) (.node (m232 P) (.node (m360 P) .nil .nil) (.node (m488 P) .nil .nil)))) (.node (m56 P) (.node (m88 P) (.node (m152 P) (.node (m280 P) (.node (m536 p P) .nil .nil) .nil) (.node (m408 P) .nil .nil)) (.node (m216 P) (.node (m344 P) .nil .nil) (.node (m472 P) .nil .nil))) (.node (m120 p P) (.node (m184 P) (.node (m312 P) .nil .nil) (.node (m440 P) .nil .nil)) (.node (m248 p P) (.node (m376 P) .nil .nil) (.node (m504 P) .nil .nil)))))) (.node (m12v7 P) (.node (m20 P) (.node (m36 P) (.node (m68 P) (.node (m132 P) (.node (m260 P) (.node (m516 P) .nil .nil) .nil) (.node (m388 P) .nil .nil)) (.node (m196 P) (.node (m324 p P) .nil .nil) (.node (m452 P) .nil .nil))) (.node (m100 P) (.node (m164 P) (.node (m292 P) .nil .nil) (.node (m420 P) .nil .nil)) (.node (m228 P) (.node (m356 P) .nil .nil) (.node (m484 P) .nil .nil)))) (.node (m52 P) (.node (m84 P) (.node (m148 P) (.node (m276 p P) (.node (m532 P) .nil .nil) .nil) (.node (m404 p P) .nil .nil)) (.node (m212 P) (.node (m340 P) .nil .nil) (.node (m468 P) .nil .nil))) (.node (m116 P) (.node (m180 p P) (.node (m308 p P) .nil .nil) (.node (m436 P) .nil .nil)) (.node (m244 P) (.node (m372 P) .nil .nil) (.node (m500 P) .nil .nil))))) (.node (m28 p P) (.node (m44 P) (.node (m76 P) (.node (m140 P) (.node (m268 P) (.node (m524 p P) .nil .nil) .nil) (.node (m396 P) .nil .nil)) (.node (m204 P) (.node (m332 P) .nil .nil) (.node (m460 p P) .nil .nil))) (.node (m108 P) (.node (m172 P) (.node (m300 P) .nil .nil) (.node (m428 P) .nil .nil)) (.node (m236 p P) (.node (m364 p P) .nil .nil) (.node (m492 P) .nil .nil)))) (.node (m60 P) (.node (m92 P) (.node (m156 P) (.node (m284 P) (.node (m540 P) .nil .nil) .nil) (.node (m412 P) .nil .nil)) (.node (m220 p P) (.node (m348 P) .nil .nil) (.node (m476 P) .nil .nil))) (.node (m124 P) (.node (m188 P) (.node (m316 P) .nil .nil) (.node (m444 p P) .nil .nil)) (.node (m252 P) (.node (m380 P) .nil .nil) (.node (m508 P) .nil .nil))))))) (.node (boot_o_6 P) (.node (boot_o_10 P) (.node (m18 P) (.node (m34 P) (.node (m66 P) (.node (m130 P) (.node (m258 P) (.node (m514 P) .nil .nil) .nil) (.node (m386 P) .nil .nil)) (.node (m194 p P) (.node (m322 p P) .nil .nil) (.node (m450 P) .nil .nil))) (.node (m98 P) (.node (m162 P) (.node (m290 P) .nil .nil) (.node (m418 p P) .nil .nil)) (.node (m226 P) (.node (m354 P) .nil .nil) (.node (m482 p P) .nil .nil)))) (.node (m50 P) (.node (m82 p P) (.node (m146 P) (.node (m274 P) (.node (m530 P) .nil .nil) .nil) (.node (m402 P) .nil .nil)) (.node (m210 P) (.node (m338 p P) .nil .nil) (.node (m466 P) .nil .nil))) (.node (m114 P) (.node (m178 p P) (.node (m306 P) .nil .nil) (.node (m434 P) .nil .nil)) (.node (m242 P) (.node (m370 P) .nil .nil) (.node (m498 p P) .nil .nil))))) (.node (m26 p P) (.node (m42 p P) (.node (m74 P) (.node (m138 P) (.node (m266 P) (.node (m522 p P) .nil .nil) .nil) (.node (m394 P) .nil .nil)) (.node (m202 P) (.node (m330 P) .nil .nil) (.node (m458 p P) .nil .nil))) (.node (m106 P) (.node (m170 P) (.node (m298 p P) .nil .nil) (.node (m426 P) .nil .nil)) (.node (m234 p P) (.node (m362 p P) .nil .nil) (.node (m490 P) .nil .nil)))) (.node (m58 P) (.node (m90 P) (.node (m154 P) (.node (m282 P) (.node (m538 P) .nil .nil) .nil) (.node (m410 P) .nil .nil)) (.node (m218 P) (.node (m346 P) .nil .nil) (.node (m474 P) .nil .nil))) (.node (m122 P) (.node (m186 P) (.node (m314 P) .nil .nil) (.node (m442 P) .nil .nil)) (.node (m250 p P) (.node (m378 P) .nil .nil) (.node (m506 P) .nil .nil)))))) (.node (xA14 P) (.node (m22 P) (.node (m38 P) (.node (m70 P) (.node (m134 P) (.node (m262 p P) (.node (m518 P) .nil .nil) .nil) (.node (m390 p P) .nil .nil)) (.node (m198 P) (.node (m326 P) .nil .nil) (.node (m454 P) .nil .nil))) (.node (m102 P) (.node (m166 P) (.node (m294 P) .nil .nil) (.node (m422 P) .nil .nil)) (.node (m230 P) (.node (m358 P) .nil .nil) (.node (m486 P) .nil .nil)))) (.node (m54 P) (.node (m86 P) (.node (m150 P) (.node (m278 p P) (.node (m534 p P) .nil .nil) .nil) (.node (m406 p P) .nil .nil)) (.node (m214 P) (.node (m342 P) .nil .nil) (.node (m470 P) .nil .nil))) (.node (m118 p P) (.node (m182 P) (.node (m310 p P) .nil .nil) (.node (m438 P) .nil .nil)) (.node (m246 P) (.node (m374 P) .nil .nil) (.node (m502 P) .nil .nil))))) (.node (m30 P) (.node (m46 P) (.node (m78 P) (.node (m142 P) (.node (m270 P) (.node (m526 P) .nil .nil) .nil) (.node (m398 P) .nil .nil)) (.node (m206 p P) (.node (m334 P) .nil .nil) (.node (m462 P) .nil .nil))) (.node (m110 P) (.node (m174 P) (.node (m302 P) .nil .nil) (.node (m430 p P) .nil .nil)) (.node (m238 P) (.node (m366 P) .nil .nil) (.node (m494 P) .nil .nil)))) (.node (m62 P) (.node (m94 P) (.node (m158 P) (.node (m286 P) .nil .nil) (.node (m414 P) .nil .nil)) (.node (m222 p P) (.node (m350 p P) .nil .nil) (.node (m478 P) .nil .nil))) (.node (m126 P) (.node (m190 P) (.node (m318 P) .nil .nil) (.node (m446 p P) .nil .nil)) (.node (m254 P) (.node (m382 P) .nil .nil) (.node (m510 p P) .nil .nil)))))))))
noncomputable def q4 : Pos := ⟨304, 0, 324, 91⟩
noncomputable def S4 (p : Program) (w : World) (os : OsState) : SharedT := ⟨tr4 p w.params, 542, {}, #[], boot_drawn, 945, os⟩
noncomputable def B0 (p : Program) : List Stmt := behindTheImports p
noncomputable def B1 (p : Program) : List Stmt := (B0 p).drop 10
noncomputable def B2 (p : Program) : List Stmt := (B1 p).drop 4
noncomputable def B3 (p : Program) : List Stmt := (B2 p).drop 23
noncomputable def B4 (p : Program) : List Stmt := (B3 p).drop 14
theorem seg1 (w : World) (os : OsState) : segRunT treeTable PySem.Challenge.pw_sz0090_01 w 11 annE 1 1063 (S0 PySem.Challenge.pw_sz0090_01 w os) (piecesOf ((B0 PySem.Challenge.pw_sz0090_01).take 10) (envE PySem.Challenge.pw_sz0090_01) (cE PySem.Challenge.pw_sz0090_01) q0 [topFrame p0]) = some (.next, S1 PySem.Challenge.pw_sz0090_01 w os, cE PySem.Challenge.pw_sz0090_01, q1) := by
  unfold piecesOf
  rw [PySem.W.Fast.te10110043849684766642, PySem.W.Fast.te12563942051412417395]
  kernel_rfl
theorem seg2 (w : World) (os : OsState) : segRunT treeTable PySem.Challenge.pw_sz0090_01 w 11 annE 1 1140 (S1 PySem.Challenge.pw_sz0090_01 w os) (piecesOf ((B1 PySem.Challenge.pw_sz0090_01).take 4) (envE PySem.Challenge.pw_sz0090_01) (cE PySem.Challenge.pw_sz0090_01) q1 [topFrame p0]) = some (.next, S2 PySem.Challenge.pw_sz0090_01 w os, cE PySem.Challenge.pw_sz0090_01, q2) := by
  unfold piecesOf
  rw [PySem.W.Fast.te10110043849684766642, PySem.W.Fast.te12563942051412417395]
  kernel_rfl
theorem seg3 (w : World) (os : OsState) : segRunT treeTable PySem.Challenge.pw_sz0090_01 w 11 annE 1 980 (S2 PySem.Challenge.pw_sz0090_01 w os) (piecesOf ((B2 PySem.Challenge.pw_sz0090_01).take 23) (envE PySem.Challenge.pw_sz0090_01) (cE PySem.Challenge.pw_sz0090_01) q2 [topFrame p0]) = some (.next, S3 PySem.Challenge.pw_sz0090_01 w os, cE PySem.Challenge.pw_sz0090_01, q3) := by
  unfold piecesOf
  rw [PySem.W.Fast.te10110043849684766642, PySem.W.Fast.te12563942051412417395]
  kernel_rfl
theorem seg4 (w : World) (os : OsState) : segRunT treeTable PySem.Challenge.pw_sz0090_01 w 11 annE 1 1127 (S3 PySem.Challenge.pw_sz0090_01 w os) (piecesOf ((B3 PySem.Challenge.pw_sz0090_01).take 14) (envE PySem.Challenge.pw_sz0090_01) (cE PySem.Challenge.pw_sz0090_01) q3 [topFrame p0]) = some (.next, S4 PySem.Challenge.pw_sz0090_01 w os, cE PySem.Challenge.pw_sz0090_01, q4) := by
  unfold piecesOf
  rw [PySem.W.Fast.te10110043849684766642, PySem.W.Fast.te12563942051412417395]
  kernel_rfl
theorem lka1 (w : World) (os : OsState) : staticsOk (importedModules PySem.Challenge.pw_sz0090_01.main.body) (boot_heap w.params) ((S4 PySem.Challenge.pw_sz0090_01 w os).abs).heap = true := by kernel_rfl
theorem lka2 (w : World) (os : OsState) : namesBound PySem.Challenge.pw_sz0090_01 ((S4 PySem.Challenge.pw_sz0090_01 w os).abs).heap = true := by kernel_rfl
theorem lka3 (w : World) (os : OsState) : gensDone ((S4 PySem.Challenge.pw_sz0090_01 w os).abs) = true := by kernel_rfl
theorem lka4 (w : World) (os : OsState) : laidKept (boot_heap w.params) ((S4 PySem.Challenge.pw_sz0090_01 w os).abs).heap = true := by kernel_rfl
theorem lb1 (w : World) (os : OsState) : seen ((recsOf (view PySem.Challenge.pw_sz0090_01 keepIx)).map (·.name)) (ownsOf (view PySem.Challenge.pw_sz0090_01 keepIx)) [] { ((S4 PySem.Challenge.pw_sz0090_01 w os).abs) with gens := #[] } = expectedOf (view PySem.Challenge.pw_sz0090_01 keepIx) := by
  rw [PySem.W.Fast.te5160383126252970620, PySem.W.Fast.te3399658132070893891, PySem.W.Fast.te5991557255702980513]
  kernel_rfl
theorem lb2 (w : World) (os : OsState) : ((S4 PySem.Challenge.pw_sz0090_01 w os).abs).heap.bltView = bltViewBooted := by kernel_rfl
theorem lb3 (w : World) (os : OsState) : ((S4 PySem.Challenge.pw_sz0090_01 w os).abs).heap.keysOk (looseW (view PySem.Challenge.pw_sz0090_01 keepIx) lo1) ((recsOf (view PySem.Challenge.pw_sz0090_01 keepIx)).map (·.name)) ((litsOf (view PySem.Challenge.pw_sz0090_01 keepIx)).map (·.1)) ((clssOf (view PySem.Challenge.pw_sz0090_01 keepIx) (looseW (view PySem.Challenge.pw_sz0090_01 keepIx) lo1)).map (·.name)) = true := by
  rw [PySem.W.Fast.te10880121769531294198, PySem.W.Fast.te3399658132070893891, PySem.W.Fast.te7409074990110511671, PySem.W.Fast.te13664370479719496447, PySem.W.Fast.te821141287760084731]
  kernel_rfl
theorem lb4a (w : World) (os : OsState) : ((S4 PySem.Challenge.pw_sz0090_01 w os).abs).heap.accountedOkI (importedModules PySem.Challenge.pw_sz0090_01.main.body) = true := by
  rw [PySem.W.Fast.te14722251495701143533]
  kernel_rfl
theorem lb4b (w : World) (os : OsState) : ((S4 PySem.Challenge.pw_sz0090_01 w os).abs).heap.isNs mainGlobals = true := by kernel_rfl
theorem lb4c (w : World) (os : OsState) : ((S4 PySem.Challenge.pw_sz0090_01 w os).abs).heap.isNs builtinsNs = true := by kernel_rfl
theorem lb4d (w : World) (os : OsState) : tablesOk (view PySem.Challenge.pw_sz0090_01 keepIx) ((S4 PySem.Challenge.pw_sz0090_01 w os).abs).heap = true := by
  rw [PySem.W.Fast.te10994771534591457954]
  kernel_rfl
theorem lb4e (w : World) (os : OsState) : topXt PySem.Challenge.pw_sz0090_01 ((S4 PySem.Challenge.pw_sz0090_01 w os).abs) = true := by kernel_rfl
theorem lb4f (w : World) (os : OsState) : (if true then ((S4 PySem.Challenge.pw_sz0090_01 w os).abs).gens.size == 0 else !leftWithCleanup ((S4 PySem.Challenge.pw_sz0090_01 w os).abs).gens) = true := by kernel_rfl
theorem lb5 (w : World) (os : OsState) : tabsOk (view PySem.Challenge.pw_sz0090_01 keepIx) ((S4 PySem.Challenge.pw_sz0090_01 w os).abs) = true := by
  rw [PySem.W.Fast.te479339242167458305]
  kernel_rfl
theorem lb6 (w : World) (os : OsState) : pinSeenD (view PySem.Challenge.pw_sz0090_01 keepIx) (drecsOf (view PySem.Challenge.pw_sz0090_01 keepIx)) ((S4 PySem.Challenge.pw_sz0090_01 w os).abs) = pinGoodD (drecsOf (view PySem.Challenge.pw_sz0090_01 keepIx)) := by
  rw [PySem.W.Fast.te16090120013241838585, PySem.W.Fast.te3247288618530077131]
  kernel_rfl
theorem lb7 (w : World) (os : OsState) : plainSeenE (view PySem.Challenge.pw_sz0090_01 keepIx) (looseW (view PySem.Challenge.pw_sz0090_01 keepIx) lo1) ((S4 PySem.Challenge.pw_sz0090_01 w os).abs) = plainGoodE (view PySem.Challenge.pw_sz0090_01 keepIx) (looseW (view PySem.Challenge.pw_sz0090_01 keepIx) lo1) := by
  rw [PySem.W.Fast.te2386780881361962483, PySem.W.Fast.te821141287760084731]
  kernel_rfl
theorem lb8 (w : World) (os : OsState) : plainSeenD (view PySem.Challenge.pw_sz0090_01 keepIx) lo1 ((S4 PySem.Challenge.pw_sz0090_01 w os).abs) = plainGoodD (view PySem.Challenge.pw_sz0090_01 keepIx) lo1 := by
  rw [PySem.W.Fast.te11698064438423848299]
  kernel_rfl
theorem lb9 (w : World) (os : OsState) : wideSeen (view PySem.Challenge.pw_sz0090_01 keepIx) ((S4 PySem.Challenge.pw_sz0090_01 w os).abs) = wideGood (view PySem.Challenge.pw_sz0090_01 keepIx) := by
  rw [PySem.W.Fast.te7317090234206586261]
  kernel_rfl
theorem lb10 (w : World) (os : OsState) : clsSeenW (view PySem.Challenge.pw_sz0090_01 keepIx) lo1 ((S4 PySem.Challenge.pw_sz0090_01 w os).abs) = clsGoodW (view PySem.Challenge.pw_sz0090_01 keepIx) lo1 := by
  rw [PySem.W.Fast.te7369524293546568484]
  kernel_rfl
theorem lkc (w : World) (os : OsState) : Kadr.map ((S4 PySem.Challenge.pw_sz0090_01 w os).abs).heap.get? = (K2 w.params).map fun p => some p.2 := by kernel_rfl
noncomputable abbrev SE (w : World) (os : OsState) : Shared := (S4 pg w os).abs
theorem piece_take {tb : String → Option Builtin} {p : Program} {w : World} {n₀ : Nat} {ann : Option Value} {env : Env} {q : Pos} {n N j : Nat} {s s' r : Shared} {l : List Stmt} {c : Code} {pos p' : Pos} (h : segRun tb p w n₀ ann 1 n s (piecesOf (l.take j) env c pos [topFrame q]) = some (.next, s', c, p'))
    (k : topRun tb p w n₀ ann N s' (restOf (l.drop j) env c p' [topFrame q]) = some r) : topRun tb p w n₀ ann (n + N) s (restOf l env c pos [topFrame q]) = some r := by
  have h1 := piece_app h k
  rwa [List.take_append_drop] at h1
noncomputable def hk : Hook := kHook K2 Kadr kadr_eq
theorem op0 : ∀ w : World, (fencedOpening treeTable pg w (12 + (1 + (1063 + (1140 + (980 + (1127 + 2))))))).map (fun s => (s.heap, s.gens, s.drawn, s.toks)) = some (boot_heap w.params, Array.mk [], boot_drawn, boot_toks) :=
  boot_open (by kernel_rfl) (by decide) (fun s => by kernel_rfl)
noncomputable def shA (w : World) (os : OsState) : Shared := ⟨heapA boot_o_0 w.params, #[], boot_drawn, 187, os⟩
theorem pre0 (w : World) (os : OsState) : topGo treeTable pg w 11 annE 12 ⟨boot_heap w.params, #[], boot_drawn, boot_toks, os⟩ (topStub pg) = some (shA w os, ⟨denote treeTable (cE pg), cE pg, p0, [topFrame p0]⟩) := by
  kernel_rfl
theorem abs0 (w : World) (os : OsState) : (S0 pg w os).abs = shA w os := by kernel_rfl
theorem block0 (w : World) (os : OsState) : segRun treeTable pg w 11 annE 1 1 (shA w os) (blockOf (behindTheImports pg) (envE pg) (cE pg) p0 [topFrame p0]) = some (.next, shA w os, cE pg, p0) := by kernel_rfl
theorem fin0 (w : World) (S : Shared) : topRun treeTable pg w 11 annE 2 S ⟨doneF .next, cE pg, q4, [topFrame p0]⟩ = some S := by
  cases S
  kernel_rfl
theorem size0 (w : World) : ((boot_heap w.params).isNs mainGlobals && (Array.mk [] : Array GenState).size == 0, (boot_heap w.params).objs.size, (boot_heap w.params).nsMap mainGlobals "__annotations__") = (true, 11, annE) := by kernel_rfl
theorem bEnd : B4 pg = [] := by kernel_rfl
theorem endP (w : World) (os : OsState) : topRun treeTable pg w 11 annE 2 (SE w os) (restOf (B4 pg) (envE pg) (cE pg) q4 [topFrame p0]) = some (SE w os) := by
  rw [bEnd]
  exact piece_nil (fin0 w _)
theorem run0 (w : World) (os : OsState) : topRun treeTable pg w 11 annE (12 + (1 + (1063 + (1140 + (980 + (1127 + 2)))))) ⟨boot_heap w.params, #[], boot_drawn, boot_toks, os⟩ (topStub pg) = some (SE w os) := by
  have r4 := endP w os
  have r3 := piece_take (l := B3 pg) (j := 14) (segRun_of (seg4 w os)) r4
  have r2 := piece_take (l := B2 pg) (j := 23) (segRun_of (seg3 w os)) r3
  have r1 := piece_take (l := B1 pg) (j := 4) (segRun_of (seg2 w os)) r2
  have r0 := piece_take (l := B0 pg) (j := 10) (segRun_of (seg1 w os)) r1
  rw [abs0] at r0
  exact go_top (pre0 w os) (piece_block (block0 w os) r0)
theorem and4 {a b c d : Bool} (h1 : a = true) (h2 : b = true) (h3 : c = true) (h4 : d = true) : (a && b && c && d) = true := by rw [h1, h2, h3, h4]; rfl
theorem and7 {a b c d e f g : Bool} (h1 : a = true) (h2 : b = true) (h3 : c = true) (h4 : d = true) (h5 : e = true) (h6 : f = true) (h7 : g = true) : (a && b && c && d && e && f && g) = true := by rw [h1, h2, h3, h4, h5, h6, h7]; rfl
theorem lk1 (w : World) (os : OsState) : (staticsOk (importedModules pg.main.body) (boot_heap w.params) (SE w os).heap && namesBound pg (SE w os).heap && gensDone (SE w os) && laidKept (boot_heap w.params) (SE w os).heap) = true :=
  and4 (lka1 w os) (lka2 w os) (lka3 w os) (lka4 w os)
theorem lk2 (w : World) (os : OsState) : openSeen (view pg keepIx) lo1 (importedModules pg.main.body) (topXt pg) true (SE w os) = openGood (view pg keepIx) lo1 := by
  unfold openSeen openGood
  exact looks_pair (lb1 w os) (looks_pair (lb2 w os) (looks_pair (and7 (lb3 w os) (lb4a w os) (lb4b w os) (lb4c w os) (lb4d w os) (lb4e w os) (lb4f w os)) (looks_pair (lb5 w os) (looks_pair (lb6 w os) (looks_pair (lb7 w os) (looks_pair (lb8 w os) (looks_pair (lb9 w os) (lb10 w os))))))))
theorem lk3 (w : World) (os : OsState) : hk.obs (SE w os) = hk.val w := lkc w os
theorem topFrom_of {p : Program} {w : World} {N m₀ : Nat} {h₀ : Heap} {gs : Array GenState} {d : Drawn} {k : Nat} {os : OsState} {ann : Option Value} {S : Shared}
    (z : (h₀.isNs mainGlobals && gs.size == 0, h₀.objs.size, h₀.nsMap mainGlobals "__annotations__") = (true, m₀, ann)) (r : topRun treeTable p w m₀ ann N ⟨h₀, gs, d, k, os⟩ (topStub p) = some S)
    (l1 : (staticsOk (importedModules p.main.body) h₀ S.heap && namesBound p S.heap && gensDone S && laidKept h₀ S.heap) = true) : topFrom treeTable p w N ⟨h₀, gs, d, k, os⟩ = some S := by
  obtain ⟨z1, z2, z3⟩ : _ ∧ _ ∧ _ := by simpa only [Prod.mk.injEq] using z
  unfold topFrom
  dsimp only
  rw [z1, z2, z3, r]
  show (match staticsOk (importedModules p.main.body) h₀ S.heap && namesBound p S.heap && gensDone S && laidKept h₀ S.heap with | true => _ | false => _) = _
  rw [l1]
theorem leftO_of {p q : Program} {loose : List Str} {Xt : Shared → Bool} {α : Type} {Yf : Shared → α} {Ya : World → α} {N : Nat} {H₀ : Params → Heap} {gs₀ : Array GenState} {d₀ : Drawn} {k₀ : Nat}
    (open_ : ∀ w : World, (fencedOpening treeTable p w N).map (fun s => (s.heap, s.gens, s.drawn, s.toks)) = some (H₀ w.params, gs₀, d₀, k₀))
    (run : ∀ (w : World) (os : OsState), ∃ S, topFrom treeTable p w N ⟨H₀ w.params, gs₀, d₀, k₀, os⟩ = some S ∧ openSeen q loose (importedModules p.main.body) Xt true S = openGood q loose ∧ Yf S = Ya w) : LeftO p q loose Xt Yf Ya N := fun w => by
  obtain ⟨⟨h, gs, d, k, os⟩, e, e'⟩ := Option.map_eq_some_iff.mp (open_ w)
  obtain ⟨rfl, rfl, rfl, rfl⟩ : h = H₀ w.params ∧ gs = gs₀ ∧ d = d₀ ∧ k = k₀ := by simpa using e'
  obtain ⟨S, h1, h2, h3⟩ := run w os
  unfold openEnds
  rw [e]
  show (topFrom treeTable p w N _).map _ = _
  rw [h1]
  exact congrArg some (Prod.ext h2 h3)
theorem left0 : LeftO pg (view pg keepIx) lo1 (topXt pg) hk.obs hk.val (12 + (1 + (1063 + (1140 + (980 + (1127 + 2)))))) :=
  leftO_of op0 fun w os => ⟨SE w os, topFrom_of (size0 w) (run0 w os) (lk1 w os), lk2 w os, lk3 w os⟩
theorem k2_in {P : Params} {h : Heap} (x : (K2 P).In h) : (K P).In h := by
  have e1 : K P = (K P).take 66 ++ (K P).drop 66 := (List.take_append_drop _ _).symm
  have e2 : K2 P = (K P).take 66 ++ ((475, o475 P) :: (K P).drop 66) := by kernel_rfl
  intro a o ho
  by_cases ha : a = 475
  · subst ha
    exact absurd ho (by rw [show (K P).lookup 475 = none from by kernel_rfl]; intro e; cases e)
  · refine x a o ?_
    rw [e1, List.lookup_append] at ho
    rw [e2, List.lookup_append, List.lookup_cons, beq_eq_false_iff_ne.mpr ha]
    exact ho
noncomputable abbrev Led := List (Addr × Obj)
noncomputable def adr (l : Led) : List Nat := l.map fun p => p.1
noncomputable def Apart (own foc : Led) : Prop := ∀ p ∈ own, ∀ q ∈ foc, p.1 ≠ q.1
theorem mem_adr {l : Led} {p : Addr × Obj} (h : p ∈ l) : p.1 ∈ adr l := List.mem_map_of_mem h
theorem Apart.not_adr {own foc : Led} (h : Apart own foc) {p : Addr × Obj} (hp : p ∈ own) : p.1 ∉ adr foc := fun q => by
  obtain ⟨r, hr, e⟩ := List.mem_map.mp q
  exact h p hp r hr e.symm
theorem Apart.sub {own own' foc foc' : Led} (h : Apart own foc) (h1 : ∀ p ∈ own', p ∈ own) (h2 : ∀ p ∈ foc', p ∈ foc) : Apart own' foc' :=
  fun p hp q hq => h p (h1 p hp) q (h2 q hq)
theorem subNews {h₀ h : Heap} {L : Addr} {l l' : Led} (N : News h₀ L h l) (hs : ∀ p ∈ l', p ∈ l) : News h₀ L h l' := fun p hp => N p (hs p hp)

/-- the world around a frame: depth and units as upper bounds -/
noncomputable abbrev Ar (d u : Nat) (gd : Option (List Code)) (env : Env) (outer : List Env) : Around := { handled := none, depth := d, frames := some (env :: outer), guards := gd, units := u }

theorem wpAny_up {α : Type} {M : Model} {A : Around} {t : Sem α} {Q : α → Shared → Prop} {E : Value → Shared → Prop} {s : Shared} {d u : Nat}
    (h : wpAny M { A with depth := d, units := u } t Q E s) (hd : A.depth ≤ d) (hu : A.units ≤ u) : wpAny M A t Q E s :=
  fun Γ p hΓ => h Γ p ⟨hΓ.1, Nat.le_trans hΓ.2.1 hd, hΓ.2.2.1, hΓ.2.2.2.1, Nat.le_trans hΓ.2.2.2.2 hu⟩

/-- how a focused body ends: the frame, the ledger of what the call had in focus, what is said of it -/
noncomputable def BodyEnd (g : Heap) (L' : Addr) (Post : Value → Led → Prop) (s₁ : Shared) (v : Value) (s' : Shared) : Prop :=
  ∃ h' tk' m' foc', s' = { s₁ with heap := h', toks := tk' } ∧ Fr g L' h' m' ∧ News g L' h' foc' ∧ Post v foc'

/-- what holds where a call is made -/
structure At (K : Frag) (p : Program) (loose : List Str) (mean : ExcName → Option Value) (mg mb : Str → Option Value) (A₀ : Around) (base h₀ : Heap) (L : Addr) (env : Env) (outer : List Env) : Prop where
  B : Below A₀ base outer h₀
  X : K.In h₀
  T : Top p loose mean mg mb h₀
  hf : env.frame = some L
  hk : env.scope.kind = .function

noncomputable def Spec (prog : Program) (w : World) (K : Frag) (d u : Nat) (f : Addr) (args : List Value) (ro foc : Led) (Post : Value → Led → Prop) : Prop :=
  ∀ (p : Program) (loose : List Str) (mean : ExcName → Option Value) (mg mb : Str → Option Value) (gd : Option (List Code)) (env : Env) (outer : List Env) (A₀ : Around) (base h₀ : Heap) (L : Addr) (m : Str → Option Value)
    (s : Shared) (news own : Led) (Q E : Value → Shared → Prop),
    At K p loose mean mg mb A₀ base h₀ L env outer → Fr h₀ L s.heap m → News h₀ L s.heap news → (∀ q ∈ own, q ∈ news) → (∀ q ∈ foc, q ∈ news) → Apart own foc → (∀ q ∈ ro, q ∈ own) →
    (∀ v foc' h' tk', Fr h₀ L h' m → News h₀ L h' (own ++ foc') → Apart own foc' → Post v foc' → Q v { s with heap := h', toks := tk' }) →
    wpAny (model prog w) (Ar d u gd env outer) (call (.ref f) args) Q E s

section
variable {prog : Program} {w : World} {K : Frag} {d u : Nat} {f : Addr} {args : List Value} {ro foc : Led} {Post : Value → Led → Prop}
  {name qual : Str} {params : Arguments} {body : List Stmt} {scope : Scope} {dV kV doc pm cdv ct oc : Value} {an od : Option Addr} {osl : Array (Option Value)} {binds : List (Str × Value)}

theorem spec_of
    (ho : K.lookup f = some ⟨oc, od, .func (fnOf name qual params body scope dV kV doc pm an cdv ct), osl⟩) (hcd : codeIn K cdv qual = true) (hroom : d < recursionLimit)
    (hbind : ∀ s, BindsTo s (fnOf name qual params body scope dV kV doc pm an cdv ct) ⟨args, []⟩ binds) (hloc : ∀ y ∈ binds, scope.names.lookup y.1 = some .local)
    (h : ∀ (p : Program) (loose : List Str) (mean : ExcName → Option Value) (mg mb : Str → Option Value) (gd : Option (List Code)) (env : Env) (outer : List Env) (A₀ A₁ : Around) (base g : Heap) (L' : Addr) (h₁ : Heap) (s₁ : Shared),
      s₁.heap = h₁ → Fr g L' h₁ (fun y => binds.reverse.lookup y) → News g L' h₁ foc → (∀ p ∈ foc, p.1 < L') → (∀ q ∈ ro, g.get? q.1 = some q.2) → Below A₁ base (env :: outer) g → K.In g → Top p loose mean mg mb g →
      wpAny (model prog w) ((Ar d u gd env outer).deeper (envOf qual scope L' f cdv)) (execs body (envOf qual scope L' f cdv))
        (fun fl s' => BodyEnd g L' Post s₁ (match fl with | .ret v => v | _ => .none) s') (fun _ _ => False) s₁)
    (hco : scope.isCoroutine = false) (hgen : scope.isGenerator = false) (hk : scope.kind = .function) (hcell : ∀ x ∈ scope.names, x.2 ≠ .cell) :
    Spec prog w K d u f args ro foc Post := by
  intro p loose mean mg mb gd env outer A₀ base h₀ L m s news own Q E C F N hown hfoc ap hro ret
  refine wpAny_call ?_
  have N' : News h₀ L s.heap foc := subNews N hfoc
  obtain ⟨FG, BG, st, _⟩ := groundX (A := Ar d u gd env outer) (R := fun _ _ => True) C.B F N' rfl C.hf C.hk
  have X' := C.X.keeps F.keep
  refine codeAny_call_def (fd := fnOf name qual params body scope dV kV doc pm an cdv ct) (body := body) (binds := binds) hroom (X' _ _ ho) rfl (C.T.nolimit.keeps F.keep) (codeRec_of X' hcd) rfl (hbind s) hcell hloc (fun h₁ hns hk₁ => ?_) hco hgen hk
  have Lt : ∀ q ∈ foc, q.1 < s.heap.objs.size := fun q hq => Heap.lt_size (N' q hq).1
  have hroG : ∀ q ∈ ro, (hideAll s.heap (foc.map (·.1))).get? q.1 = some q.2 := fun q hq =>
    hideAll_get _ (N q (hown q (hro q hq))).1 (ap.not_adr (hro q hq))
  have Xg : K.In (hideAll s.heap (foc.map (·.1))) := C.X.keeps st
  have Tg : Top p loose mean mg mb (hideAll s.heap (foc.map (·.1))) := C.T.keeps st
  refine wpAny_mono (h p loose mean mg mb gd env outer A₀ (Ar d u gd env outer) base (hideAll s.heap (foc.map (·.1))) s.heap.objs.size h₁ { s with heap := h₁, toks := s.toks + binds.length } rfl
    ⟨hns, fun b o e => hk₁ b o (of_hideAll _ e), Nat.le_of_eq (hideAll_size _ _)⟩
    (fun q hq => ⟨hk₁ _ _ (N' q hq).1, Nat.ne_of_lt (Lt q hq), hideAll_none _ (List.mem_map_of_mem hq)⟩) Lt hroG BG (Xg) (Tg)) (fun fl s' hl => ?_) fun _ _ e => e.elim
  obtain ⟨h', tk', m', foc', rfl, F', N'', hp⟩ := hl
  have keep : ∀ b o, s.heap.get? b = some o → b ∉ foc.map (·.1) → h'.get? b = some o := fun b o e hb => F'.keep b o (hideAll_get _ e hb)
  obtain ⟨oL, es, ep, hL, hLd, hLk, hLf⟩ := F.ns
  have nL : L ∉ foc.map (·.1) := fun q => by
    obtain ⟨r, hr, e⟩ := List.mem_map.mp q
    exact (N' r hr).2.1 e
  have old : ∀ b o, h₀.get? b = some o → b ∉ foc.map (·.1) := fun b o e q => by
    obtain ⟨r, hr, rfl⟩ := List.mem_map.mp q
    rw [(N' r hr).2.2] at e; cases e
  have Fc : Fr h₀ L h' m := ⟨⟨oL, es, ep, keep L oL hL nL, hLd, hLk, hLf⟩, fun b o e => keep b o (F.keep b o e) (old b o e), F.above⟩
  have nf : ∀ q ∈ foc', ∀ b o, s.heap.get? b = some o → b ∉ foc.map (·.1) → b ≠ q.1 := fun q hq b o e hb r => by
    have := (N'' q hq).2.2
    rw [← r, hideAll_get _ e hb] at this
    cases this
  refine ret _ foc' h' tk' Fc (fun q hq => ?_) (fun q hq r hr => nf r hr q.1 q.2 (N q (hown q hq)).1 (ap.not_adr hq)) hp
  rcases List.mem_append.mp hq with hq | hq
  · exact ⟨keep _ _ (N q (hown q hq)).1 (ap.not_adr hq), (N q (hown q hq)).2⟩
  · refine ⟨(N'' q hq).1, fun e => nf q hq L oL hL nL e.symm, ?_⟩
    cases e : h₀.get? q.1 with
    | none => rfl
    | some o => exact absurd rfl (nf q hq q.1 o (F.keep _ _ e) (old _ _ e))

end
section
local macro_rules | `(tactic| walk_at "my spec") => `(tactic| (
  (case k1 => k_is)
  (case k2 => k_is)
  (case k3 => decide)
  (case k4 => exact fun s => BindsTo.of_eq rfl)
  (case k5 => exact locs rfl)
  (case c1 => rfl)
  (case c2 => rfl)
  (case c3 => rfl)
  (case c4 => decide)))
noncomputable def upd (k : Nat → Tok) (i : Nat) (v : Tok) : Nat → Tok := fun j => if j = i then v else k j
/-- the dict of a Hash -/
noncomputable abbrev hashD (P : Params) (k : Nat → Tok) (num : Int) (wl t : Addr) : Obj :=
  dictOf [⟨PyData.keyHash P "number", .str "number" (k 0), .int num (k 1)⟩, ⟨PyData.keyHash P "count", .str "count" (k 2), .int 0 (k 3)⟩, ⟨PyData.keyHash P "blessed", .str "blessed" (k 4), .none⟩,
    ⟨PyData.keyHash P "weak", .str "weak" (k 5), .ref wl⟩, ⟨PyData.keyHash P "is_destroyed", .str "is_destroyed" (k 6), .bool false⟩, ⟨PyData.keyHash P "is_freed", .str "is_freed" (k 7), .bool false⟩,
    ⟨PyData.keyHash P "table", .str "table" (k 8), .ref t⟩, ⟨PyData.keyHash P "at", .str "at" (k 9), .int 0 (k 10)⟩, ⟨PyData.keyHash P "tied", .str "tied" (k 11), .none⟩] 9
noncomputable abbrev hashL (P : Params) (k : Nat → Tok) (num : Int) (wl x dx t : Addr) (tob : Obj) : Led := [(x, instObj 104 dx), (dx, hashD P k num wl t), (t, tob)]

theorem strsAre_keys : ∀ {vs : List Value} {kvs : List (Str × Value)}, vs.length = kvs.length → (∀ (j : Nat) (v : Value), vs[j]? = some v → ∃ (k : Str) (x : Value), kvs[j]? = some (k, x) ∧ ∃ t, v = Value.str k t) → StrsAre vs (kvs.map (·.1))
  | [], [], _, _ => .nil
  | [], _ :: _, h, _ => by simp at h
  | _ :: _, [], h, _ => by simp at h
  | v :: vs, (k, x) :: kvs, h, hv => by
    obtain ⟨k', x', e, t, rfl⟩ := hv 0 v (by simp)
    simp at e
    obtain ⟨rfl, rfl⟩ := e
    exact .cons _ _ (strsAre_keys (by simpa using h) fun j u hu => hv (j + 1) u (by simpa using hu))
theorem valueAt_isSome {kvs : List (Str × Value)} {y : Str} : (valueAt kvs y).isSome = decide (y ∈ kvs.map (·.1)) := by
  rw [valueAt_isSome_eq_any]
  induction kvs with
  | nil => rfl
  | cons a r ih =>
    rw [List.any_cons, ih]
    by_cases h : a.1 = y
    · simp [h]
    · have : ¬ y = a.1 := fun e => h e.symm
      simp [h, this]

section
variable {prog : Program} {w : World} {x dx t wl : Addr} {k : Nat → Tok} {num : Int} {tob : Obj} {kvs : List (Str × Value)}
theorem hash_keys_spec (hd : tob.IsDictOf (strKind prog w) kvs) (h1 : @Ne Nat x dx) (h2 : @Ne Nat x t) (h3 : @Ne Nat dx t) (hn : kvs.length ≤ 100) (lo : (t == sysModules) = false) :
    Spec prog w (K w.params) 900 8000 352 [.ref x] [] (hashL w.params k num wl x dx t tob)
      (fun v foc => ∃ l vs nn k', v = .ref l ∧ StrsAre vs (kvs.map (·.1)) ∧ foc = (l, PySem.W.listOf vs.toArray nn) :: hashL w.params k' num wl x dx t tob ∧ @Ne Nat l x ∧ @Ne Nat l dx ∧ @Ne Nat l t) := by
  refine' spec_of (binds := [("table_thing", .ref x)]) ?k1 ?k2 ?k3 ?k4 ?k5 ?_ ?c1 ?c2 ?c3 ?c4
  walk_at "my spec"
  intro p loose mean mg mb gd env outer A₀ A₁ base g L' h₁ s₁ hs F N lt ro B X T
  subst hs
  k_steps
  rename_i h' F' N'
  have N'' : News g L' h' (hashL w.params (upd k 10 s₁.toks) num wl x dx t tob) := N'
  obtain ⟨ep, hat⟩ := (kda_dict (s := { s₁ with heap := h' }) N'' (.tail _ (.tail _ (.head _))) hd).dictAt
  refine kdl_N (kdl_dict (knd := PySem.strKind prog w) (kvs := kvs) (ep := ep) lo) rfl F' N'' hat (kdl_size (by omega)) fun D c h'' tk vs F'' N3 l1 hl hv => ?_
  k_lt l1
  refine ⟨_, _, _, _, rfl, F'', N3, D, vs, c, upd k 10 s₁.toks, rfl, strsAre_keys hl fun j v e => ?_, rfl, ?_, ?_, ?_⟩
  · obtain ⟨y, x, a, b⟩ := hv j v e
    exact ⟨y, x, a, Value.isStrOf_shape b⟩
  all_goals omega
theorem hash_count_spec (hd : tob.IsDictOf (strKind prog w) kvs) (hn : kvs.length ≤ 100) (lo : (t == sysModules) = false) :
    Spec prog w (K w.params) 900 8000 359 [.ref x] [] (hashL w.params k num wl x dx t tob)
      (fun v foc => ∃ tk, v = .int kvs.length tk ∧ foc = hashL w.params k num wl x dx t tob) := by
  refine' spec_of (binds := [("table_thing", .ref x)]) ?k1 ?k2 ?k3 ?k4 ?k5 ?_ ?c1 ?c2 ?c3 ?c4
  walk_at "my spec"
  intro p loose mean mg mb gd env outer A₀ A₁ base g L' h₁ s₁ hs F N lt ro B X T
  subst hs
  k_steps
  refine kda_len N (.tail _ (.tail _ (.head _))) hd lo (by omega) ?_
  exact ⟨_, _, _, _, rfl, F, N, _, rfl, rfl⟩
theorem has_key_spec (hd : tob.IsDictOf (strKind prog w) kvs) (hn : kvs.length ≤ 100) (lo : (t == sysModules) = false) (y : Str) (tk : Tok) :
    Spec prog w (K w.params) 900 8000 324 [.ref x, .str y tk] [] (hashL w.params k num wl x dx t tob)
      (fun v foc => v = .bool (decide (y ∈ kvs.map (·.1))) ∧ foc = hashL w.params k num wl x dx t tob) := by
  refine' spec_of (binds := [("table_thing", .ref x), ("key", .str y tk)]) ?k1 ?k2 ?k3 ?k4 ?k5 ?_ ?c1 ?c2 ?c3 ?c4
  walk_at "my spec"
  intro p loose mean mg mb gd env outer A₀ A₁ base g L' h₁ s₁ hs F N lt ro B X T
  subst hs
  k_steps
  refine kda_in N (.tail _ (.tail _ (.head _))) hd lo (strKind_is _ _ _ _) _ valueAt_isSome ?_
  exact ⟨_, _, _, _, rfl, F, N, rfl, rfl⟩
end
end
/-- how a turn ends -/
noncomputable def TurnK (h₀ : Heap) (L : Addr) (Jn : (Str → Option Value) → Led → Prop) (own : Led) (s₁ : Shared) (Q : Flow → Shared → Prop) (f : Flow) (s₂ : Shared) : Prop :=
  match f with
  | .ret v => Q (.ret v) s₂
  | .brk => Q .next s₂
  | _ => ∃ h' tk' m' nx, s₂ = { s₁ with heap := h', toks := tk' } ∧ Fr h₀ L h' m' ∧ News h₀ L h' (nx ++ own) ∧ Jn m' nx
/-- no iterator stands in a ledger -/
noncomputable def itCls : List String := ["list_iterator", "tuple_iterator", "range_iterator", "dict_keyiterator"]
noncomputable def NoIt (l : Led) : Prop := ∀ p ∈ l, ∀ c ∈ itCls, p.2.cls ≠ .type c

section
variable {prog : Program} {w : World} {A : Around} {E : Value → Shared → Prop} {s : Shared} {env : Env} {h₀ : Heap} {x : Str} {body : List Stmt} {Q : Flow → Shared → Prop}

theorem loop_at {I : Addr} {fp : List Addr} {n : Nat} {P : Nat → Value → Prop} {St : Nat → Heap → Prop} {m : Str → Option Value} {news : Led} {c : String} (hc : c ∈ itCls)
    (J : Nat → (Str → Option Value) → Led → Prop) (W : Walks prog w A I fp [I] n P St) (hI : ∀ i h, St i h → ∃ o, h.get? I = some o ∧ o.cls = .type c) (hst : St 0 s.heap)
    (hI0 : h₀.get? I = none) (hL : env.locals ∉ fp) (hfp : ∀ b ∈ fp, b = I ∨ (∃ o, h₀.get? b = some o) ∨ ∃ o, ∀ i m nx, J i m nx → (b, o) ∈ nx) (hnc : ∀ i m nx, J i m nx → NoIt nx)
    (F : Fr h₀ env.locals s.heap m) (N : News h₀ env.locals s.heap news) (h0 : J 0 m news)
    (turn : ∀ i v m₁ nx h tk io, i < n → P i v → J i m₁ nx → (∀ p ∈ nx, p.1 ≠ I) → Fr h₀ env.locals h (fun y => if y = x then some v else m₁ y) → News h₀ env.locals h (nx ++ [(I, io)]) →
      wpAny (model prog w) A (execs body env) (TurnK h₀ env.locals (J (i + 1)) [(I, io)] { s with heap := h, toks := tk } Q) E { s with heap := h, toks := tk })
    (done : ∀ h' tk m' nx, Fr h₀ env.locals h' m' → News h₀ env.locals h' nx → J n m' nx → Q .next { s with heap := h', toks := tk }) :
    LoopAtV prog w A h₀ env x body Q E (.ref I) s := by
  have apart : ∀ i h nx (m' : Str → Option Value), St i h → J i m' nx → News h₀ env.locals h nx → ∀ p ∈ nx, p.1 ∉ [I] := fun i h nx m' st hj N' p hp e => by
    obtain ⟨o, ho, hcl⟩ := hI i h st
    have e1 : p.1 = I := List.mem_singleton.mp e
    have := (N' p hp).1
    rw [e1, ho] at this
    exact hnc i m' nx hj p hp c hc ((Option.some.inj this) ▸ hcl)
  have hIf : I ∈ fp := W.sub I (.head _)
  refine ⟨I, fp, [I], n, P, St, m, news, fun i m' nx => J i m' nx, rfl, W, hL, ?_, apart 0 _ _ _ hst h0 N, hst, F, N, h0, ?_, fun h' tk m' nx F' N' _ hj => done h' tk m' nx F' N' hj⟩
  · intro b hb
    rw [List.mem_singleton.mp hb]; exact hI0
  · rintro i v m₁ nx s₁ own ⟨h, tk, rfl⟩ hi hP hj hnw hown hget hfo hst₁ F₁ N₁
    obtain ⟨io, hio, hcl⟩ := hI (i + 1) h hst₁
    have hmem : (I, io) ∈ own := hfo I hIf hI0 io hio
    have N₂ : News h₀ env.locals h (nx ++ [(I, io)]) := fun p hp => N₁ p ((List.mem_append.mp hp).elim (fun q => List.mem_append_right _ q) fun q => List.mem_append_left _ (by rw [List.mem_singleton.mp q]; exact hmem))
    refine wpAny_mono (turn i v m₁ nx h tk io hi hP hj (fun p hp e => hnw p hp (by rw [e]; exact .head _)) F₁ N₂) (fun f s₂ h₂ => ?_) fun _ _ e => e
    have fin : (∃ h' tk' m' nx, s₂ = { s with heap := h', toks := tk' } ∧ Fr h₀ env.locals h' m' ∧ News h₀ env.locals h' (nx ++ [(I, io)]) ∧ J (i + 1) m' nx) →
        LoopStepU h₀ env.locals [I] own (J (i + 1)) { s with heap := h, toks := tk } .next s₂ := by
      rintro ⟨h', tk', m', nx', e, F', N', hj'⟩
      refine ⟨rfl, h', tk', m', nx', e, F', fun p hp => ?_, fun p hp e' => ?_, hj'⟩
      · rcases List.mem_append.mp hp with q | q
        · have z := N₁ p (List.mem_append_left _ q)
          rcases hfp p.1 (hown p q) with r | ⟨o, r⟩ | ⟨o, r⟩
          · have : p.2 = io := by
              have := z.1; rw [r, hio] at this; exact (Option.some.inj this).symm
            have e3 : p = (I, io) := Prod.ext r this
            rw [e3]; exact N' _ (List.mem_append_right _ (.head _))
          · rw [z.2.2] at r; cases r
          · have h1 := (N₁ _ (List.mem_append_right _ (r i m₁ nx hj))).1
            have : p.2 = o := by
              have := z.1; rw [h1] at this; exact (Option.some.inj this).symm
            have e3 : p = (p.1, o) := Prod.ext rfl this
            rw [e3]; exact N' _ (List.mem_append_left _ (r (i + 1) m' nx' hj'))
        · exact N' p (List.mem_append_left _ q)
      · have e1 : p.1 = I := List.mem_singleton.mp e'
        have h1 := (N' p (List.mem_append_left _ hp)).1
        have h2 := (N' _ (List.mem_append_right _ (.head _))).1
        rw [e1, h2] at h1
        exact hnc (i + 1) m' nx' hj' p hp c hc ((Option.some.inj h1) ▸ hcl)
    cases f with
    | ret v => exact h₂
    | brk => exact h₂
    | next => exact fin h₂
    | cont => exact fin h₂

theorem locals_lt {m : Str → Option Value} (F : Fr h₀ env.locals s.heap m) : env.locals ≠ s.heap.objs.size := Nat.ne_of_lt F.ns.lt
/-- the source of a loop: in the base, or kept by the word -/
noncomputable def Src (h₀ : Heap) (J : Nat → (Str → Option Value) → Led → Prop) (l : Addr) : Prop := (∃ o, h₀.get? l = some o) ∨ ∃ o, ∀ i m nx, J i m nx → (l, o) ∈ nx

theorem src_ne {J : Nat → (Str → Option Value) → Led → Prop} {m : Str → Option Value} {news : Led} {l : Addr} (S : Src h₀ J l) (F : Fr h₀ env.locals s.heap m) (N : News h₀ env.locals s.heap news) (h0 : J 0 m news) : l ≠ env.locals := by
  rcases S with ⟨o, e⟩ | ⟨o, e⟩
  · exact Nat.ne_of_lt (Nat.lt_of_lt_of_le (Heap.lt_size e) F.above)
  · exact (N _ (e _ _ _ h0)).2.1

theorem iter_list {l : Addr} {vs : List Value} {m : Str → Option Value} {news : Led} (J : Nat → (Str → Option Value) → Led → Prop) (hh : A.handled = none) (hl : s.heap.IsList l vs.toArray) (S : Src h₀ J l)
    (hnc : ∀ i m nx, J i m nx → NoIt nx) (F : Fr h₀ env.locals s.heap m) (N : News h₀ env.locals s.heap news) (h0 : J 0 m news)
    (turn : ∀ i v m₁ nx h tk I io, vs[i]? = some v → J i m₁ nx → (∀ p ∈ nx, p.1 ≠ I) → Fr h₀ env.locals h (fun y => if y = x then some v else m₁ y) → News h₀ env.locals h (nx ++ [(I, io)]) →
      wpAny (model prog w) A (execs body env) (TurnK h₀ env.locals (J (i + 1)) [(I, io)] { s with heap := h, toks := tk } Q) E { s with heap := h, toks := tk })
    (done : ∀ h' tk m' nx, Fr h₀ env.locals h' m' → News h₀ env.locals h' nx → J vs.length m' nx → Q .next { s with heap := h', toks := tk }) :
    wpAny (model prog w) A (pyIter (.ref l)) (fun it s₂ => LoopAtV prog w A h₀ env x body Q E it s₂) E s := by
  obtain ⟨ol, hol, _⟩ := id hl
  have hne : l ≠ s.heap.objs.size := Nat.ne_of_lt (Heap.lt_size hol)
  refine wpAny_pyIter_list hl ?_
  have W := Walks.list (prog := prog) (w := w) hh s.heap.objs.size l hne vs.toArray
  have hlen : vs.toArray.size = vs.length := by simp
  rw [hlen] at W
  refine loop_at (c := "list_iterator") (by decide) J W (fun i h st => let ⟨⟨o, a, b, _⟩, _⟩ := st; ⟨o, a, b⟩) ⟨⟨_, Heap.get?_push_size _ rfl, rfl, rfl⟩, hl.at fun o e => Heap.get?_push_of_some _ e⟩ (next_is_new F) ?_ ?_ hnc (F.push _)
    (fun p hp => ⟨Heap.get?_push_of_some _ (N p hp).1, (N p hp).2⟩) h0 (fun i v m₁ nx h tk io hi hP hj ho F₁ N₁ => turn i v m₁ nx h tk _ io (by simpa using hP) hj ho F₁ N₁) done
  · intro hm
    rcases List.mem_cons.mp hm with e | hm
    · exact locals_lt F e
    · exact src_ne S F N h0 (List.mem_singleton.mp hm).symm
  · intro b hb
    rcases List.mem_cons.mp hb with rfl | hb
    · exact .inl rfl
    · rw [List.mem_singleton.mp hb]; exact .inr S

theorem iter_tuple {l : Addr} {vs : List Value} {m : Str → Option Value} {news : Led} (J : Nat → (Str → Option Value) → Led → Prop) (hh : A.handled = none) (hl : s.heap.IsTuple l vs.toArray) (S : Src h₀ J l)
    (hnc : ∀ i m nx, J i m nx → NoIt nx) (F : Fr h₀ env.locals s.heap m) (N : News h₀ env.locals s.heap news) (h0 : J 0 m news)
    (turn : ∀ i v m₁ nx h tk I io, vs[i]? = some v → J i m₁ nx → (∀ p ∈ nx, p.1 ≠ I) → Fr h₀ env.locals h (fun y => if y = x then some v else m₁ y) → News h₀ env.locals h (nx ++ [(I, io)]) →
      wpAny (model prog w) A (execs body env) (TurnK h₀ env.locals (J (i + 1)) [(I, io)] { s with heap := h, toks := tk } Q) E { s with heap := h, toks := tk })
    (done : ∀ h' tk m' nx, Fr h₀ env.locals h' m' → News h₀ env.locals h' nx → J vs.length m' nx → Q .next { s with heap := h', toks := tk }) :
    wpAny (model prog w) A (pyIter (.ref l)) (fun it s₂ => LoopAtV prog w A h₀ env x body Q E it s₂) E s := by
  obtain ⟨ol, hol, _⟩ := id hl
  have hne : l ≠ s.heap.objs.size := Nat.ne_of_lt (Heap.lt_size hol)
  refine wpAny_pyIter_tuple hl ?_
  have W := Walks.tuple (prog := prog) (w := w) hh s.heap.objs.size l hne vs.toArray
  have hlen : vs.toArray.size = vs.length := by simp
  rw [hlen] at W
  refine loop_at (c := "tuple_iterator") (by decide) J W (fun i h st => let ⟨⟨o, a, b, _⟩, _⟩ := st; ⟨o, a, b⟩) ⟨⟨_, Heap.get?_push_size _ rfl, rfl, rfl⟩, hl.at fun o e => Heap.get?_push_of_some _ e⟩ (next_is_new F) ?_ ?_ hnc (F.push _)
    (fun p hp => ⟨Heap.get?_push_of_some _ (N p hp).1, (N p hp).2⟩) h0 (fun i v m₁ nx h tk io hi hP hj ho F₁ N₁ => turn i v m₁ nx h tk _ io (by simpa using hP) hj ho F₁ N₁) done
  · intro hm
    rcases List.mem_cons.mp hm with e | hm
    · exact locals_lt F e
    · exact src_ne S F N h0 (List.mem_singleton.mp hm).symm
  · intro b hb
    rcases List.mem_cons.mp hb with rfl | hb
    · exact .inl rfl
    · rw [List.mem_singleton.mp hb]; exact .inr S

theorem iter_dict {d : Addr} {kvs : List (Str × Value)} {ep : Nat} {m : Str → Option Value} {news : Led} (J : Nat → (Str → Option Value) → Led → Prop) (hh : A.handled = none) (lo : (d == sysModules) = false) (hd : s.heap.DictAt (strKind prog w) d kvs ep) (S : Src h₀ J d)
    (hnc : ∀ i m nx, J i m nx → NoIt nx) (F : Fr h₀ env.locals s.heap m) (N : News h₀ env.locals s.heap news) (h0 : J 0 m news)
    (turn : ∀ i k v t m₁ nx h tk I io, kvs[i]? = some (k, v) → J i m₁ nx → (∀ p ∈ nx, p.1 ≠ I) → Fr h₀ env.locals h (fun y => if y = x then some (.str k t) else m₁ y) → News h₀ env.locals h (nx ++ [(I, io)]) →
      wpAny (model prog w) A (execs body env) (TurnK h₀ env.locals (J (i + 1)) [(I, io)] { s with heap := h, toks := tk } Q) E { s with heap := h, toks := tk })
    (done : ∀ h' tk m' nx, Fr h₀ env.locals h' m' → News h₀ env.locals h' nx → J kvs.length m' nx → Q .next { s with heap := h', toks := tk }) :
    wpAny (model prog w) A (pyIter (.ref d)) (fun it s₂ => LoopAtV prog w A h₀ env x body Q E it s₂) E s := by
  have hne : d ≠ s.heap.objs.size := Nat.ne_of_lt hd.lt_size
  refine wpAny_pyIter_dict lo hd ?_
  have W := Walks.dictKeys (prog := prog) (w := w) (knd := strKind prog w) hh s.heap.objs.size d hne kvs ep
  refine loop_at (c := "dict_keyiterator") (by decide) J W (fun i h st => let ⟨⟨o, a, b, _⟩, _⟩ := st; ⟨o, a, b⟩) ⟨⟨_, Heap.get?_push_size _ rfl, rfl, rfl⟩, hd.push _⟩ (next_is_new F) ?_ ?_ hnc (F.push _)
    (fun p hp => ⟨Heap.get?_push_of_some _ (N p hp).1, (N p hp).2⟩) h0 (fun i v m₁ nx h tk io hi hP hj ho F₁ N₁ => ?_) done
  · intro hm
    rcases List.mem_cons.mp hm with e | hm
    · exact locals_lt F e
    · exact src_ne S F N h0 (List.mem_singleton.mp hm).symm
  · intro b hb
    rcases List.mem_cons.mp hb with rfl | hb
    · exact .inl rfl
    · rw [List.mem_singleton.mp hb]; exact .inr S
  · obtain ⟨k, x, hx, hk⟩ := hP
    obtain ⟨t, rfl⟩ := Value.isStrOf_shape hk
    exact turn i k x t m₁ nx h tk _ io hx hj ho F₁ N₁

theorem iter_range {r : Addr} {a b c : Int} {t u v : Tok} {n : Nat} {m : Str → Option Value} {news : Led} (J : Nat → (Str → Option Value) → Led → Prop) (hh : A.handled = none) (hr : IsRange s.heap r a b c t u v)
    (hsmall : Builtin.Range.small a b c = true) (hn : Builtin.Range.rangeSize a b c = (n : Int))
    (hnc : ∀ i m nx, J i m nx → NoIt nx) (F : Fr h₀ env.locals s.heap m) (N : News h₀ env.locals s.heap news) (h0 : J 0 m news)
    (turn : ∀ i t m₁ nx h tk I io, i < n → J i m₁ nx → (∀ p ∈ nx, p.1 ≠ I) → Fr h₀ env.locals h (fun y => if y = x then some (.int (a + i * c) t) else m₁ y) → News h₀ env.locals h (nx ++ [(I, io)]) →
      wpAny (model prog w) A (execs body env) (TurnK h₀ env.locals (J (i + 1)) [(I, io)] { s with heap := h, toks := tk } Q) E { s with heap := h, toks := tk })
    (done : ∀ h' tk m' nx, Fr h₀ env.locals h' m' → News h₀ env.locals h' nx → J n m' nx → Q .next { s with heap := h', toks := tk }) :
    wpAny (model prog w) A (pyIter (.ref r)) (fun it s₂ => LoopAtV prog w A h₀ env x body Q E it s₂) E s := by
  refine wpAny_pyIter_range hr hsmall ?_
  have W := Walks.range (prog := prog) (w := w) hh s.heap.objs.size a c n
  refine loop_at (c := "range_iterator") (by decide) J W (fun i h st => ⟨_, st, rfl⟩) (by rw [hn]; simpa using Heap.get?_push_size _ rfl) (next_is_new F) ?_ ?_ hnc (F.push _)
    (fun p hp => ⟨Heap.get?_push_of_some _ (N p hp).1, (N p hp).2⟩) h0 (fun i v m₁ nx h tk io hi hP hj ho F₁ N₁ => ?_) done
  · intro hm
    exact locals_lt F (List.mem_singleton.mp hm)
  · intro b hb
    exact .inl (List.mem_singleton.mp hb)
  · obtain ⟨t, rfl⟩ := hP
    exact turn i t m₁ nx h tk _ io hi hj ho F₁ N₁
end

/-! ledgers without doubles -/
theorem adr_append {a b : Led} : adr (a ++ b) = adr a ++ adr b := List.map_append
theorem nd_app {a b : Led} : (adr (a ++ b)).Nodup ↔ (adr a).Nodup ∧ (adr b).Nodup ∧ Apart a b := by
  rw [adr_append, List.nodup_append]
  refine ⟨fun ⟨h1, h2, h3⟩ => ⟨h1, h2, fun p hp q hq => h3 _ (mem_adr hp) _ (mem_adr hq)⟩, fun ⟨h1, h2, h3⟩ => ⟨h1, h2, fun x hx y hy => ?_⟩⟩
  obtain ⟨p, hp, rfl⟩ := List.mem_map.mp hx
  obtain ⟨q, hq, rfl⟩ := List.mem_map.mp hy
  exact h3 p hp q hq
theorem apart_nil_left {b : Led} : Apart [] b := fun _ h => nomatch h
theorem apart_nil_right {a : Led} : Apart a [] := fun _ _ _ h => nomatch h
theorem apart_left {a a' b : Led} (h : Apart a b) (h' : Apart a' b) : Apart (a ++ a') b := fun p hp => (List.mem_append.mp hp).elim (h p) (h' p)
theorem apart_right {a b b' : Led} (h : Apart a b) (h' : Apart a b') : Apart a (b ++ b') := fun p hp q hq => (List.mem_append.mp hq).elim (h p hp q) (h' p hp q)
theorem apart_symm {a b : Led} (h : Apart a b) : Apart b a := fun p hp q hq e => h q hq p hp e.symm
theorem apart_cons {a : Addr} {o : Obj} {l b : Led} (h : ∀ q ∈ b, q.1 ≠ a) (h' : Apart l b) : Apart ((a, o) :: l) b := fun p hp q hq => by
  rcases List.mem_cons.mp hp with rfl | hp
  · exact fun e => h q hq e.symm
  · exact h' p hp q hq
theorem apart_of_lt {a : Addr} {o : Obj} {b : Led} (h : ∀ q ∈ b, q.1 < a) : Apart [(a, o)] b := apart_cons (fun q hq => Nat.ne_of_lt (h q hq)) apart_nil_left
theorem apart_adr {a b b' : Led} (h : Apart a b) (e : ∀ x ∈ adr b', x ∈ adr b) : Apart a b' := fun p hp q hq r => by
  obtain ⟨z, hz, e'⟩ := List.mem_map.mp (e _ (mem_adr hq))
  exact h p hp z hz (r.trans e'.symm)
section
local macro_rules | `(tactic| walk_at "my spec") => `(tactic| (
  (case k1 => k_is)
  (case k2 => k_is)
  (case k3 => decide)
  (case k4 => exact fun s => BindsTo.of_eq rfl)
  (case k5 => exact locs rfl)
  (case c1 => rfl)
  (case c2 => rfl)
  (case c3 => rfl)
  (case c4 => decide)))
local macro_rules | `(tactic| k_ne) => `(tactic| (refine neN ?_; (try dsimp only); first | assumption | exact fun e => absurd e.symm (by assumption)))
theorem Spec.use {prog : Program} {w : World} {K : Frag} {d u : Nat} {f : Addr} {args : List Value} {ro foc : Led} {Post : Value → Led → Prop} (S : Spec prog w K d u f args ro foc Post)
    {A : Around} {p : Program} {loose : List Str} {mean : ExcName → Option Value} {mg mb : Str → Option Value} {env : Env} {outer : List Env} {A₀ : Around} {base h₀ : Heap} {L : Addr} {m : Str → Option Value}
    {s : Shared} {news : Led} (own : Led) {Q E : Value → Shared → Prop} (hh : A.handled = none) (hA : A.frames = some (env :: outer)) (hd : A.depth ≤ d) (hu : A.units ≤ u)
    (C : At K p loose mean mg mb A₀ base h₀ L env outer) (F : Fr h₀ L s.heap m) (N : News h₀ L s.heap news) (hown : ∀ q ∈ own, q ∈ news) (hfoc : ∀ q ∈ foc, q ∈ news) (ap : Apart own foc) (hro : ∀ q ∈ ro, q ∈ own)
    (ret : ∀ v foc' h' tk', Fr h₀ L h' m → News h₀ L h' (own ++ foc') → Apart own foc' → Post v foc' → Q v { s with heap := h', toks := tk' }) :
    wpAny (model prog w) A (call (.ref f) args) Q E s := by
  obtain ⟨hd0, dp, fr, gd, un⟩ := A
  dsimp only at hh hA hd hu
  subst hh hA
  exact wpAny_up (d := d) (u := u) (S p loose mean mg mb gd env outer A₀ base h₀ L m s news own Q E C F N hown hfoc ap hro ret) hd hu

/-- the dict of a Scalar -/
noncomputable abbrev scalD (P : Params) (k : Nat → Tok) (num val : Int) (wl : Addr) : Obj :=
  dictOf [⟨PyData.keyHash P "number", .str "number" (k 0), .int num (k 1)⟩, ⟨PyData.keyHash P "count", .str "count" (k 2), .int 1 (k 3)⟩, ⟨PyData.keyHash P "blessed", .str "blessed" (k 4), .none⟩,
    ⟨PyData.keyHash P "weak", .str "weak" (k 5), .ref wl⟩, ⟨PyData.keyHash P "is_destroyed", .str "is_destroyed" (k 6), .bool false⟩, ⟨PyData.keyHash P "is_freed", .str "is_freed" (k 7), .bool false⟩,
    ⟨PyData.keyHash P "value", .str "value" (k 8), .int val (k 9)⟩, ⟨PyData.keyHash P "magic", .str "magic" (k 10), .none⟩] 8
noncomputable abbrev scalL (P : Params) (k : Nat → Tok) (num val : Int) (wl sx dsx : Addr) : Led := [(sx, instObj 66 dsx), (dsx, scalD P k num val wl)]
/-- the counter and its heap, as far as a drop asks -/
noncomputable abbrev cntD (P : Params) (k : Nat → Tok) (hi pl em : Addr) : Obj :=
  dictOf [⟨PyData.keyHash P "heap", .str "heap" (k 0), .ref hi⟩, ⟨PyData.keyHash P "destroy", .str "destroy" (k 1), .none⟩, ⟨PyData.keyHash P "places", .str "places" (k 2), .ref pl⟩, ⟨PyData.keyHash P "empties", .str "empties" (k 3), .ref em⟩] 4
noncomputable abbrev heapD (P : Params) (k : Nat → Tok) (last : Int) (li zl : Addr) : Obj :=
  dictOf [⟨PyData.keyHash P "limits", .str "limits" (k 0), .ref li⟩, ⟨PyData.keyHash P "last", .str "last" (k 1), .int last (k 2)⟩, ⟨PyData.keyHash P "zero", .str "zero" (k 3), .ref zl⟩] 3
/-- the parameters of the counter's ledger -/
structure Cn where
  (ci cdx hi hdx li ldx pl em zl : Addr)
  (kc kh kl : Nat → Tok)
noncomputable abbrev dropL (P : Params) (c : Cn) (kh : Nat → Tok) (last : Int) (zs : Array Value) (zn : Nat) : Led :=
  [(c.ci, instObj 463 c.cdx), (c.cdx, cntD P c.kc c.hi c.pl c.em), (c.hi, instObj 225 c.hdx), (c.hdx, heapD P kh last c.li c.zl), (c.zl, PySem.W.listOf zs zn)]

section
variable {prog : Program} {w : World} {c : Cn} {kh : Nat → Tok} {last : Int} {zs : Array Value} {zn : Nat} {k : Nat → Tok} {num val : Int} {wl sx dsx : Addr}
theorem drop_member_spec (hz : zs.size ≤ 1000000) (hn : (adr (dropL w.params c kh last zs zn ++ scalL w.params k num val wl sx dsx)).Nodup) :
    Spec prog w (K w.params) 900 8000 310 [.ref c.ci, .ref sx] [] (dropL w.params c kh last zs zn ++ scalL w.params k num val wl sx dsx)
      (fun v foc => ∃ tk, v = .int val tk ∧ foc = dropL w.params c kh last (zs.push (.ref sx)) (zn + 1)) := by
  refine' spec_of (binds := [("counter", .ref c.ci), ("member", .ref sx)]) ?k1 ?k2 ?k3 ?k4 ?k5 ?_ ?c1 ?c2 ?c3 ?c4
  walk_at "my spec"
  intro p loose mean mg mb gd env outer A₀ A₁ base g L' h₁ s₁ hs F N lt ro B X T
  subst hs
  simp only [adr, List.map_cons, List.map_nil, List.cons_append, List.nil_append, List.nodup_cons, List.mem_cons, List.not_mem_nil, or_false, not_or, List.nodup_nil, not_false_eq_true, and_true] at hn
  obtain ⟨⟨n1, n2, n3, n4, n5, n6⟩, ⟨n7, n8, n9, n10, n11⟩, ⟨n12, n13, n14, n15⟩, ⟨n16, n17, n18⟩, ⟨n19, n20⟩, n21⟩ := hn
  simp only [List.cons_append, List.nil_append] at N
  k_steps
  refine' ⟨_, _, _, _, rfl, ?F, ?N, _, rfl, rfl⟩
  case F => k_asm
  case N => exact subNews (by k_asm) (by k_allIn)
end
end
/-- what is to be shown of a call, as a letter: it keeps the terms of a walk small -/
theorem Spec.gen {prog : Program} {w : World} {K : Frag} {d u : Nat} {f : Addr} {args : List Value} {ro foc : Led} {Post : Value → Led → Prop}
    (h : ∀ Po : Value → Led → Prop, (∀ v foc', Post v foc' → Po v foc') → Spec prog w K d u f args ro foc Po) : Spec prog w K d u f args ro foc Post := h Post fun _ _ h => h
theorem TurnK.gen {M : Model} {A : Around} {t : Sem Flow} {E : Value → Shared → Prop} {s s₁ : Shared} {h₀ : Heap} {L : Addr} {Jn : (Str → Option Value) → Led → Prop} {own : Led} {Q : Flow → Shared → Prop}
    (h : ∀ (Jx : (Str → Option Value) → Led → Prop) (Qx : Flow → Shared → Prop) (Ex : Value → Shared → Prop), (∀ m nx, Jn m nx → Jx m nx) → wpAny M A t (TurnK h₀ L Jx own s₁ Qx) Ex s) : wpAny M A t (TurnK h₀ L Jn own s₁ Q) E s := h Jn Q E fun _ _ h => h
theorem nin_of {l : Led} {d : Nat} (h : ¬ d ∈ l.map (fun p => p.1)) : ∀ p ∈ l, p.1 ≠ d := fun p hp e => h (List.mem_map.mpr ⟨p, hp, e⟩)
noncomputable def Stop (P : Prop) : Prop := P
theorem stop {P : Prop} (h : Stop P) : P := h
theorem apart_app {a b c : Led} : Apart a (b ++ c) ↔ Apart a b ∧ Apart a c :=
  ⟨fun h => ⟨h.sub (fun _ h => h) fun q hq => List.mem_append_left _ hq, h.sub (fun _ h => h) fun q hq => List.mem_append_right _ hq⟩, fun h => apart_right h.1 h.2⟩
theorem app_apart {a b c : Led} : Apart (a ++ b) c ↔ Apart a c ∧ Apart b c :=
  ⟨fun h => ⟨h.sub (fun q hq => List.mem_append_left _ hq) fun _ h => h, h.sub (fun q hq => List.mem_append_right _ hq) fun _ h => h⟩, fun h => apart_left h.1 h.2⟩
section
local macro_rules | `(tactic| walk_at "my spec") => `(tactic| (
  (case k1 => k_is)
  (case k2 => k_is)
  (case k3 => decide)
  (case k4 => exact fun s => BindsTo.of_eq rfl)
  (case k5 => exact locs rfl)
  (case c1 => rfl)
  (case c2 => rfl)
  (case c3 => rfl)
  (case c4 => decide)))
local macro_rules | `(tactic| k_ne) => `(tactic| (refine neN ?_; (try dsimp only); first | assumption | exact fun e => absurd e.symm (by assumption)))
local macro_rules | `(tactic| k_all) => `(tactic| exact nin_of (by assumption))
local macro_rules | `(tactic| walk_at "my tail") => `(tactic| first | assumption | (refine List.Mem.tail _ ?_; walk_at "my tail"))
local macro_rules | `(tactic| walk_at "my sub") => `(tactic| first | exact List.forall_mem_nil _ | (refine List.forall_mem_cons.mpr ⟨by k_mem, ?_⟩; walk_at "my sub") | (intro p hp; walk_at "my tail"))
local macro_rules | `(tactic| walk_at "my in") => `(tactic| first | with_reducible assumption | (with_reducible refine List.mem_append_left _ ?_; walk_at "my in") | (with_reducible refine List.mem_append_right _ ?_; walk_at "my in") | (with_reducible refine List.Mem.tail _ ?_; walk_at "my in") | with_reducible exact List.Mem.head _)
local macro_rules | `(tactic| walk_at "my subs") => `(tactic| first | (with_reducible refine List.forall_mem_append.mpr ⟨?_, ?_⟩ <;> walk_at "my subs") | (intro q hq; walk_at "my in"))
local macro_rules | `(tactic| walk_at "my apart") => `(tactic| first | with_reducible assumption | with_reducible exact apart_symm (by with_reducible assumption) | (with_reducible refine apart_app.mpr ⟨?_, ?_⟩ <;> walk_at "my apart") | (with_reducible refine app_apart.mpr ⟨?_, ?_⟩ <;> walk_at "my apart"))
section
local macro_rules | `(tactic| walk_at "exec For") => `(tactic| refine stop ?_)
local macro_rules | `(tactic| walk_at "pyIter ref") => `(tactic| refine stop ?_)
section
local macro_rules | `(tactic| walk_at "exec For Name Name cons nil") => `(tactic| refine stop ?_)
local macro_rules | `(tactic| walk_at "subscriptTail Name Name ref str") => `(tactic| refine stop ?_)
local macro_rules | `(tactic| walk_at "call ref") => `(tactic| ((with_reducible show wpAny _ _ (call (Value.ref 310) _ _) _ _ _); refine stop ?_))
theorem dict_cls {prog : Program} {w : World} {o : Obj} {kvs : List (Str × Value)} (h : o.IsDictOf (strKind prog w) kvs) : o.cls = .type "dict" := let ⟨_, _, e, _⟩ := h; e.1
theorem dictAt_of {prog : Program} {w : World} {h₀ h : Heap} {L d : Addr} {o : Obj} {news : Led} {kvs : List (Str × Value)} (N : News h₀ L h news) (hd : o.IsDictOf (strKind prog w) kvs) (hp : (d, o) ∈ news) :
    ∃ ep, h.DictAt (strKind prog w) d kvs ep := (Heap.dictOf_iff.mpr ⟨o, (N _ hp).1, hd⟩ : h.DictOf (strKind prog w) d kvs).dictAt
theorem noIt_nil : NoIt [] := fun _ h => nomatch h
theorem noIt_cons {a : Addr} {o : Obj} {l : Led} (h : ∀ c ∈ itCls, o.cls ≠ .type c) (hl : NoIt l) : NoIt ((a, o) :: l) := fun p hp => by
  rcases List.mem_cons.mp hp with rfl | hp
  · exact h
  · exact hl p hp
theorem noIt_append {l l' : Led} (h : NoIt l) (h' : NoIt l') : NoIt (l ++ l') := fun p hp => (List.mem_append.mp hp).elim (h p) (h' p)
theorem noIt_dict {o : Obj} (h : o.cls = .type "dict") : ∀ c ∈ itCls, o.cls ≠ .type c := by rw [h]; decide
theorem noIt_ref {o : Obj} {a : Addr} (h : o.cls = .ref a) : ∀ c ∈ itCls, o.cls ≠ .type c := by rw [h]; intro _ _ e; cases e
theorem noIt_list {o : Obj} (h : o.cls = .type "list") : ∀ c ∈ itCls, o.cls ≠ .type c := by rw [h]; decide
/-- a scalar of a table -/
structure Sc where
  key : Str
  (sx dsx wl : Addr)
  k : Nat → Tok
  (num val : Int)
noncomputable abbrev Sc.led (P : Params) (e : Sc) : Led := scalL P e.k e.num e.val e.wl e.sx e.dsx
noncomputable def scL (P : Params) (es : List Sc) : Led := es.flatMap (Sc.led P)
noncomputable def kvsOf (es : List Sc) : List (Str × Value) := es.map fun e => (e.key, Value.ref e.sx)
theorem noIt_scL (P : Params) : ∀ es, NoIt (scL P es)
  | [] => noIt_nil
  | e :: r => noIt_cons (noIt_ref rfl) (noIt_cons (noIt_dict rfl) (noIt_scL P r))
theorem noIt_dropL {P : Params} {c : Cn} {kh : Nat → Tok} {last : Int} {zs : Array Value} {zn : Nat} : NoIt (dropL P c kh last zs zn) :=
  noIt_cons (noIt_ref rfl) (noIt_cons (noIt_dict rfl) (noIt_cons (noIt_ref rfl) (noIt_cons (noIt_dict rfl) (noIt_cons (noIt_list rfl) noIt_nil))))
theorem setX {x : Str} {v : Value} {m m₀ : Str → Option Value} (h : ∀ z, z ≠ x → m z = m₀ z) : (fun y => if y = x then some v else m y) = fun y => if y = x then some v else m₀ y := by
  funext y
  by_cases e : y = x
  · simp [e]
  · simp [e, h y e]
theorem kvs_get {es : List Sc} {i : Nat} {k : Str} {v : Value} (h : (kvsOf es)[i]? = some (k, v)) : ∃ e, es[i]? = some e ∧ k = e.key ∧ v = .ref e.sx ∧ es.drop i = e :: es.drop (i + 1) := by
  unfold kvsOf at h
  rw [List.getElem?_map] at h
  obtain ⟨e, he, q⟩ := Option.map_eq_some_iff.mp h
  cases q
  refine ⟨e, he, rfl, rfl, ?_⟩
  obtain ⟨hi, rfl⟩ := List.getElem?_eq_some_iff.mp he
  exact List.drop_eq_getElem_cons hi
section
variable {prog : Program} {w : World} {c : Cn} {kh : Nat → Tok} {last : Int} {zs : Array Value} {zn : Nat} {k : Nat → Tok} {num : Int} {wl x dx t : Addr} {tob : Obj} {es : List Sc}
theorem clear_hash_spec (hd : tob.IsDictOf (strKind prog w) (kvsOf es)) (hz : zs.size + es.length ≤ 900000) (he : es.length ≤ 100) (lo : (t == sysModules) = false)
    (hn : (adr (dropL w.params c kh last zs zn ++ hashL w.params k num wl x dx t tob ++ scL w.params es)).Nodup) :
    Spec prog w (K w.params) 850 7000 345 [.ref c.ci, .ref x] [] (dropL w.params c kh last zs zn ++ hashL w.params k num wl x dx t tob ++ scL w.params es)
      (fun v foc => v = .none ∧ ∃ zs' zn' k' t' tob', foc = dropL w.params c kh last zs' zn' ++ hashL w.params k' num wl x dx t' tob' ∧ zs'.size = zs.size + es.length ∧ tob'.IsDictOf (strKind prog w) [] ∧ (t' == sysModules) = false ∧
        (adr foc).Nodup) := by
  refine Spec.gen fun Po hPo => ?_
  refine' spec_of (binds := [("counter", .ref c.ci), ("table_thing", .ref x)]) ?k1 ?k2 ?k3 ?k4 ?k5 ?_ ?c1 ?c2 ?c3 ?c4
  walk_at "my spec"
  intro p loose mean mg mb gd env outer A₀ A₁ base g L' h₁ s₁ hs F N lt ro B X T
  subst hs
  have hn0 := hn
  simp only [adr, List.map_cons, List.map_nil, List.map_append, List.cons_append, List.nil_append, List.nodup_cons, List.mem_cons, List.not_mem_nil, List.mem_append, or_false, not_or, List.nodup_nil, not_false_eq_true, and_true] at hn
  obtain ⟨⟨q1, q2, q3, q4, q5, q6, q7, q8⟩, ⟨q9, q10, q11, q12, q13, q14, q15⟩, ⟨q16, q17, q18, q19, q20, q21⟩, ⟨q22, q23, q24, q25, q26⟩, ⟨q27, q28, q29, q30⟩, ⟨q31, q32, q33⟩, ⟨q34, q35⟩, q36, q37⟩ := hn
  simp only [List.cons_append, List.nil_append] at N
  k_steps
  rename_i h5 d' h4 o' lo' hs' fs' hi' fi' l1 h3 h2 F2 N2
  show wpAny _ _ _ _ _ _
  refine For_invVF F2 (by rfl) (by rfl) ?_
  k_steps
  show wpAny _ _ _ _ _ _
  obtain ⟨ep, hat⟩ := dictAt_of (d := t) N2 hd (by k_mem)
  obtain ⟨m₀, hm₀, F2⟩ : ∃ m₀, m₀ = _ ∧ Fr g L' h2 m₀ := ⟨_, rfl, F2⟩
  have all : ∀ q ∈ dropL w.params c kh last zs zn ++ hashL w.params k num wl x dx t tob ++ scL w.params es, q.1 < d' := ktn_ltOf (l := dropL w.params c kh last zs zn ++ hashL w.params k num wl x dx t tob ++ scL w.params es) l1
  have N3 : News g L' h2 (dropL w.params c kh last zs zn ++ ((x, instObj 104 dx) :: (dx, hashD w.params (upd k 10 (s₁.toks + 1 + 1 + 2)) num wl d') :: (d', o') :: (t, tob) :: scL w.params (es.drop 0))) := subNews N2 (by simp only [List.cons_append, List.nil_append]; walk_at "my sub")
  refine iter_dict (ep := ep) (fun i m nx => ∃ zs' zn', zs'.size = zs.size + i ∧ (∀ z : Str, z ≠ "key" → m z = m₀ z) ∧ (adr nx).Nodup ∧
      nx = dropL w.params c kh last zs' zn' ++ ((x, instObj 104 dx) :: (dx, hashD w.params (upd k 10 (s₁.toks + 1 + 1 + 2)) num wl d') :: (d', o') :: (t, tob) :: scL w.params (es.drop i)))
    rfl lo hat (.inr ⟨tob, ?_⟩) ?_ F2 N3 ⟨zs, zn, by omega, fun _ _ => rfl, ?_, rfl⟩ ?_ ?_
  · rintro i m nx ⟨zs', zn', _, _, _, rfl⟩
    simp only [List.cons_append, List.nil_append]
    k_mem
  · rintro i m nx ⟨zs', zn', _, _, _, rfl⟩
    exact noIt_append noIt_dropL (noIt_cons (noIt_ref rfl) (noIt_cons (noIt_dict rfl) (noIt_cons (noIt_dict (dict_cls hs')) (noIt_cons (noIt_dict (dict_cls hd)) (noIt_scL _ _)))))
  · have hn1 : (adr (dropL w.params c kh last zs zn ++ ([(x, instObj 104 dx), (dx, hashD w.params k num wl t)] ++ ((t, tob) :: scL w.params es)))).Nodup := by
      have := hn0; rw [List.append_assoc] at this; exact this
    obtain ⟨m1, m2, m3⟩ := nd_app.mp hn1
    obtain ⟨m4, m5, m6⟩ := nd_app.mp m2
    have l1 : Apart [(d', o')] (dropL w.params c kh last zs zn) := apart_of_lt fun q hq => all q (List.mem_append_left _ (List.mem_append_left _ hq))
    have l2 : Apart [(d', o')] [(x, instObj 104 dx), (dx, hashD w.params k num wl t)] := apart_of_lt fun q hq => all q (List.mem_append_left _ (List.mem_append_right _ (by rcases List.mem_cons.mp hq with rfl | hq; exact .head _; rw [List.mem_singleton.mp hq]; exact .tail _ (.head _))))
    have l3 : Apart [(d', o')] ((t, tob) :: scL w.params es) := apart_of_lt fun q hq => all q (by rcases List.mem_cons.mp hq with rfl | hq; exact List.mem_append_left _ (List.mem_append_right _ (.tail _ (.tail _ (.head _)))); exact List.mem_append_right _ hq)
    have m7 : (adr ([(x, instObj 104 dx), (dx, hashD w.params k num wl t)] ++ ([(d', o')] ++ ((t, tob) :: scL w.params es)))).Nodup := nd_app.mpr ⟨m4, nd_app.mpr ⟨by simp [adr], m5, l3⟩, apart_right (apart_symm l2) m6⟩
    exact nd_app.mpr ⟨m1, m7, apart_adr (b := [(x, instObj 104 dx), (dx, hashD w.params k num wl t)] ++ ([(d', o')] ++ ((t, tob) :: scL w.params es)))
      (apart_right (m3.sub (fun _ h => h) fun q hq => List.mem_append_left _ hq) (apart_right (apart_symm l1) (m3.sub (fun _ h => h) fun q hq => List.mem_append_right _ hq))) fun y hy => hy⟩
  · rintro i kk v tk m₁ nx h tks I io hx ⟨zs', zn', hz', hm, hnd, rfl⟩ hI F1 N1
    obtain ⟨e, he', rfl, rfl, hdrop⟩ := kvs_get hx
    have hi : i < es.length := (List.getElem?_eq_some_iff.mp he').1
    rw [setX hm, hm₀] at F1
    rw [hdrop] at N1 hnd hI
    have N4 := N1
    simp only [scL, List.flatMap_cons, List.cons_append, List.nil_append] at N1
    k_steps
    show wpAny _ _ _ _ _ _
    refine kda_item N1 (by k_mem) hd (strKind_is _ _ _ _) (valueAt_of_get hat.nodup hx) ?_
    k_steps
    show wpAny _ _ _ _ _ _
    obtain ⟨nD, nR, aDR⟩ := nd_app.mp hnd
    have nR' : (adr ([(x, instObj 104 dx), (dx, hashD w.params (upd k 10 (s₁.toks + 1 + 1 + 2)) num wl d'), (d', o'), (t, tob)] ++ (Sc.led w.params e ++ scL w.params (es.drop (i + 1))))).Nodup := nR
    have aDR' : Apart (dropL w.params c kh last zs' zn') ([(x, instObj 104 dx), (dx, hashD w.params (upd k 10 (s₁.toks + 1 + 1 + 2)) num wl d'), (d', o'), (t, tob)] ++ (Sc.led w.params e ++ scL w.params (es.drop (i + 1)))) := aDR
    obtain ⟨nH, nS, aHS⟩ := nd_app.mp nR'
    obtain ⟨nE, nT, aET⟩ := nd_app.mp nS
    have aDE := aDR'.sub (fun _ h => h) fun q hq => List.mem_append_right _ (List.mem_append_left _ hq)
    have aDH := aDR'.sub (fun _ h => h) fun q hq => List.mem_append_left _ hq
    have aDT := aDR'.sub (fun _ h => h) fun q hq => List.mem_append_right _ (List.mem_append_right _ hq)
    have aHE := aHS.sub (fun _ h => h) fun q hq => List.mem_append_left _ hq
    have hI' : ∀ q ∈ dropL w.params c kh last zs' zn' ++ ([(x, instObj 104 dx), (dx, hashD w.params (upd k 10 (s₁.toks + 1 + 1 + 2)) num wl d'), (d', o'), (t, tob)] ++ (Sc.led w.params e ++ scL w.params (es.drop (i + 1)))), q.1 ≠ I := hI
    have N4' : News g L' h (dropL w.params c kh last zs' zn' ++ ([(x, instObj 104 dx), (dx, hashD w.params (upd k 10 (s₁.toks + 1 + 1 + 2)) num wl d'), (d', o'), (t, tob)] ++ (Sc.led w.params e ++ scL w.params (es.drop (i + 1)))) ++ [(I, io)]) := N4
    refine Spec.use (drop_member_spec (c := c) (kh := kh) (last := last) (zs := zs') (zn := zn') (k := e.k) (num := e.num) (val := e.val) (wl := e.wl) (sx := e.sx) (dsx := e.dsx) (by omega) (nd_app.mpr ⟨nD, nE, aDE⟩))
      ([(x, instObj 104 dx), (dx, hashD w.params (upd k 10 (s₁.toks + 1 + 1 + 2)) num wl d'), (d', o'), (t, tob)] ++ scL w.params (es.drop (i + 1)) ++ [(I, io)])
      rfl rfl (Nat.le_of_ble_eq_true rfl) (Nat.le_of_ble_eq_true rfl) ⟨B, X, T, rfl, rfl⟩ F1 N4' ?_ ?_ ?_ (fun _ h => nomatch h) ?_
    · intro q hq
      simp only [List.mem_append] at hq ⊢
      rcases hq with (hq | hq) | hq
      · exact .inl (.inr (.inl hq))
      · exact .inl (.inr (.inr (.inr hq)))
      · exact .inr hq
    · intro q hq
      simp only [List.mem_append] at hq ⊢
      rcases hq with hq | hq
      · exact .inl (.inl hq)
      · exact .inl (.inr (.inr (.inl hq)))
    · exact apart_left (apart_left (apart_right (apart_symm aDH) aHE) (apart_right (apart_symm aDT) (apart_symm aET)))
        (apart_cons (fun q hq => hI' q (by simp only [List.mem_append] at hq ⊢; rcases hq with hq | hq; exact .inl hq; exact .inr (.inr (.inl hq)))) apart_nil_left)
    · rintro v foc' h' tk' F5 N5 ap5 ⟨tkv, rfl, rfl⟩
      dsimp only
      k_steps
      refine ⟨_, _, _, _, rfl, F5, subNews N5 ?_, zs'.push (Value.ref e.sx), zn' + 1, by rw [Array.size_push]; omega, ?_, ?_, rfl⟩
      · intro q hq
        have hq' : q ∈ dropL w.params c kh last (zs'.push (Value.ref e.sx)) (zn' + 1) ++ ([(x, instObj 104 dx), (dx, hashD w.params (upd k 10 (s₁.toks + 1 + 1 + 2)) num wl d'), (d', o'), (t, tob)] ++ scL w.params (es.drop (i + 1))) ++ [(I, io)] := hq
        simp only [List.mem_append] at hq' ⊢
        rcases hq' with (hq | hq | hq) | hq
        · exact .inr hq
        · exact .inl (.inl (.inl hq))
        · exact .inl (.inl (.inr hq))
        · exact .inl (.inr hq)
      · intro z hz
        rw [hm₀]
        simp only [if_neg hz]
      · exact nd_app.mpr ⟨nD, nd_app.mpr ⟨nH, nT, aHS.sub (fun _ h => h) fun q hq => List.mem_append_right _ hq⟩, apart_right aDH aDT⟩
  · rintro h' tk' m' nx F5 N5 ⟨zs', zn', hz', hm, hnd, rfl⟩
    dsimp only
    k_steps
    have hnd' : (adr (dropL w.params c kh last zs' zn' ++ (hashL w.params (upd k 10 (s₁.toks + 1 + 1 + 2)) num wl x dx d' o' ++ ((t, tob) :: scL w.params (es.drop (kvsOf es).length))))).Nodup := hnd
    rw [← List.append_assoc] at hnd'
    refine ⟨_, _, _, _, rfl, F5, subNews N5 (by simp only [List.cons_append, List.nil_append]; walk_at "my sub"), hPo _ _ ⟨rfl, zs', zn', upd k 10 (s₁.toks + 1 + 1 + 2), d', o', rfl, by rw [hz']; simp [kvsOf], hs', lo', (nd_app.mp hnd').1⟩⟩
end
end
section
local macro_rules | `(tactic| walk_at "exec For Name Attribute cons nil") => `(tactic| refine stop ?_)
local macro_rules | `(tactic| walk_at "call ref") => `(tactic| ((with_reducible show wpAny _ _ (call (Value.ref 310) _ _) _ _ _); refine stop ?_))
local macro_rules | `(tactic| walk_at "call ref") => `(tactic| ((with_reducible show wpAny _ _ (call (Value.ref 331) _ _) _ _ _); refine stop ?_))
local macro_rules | `(tactic| walk_at "compareOp NotIn str ref") => `(tactic| refine stop ?_)
local macro_rules | `(tactic| walk_at "call builtin:dict.pop") => `(tactic| refine stop ?_)
section
variable {prog : Program} {w : World} {x dx t wl : Addr} {k : Nat → Tok} {num : Int} {tob : Obj} {kvs : List (Str × Value)}
theorem key_place_spec (hd : tob.IsDictOf (strKind prog w) kvs) (hn : kvs.length ≤ 100) (lo : (t == sysModules) = false) (y : Str) (tk : Tok) (hy : y ∈ kvs.map (·.1)) :
    Spec prog w (K w.params) 900 8000 331 [.ref x, .str y tk] [] (hashL w.params k num wl x dx t tob)
      (fun v foc => (∃ (p : Nat) (tk : Tok), v = .int p tk ∧ p ≤ 100) ∧ foc = hashL w.params k num wl x dx t tob) := by
  refine' spec_of (binds := [("table_thing", .ref x), ("key", .str y tk)]) ?k1 ?k2 ?k3 ?k4 ?k5 ?_ ?c1 ?c2 ?c3 ?c4
  walk_at "my spec"
  intro p loose mean mg mb gd env outer A₀ A₁ base g L' h₁ s₁ hs F N lt ro B X T
  subst hs
  k_steps
  rename_i h2 F2 N2
  show wpAny _ _ _ _ _ _
  refine For_invVF F2 (by rfl) (by rfl) ?_
  k_steps
  show wpAny _ _ _ _ _ _
  obtain ⟨ep, hat⟩ := dictAt_of (d := t) N2 hd (by k_mem)
  obtain ⟨m₀, hm₀, F2⟩ : ∃ m₀, m₀ = _ ∧ Fr g L' h2 m₀ := ⟨_, rfl, F2⟩
  refine iter_dict (ep := ep) (fun i m nx => (∃ tkp, m "place" = some (.int (i : Nat) tkp)) ∧ (∀ z : Str, z ≠ "other" → z ≠ "place" → m z = m₀ z) ∧ nx = hashL w.params k num wl x dx t tob ∧ ∀ j a, j < i → kvs[j]? = some a → a.1 ≠ y)
    rfl lo hat (.inr ⟨tob, ?_⟩) ?_ F2 N2 ⟨⟨s₁.toks, by rw [hm₀]; rfl⟩, fun _ _ _ => rfl, rfl, fun j a hj => absurd hj (Nat.not_lt_zero _)⟩ ?_ ?_
  · rintro i m nx ⟨_, _, rfl, _⟩
    k_mem
  · rintro i m nx ⟨_, _, rfl, _⟩
    exact noIt_cons (noIt_ref rfl) (noIt_cons (noIt_dict rfl) (noIt_cons (noIt_dict (dict_cls hd)) noIt_nil))
  · rintro i kk v tk' m₁ nx h tks I io hx ⟨⟨tkp, hp⟩, hm, rfl, hne⟩ hI F1 N1
    have hi : i < kvs.length := (List.getElem?_eq_some_iff.mp hx).1
    have e1 : (fun z => if z = Str.ofString "other" then some (Value.str kk tk') else m₁ z) = fun z => if z = Str.ofString "other" then some (Value.str kk tk') else if z = Str.ofString "place" then some (.int (i : Nat) tkp) else m₀ z := by
      funext z
      by_cases h1 : z = Str.ofString "other"
      · simp [h1]
      · by_cases h2 : z = Str.ofString "place"
        · simp [h1, h2, hp]
        · simp [h1, h2, hm z h1 h2]
    rw [e1, hm₀] at F1
    simp only [List.cons_append, List.nil_append] at N1
    k_steps
    · dsimp only [TurnK]
      exact ⟨_, _, _, _, rfl, F1, subNews N1 (by walk_at "my sub"), ⟨i, tkp, rfl, by omega⟩, rfl⟩
    · rename_i hq h3 F3 N3
      refine ⟨_, _, _, hashL w.params k num wl x dx t tob, rfl, F3, N3, ⟨_, rfl⟩, fun z h1 h2 => ?_, rfl, fun j a hj hja => ?_⟩
      · rw [hm₀]; simp only [if_neg h1, if_neg h2]
      · by_cases e : j = i
        · subst e
          rw [hx] at hja
          cases hja
          intro e2
          subst e2
          simp at hq
        · exact hne j a (by omega) hja
  · rintro h' tk' m' nx F5 N5 ⟨_, _, rfl, hne⟩
    exfalso
    obtain ⟨a, ha, e⟩ := List.mem_map.mp hy
    obtain ⟨j, hj, rfl⟩ := List.getElem_of_mem ha
    exact hne j _ hj (List.getElem?_eq_getElem hj) e
end
/-- a table less a key -/
noncomputable def lessK (es : List Sc) (y : Str) : List Sc := es.filter fun e => decide (e.key ≠ y)
theorem scL_append (P : Params) (A B : List Sc) : scL P (A ++ B) = scL P A ++ scL P B := List.flatMap_append
theorem scL_cons (P : Params) (e : Sc) (B : List Sc) : scL P (e :: B) = Sc.led P e ++ scL P B := rfl
theorem without_kvs (es : List Sc) (y : Str) : without (kvsOf es) y = kvsOf (lessK es y) := by
  unfold without kvsOf lessK
  rw [List.filter_map]
  rfl
theorem kvs_split {es : List Sc} {y : Str} (hn : ((kvsOf es).map (·.1)).Nodup) (hy : y ∈ (kvsOf es).map (·.1)) :
    ∃ A e B, es = A ++ e :: B ∧ e.key = y ∧ lessK es y = A ++ B ∧ valueAt (kvsOf es) y = some (.ref e.sx) := by
  obtain ⟨p, hp, rfl⟩ := List.mem_map.mp hy
  obtain ⟨e, he, rfl⟩ := List.mem_map.mp hp
  obtain ⟨A, B, rfl⟩ := List.append_of_mem he
  have hk : ((A ++ e :: B).map Sc.key).Nodup := by
    have e1 : (kvsOf (A ++ e :: B)).map (·.1) = (A ++ e :: B).map Sc.key := by unfold kvsOf; rw [List.map_map]; rfl
    rwa [e1] at hn
  rw [List.map_append, List.nodup_append, List.map_cons, List.nodup_cons] at hk
  refine ⟨A, e, B, rfl, rfl, ?_, ?_⟩
  · unfold lessK
    rw [List.filter_append, List.filter_cons_of_neg (by simp), List.filter_eq_self.mpr, List.filter_eq_self.mpr]
    · intro b hb
      have : b.key ≠ e.key := fun q => hk.2.1.1 (q ▸ List.mem_map_of_mem hb)
      simpa using this
    · intro a ha
      have : a.key ≠ e.key := hk.2.2 _ (List.mem_map_of_mem ha) _ (by rw [← List.map_cons]; exact List.mem_map_of_mem (.head _))
      simpa using this
  · have hx : (kvsOf (A ++ e :: B))[A.length]? = some (e.key, .ref e.sx) := by unfold kvsOf; simp
    exact valueAt_of_get hn hx
theorem less_none {es : List Sc} {y : Str} (hy : y ∉ (kvsOf es).map (·.1)) : lessK es y = es := by
  unfold lessK
  rw [List.filter_eq_self]
  intro a ha
  have : a.key ≠ y := fun q => hy (by rw [← q]; exact List.mem_map.mpr ⟨(a.key, .ref a.sx), List.mem_map.mpr ⟨a, ha, rfl⟩, rfl⟩)
  simpa using this
theorem dict_nodup {prog : Program} {w : World} {o : Obj} {kvs : List (Str × Value)} (h : o.IsDictOf (strKind prog w) kvs) : (kvs.map (·.1)).Nodup := let ⟨_, _, _, _, _, _, n⟩ := h; n
section
variable {prog : Program} {w : World} {c : Cn} {kh : Nat → Tok} {last : Int} {zs : Array Value} {zn : Nat} {k : Nat → Tok} {num : Int} {wl x dx t : Addr} {tob : Obj} {es : List Sc}
theorem delete_key_spec (hd : tob.IsDictOf (strKind prog w) (kvsOf es)) (hz : zs.size + 1 ≤ 900000) (he : es.length ≤ 100) (lo : (t == sysModules) = false) (y : Str) (tk : Tok)
    (hn : (adr (dropL w.params c kh last zs zn ++ hashL w.params k num wl x dx t tob ++ scL w.params es)).Nodup) :
    Spec prog w (K w.params) 850 7000 338 [.ref c.ci, .ref x, .str y tk] [] (dropL w.params c kh last zs zn ++ hashL w.params k num wl x dx t tob ++ scL w.params es)
      (fun v foc => ∃ zs' zn' tob', foc = dropL w.params c kh last zs' zn' ++ hashL w.params k num wl x dx t tob' ++ scL w.params (lessK es y) ∧ zs'.size ≤ zs.size + 1 ∧ tob'.IsDictOf (strKind prog w) (kvsOf (lessK es y))) := by
  refine' spec_of (binds := [("counter", .ref c.ci), ("table_thing", .ref x), ("key", .str y tk)]) ?k1 ?k2 ?k3 ?k4 ?k5 ?_ ?c1 ?c2 ?c3 ?c4
  walk_at "my spec"
  intro p loose mean mg mb gd env outer A₀ A₁ base g L' h₁ s₁ hs F N lt ro B X T
  subst hs
  have N0 := N
  simp only [List.cons_append, List.nil_append] at N
  k_steps
  show wpAny _ _ _ _ _ _
  refine kdg_notin N (by k_mem) hd lo (strKind_is _ _ _ _) _ valueAt_isSome ?_
  have hnS := hn
  obtain ⟨nDH, nS, aDHS⟩ := nd_app.mp hn
  obtain ⟨nD, nH, aDH⟩ := nd_app.mp nDH
  have aDS : Apart (dropL w.params c kh last zs zn) (scL w.params es) := aDHS.sub (fun q hq => List.mem_append_left _ hq) fun _ h => h
  have aHS : Apart (hashL w.params k num wl x dx t tob) (scL w.params es) := aDHS.sub (fun q hq => List.mem_append_right _ hq) fun _ h => h
  k_steps
  · rename_i tk1 hy
    show wpAny _ _ _ _ _ _
    refine Spec.use (key_place_spec (k := k) (num := num) (wl := wl) (dx := dx) hd (by simpa [kvsOf] using he) lo y _ hy) (dropL w.params c kh last zs zn ++ scL w.params es) rfl rfl (Nat.le_of_ble_eq_true rfl) (Nat.le_of_ble_eq_true rfl) ⟨B, X, T, rfl, rfl⟩ F N0 ?_ ?_ ?_ (fun _ h => nomatch h) ?_
    · intro q hq
      simp only [List.mem_append] at hq ⊢
      rcases hq with hq | hq
      · exact .inl (.inl hq)
      · exact .inr hq
    · intro q hq
      exact List.mem_append_left _ (List.mem_append_right _ hq)
    · exact apart_left aDH (apart_symm aHS)
    · rintro v foc' h2 tk2 F2 N2 _ ⟨⟨pl, tkp, rfl, hpl⟩, rfl⟩
      dsimp only
      have N3 : News g L' h2 ((t, tob) :: (dropL w.params c kh last zs zn ++ ((x, instObj 104 dx) :: (dx, hashD w.params k num wl t) :: scL w.params es))) := subNews N2 (by
        intro q hq
        have hq' : q ∈ (t, tob) :: (dropL w.params c kh last zs zn ++ ([(x, instObj 104 dx), (dx, hashD w.params k num wl t)] ++ scL w.params es)) := hq
        simp only [List.mem_cons, List.mem_append, List.not_mem_nil, or_false] at hq' ⊢
        grind)
      clear N2 N0 N
      simp only [List.cons_append, List.nil_append] at N3
      k_steps
      show wpAny _ _ _ _ _ _
      obtain ⟨eA, e, eB, rfl, hek, hless, hval⟩ := kvs_split (dict_nodup hd) hy
      have hS : scL w.params (eA ++ e :: eB) = scL w.params eA ++ (Sc.led w.params e ++ scL w.params eB) := by rw [scL_append, scL_cons]
      rw [hS] at aDS aHS nS
      obtain ⟨nA, nEB, aAE⟩ := nd_app.mp nS
      obtain ⟨nE, nB, aEB⟩ := nd_app.mp nEB
      refine kob_pop (knd := strKind prog w) (more := []) F2 N3 (UpdF.head ?_) hd (strKind_is _ _ _ _) (.inl rfl) (by rfl) (PySem.F.args_dict_pop_2 _ _) hval ?_ ?_
      · intro q hq e2
        have hq' : q ∈ dropL w.params c kh last zs zn ++ ([(x, instObj 104 dx), (dx, hashD w.params k num wl t)] ++ scL w.params (eA ++ e :: eB)) := hq
        rw [hS] at hq'
        rcases List.mem_append.mp hq' with hq | hq
        · exact aDH q hq (t, tob) (.tail _ (.tail _ (.head _))) e2
        · rcases List.mem_append.mp hq with hq | hq
          · simp only [adr, List.map_cons, List.map_nil, List.nodup_cons, List.mem_cons, List.not_mem_nil, or_false, not_or] at nH
            rcases List.mem_cons.mp hq with rfl | hq
            · exact nH.1.2 e2
            · rw [List.mem_singleton.mp hq] at e2; exact nH.2.1 e2
          · exact aHS (t, tob) (.tail _ (.tail _ (.head _))) q hq e2.symm
      · show (kvsOf (eA ++ e :: eB)).length ≤ sizeLine
        rw [sizeLine_eq]; simp only [kvsOf, List.length_map]; omega
      · intro h3 tob' F3 N4 hd'
        rw [without_kvs, hless] at hd'
        k_steps
        show wpAny _ _ _ _ _ _
        have N5 : News g L' h3 (dropL w.params c kh last zs zn ++ ([(x, instObj 104 dx), (dx, hashD w.params k num wl t), (t, tob')] ++ (scL w.params eA ++ (Sc.led w.params e ++ scL w.params eB)))) := subNews N4 (by
          intro q hq
          rw [← hS] at hq
          show q ∈ (t, tob') :: (dropL w.params c kh last zs zn ++ ([(x, instObj 104 dx), (dx, hashD w.params k num wl t)] ++ scL w.params (eA ++ e :: eB)))
          simp only [List.mem_cons, List.mem_append, List.not_mem_nil, or_false] at hq ⊢
          grind)
        have aDH' : Apart (dropL w.params c kh last zs zn) [(x, instObj 104 dx), (dx, hashD w.params k num wl t), (t, tob')] := apart_adr aDH fun y hy => hy
        have aHS' : Apart [(x, instObj 104 dx), (dx, hashD w.params k num wl t), (t, tob')] (scL w.params eA ++ (Sc.led w.params e ++ scL w.params eB)) := apart_symm (apart_adr (apart_symm aHS) fun y hy => hy)
        have sE : ∀ q ∈ Sc.led w.params e, q ∈ scL w.params eA ++ (Sc.led w.params e ++ scL w.params eB) := fun q hq => List.mem_append_right _ (List.mem_append_left _ hq)
        have sA : ∀ q ∈ scL w.params eA, q ∈ scL w.params eA ++ (Sc.led w.params e ++ scL w.params eB) := fun q hq => List.mem_append_left _ hq
        have sB : ∀ q ∈ scL w.params eB, q ∈ scL w.params eA ++ (Sc.led w.params e ++ scL w.params eB) := fun q hq => List.mem_append_right _ (List.mem_append_right _ hq)
        have id1 : ∀ q ∈ dropL w.params c kh last zs zn, q ∈ dropL w.params c kh last zs zn := fun _ h => h
        refine Spec.use (drop_member_spec (c := c) (kh := kh) (last := last) (zs := zs) (zn := zn) (k := e.k) (num := e.num) (val := e.val) (wl := e.wl) (sx := e.sx) (dsx := e.dsx) (by omega) (nd_app.mpr ⟨nD, nE, aDS.sub id1 sE⟩))
          ([(x, instObj 104 dx), (dx, hashD w.params k num wl t), (t, tob')] ++ (scL w.params eA ++ scL w.params eB))
          rfl rfl (Nat.le_of_ble_eq_true rfl) (Nat.le_of_ble_eq_true rfl) ⟨B, X, T, rfl, rfl⟩ F3 N5 ?_ ?_ ?_ (fun _ h => nomatch h) ?_
        · intro q hq
          simp only [List.mem_append] at hq ⊢
          rcases hq with hq | hq | hq
          · exact .inr (.inl hq)
          · exact .inr (.inr (.inl hq))
          · exact .inr (.inr (.inr (.inr hq)))
        · intro q hq
          simp only [List.mem_append] at hq ⊢
          rcases hq with hq | hq
          · exact .inl hq
          · exact .inr (.inr (.inr (.inl hq)))
        · exact apart_left (apart_right (apart_symm aDH') (aHS'.sub (fun _ h => h) sE))
            (apart_left (apart_right (apart_symm (aDS.sub id1 sA)) (aAE.sub (fun _ h => h) fun q hq => List.mem_append_left _ hq)) (apart_right (apart_symm (aDS.sub id1 sB)) (apart_symm aEB)))
        · rintro v foc' h4 tk4 F6 N6 _ ⟨tkv, rfl, rfl⟩
          refine ⟨_, _, _, _, rfl, F6, subNews N6 ?_, zs.push (Value.ref e.sx), zn + 1, tob', rfl, by rw [Array.size_push]; omega, by rw [hless]; exact hd'⟩
          intro q hq
          rw [hless, scL_append] at hq
          have hq' : q ∈ (dropL w.params c kh last (zs.push (Value.ref e.sx)) (zn + 1) ++ [(x, instObj 104 dx), (dx, hashD w.params k num wl t), (t, tob')]) ++ (scL w.params eA ++ scL w.params eB) := hq
          clear hq
          simp only [List.mem_append] at hq' ⊢
          rcases hq' with (hq | hq) | hq | hq
          · exact .inr hq
          · exact .inl (.inl hq)
          · exact .inl (.inr (.inl hq))
          · exact .inl (.inr (.inr hq))
  · rename_i tk1 hy
    refine ⟨_, _, _, _, rfl, F, N0, zs, zn, tob, by rw [less_none hy], by omega, by rw [less_none hy]; exact hd⟩
end
end
section
local macro_rules | `(tactic| walk_at "call builtin:dict.pop") => `(tactic| refine stop ?_)
noncomputable def toks (l : List Tok) (i : Nat) : Tok := l.getD i 0
theorem pop_default {prog : Program} {w : World} {A : Around} {E : Value → Shared → Prop} {s : Shared} {h₀ : Heap} {L d : Addr} {o : Obj} {news : Led} {k : Int} {t : Tok} {dflt : Value} {Q : Value → Shared → Prop}
    (N : News h₀ L s.heap news) (hp : (d, o) ∈ news) (hd : o.IsDictOf (intKind prog w) []) (lo : (d == sysModules) = false) (h : Q dflt { s with toks := s.toks + 1 }) :
    wpAny (model prog w) A (call (.builtin "dict.pop") [.ref d, .int k t, dflt]) Q E s := by
  have hD : s.heap.DictOf (intKind prog w) d [] := Heap.dictOf_iff.mpr ⟨o, (N _ hp).1, hd⟩
  exact call_meetsIn PySem.F.slot_dict_pop hD.typeIs PySem.F.entry_dict_pop (PySem.F.args_dict_pop_3 _ _ _) (meets_dict_pop_default (intKind prog w) d (intKind_is _ _ _ _) lo rfl dflt) ⟨[], hD, rfl, h⟩

/-- what the counter asks besides: the limits, the places -/
noncomputable abbrev limD (P : Params) (k : Nat → Tok) (a b cc e : Int) : Obj :=
  dictOf [⟨PyData.keyHash P "width", .str "width" (k 0), .int a (k 1)⟩, ⟨PyData.keyHash P "depth", .str "depth" (k 2), .int b (k 3)⟩, ⟨PyData.keyHash P "steps", .str "steps" (k 4), .int cc (k 5)⟩,
    ⟨PyData.keyHash P "text", .str "text" (k 6), .int e (k 7)⟩, ⟨PyData.keyHash P "items", .str "items" (k 8), .int 10000 (k 9)⟩] 5
noncomputable abbrev limL (P : Params) (c : Cn) (a b cc e : Int) : Led := [(c.li, instObj 485 c.ldx), (c.ldx, limD P c.kl a b cc e)]
noncomputable abbrev cnt2 (P : Params) (c : Cn) : Led := [(c.ci, instObj 463 c.cdx), (c.cdx, cntD P c.kc c.hi c.pl c.em)]
noncomputable abbrev hp2 (P : Params) (c : Cn) (kh : Nat → Tok) (last : Int) : Led := [(c.hi, instObj 225 c.hdx), (c.hdx, heapD P kh last c.li c.zl)]
section
variable {prog : Program} {w : World} {c : Cn} {kh : Nat → Tok} {last : Int} {a b cc e : Int}
theorem check_room_spec (sz : Int) (tk : Tok) (hs : sz ≤ 10000) :
    Spec prog w (K w.params) 900 8000 317 [.ref c.ci, .int sz tk] [] (cnt2 w.params c ++ hp2 w.params c kh last ++ limL w.params c a b cc e)
      (fun v foc => foc = cnt2 w.params c ++ hp2 w.params c kh last ++ limL w.params c a b cc e) := by
  refine' spec_of (binds := [("counter", .ref c.ci), ("size", .int sz tk)]) ?k1 ?k2 ?k3 ?k4 ?k5 ?_ ?c1 ?c2 ?c3 ?c4
  walk_at "my spec"
  intro p loose mean mg mb gd env outer A₀ A₁ base g L' h₁ s₁ hs F N lt ro B X T
  subst hs
  have N0 := N
  simp only [List.cons_append, List.nil_append] at N
  k_steps
  exact ⟨_, _, _, _, rfl, F, N0, rfl⟩
theorem store_spec {k : Nat → Tok} {num v₀ val : Int} {wl sx dsx : Addr} {tk : Tok} {plo emo : Obj} (hpl : plo.IsDictOf (intKind prog w) []) (hem : emo.IsDictOf (intKind prog w) [])
    (lo1 : (c.pl == sysModules) = false) (lo2 : (c.em == sysModules) = false)
    (hn : (adr (cnt2 w.params c ++ [(c.pl, plo), (c.em, emo)] ++ scalL w.params k num v₀ wl sx dsx)).Nodup) :
    Spec prog w (K w.params) 900 8000 425 [.ref c.ci, .ref sx, .int val tk] [] (cnt2 w.params c ++ [(c.pl, plo), (c.em, emo)] ++ scalL w.params k num v₀ wl sx dsx)
      (fun v foc => ∃ k', foc = cnt2 w.params c ++ [(c.pl, plo), (c.em, emo)] ++ scalL w.params k' num val wl sx dsx) := by
  refine Spec.gen fun Po hPo => ?_
  refine' spec_of (binds := [("self", .ref c.ci), ("scalar", .ref sx), ("value", .int val tk)]) ?k1 ?k2 ?k3 ?k4 ?k5 ?_ ?c1 ?c2 ?c3 ?c4
  walk_at "my spec"
  intro p loose mean mg mb gd env outer A₀ A₁ base g L' h₁ s₁ hs F N lt ro B X T
  subst hs
  simp only [adr, List.map_cons, List.map_nil, List.cons_append, List.nil_append, List.nodup_cons, List.mem_cons, List.not_mem_nil, or_false, not_or, List.nodup_nil, not_false_eq_true, and_true] at hn
  obtain ⟨⟨n1, n2, n3, n4, n5⟩, ⟨n6, n7, n8, n9⟩, ⟨n10, n11, n12⟩, ⟨n13, n14⟩, n15⟩ := hn
  simp only [List.cons_append, List.nil_append] at N
  k_steps
  show wpAny _ _ _ _ _ _
  refine pop_default N (by k_mem) hpl lo1 ?_
  k_steps
  show wpAny _ _ _ _ _ _
  refine pop_default N (by k_mem) hem lo2 ?_
  k_steps
  refine' ⟨_, _, _, _, rfl, ?F, ?N, hPo _ _ ⟨toks [_, _, _, _, _, _, _, _, _, _, _], rfl⟩⟩
  case F => k_asm
  case N => exact subNews (by k_asm) (by walk_at "my sub")
theorem fresh_spec {val : Int} {tk : Tok} (hl : 0 ≤ last ∧ last ≤ 1000000)
    (hn : (adr (cnt2 w.params c ++ hp2 w.params c kh last)).Nodup) :
    Spec prog w (K w.params) 900 8000 432 [.ref c.ci, .int val tk] [] (cnt2 w.params c ++ hp2 w.params c kh last)
      (fun v foc => ∃ kh' k sx dsx wl, v = .ref sx ∧ foc = cnt2 w.params c ++ hp2 w.params c kh' (last + 1) ++ scalL w.params k (last + 1) val wl sx dsx ∧ (adr foc).Nodup) := by
  refine Spec.gen fun Po hPo => ?_
  refine' spec_of (binds := [("self", .ref c.ci), ("value", .int val tk)]) ?k1 ?k2 ?k3 ?k4 ?k5 ?_ ?c1 ?c2 ?c3 ?c4
  walk_at "my spec"
  intro p loose mean mg mb gd env outer A₀ A₁ base g L' h₁ s₁ hs F N lt ro B X T
  subst hs
  have hn0 := hn
  simp only [adr, List.map_cons, List.map_nil, List.cons_append, List.nil_append, List.nodup_cons, List.mem_cons, List.not_mem_nil, or_false, not_or, List.nodup_nil, not_false_eq_true, and_true] at hn
  obtain ⟨⟨n1, n2, n3⟩, ⟨n4, n5⟩, n6⟩ := hn
  simp only [List.cons_append, List.nil_append] at N
  k_steps
  dsimp only
  refine' ⟨_, _, _, _, rfl, ?F, ?N, hPo _ _ ⟨toks [_, _, _, _], toks [_, _, _, _, _, _, _, _, _, _, _], _, _, _, rfl, rfl, ?nd⟩⟩
  case F => k_asm
  case N => exact subNews (by k_asm) (by walk_at "my sub")
  case nd =>
    simp only [adr, List.map_cons, List.map_nil, List.cons_append, List.nil_append, List.nodup_cons, List.mem_cons, List.not_mem_nil, or_false, not_or, List.nodup_nil, not_false_eq_true, and_true]
    omega
end
end
section
local macro_rules | `(tactic| walk_at "exec For Name Call cons nil") => `(tactic| refine stop ?_)
local macro_rules | `(tactic| walk_at "call builtin:len") => `(tactic| refine stop ?_)
local macro_rules | `(tactic| walk_at "compareOp In str ref") => `(tactic| refine stop ?_)
local macro_rules | `(tactic| walk_at "subscriptTail Name Name ref str") => `(tactic| refine stop ?_)
local macro_rules | `(tactic| walk_at "subscriptTail Name Name ref int") => `(tactic| refine stop ?_)
local macro_rules | `(tactic| walk_at "subscriptTail Name BinOp ref int") => `(tactic| refine stop ?_)
local macro_rules | `(tactic| walk_at "setItem ref str ref") => `(tactic| refine stop ?_)
local macro_rules | `(tactic| walk_at "setItem ref str") => `(tactic| refine stop ?_)
local macro_rules | `(tactic| walk_at "call ref") => `(tactic| ((with_reducible first | show wpAny _ _ (call (Value.ref 317) _ _) _ _ _ | show wpAny _ _ (call (Value.ref 345) _ _) _ _ _ | show wpAny _ _ (call (Value.ref 425) _ _) _ _ _ | show wpAny _ _ (call (Value.ref 432) _ _) _ _ _); refine stop ?_))
/-- the values of a fill: a word, a number, a word, a number .. -/
noncomputable def PairsAre (vs : List Value) (ws : List Str) (val : Int) : Prop := vs.length = 2 * ws.length ∧ ∀ (i : Nat) (y : Str), ws[i]? = some y → (∃ t, vs[2 * i]? = some (Value.str y t)) ∧ ∃ t, vs[2 * i + 1]? = some (Value.int val t)
/-- the words, each once, in the order of their first place -/
noncomputable def ddStep (acc : List Str) (y : Str) : List Str := if y ∈ acc then acc else acc ++ [y]
noncomputable def dd (ws : List Str) : List Str := ws.foldl ddStep []
theorem setX3 {a b c : Str} {v : Value} {m m₀ : Str → Option Value} (h : ∀ z, z ≠ a → z ≠ b → z ≠ c → m z = m₀ z) :
    (fun y => if y = a then some v else m y) = fun y => if y = a then some v else if y = b then m b else if y = c then m c else m₀ y := by
  funext y
  by_cases h1 : y = a
  · simp [h1]
  · by_cases h2 : y = b
    · simp [h1, h2]
    · by_cases h3 : y = c
      · subst h3; simp [h1, h2]
      · simp [h1, h2, h3, h y h1 h2 h3]
theorem setX4 {a b c : Str} {m m₀ : Str → Option Value} (h : ∀ z, z ≠ a → z ≠ b → z ≠ c → m z = m₀ z) :
    m = fun y => if y = a then m a else if y = b then m b else if y = c then m c else m₀ y := by
  funext y
  split
  · next e => rw [e]
  · next h1 =>
    split
    · next e => rw [e]
    · next h2 =>
      split
      · next e => rw [e]
      · next h3 => exact h y h1 h2 h3
theorem item_base {prog : Program} {w : World} {A : Around} {E : Value → Shared → Prop} {s : Shared} {value slice : Expr} {l : Addr} {vs : List Value} {k : Int} {u : Tok} {v : Value} {Q : Value → Shared → Prop}
    (hl : s.heap.IsList l vs.toArray) (h0 : 0 ≤ k) (hhi : k < 2 ^ 63) (hx : vs[k.toNat]? = some v) (h : Q v s)
    (hs : subscripted slice false (.ref l) (.int k u) = operate [.ref l, .int k u] (getItem (.ref l) (.int k u)) := by with_unfolding_all rfl) :
    wpAny (model prog w) A (subscriptTail value slice (.ref l) (.int k u)) Q E s :=
  tail_any hl.typeIs slot_list_getitem.lookup (wpAny_getItem_list hl h0 hhi (by simpa using hx) h) hs
theorem range_two (n : Nat) (hn : n ≤ 1000) : Builtin.Range.small 0 ((2 * n : Nat) : Int) 2 = true ∧ Builtin.Range.rangeSize 0 ((2 * n : Nat) : Int) 2 = (n : Int) := by
  have e : Builtin.Range.rangeSize 0 ((2 * n : Nat) : Int) 2 = (n : Int) := by rw [rangeSize_pos (by decide) (by omega)]; omega
  refine ⟨?_, e⟩
  have f : ∀ z : Int, -1000000 ≤ z → z ≤ 1000000 → Builtin.Range.rangeFitsLong z = true := fun z h1 h2 => by
    unfold Builtin.Range.rangeFitsLong
    rw [Bool.and_eq_true, decide_eq_true_eq, decide_eq_true_eq]
    constructor <;> omega
  unfold Builtin.Range.small
  rw [e, f 0 (by omega) (by omega), f _ (by omega) (by omega), f 2 (by omega) (by omega), f _ (by omega) (by omega), if_pos (by decide), f _ (by omega) (by omega)]
  simp
theorem dd_take {ws : List Str} {i : Nat} (hi : i < ws.length) : dd (ws.take (i + 1)) = ddStep (dd (ws.take i)) (ws[i]'hi) := by
  unfold dd
  rw [List.take_add_one, List.getElem?_eq_getElem hi, List.foldl_append]
  rfl
theorem keys_kvs (es : List Sc) : (kvsOf es).map (·.1) = es.map Sc.key := by unfold kvsOf; rw [List.map_map]; rfl
section
variable {prog : Program} {w : World} {c : Cn} {kh : Nat → Tok} {last : Int} {a b cc e : Int} {zs : Array Value} {zn : Nat} {k : Nat → Tok} {num : Int} {wl x dx t : Addr} {tob plo emo : Obj} {es : List Sc}
noncomputable abbrev zL (c : Cn) (zs : Array Value) (zn : Nat) : Led := [(c.zl, PySem.W.listOf zs zn)]
theorem dict_clsI {o : Obj} {kvs : List (Int × Value)} (h : o.IsDictOf (intKind prog w) kvs) : o.cls = .type "dict" := let ⟨_, _, e, _⟩ := h; e.1
noncomputable abbrev plL (c : Cn) (plo emo : Obj) : Led := [(c.pl, plo), (c.em, emo)]
theorem fill_hash_spec {vl : Addr} {vs : List Value} {vn : Nat} {ws : List Str} {val : Int} (hv : PairsAre vs ws val) (hw : ws.length ≤ 100)
    (hd : tob.IsDictOf (strKind prog w) (kvsOf es)) (hz : zs.size + es.length ≤ 900000) (he : es.length ≤ 100) (lo : (t == sysModules) = false) (hl : 0 ≤ last ∧ last ≤ 900000)
    (hpl : plo.IsDictOf (intKind prog w) []) (hem : emo.IsDictOf (intKind prog w) []) (lo1 : (c.pl == sysModules) = false) (lo2 : (c.em == sysModules) = false)
    (hn : (adr (dropL w.params c kh last zs zn ++ (limL w.params c a b cc e ++ plL c plo emo) ++ (hashL w.params k num wl x dx t tob ++ scL w.params es))).Nodup) :
    Spec prog w (K w.params) 800 6000 371 [.ref c.ci, .ref x, .ref vl] [(vl, PySem.W.listOf vs.toArray vn)] (dropL w.params c kh last zs zn ++ (limL w.params c a b cc e ++ plL c plo emo) ++ (hashL w.params k num wl x dx t tob ++ scL w.params es))
      (fun v foc => v = .none ∧ ∃ kh' last' zs' zn' k' t' tob' es', foc = dropL w.params c kh' last' zs' zn' ++ (limL w.params c a b cc e ++ plL c plo emo) ++ (hashL w.params k' num wl x dx t' tob' ++ scL w.params es') ∧
        zs'.size ≤ zs.size + es.length ∧ last ≤ last' ∧ last' ≤ last + ws.length ∧ tob'.IsDictOf (strKind prog w) (kvsOf es') ∧ es'.map Sc.key = dd ws ∧ (t' == sysModules) = false ∧ (adr foc).Nodup) := by
  refine Spec.gen fun Po hPo => ?_
  refine' spec_of (binds := [("counter", .ref c.ci), ("table_thing", .ref x), ("values", .ref vl)]) ?k1 ?k2 ?k3 ?k4 ?k5 ?_ ?c1 ?c2 ?c3 ?c4
  walk_at "my spec"
  intro p loose mean mg mb gd env outer A₀ A₁ base g L' h₁ s₁ hs F N lt ro B X T
  subst hs
  have hvl : g.IsList vl vs.toArray := ⟨_, ro _ (.head _), rfl, vn, rfl⟩
  have N0 := N
  simp only [List.cons_append, List.nil_append] at N
  k_steps
  all_goals (show wpAny _ _ _ _ _ _)
  refine Calls.call_len_list (items := vs.toArray) (hvl.at fun o e => F.keep _ _ e) ?_ ?_
  · have := hv.1; simp only [List.size_toArray]; omega
  k_steps
  show wpAny _ _ _ _ _ _
  have hvz : vs.length = 2 * ws.length := hv.1
  have hn' : (adr (cnt2 w.params c ++ (hp2 w.params c kh last ++ (zL c zs zn ++ (limL w.params c a b cc e ++ (plL c plo emo ++ (hashL w.params k num wl x dx t tob ++ scL w.params es))))))).Nodup := by
    rw [List.append_assoc, List.append_assoc] at hn; exact hn
  have hnn := hn'
  simp only [nd_app, apart_app, app_apart, and_assoc] at hnn
  have N1 : News g L' s₁.heap (cnt2 w.params c ++ (hp2 w.params c kh last ++ (zL c zs zn ++ (limL w.params c a b cc e ++ (plL c plo emo ++ (hashL w.params k num wl x dx t tob ++ scL w.params es)))))) := by
    rw [List.append_assoc, List.append_assoc] at N0; exact N0
  refine Spec.use (check_room_spec (c := c) (kh := kh) (last := last) (a := a) (b := b) (cc := cc) (e := e) _ _ ?_) (zL c zs zn ++ (plL c plo emo ++ (hashL w.params k num wl x dx t tob ++ scL w.params es)))
    rfl rfl (Nat.le_of_ble_eq_true rfl) (Nat.le_of_ble_eq_true rfl) ⟨B, X, T, rfl, rfl⟩ F N1 ?_ ?_ ?_ (fun _ h => nomatch h) ?_
  · rw [List.size_toArray, hvz, Int.fdiv_eq_ediv_of_nonneg _ (by omega)]
    omega
  · walk_at "my subs"
  · walk_at "my subs"
  · repeat (obtain ⟨_, hnn⟩ := hnn)
    walk_at "my apart"
  · rintro v foc' h2 tk2 F2 N2 _ rfl
    dsimp only
    have N6 : News g L' h2 (cnt2 w.params c ++ (hp2 w.params c kh last ++ (zL c zs zn ++ (limL w.params c a b cc e ++ (plL c plo emo ++ (hashL w.params k num wl x dx t tob ++ scL w.params es)))))) := subNews N2 (by walk_at "my subs")
    clear N0 N N1 N2
    simp only [List.cons_append, List.nil_append] at N6
    k_steps
    show wpAny _ _ _ _ _ _
    rename_i d' hx mo lo' hs' fs' hi' fi' l1 h3 F3 N3
    refine For_invVF F3 (by rfl) (by rfl) ?_
    k_steps
    show wpAny _ _ _ _ _ _
    refine Calls.call_len_list (items := vs.toArray) (hvl.at fun o e => F3.keep _ _ e) ?_ ?_
    · have := hv.1; simp only [List.size_toArray]; omega
    k_steps
    show wpAny _ _ _ _ _ _
    rename_i h4 tk4 t₁ u₁ v₁ hR F4 N4 hk4
    have all : ∀ q ∈ cnt2 w.params c ++ (hp2 w.params c kh last ++ (zL c zs zn ++ (limL w.params c a b cc e ++ (plL c plo emo ++ (hashL w.params k num wl x dx t tob ++ scL w.params es))))), q.1 < d' := ktn_ltOf l1
    have N5 : News g L' h4 ((cnt2 w.params c ++ (hp2 w.params c kh last ++ (zL c zs zn ++ (limL w.params c a b cc e ++ (plL c plo emo ++ (hashL w.params k num wl x dx t tob ++ scL w.params es)))))) ++ ([(d', mo)] ++ scL w.params [])) := subNews N4 (by
      intro q hq
      rcases List.mem_append.mp hq with hq | hq
      · exact List.Mem.tail _ hq
      · rcases List.mem_append.mp hq with hq | hq
        · rw [List.mem_singleton.mp hq]; exact List.Mem.head _
        · cases hq)
    have hR' : IsRange h4 h3.objs.size 0 ((2 * ws.length : Nat) : Int) 2 t₁ u₁ v₁ := by
      have e : ((vs.toArray.size : Nat) : Int) = ((2 * ws.length : Nat) : Int) := by simp [hvz]
      rw [← e]; exact hR
    obtain ⟨m₀, hm₀, F4⟩ : ∃ m₀, m₀ = _ ∧ Fr g L' h4 m₀ := ⟨_, rfl, F4⟩
    refine iter_range (n := ws.length) (fun i m nx => ∃ kh' last' mo' es', last ≤ last' ∧ last' ≤ last + i ∧ (∀ z : Str, z ≠ "at" → z ≠ "key" → z ≠ "value" → m z = m₀ z) ∧ mo'.IsDictOf (strKind prog w) (kvsOf es') ∧ es'.map Sc.key = dd (ws.take i) ∧ es'.length ≤ i ∧ (adr nx).Nodup ∧
      nx = (cnt2 w.params c ++ (hp2 w.params c kh' last' ++ (zL c zs zn ++ (limL w.params c a b cc e ++ (plL c plo emo ++ (hashL w.params k num wl x dx t tob ++ scL w.params es)))))) ++ ([(d', mo')] ++ scL w.params es'))
      rfl hR' (range_two _ (by omega)).1 (range_two _ (by omega)).2 ?_ F4 N5 ⟨kh, last, mo, [], by omega, by omega, fun _ _ _ _ => rfl, hs', rfl, Nat.zero_le _, ?_, rfl⟩ ?_ ?_
    · rintro i m nx ⟨kh', last', mo', es', _, _, _, hmo, _, _, _, rfl⟩
      exact noIt_append (noIt_append (noIt_cons (noIt_ref rfl) (noIt_cons (noIt_dict rfl) noIt_nil)) (noIt_append (noIt_cons (noIt_ref rfl) (noIt_cons (noIt_dict rfl) noIt_nil)) (noIt_append (noIt_cons (noIt_list rfl) noIt_nil) (noIt_append (noIt_cons (noIt_ref rfl) (noIt_cons (noIt_dict rfl) noIt_nil))
        (noIt_append (noIt_cons (noIt_dict (dict_clsI hpl)) (noIt_cons (noIt_dict (dict_clsI hem)) noIt_nil)) (noIt_append (noIt_cons (noIt_ref rfl) (noIt_cons (noIt_dict rfl) (noIt_cons (noIt_dict (dict_cls hd)) noIt_nil))) (noIt_scL _ _)))))))
        (noIt_append (noIt_cons (noIt_dict (dict_cls hmo)) noIt_nil) (noIt_scL _ _))
    · refine nd_app.mpr ⟨hn', by simp [adr, scL], apart_symm ?_⟩
      exact apart_left (apart_of_lt all) fun _ h => nomatch h
    · rintro i tt m₁ nx h tks I io hi ⟨kh', last', mo', es', hl1, hl2, hm, hmo, hkeys, hlen, hnd, rfl⟩ hI F1 N1
      refine TurnK.gen fun Jx Qx Ex hJx => ?_
      have hwi : ws[i]? = some (ws[i]'hi) := by simp [hi]
      obtain ⟨⟨ty, hv1⟩, tv, hv2⟩ := hv.2 i _ hwi
      rw [setX3 hm, hm₀] at F1
      have N7 : News g L' h (cnt2 w.params c ++ (hp2 w.params c kh' last' ++ (zL c zs zn ++ (limL w.params c a b cc e ++ (plL c plo emo ++ (hashL w.params k num wl x dx t tob ++ (scL w.params es ++ ([(d', mo')] ++ (scL w.params es' ++ [(I, io)]))))))))) := subNews N1 (by walk_at "my subs")
      have hnd' : (adr (cnt2 w.params c ++ (hp2 w.params c kh' last' ++ (zL c zs zn ++ (limL w.params c a b cc e ++ (plL c plo emo ++ (hashL w.params k num wl x dx t tob ++ (scL w.params es ++ ([(d', mo')] ++ scL w.params es'))))))))).Nodup := by
        simpa only [List.append_assoc] using hnd
      have hIa : Apart [(I, io)] (cnt2 w.params c ++ (hp2 w.params c kh' last' ++ (zL c zs zn ++ (limL w.params c a b cc e ++ (plL c plo emo ++ (hashL w.params k num wl x dx t tob ++ (scL w.params es ++ ([(d', mo')] ++ scL w.params es')))))))) :=
        apart_cons (fun q hq => hI q (by simpa only [List.append_assoc] using hq)) apart_nil_left
      have N8 := N7
      simp only [List.cons_append, List.nil_append] at N7
      have hlh : ∀ h' : Heap, (∀ b o, g.get? b = some o → h'.get? b = some o) → h'.IsList vl vs.toArray := fun h' hk => hvl.at fun o e => hk _ _ e
      k_steps
      show wpAny _ _ _ _ _ _
      refine item_base (hlh _ F1.keep) (by omega) (by omega) (v := .str (ws[i]'hi) ty) (by rw [← hv1]; congr 1; omega) ?_
      k_steps
      show wpAny _ _ _ _ _ _
      rename Fr _ _ _ _ => F6
      refine Calls.call_len_list (items := vs.toArray) (hlh _ F6.keep) ?_ ?_
      · simp only [List.size_toArray]; omega
      k_steps
      show wpAny _ _ _ _ _ _
      refine item_base (hlh _ F6.keep) (by omega) (by omega) (v := .int val tv) (by rw [← hv2]; congr 1; omega) ?_
      k_steps
      show wpAny _ _ _ _ _ _
      rename Fr _ _ _ _ => F8
      rename News _ _ _ _ => N9
      have N10 : News g L' _ (cnt2 w.params c ++ (hp2 w.params c kh' last' ++ (zL c zs zn ++ (limL w.params c a b cc e ++ (plL c plo emo ++ (hashL w.params k num wl x dx t tob ++ (scL w.params es ++ ([(d', mo')] ++ (scL w.params es' ++ [(I, io)]))))))))) := N9
      refine kda_in N10 (by simp only [List.mem_append, List.mem_singleton, true_or, or_true]) hmo lo' (strKind_is _ _ _ _) _ valueAt_isSome ?_
      have hnn2 := hnd'
      have hIb := hIa
      simp only [nd_app, apart_app, app_apart, and_assoc] at hnn2 hIb
      k_steps
      · rename (_ ∈ _) => hin
        show wpAny _ _ _ _ _ _
        obtain ⟨eA, e1, eB, rfl, hek, -, hval⟩ := kvs_split (dict_nodup hmo) hin
        refine kda_item N10 (by simp only [List.mem_append, List.mem_singleton, true_or, or_true]) hmo (strKind_is _ _ _ _) hval ?_
        k_steps
        show wpAny _ _ _ _ _ _
        rw [scL_append, scL_cons] at N10 hnn2 hIb
        simp only [nd_app, apart_app, app_apart, and_assoc] at hnn2 hIb
        refine Spec.use (store_spec (c := c) (k := e1.k) (num := e1.num) (v₀ := e1.val) (val := val) (wl := e1.wl) (sx := e1.sx) (dsx := e1.dsx) (tk := tv) hpl hem lo1 lo2 ?_)
          (hp2 w.params c kh' last' ++ (zL c zs zn ++ (limL w.params c a b cc e ++ (hashL w.params k num wl x dx t tob ++ (scL w.params es ++ ([(d', mo')] ++ (scL w.params eA ++ (scL w.params eB ++ [(I, io)]))))))))
          rfl rfl (Nat.le_of_ble_eq_true rfl) (Nat.le_of_ble_eq_true rfl) ⟨B, X, T, rfl, rfl⟩ F8 N10 ?_ ?_ ?_ (fun _ h => nomatch h) ?_
        · repeat (obtain ⟨_, hnn2⟩ := hnn2)
          repeat (obtain ⟨_, hIb⟩ := hIb)
          refine nd_app.mpr ⟨nd_app.mpr ⟨by assumption, by assumption, by walk_at "my apart"⟩, by assumption, by walk_at "my apart"⟩
        · walk_at "my subs"
        · walk_at "my subs"
        · repeat (obtain ⟨_, hnn2⟩ := hnn2)
          repeat (obtain ⟨_, hIb⟩ := hIb)
          walk_at "my apart"
        · rintro v foc' h9 tk9 F9 N11 _ ⟨k', rfl⟩
          dsimp only
          k_steps
          have hkv : kvsOf (eA ++ { e1 with k := k', val := val } :: eB) = kvsOf (eA ++ e1 :: eB) := by simp [kvsOf]
          refine ⟨_, _, _, (cnt2 w.params c ++ (hp2 w.params c kh' last' ++ (zL c zs zn ++ (limL w.params c a b cc e ++ (plL c plo emo ++ (hashL w.params k num wl x dx t tob ++ scL w.params es)))))) ++ ([(d', mo')] ++ scL w.params (eA ++ { e1 with k := k', val := val } :: eB)), rfl, F9, subNews N11 ?_, hJx _ _ ⟨kh', last', mo', eA ++ { e1 with k := k', val := val } :: eB, hl1, by omega, ?_, ?_, ?_, by simpa using Nat.le_succ_of_le hlen, ?_, rfl⟩⟩
          · rw [scL_append, scL_cons]
            walk_at "my subs"
          · intro z h1 h2 h3
            rw [hm₀]; simp only [if_neg h1, if_neg h2, if_neg h3]
          · rw [hkv]; exact hmo
          · rw [dd_take hi, ← hkeys]
            unfold ddStep
            rw [if_pos (by rw [← keys_kvs]; exact hin)]
            simp
          · have e5 : adr (scL w.params (eA ++ { e1 with k := k', val := val } :: eB)) = adr (scL w.params (eA ++ e1 :: eB)) := by rw [scL_append, scL_append, scL_cons, scL_cons, adr_append, adr_append, adr_append, adr_append]; rfl
            rw [adr_append, adr_append (a := [(d', mo')])] at hnd ⊢
            rw [e5]; exact hnd
      · rename (¬ _ ∈ _) => hin
        show wpAny _ _ _ _ _ _
        refine Spec.use (fresh_spec (c := c) (kh := kh') (last := last') (val := val) (tk := tv) (by omega) ?_)
          (zL c zs zn ++ (limL w.params c a b cc e ++ (plL c plo emo ++ (hashL w.params k num wl x dx t tob ++ (scL w.params es ++ ([(d', mo')] ++ (scL w.params es' ++ [(I, io)])))))))
          rfl rfl (Nat.le_of_ble_eq_true rfl) (Nat.le_of_ble_eq_true rfl) ⟨B, X, T, rfl, rfl⟩ F8 N10 ?_ ?_ ?_ (fun _ h => nomatch h) ?_
        · repeat (obtain ⟨_, hnn2⟩ := hnn2)
          repeat (obtain ⟨_, hIb⟩ := hIb)
          refine nd_app.mpr ⟨by assumption, by assumption, by walk_at "my apart"⟩
        · walk_at "my subs"
        · walk_at "my subs"
        · repeat (obtain ⟨_, hnn2⟩ := hnn2)
          repeat (obtain ⟨_, hIb⟩ := hIb)
          walk_at "my apart"
        · rintro v foc' h9 tk9 F9 N11 ap9 ⟨kh2, k2, sx, dsx, wl2, rfl, rfl, hnd9⟩
          dsimp only
          simp only [nd_app, apart_app, app_apart, and_assoc] at ap9 hnd9
          k_steps
          show wpAny _ _ _ _ _ _
          have N12 : News g L' h9 ((d', mo') :: (cnt2 w.params c ++ (hp2 w.params c kh2 (last' + 1) ++ (scalL w.params k2 (last' + 1) val wl2 sx dsx ++ (zL c zs zn ++ (limL w.params c a b cc e ++ (plL c plo emo ++ (hashL w.params k num wl x dx t tob ++ (scL w.params es ++ (scL w.params es' ++ [(I, io)])))))))))) := subNews N11 (by
            show ∀ q ∈ [(d', mo')] ++ (cnt2 w.params c ++ (hp2 w.params c kh2 (last' + 1) ++ (scalL w.params k2 (last' + 1) val wl2 sx dsx ++ (zL c zs zn ++ (limL w.params c a b cc e ++ (plL c plo emo ++ (hashL w.params k num wl x dx t tob ++ (scL w.params es ++ (scL w.params es' ++ [(I, io)]))))))))), q ∈ _
            walk_at "my subs")
          have apd : Apart (cnt2 w.params c ++ (hp2 w.params c kh2 (last' + 1) ++ (scalL w.params k2 (last' + 1) val wl2 sx dsx ++ (zL c zs zn ++ (limL w.params c a b cc e ++ (plL c plo emo ++ (hashL w.params k num wl x dx t tob ++ (scL w.params es ++ (scL w.params es' ++ [(I, io)]))))))))) [(d', mo')] := by
            repeat (obtain ⟨_, hnn2⟩ := hnn2)
            repeat (obtain ⟨_, hIb⟩ := hIb)
            repeat (obtain ⟨_, ap9⟩ := ap9)
            repeat (obtain ⟨_, hnd9⟩ := hnd9)
            walk_at "my apart"
          refine kda_set F9 N12 (UpdF.head fun q hq => apd q hq _ (.head _)) hmo (strKind_is _ _ _ _) (by rw [sizeLine_eq]; simp only [kvsOf, List.length_map]; omega) ?_
          intro h10 mo2 F10 N13 hmo2
          have hval : valueAt (kvsOf es') (ws[i]'hi) = none := valueAt_none_of_not_mem hin
          rw [stored_absent hval] at hmo2
          have hkv : kvsOf es' ++ [(ws[i]'hi, Value.ref sx)] = kvsOf (es' ++ [⟨ws[i]'hi, sx, dsx, wl2, k2, last' + 1, val⟩]) := by simp [kvsOf]
          rw [hkv] at hmo2
          dsimp only
          k_steps
          have apd2 : ∀ z, adr z = adr [(d', mo')] → True := fun _ _ => trivial
          refine ⟨_, _, _, (cnt2 w.params c ++ (hp2 w.params c kh2 (last' + 1) ++ (zL c zs zn ++ (limL w.params c a b cc e ++ (plL c plo emo ++ (hashL w.params k num wl x dx t tob ++ scL w.params es)))))) ++ ([(d', mo2)] ++ scL w.params (es' ++ [⟨ws[i]'hi, sx, dsx, wl2, k2, last' + 1, val⟩])), rfl, F10, subNews N13 ?_, hJx _ _ ⟨kh2, last' + 1, mo2, es' ++ [⟨ws[i]'hi, sx, dsx, wl2, k2, last' + 1, val⟩], by omega, by omega, ?_, hmo2, ?_, by simp; omega, ?_, rfl⟩⟩
          · rw [scL_append]
            intro q hq
            have hq' : q ∈ ((cnt2 w.params c ++ (hp2 w.params c kh2 (last' + 1) ++ (zL c zs zn ++ (limL w.params c a b cc e ++ (plL c plo emo ++ (hashL w.params k num wl x dx t tob ++ scL w.params es)))))) ++ ([(d', mo2)] ++ (scL w.params es' ++ (scalL w.params k2 (last' + 1) val wl2 sx dsx ++ [])))) ++ [(I, io)] := hq
            show q ∈ [(d', mo2)] ++ (cnt2 w.params c ++ (hp2 w.params c kh2 (last' + 1) ++ (scalL w.params k2 (last' + 1) val wl2 sx dsx ++ (zL c zs zn ++ (limL w.params c a b cc e ++ (plL c plo emo ++ (hashL w.params k num wl x dx t tob ++ (scL w.params es ++ (scL w.params es' ++ [(I, io)])))))))))
            clear hq
            revert q
            rw [List.append_nil]
            walk_at "my subs"
          · intro z h1 h2 h3
            rw [hm₀]; simp only [if_neg h1, if_neg h2, if_neg h3]
          · rw [dd_take hi, ← hkeys]
            unfold ddStep
            rw [if_neg (by rw [← keys_kvs]; exact hin)]
            simp
          · have : (adr ((cnt2 w.params c ++ (hp2 w.params c kh2 (last' + 1) ++ (zL c zs zn ++ (limL w.params c a b cc e ++ (plL c plo emo ++ (hashL w.params k num wl x dx t tob ++ scL w.params es)))))) ++ ([(d', mo')] ++ (scL w.params es' ++ scalL w.params k2 (last' + 1) val wl2 sx dsx)))).Nodup := by
              simp only [nd_app, apart_app, app_apart, and_assoc]
              repeat (obtain ⟨_, hnn2⟩ := hnn2)
              repeat (obtain ⟨_, hIb⟩ := hIb)
              repeat (obtain ⟨_, ap9⟩ := ap9)
              repeat (obtain ⟨_, hnd9⟩ := hnd9)
              (repeat' apply And.intro) <;> walk_at "my apart"
            rw [adr_append] at this ⊢
            rw [scL_append]
            exact this
    · rintro h' tk' m' nx F5 N5 ⟨kh', last', mo', es', hl1, hl2, hm, hmo, hkeys, hlen, hnd, rfl⟩
      dsimp only
      rw [setX4 hm, hm₀] at F5
      have hnd' : (adr (cnt2 w.params c ++ (hp2 w.params c kh' last' ++ (zL c zs zn ++ (limL w.params c a b cc e ++ (plL c plo emo ++ (hashL w.params k num wl x dx t tob ++ (scL w.params es ++ ([(d', mo')] ++ scL w.params es'))))))))).Nodup := by
        simpa only [List.append_assoc] using hnd
      have N7 : News g L' h' (cnt2 w.params c ++ (hp2 w.params c kh' last' ++ (zL c zs zn ++ (limL w.params c a b cc e ++ (plL c plo emo ++ (hashL w.params k num wl x dx t tob ++ (scL w.params es ++ ([(d', mo')] ++ scL w.params es')))))))) := subNews N5 (by walk_at "my subs")
      have hnn2 := hnd'
      simp only [nd_app, apart_app, app_apart, and_assoc] at hnn2
      k_steps
      show wpAny _ _ _ _ _ _
      rename Fr _ _ _ _ => F6
      have hdr : (adr ((cnt2 w.params c ++ (hp2 w.params c kh' last' ++ zL c zs zn)) ++ hashL w.params k num wl x dx t tob ++ scL w.params es)).Nodup := by
        simp only [nd_app, apart_app, app_apart, and_assoc]
        repeat (obtain ⟨_, hnn2⟩ := hnn2)
        (repeat' apply And.intro) <;> walk_at "my apart"
      refine Spec.use (clear_hash_spec (c := c) (kh := kh') (last := last') (zs := zs) (zn := zn) (k := k) (num := num) (wl := wl) (x := x) (dx := dx) (t := t) (tob := tob) (es := es) hd hz he lo hdr)
        (limL w.params c a b cc e ++ (plL c plo emo ++ ([(d', mo')] ++ scL w.params es'))) rfl rfl (Nat.le_of_ble_eq_true rfl) (Nat.le_of_ble_eq_true rfl) ⟨B, X, T, rfl, rfl⟩ F6 N7 ?_ ?_ ?_ (fun _ h => nomatch h) ?_
      · walk_at "my subs"
      · show ∀ q ∈ (cnt2 w.params c ++ (hp2 w.params c kh' last' ++ zL c zs zn)) ++ hashL w.params k num wl x dx t tob ++ scL w.params es, q ∈ _
        walk_at "my subs"
      · show Apart (limL w.params c a b cc e ++ (plL c plo emo ++ ([(d', mo')] ++ scL w.params es'))) ((cnt2 w.params c ++ (hp2 w.params c kh' last' ++ zL c zs zn)) ++ hashL w.params k num wl x dx t tob ++ scL w.params es)
        repeat (obtain ⟨_, hnn2⟩ := hnn2)
        walk_at "my apart"
      · rintro v foc' h9 tk9 F9 N11 ap9 ⟨rfl, zs', zn', k', t', tob', rfl, hz', htob', lo2', hnd9⟩
        dsimp only
        have N12 : News g L' h9 ((limL w.params c a b cc e ++ (plL c plo emo ++ ([(d', mo')] ++ scL w.params es'))) ++ (dropL w.params c kh' last' zs' zn' ++ ([(x, instObj 104 dx), (dx, hashD w.params k' num wl t')] ++ [(t', tob')]))) := N11
        have ap10 : Apart (limL w.params c a b cc e ++ (plL c plo emo ++ ([(d', mo')] ++ scL w.params es'))) (dropL w.params c kh' last' zs' zn' ++ ([(x, instObj 104 dx), (dx, hashD w.params k' num wl t')] ++ [(t', tob')])) := ap9
        have hnd10 : (adr (dropL w.params c kh' last' zs' zn' ++ ([(x, instObj 104 dx), (dx, hashD w.params k' num wl t')] ++ [(t', tob')]))).Nodup := hnd9
        clear N11 ap9 hnd9
        simp only [nd_app, apart_app, app_apart, and_assoc] at ap10 hnd10
        obtain ⟨rest, hrest⟩ : ∃ rest : Led, rest = limL w.params c a b cc e ++ (plL c plo emo ++ ([(d', mo')] ++ (scL w.params es' ++ dropL w.params c kh' last' zs' zn'))) := ⟨_, rfl⟩
        have N13 : News g L' h9 ([(x, instObj 104 dx), (dx, hashD w.params k' num wl t')] ++ rest) := subNews N12 (by rw [hrest]; walk_at "my subs")
        have hnr : (adr ([(x, instObj 104 dx), (dx, hashD w.params k' num wl t')] ++ rest)).Nodup := by
          rw [hrest]
          simp only [nd_app, apart_app, app_apart, and_assoc]
          repeat (obtain ⟨_, hnn2⟩ := hnn2)
          repeat (obtain ⟨_, ap10⟩ := ap10)
          repeat (obtain ⟨_, hnd10⟩ := hnd10)
          (repeat' apply And.intro) <;> walk_at "my apart"
        have hnr2 := hnr
        simp only [adr, List.map_cons, List.map_nil, List.cons_append, List.nil_append, List.nodup_cons, List.mem_cons, not_or] at hnr2
        obtain ⟨⟨z1, z2⟩, z3, z4⟩ := hnr2
        have fin : (adr (dropL w.params c kh' last' zs' zn' ++ (limL w.params c a b cc e ++ plL c plo emo) ++ (([(x, instObj 104 dx), (dx, hashD w.params k' num wl t')] ++ [(d', mo')]) ++ scL w.params es'))).Nodup := by
          simp only [nd_app, apart_app, app_apart, and_assoc]
          repeat (obtain ⟨_, hnn2⟩ := hnn2)
          repeat (obtain ⟨_, ap10⟩ := ap10)
          repeat (obtain ⟨_, hnd10⟩ := hnd10)
          (repeat' apply And.intro) <;> walk_at "my apart"
        simp only [List.cons_append, List.nil_append] at N13
        clear N12 hnr hnd hnd' hdr
        k_steps
        rename News _ _ _ _ => N14
        rename Fr _ _ _ _ => F14
        have N15 : News g L' _ ([(x, instObj 104 dx), (dx, hashD w.params k' num wl d')] ++ rest) := N14
        rw [hrest] at N15
        have hk2 : es'.map Sc.key = dd ws := by rw [hkeys, List.take_length]
        refine ⟨_, _, _, dropL w.params c kh' last' zs' zn' ++ (limL w.params c a b cc e ++ plL c plo emo) ++ (([(x, instObj 104 dx), (dx, hashD w.params k' num wl d')] ++ [(d', mo')]) ++ scL w.params es'), rfl, F14, subNews N15 (by walk_at "my subs"), hPo _ _ ⟨rfl, kh', last', zs', zn', k', d', mo', es', rfl, by omega, hl1, hl2, hmo, hk2, lo', fin⟩⟩
end
end
section
variable {prog : Program} {w : World} {c : Cn} {kh : Nat → Tok} {last : Int}
theorem new_hash_spec (hl : 0 ≤ last ∧ last ≤ 1000000) (hn : (adr (hp2 w.params c kh last)).Nodup) :
    Spec prog w (K w.params) 900 8000 208 [.ref c.hi] [] (hp2 w.params c kh last)
      (fun v foc => ∃ kh' k wl x dx t tob, v = .ref x ∧ foc = hp2 w.params c kh' (last + 1) ++ hashL w.params k (last + 1) wl x dx t tob ∧ tob.IsDictOf (strKind prog w) [] ∧ (t == sysModules) = false ∧ (adr foc).Nodup) := by
  refine Spec.gen fun Po hPo => ?_
  refine' spec_of (binds := [("self", .ref c.hi)]) ?k1 ?k2 ?k3 ?k4 ?k5 ?_ ?c1 ?c2 ?c3 ?c4
  walk_at "my spec"
  intro p loose mean mg mb gd env outer A₀ A₁ base g L' h₁ s₁ hs F N lt ro B X T
  subst hs
  have hn0 := hn
  simp only [adr, List.map_cons, List.map_nil, List.cons_append, List.nil_append, List.nodup_cons, List.mem_cons, List.not_mem_nil, or_false, not_or, List.nodup_nil, not_false_eq_true, and_true] at hn
  k_steps
  refine' ⟨_, _, _, _, rfl, ?F, ?N, hPo _ _ ⟨toks [_, _, _, _], toks [_, _, _, _, _, _, _, _, _, _, _, _], _, _, _, _, _, rfl, rfl, ?d, ?lo, ?nd⟩⟩
  case F => k_asm
  case N => exact subNews (by k_asm) (by walk_at "my sub")
  case d => assumption
  case lo => assumption
  case nd =>
    simp only [adr, List.map_cons, List.map_nil, List.cons_append, List.nil_append, List.nodup_cons, List.mem_cons, List.not_mem_nil, or_false, not_or, List.nodup_nil, not_false_eq_true, and_true]
    omega
end
section
local macro_rules | `(tactic| walk_at "exec For Name Name cons nil") => `(tactic| refine stop ?_)
local macro_rules | `(tactic| walk_at "call builtin:list.extend") => `(tactic| refine stop ?_)
local macro_rules | `(tactic| walk_at "call builtin:list.append") => `(tactic| refine stop ?_)
local macro_rules | `(tactic| walk_at "call ref") => `(tactic| ((with_reducible first | show wpAny _ _ (call (Value.ref 208) _ _) _ _ _ | show wpAny _ _ (call (Value.ref 371) _ _) _ _ _); refine stop ?_))
theorem strsAre_get : ∀ {vs : List Value} {ss : List Str} {i : Nat} {v : Value}, StrsAre vs ss → vs[i]? = some v → ∃ y t, ss[i]? = some y ∧ v = .str y t
  | _, _, i, _, .nil, h => by simp at h
  | _, _, 0, v, .cons y t r, h => ⟨y, t, rfl, by simpa using h.symm⟩
  | _, _, i + 1, v, .cons y t r, h => by
    obtain ⟨y', t', e, e'⟩ := strsAre_get r (by simpa using h)
    exact ⟨y', t', by simpa using e, e'⟩
theorem iter_words {prog : Program} {w : World} {A : Around} {E : Value → Shared → Prop} {s : Shared} {env : Env} {h₀ : Heap} {x : Str} {body : List Stmt} {Q : Flow → Shared → Prop}
    {l : Addr} {vs : List Value} {m : Str → Option Value} {news : Led} (J : Nat → (Str → Option Value) → Led → Prop) (hh : A.handled = none) (hl : s.heap.IsList l vs.toArray ∨ s.heap.IsTuple l vs.toArray) (S : Src h₀ J l)
    (hnc : ∀ i m nx, J i m nx → NoIt nx) (F : Fr h₀ env.locals s.heap m) (N : News h₀ env.locals s.heap news) (h0 : J 0 m news)
    (turn : ∀ i v m₁ nx h tk I io, vs[i]? = some v → J i m₁ nx → (∀ p ∈ nx, p.1 ≠ I) → Fr h₀ env.locals h (fun y => if y = x then some v else m₁ y) → News h₀ env.locals h (nx ++ [(I, io)]) →
      wpAny (model prog w) A (execs body env) (TurnK h₀ env.locals (J (i + 1)) [(I, io)] { s with heap := h, toks := tk } Q) E { s with heap := h, toks := tk })
    (done : ∀ h' tk m' nx, Fr h₀ env.locals h' m' → News h₀ env.locals h' nx → J vs.length m' nx → Q .next { s with heap := h', toks := tk }) :
    wpAny (model prog w) A (pyIter (.ref l)) (fun it s₂ => LoopAtV prog w A h₀ env x body Q E it s₂) E s := by
  rcases hl with hl | hl
  · exact iter_list J hh hl S hnc F N h0 turn done
  · exact iter_tuple J hh hl S hnc F N h0 turn done
theorem pairs_snoc {pvs : List Value} {ws : List Str} {i : Nat} {y : Str} {t t' : Tok} {val : Int} (h : PairsAre pvs (ws.take i) val) (hy : ws[i]? = some y) : PairsAre (pvs ++ [Value.str y t, Value.int val t']) (ws.take (i + 1)) val := by
  have hi : i < ws.length := (List.getElem?_eq_some_iff.mp hy).1
  have hl := h.1
  have e1 : (ws.take i).length = i := by rw [List.length_take]; omega
  have e2 : (ws.take (i + 1)).length = i + 1 := by rw [List.length_take]; omega
  rw [e1] at hl
  refine ⟨by rw [e2]; simp [hl]; omega, fun j z hz => ?_⟩
  have hj : j < i + 1 := by have := (List.getElem?_eq_some_iff.mp hz).1; rw [e2] at this; exact this
  rw [List.getElem?_take_of_lt hj] at hz
  by_cases hji : j = i
  · subst hji
    rw [hy] at hz
    cases hz
    exact ⟨⟨t, by rw [List.getElem?_append_right (by omega)]; simp [hl]⟩, t', by rw [List.getElem?_append_right (by omega)]; simp [hl]⟩
  · obtain ⟨⟨u, a1⟩, u', a2⟩ := h.2 j z (by rw [List.getElem?_take_of_lt (by omega)]; exact hz)
    exact ⟨⟨u, by rw [List.getElem?_append_left (by omega)]; exact a1⟩, u', by rw [List.getElem?_append_left (by omega)]; exact a2⟩
theorem setX5 {x : Str} {m m₀ : Str → Option Value} (h : ∀ z, z ≠ x → m z = m₀ z) : m = fun y => if y = x then m x else m₀ y := by
  funext y
  split
  · next e => rw [e]
  · next e => exact h y e
theorem not_too_long {its : Array Value} {n : Nat} (h : n ≤ 1000) : ¬(!its.isEmpty && Builtin.List.listTooLong n) = true := by
  have : Builtin.List.listTooLong n = false := by
    unfold Builtin.List.listTooLong
    rw [sizeLine_eq]
    simp
    omega
  rw [this]; simp
theorem pairs_one (t t' : Tok) : PairsAre [Value.str "old" t, Value.int 7 t'] ["old"] 7 := by
  refine ⟨rfl, fun i y h => ?_⟩
  match i with
  | 0 =>
    cases h
    exact ⟨⟨t, rfl⟩, t', rfl⟩
  | i + 1 => simp at h
/-- a hash of the law -/
structure Hs where
  (x dx t wl : Addr)
  k : Nat → Tok
  num : Int
  tob : Obj
  es : List Sc
noncomputable def Hs.led (P : Params) (h : Hs) : Led := hashL P h.k h.num h.wl h.x h.dx h.t h.tob ++ scL P h.es
noncomputable def Hs.keys (h : Hs) : List Str := h.es.map Sc.key
/-- where a list of words lies -/
noncomputable def WordsAt (K : Frag) (ro : Led) (wa : Addr) (vs : List Value) : Prop := ∀ g : Heap, K.In g → (∀ q ∈ ro, g.get? q.1 = some q.2) → g.IsList wa vs.toArray ∨ g.IsTuple wa vs.toArray
section
variable {prog : Program} {w : World} {c : Cn} {kh : Nat → Tok} {last : Int} {a b cc e : Int} {zs : Array Value} {zn : Nat} {plo emo : Obj} {sh : Addr} {ss : Array Value} {sn : Nat} {wa : Addr} {vs : List Value} {ws : List Str} {ro : Led}
noncomputable def coreL (P : Params) (c : Cn) (kh : Nat → Tok) (last a b cc e : Int) (zs : Array Value) (zn : Nat) (plo emo : Obj) : Led := dropL P c kh last zs zn ++ (limL P c a b cc e ++ plL c plo emo)
theorem coreL_eq : coreL w.params c kh last a b cc e zs zn plo emo = cnt2 w.params c ++ (hp2 w.params c kh last ++ (zL c zs zn ++ (limL w.params c a b cc e ++ plL c plo emo))) := rfl
theorem noIt_core (hpl : plo.IsDictOf (intKind prog w) []) (hem : emo.IsDictOf (intKind prog w) []) : NoIt (coreL w.params c kh last a b cc e zs zn plo emo) :=
  noIt_append noIt_dropL (noIt_append (noIt_cons (noIt_ref rfl) (noIt_cons (noIt_dict rfl) noIt_nil)) (noIt_cons (noIt_dict (dict_clsI hpl)) (noIt_cons (noIt_dict (dict_clsI hem)) noIt_nil)))
theorem laid_spec (hw : WordsAt (K w.params) ro wa vs) (hv : StrsAre vs ws) (hlen : ws.length ≤ 50)
    (hz : zs.size ≤ 800000) (hl : 0 ≤ last ∧ last ≤ 800000) (hss : ss.size ≤ 10000)
    (hpl : plo.IsDictOf (intKind prog w) []) (hem : emo.IsDictOf (intKind prog w) []) (lo1 : (c.pl == sysModules) = false) (lo2 : (c.em == sysModules) = false)
    (hn : (adr (coreL w.params c kh last a b cc e zs zn plo emo ++ [(sh, PySem.W.listOf ss sn)])).Nodup) :
    Spec prog w (K w.params) 750 5000 505 [.ref c.ci, .ref sh, .ref wa] ro (coreL w.params c kh last a b cc e zs zn plo emo ++ [(sh, PySem.W.listOf ss sn)])
      (fun v foc => ∃ kh' last' zs' zn' sn', ∃ h : Hs, v = .ref h.x ∧ foc = coreL w.params c kh' last' a b cc e zs' zn' plo emo ++ ([(sh, PySem.W.listOf (ss.push (.ref h.x)) sn')] ++ h.led w.params) ∧
        zs'.size ≤ zs.size + 1 ∧ last ≤ last' ∧ last' ≤ last + 2 + ws.length ∧ h.tob.IsDictOf (strKind prog w) (kvsOf h.es) ∧ h.keys = dd ws ∧ (h.t == sysModules) = false ∧ (adr foc).Nodup) := by
  refine Spec.gen fun Po hPo => ?_
  refine' spec_of (binds := [("counter", .ref c.ci), ("shelf", .ref sh), ("words", .ref wa)]) ?k1 ?k2 ?k3 ?k4 ?k5 ?_ ?c1 ?c2 ?c3 ?c4
  walk_at "my spec"
  intro p loose mean mg mb gd env outer A₀ A₁ base g L' h₁ s₁ hs F N lt hro B X T
  subst hs
  have hsrc := hw g X hro
  have hnn := hn
  rw [coreL_eq] at hnn N
  simp only [nd_app, apart_app, app_apart, and_assoc] at hnn
  have hnc := hnn
  repeat (obtain ⟨_, hnn⟩ := hnn)
  have N0 : News g L' s₁.heap (cnt2 w.params c ++ (hp2 w.params c kh last ++ (zL c zs zn ++ (limL w.params c a b cc e ++ (plL c plo emo ++ [(sh, PySem.W.listOf ss sn)]))))) := subNews N (by walk_at "my subs")
  clear N
  have N1 := N0
  simp only [List.cons_append, List.nil_append] at N1
  k_steps
  show wpAny _ _ _ _ _ _
  refine Spec.use (new_hash_spec (c := c) (kh := kh) (last := last) (by omega) (by assumption)) (cnt2 w.params c ++ (zL c zs zn ++ (limL w.params c a b cc e ++ (plL c plo emo ++ [(sh, PySem.W.listOf ss sn)]))))
    rfl rfl (Nat.le_of_ble_eq_true rfl) (Nat.le_of_ble_eq_true rfl) ⟨B, X, T, rfl, rfl⟩ F N0 (by walk_at "my subs") (by walk_at "my subs") (by walk_at "my apart") (fun _ h => nomatch h) ?_
  rintro v foc' h2 tk2 F2 N2 ap2 ⟨kh2, k2, wl, x, dx, t, tob, rfl, rfl, htob, lo3, hnd2⟩
  dsimp only
  simp only [nd_app, apart_app, app_apart, and_assoc] at ap2 hnd2
  repeat (obtain ⟨_, ap2⟩ := ap2)
  repeat (obtain ⟨_, hnd2⟩ := hnd2)
  obtain ⟨rest, hrest⟩ : ∃ rest : Led, rest = coreL w.params c kh2 (last + 1) a b cc e zs zn plo emo ++ ([(sh, PySem.W.listOf ss sn)] ++ hashL w.params k2 (last + 1) wl x dx t tob) := ⟨_, rfl⟩
  have N3 : News g L' h2 rest := subNews N2 (by rw [hrest, coreL_eq]; walk_at "my subs")
  have hrn : (adr rest).Nodup := by
    rw [hrest, coreL_eq]
    simp only [nd_app, apart_app, app_apart, and_assoc]
    (repeat' apply And.intro) <;> walk_at "my apart"
  clear N0 N1 N2
  k_steps
  show wpAny _ _ _ _ _ _
  rename Fr _ _ _ _ => F4
  rename News _ _ _ _ => N4
  rename (∀ p ∈ rest, _) => l4
  rename_i h3 p4 h3b h4
  have hp4 : ∀ q ∈ rest, q.1 ≠ p4 := fun q hq => Nat.ne_of_lt (l4 q hq)
  refine For_invVF F4 (by rfl) (by rfl) ?_
  k_steps
  show wpAny _ _ _ _ _ _
  obtain ⟨m₀, hm₀, F4⟩ : ∃ m₀, m₀ = _ ∧ Fr g L' h4 m₀ := ⟨_, rfl, F4⟩
  have hnI : NoIt rest := by
    rw [hrest]
    exact noIt_append (noIt_core hpl hem) (noIt_append (noIt_cons (noIt_list rfl) noIt_nil) (noIt_cons (noIt_ref rfl) (noIt_cons (noIt_dict rfl) (noIt_cons (noIt_dict (dict_cls htob)) noIt_nil))))
  let J : Nat → (Str → Option Value) → Led → Prop := fun i m nx => ∃ (pvs : List Value) (pn : Nat), nx = (p4, PySem.W.listOf pvs.toArray pn) :: rest ∧ (∀ z : Str, z ≠ "word" → m z = m₀ z) ∧ PairsAre pvs (ws.take i) 1
  have hvl := hv.length
  have hJ0 : J 0 m₀ ((p4, PySem.W.listOf ([] : List Value).toArray 0) :: rest) := ⟨[], 0, rfl, fun _ _ => rfl, rfl, fun i y h => by simp at h⟩
  have hJn : ∀ i m nx, J i m nx → NoIt nx := fun i m nx ⟨pvs, pn, e, _⟩ => e ▸ noIt_cons (noIt_list rfl) hnI
  have hsrcJ : Src g J wa := by
    rcases hsrc with ⟨o, e, _⟩ | ⟨o, e, _⟩ <;> exact .inl ⟨o, e⟩
  have keepl : ∀ h' : Heap, (∀ b o, g.get? b = some o → h'.get? b = some o) → h'.IsList wa vs.toArray ∨ h'.IsTuple wa vs.toArray := fun h' hk =>
    hsrc.imp (fun z => z.at fun o e => hk _ _ e) fun z => z.at fun o e => hk _ _ e
  refine iter_words (vs := vs) J rfl (keepl _ F4.keep) hsrcJ hJn F4 N4 hJ0 ?_ ?_
  · rintro i v m₁ nx h tk I io hx ⟨pvs, pn, rfl, hm, hpv⟩ hI F5 N5
    obtain ⟨y, t9, hy, rfl⟩ := strsAre_get hv hx
    rw [setX hm, hm₀] at F5
    have hi : i < ws.length := (List.getElem?_eq_some_iff.mp hy).1
    have hI1 : @Ne Nat p4 I := hI (p4, _) (.head _)
    have hI2 : ∀ q ∈ rest ++ [(I, io)], q.1 ≠ p4 := fun q hq => by
      rcases List.mem_append.mp hq with hq | hq
      · exact hp4 q hq
      · rw [List.mem_singleton.mp hq]; exact hI1.symm
    obtain ⟨rest', hrest'⟩ : ∃ r, r = rest ++ [(I, io)] := ⟨_, rfl⟩
    have N6 : News g L' h ((p4, PySem.W.listOf pvs.toArray pn) :: rest') := by rw [hrest']; exact N5
    rw [← hrest'] at hI2
    clear N5 N4
    k_steps
    show wpAny _ _ _ _ _ _
    rename_i D hD lD
    rename Fr _ _ _ _ => F7
    rename News _ _ _ _ => N7
    have hpl2 : pvs.length = 2 * i := by have := hpv.1; rw [List.length_take, Nat.min_eq_left (Nat.le_of_lt hi)] at this; exact this
    refine kl_extend (l := pvs ++ [Value.str y t9, Value.int 1 _]) F7 N7 (List.Mem.head _) rfl (Nat.succ_ne_zero _) (Upd.tail (Ne.symm (Nat.ne_of_lt lD.1)) (Upd.head hI2)) ?_ ?_ ?_ ?_
    · refine not_too_long ?_
      simp; omega
    · rw [sizeLine_eq]; simp; omega
    · rw [sizeLine_eq]; simp; omega
    · intro h8 F8 N8
      k_steps
      obtain ⟨tk0, N9⟩ : ∃ tk0, News g L' h8 (((p4, PySem.W.listOf (pvs ++ [Value.str y t9, Value.int 1 tk0]).toArray (pn + 1)) :: rest) ++ [(I, io)]) := ⟨_, subNews N8 (by
        rw [hrest']
        exact fun q hq => .tail _ hq)⟩
      refine ⟨_, _, _, (p4, PySem.W.listOf (pvs ++ [Value.str y t9, Value.int 1 tk0]).toArray (pn + 1)) :: rest, rfl, F8, N9, pvs ++ [Value.str y t9, Value.int 1 tk0], pn + 1, rfl, ?_, pairs_snoc hpv hy⟩
      intro z hz
      rw [hm₀]; simp only [if_neg hz]
  · rintro h tk m nx F5 N5 ⟨pvs, pn, rfl, hm, hpv⟩
    rw [hvl, List.take_length] at hpv
    rw [setX5 hm, hm₀] at F5
    dsimp only
    have N6 : News g L' h ((p4, PySem.W.listOf pvs.toArray pn) :: rest) := N5
    clear N5 N4
    k_steps
    show wpAny _ _ _ _ _ _
    rename Fr _ _ _ _ => F7
    rename News _ _ _ _ => N7
    rename (_ ∧ AllLt _ rest) => lq
    rename_i h7a q h7b
    have hpq : @Ne Nat q p4 := Ne.symm (Nat.ne_of_lt lq.1)
    have hq : ∀ z ∈ rest, z.1 ≠ q := fun z hz => Nat.ne_of_lt (ktn_ltOf lq.2 z hz)
    rw [hrest] at N7 hrn hq hp4
    obtain ⟨t8, t9, N8⟩ : ∃ t8 t9, News g L' h7b ([(q, PySem.W.listOf [Value.str "old" t8, Value.int 7 t9].toArray 0)] ++ ([(p4, PySem.W.listOf pvs.toArray pn)] ++ (coreL w.params c kh2 (last + 1) a b cc e zs zn plo emo ++ ([(sh, PySem.W.listOf ss sn)] ++ hashL w.params k2 (last + 1) wl x dx t tob)))) := ⟨_, _, N7⟩
    have aq := apart_cons (o := PySem.W.listOf [Value.str "old" t8, Value.int 7 t9].toArray 0) hq apart_nil_left
    have ap4 := apart_cons (o := PySem.W.listOf pvs.toArray pn) hp4 apart_nil_left
    have ap5 : Apart [(q, PySem.W.listOf [Value.str "old" t8, Value.int 7 t9].toArray 0)] [(p4, PySem.W.listOf pvs.toArray pn)] := apart_cons (fun z hz => by rw [List.mem_singleton.mp hz]; exact hpq.symm) apart_nil_left
    simp only [nd_app, apart_app, app_apart, and_assoc] at aq ap4 hrn
    obtain ⟨aq1, aq2, aq3⟩ := aq
    obtain ⟨ap6, ap7, ap8⟩ := ap4
    obtain ⟨rn1, rn2, rn3, rn4, rn5, rn6⟩ := hrn
    have e0 : hashL w.params k2 (last + 1) wl x dx t tob = hashL w.params k2 (last + 1) wl x dx t tob ++ scL w.params [] := (List.append_nil _).symm
    refine Spec.use (fill_hash_spec (c := c) (kh := kh2) (last := last + 1) (a := a) (b := b) (cc := cc) (e := e) (zs := zs) (zn := zn) (plo := plo) (emo := emo) (k := k2) (num := last + 1) (wl := wl) (x := x) (dx := dx) (t := t) (tob := tob) (es := [])
        (vs := [Value.str "old" t8, Value.int 7 t9]) (vn := 0) (vl := q) (ws := ["old"]) (val := 7) (pairs_one _ _) (by decide) htob (by simp; omega) (by decide) lo3 (by omega) hpl hem lo1 lo2 ?_)
      ([(q, PySem.W.listOf [Value.str "old" t8, Value.int 7 t9].toArray 0)] ++ ([(p4, PySem.W.listOf pvs.toArray pn)] ++ [(sh, PySem.W.listOf ss sn)]))
      rfl rfl (Nat.le_of_ble_eq_true rfl) (Nat.le_of_ble_eq_true rfl) ⟨B, X, T, rfl, rfl⟩ F7 N8 (by walk_at "my subs") ?_ ?_ ?_ ?_
    · show (adr (coreL w.params c kh2 (last + 1) a b cc e zs zn plo emo ++ (hashL w.params k2 (last + 1) wl x dx t tob ++ scL w.params []))).Nodup
      rw [← e0]
      exact nd_app.mpr ⟨rn1, rn3, by assumption⟩
    · show ∀ z ∈ coreL w.params c kh2 (last + 1) a b cc e zs zn plo emo ++ (hashL w.params k2 (last + 1) wl x dx t tob ++ scL w.params []), z ∈ _
      rw [← e0]
      walk_at "my subs"
    · show Apart _ (coreL w.params c kh2 (last + 1) a b cc e zs zn plo emo ++ (hashL w.params k2 (last + 1) wl x dx t tob ++ scL w.params []))
      rw [← e0]
      walk_at "my apart"
    · intro z hz
      exact List.mem_append_left _ hz
    · rintro v foc' h9 tk9 F9 N9 ap9 ⟨rfl, kh3, last3, zs3, zn3, k3, t3, tob3, es3, rfl, hz3, hl3, hl3', hd3, hk3, lo4, hnd3⟩
      dsimp only
      have len3 : es3.length = 1 := by
        have := congrArg List.length hk3
        rw [List.length_map] at this
        exact this.trans rfl
      have hl3b : last3 ≤ last + 1 + 1 := hl3'
      have hz3b : zs3.size ≤ zs.size := hz3
      have N10 : News g L' h9 ([(p4, PySem.W.listOf pvs.toArray pn)] ++ (coreL w.params c kh3 last3 a b cc e zs3 zn3 plo emo ++ ([(sh, PySem.W.listOf ss sn)] ++ (hashL w.params k3 (last + 1) wl x dx t3 tob3 ++ scL w.params es3)))) := subNews N9 (by
        show ∀ z ∈ _, z ∈ ([(q, PySem.W.listOf [Value.str "old" t8, Value.int 7 t9].toArray 0)] ++ ([(p4, PySem.W.listOf pvs.toArray pn)] ++ [(sh, PySem.W.listOf ss sn)])) ++ (coreL w.params c kh3 last3 a b cc e zs3 zn3 plo emo ++ (hashL w.params k3 (last + 1) wl x dx t3 tob3 ++ scL w.params es3))
        walk_at "my subs")
      have ap10 : Apart ([(q, PySem.W.listOf [Value.str "old" t8, Value.int 7 t9].toArray 0)] ++ ([(p4, PySem.W.listOf pvs.toArray pn)] ++ [(sh, PySem.W.listOf ss sn)])) (coreL w.params c kh3 last3 a b cc e zs3 zn3 plo emo ++ (hashL w.params k3 (last + 1) wl x dx t3 tob3 ++ scL w.params es3)) := ap9
      clear N9 ap9 N8 N7
      simp only [apart_app, app_apart, and_assoc] at ap10
      repeat (obtain ⟨_, ap10⟩ := ap10)
      k_steps
      show wpAny _ _ _ _ _ _
      rename Fr _ _ _ _ => F11
      refine Spec.use (fill_hash_spec (c := c) (kh := kh3) (last := last3) (a := a) (b := b) (cc := cc) (e := e) (zs := zs3) (zn := zn3) (plo := plo) (emo := emo) (k := k3) (num := last + 1) (wl := wl) (x := x) (dx := dx) (t := t3) (tob := tob3) (es := es3)
          (vs := pvs) (vn := pn) (vl := p4) (ws := ws) (val := 1) hpv (by omega) hd3 (by omega) (by omega) lo4 (by omega) hpl hem lo1 lo2 hnd3)
        ([(p4, PySem.W.listOf pvs.toArray pn)] ++ [(sh, PySem.W.listOf ss sn)])
        rfl rfl (Nat.le_of_ble_eq_true rfl) (Nat.le_of_ble_eq_true rfl) ⟨B, X, T, rfl, rfl⟩ F11 N10 (by walk_at "my subs") ?_ ?_ ?_ ?_
      · show ∀ z ∈ coreL w.params c kh3 last3 a b cc e zs3 zn3 plo emo ++ (hashL w.params k3 (last + 1) wl x dx t3 tob3 ++ scL w.params es3), z ∈ _
        walk_at "my subs"
      · show Apart _ (coreL w.params c kh3 last3 a b cc e zs3 zn3 plo emo ++ (hashL w.params k3 (last + 1) wl x dx t3 tob3 ++ scL w.params es3))
        walk_at "my apart"
      · intro z hz
        exact List.mem_append_left _ hz
      · rintro v foc' h12 tk12 F12 N12 ap12 ⟨rfl, kh4, last4, zs4, zn4, k4, t4, tob4, es4, rfl, hz4, hl4, hl4', hd4, hk4, lo5, hnd4⟩
        dsimp only
        obtain ⟨rest2, hrest2⟩ : ∃ r, r = coreL w.params c kh4 last4 a b cc e zs4 zn4 plo emo ++ (hashL w.params k4 (last + 1) wl x dx t4 tob4 ++ scL w.params es4) := ⟨_, rfl⟩
        have N13 : News g L' h12 ((sh, PySem.W.listOf ss sn) :: rest2) := subNews N12 (by
          show ∀ z ∈ [(sh, PySem.W.listOf ss sn)] ++ rest2, z ∈ ([(p4, PySem.W.listOf pvs.toArray pn)] ++ [(sh, PySem.W.listOf ss sn)]) ++ (coreL w.params c kh4 last4 a b cc e zs4 zn4 plo emo ++ (hashL w.params k4 (last + 1) wl x dx t4 tob4 ++ scL w.params es4))
          rw [hrest2]
          walk_at "my subs")
        have ap13 : Apart [(sh, PySem.W.listOf ss sn)] rest2 := by
          rw [hrest2]
          exact (app_apart.mp ap12).2
        clear N12 N10
        k_steps
        show wpAny _ _ _ _ _ _
        rename Fr _ _ _ _ => F14
        refine append_K F14 N13 (Upd.head fun z hz => Ne.symm (ap13 _ (.head _) z hz)) ?_ (by rw [sizeLine_eq]; omega)
        intro h15 F15 N15
        k_steps
        have hnd5 : (adr (coreL w.params c kh4 last4 a b cc e zs4 zn4 plo emo ++ (hashL w.params k4 (last + 1) wl x dx t4 tob4 ++ scL w.params es4))).Nodup := hnd4
        refine ⟨_, _, _, coreL w.params c kh4 last4 a b cc e zs4 zn4 plo emo ++ ([(sh, PySem.W.listOf (ss.push (.ref x)) (sn + 1))] ++ Hs.led w.params ⟨x, dx, t4, wl, k4, last + 1, tob4, es4⟩), rfl, F15, subNews N15 ?_, hPo _ _ ⟨kh4, last4, zs4, zn4, sn + 1, ⟨x, dx, t4, wl, k4, last + 1, tob4, es4⟩, rfl, rfl, by omega, by omega, by omega, hd4, hk4, lo5, ?_⟩⟩
        · rw [hrest2]
          show ∀ z ∈ coreL w.params c kh4 last4 a b cc e zs4 zn4 plo emo ++ ([(sh, PySem.W.listOf (ss.push (.ref x)) (sn + 1))] ++ (hashL w.params k4 (last + 1) wl x dx t4 tob4 ++ scL w.params es4)), z ∈ [(sh, PySem.W.listOf (ss.push (.ref x)) (sn + 1))] ++ (coreL w.params c kh4 last4 a b cc e zs4 zn4 plo emo ++ (hashL w.params k4 (last + 1) wl x dx t4 tob4 ++ scL w.params es4))
          walk_at "my subs"
        · rw [hrest2] at ap13
          have ap14 : Apart [(sh, PySem.W.listOf (ss.push (.ref x)) (sn + 1))] (coreL w.params c kh4 last4 a b cc e zs4 zn4 plo emo ++ (hashL w.params k4 (last + 1) wl x dx t4 tob4 ++ scL w.params es4)) := fun p hp z hz => by
            rw [List.mem_singleton.mp hp]; exact ap13 _ (.head _) z hz
          obtain ⟨z1, z2, z3⟩ := nd_app.mp hnd5
          obtain ⟨z4, z5⟩ := apart_app.mp ap14
          exact nd_app.mpr ⟨z1, nd_app.mpr ⟨by simp [adr], z2, z5⟩, apart_right (apart_symm z4) z3⟩
end
end
end
/-- a contract with a wider focus -/
theorem Spec.wide {prog : Program} {w : World} {K : Frag} {d u : Nat} {f : Addr} {args : List Value} {ro foc : Led} {Post Post' : Value → Led → Prop} (S : Spec prog w K d u f args ro foc Post)
    (own0 big : Led) (h1 : ∀ q ∈ own0 ++ foc, q ∈ big) (ap0 : Apart own0 foc)
    (h2 : ∀ v foc', Apart own0 foc' → Post v foc' → ∃ big', (∀ q ∈ big', q ∈ own0 ++ foc') ∧ Post' v big') : Spec prog w K d u f args ro big Post' := by
  intro p loose mean mg mb gd env outer A₀ base h₀ L m s news own Q E C F N hown hfoc ap hro ret
  have ao : Apart own own0 := ap.sub (fun _ h => h) fun q hq => h1 q (List.mem_append_left _ hq)
  have af : Apart own foc := ap.sub (fun _ h => h) fun q hq => h1 q (List.mem_append_right _ hq)
  refine S p loose mean mg mb gd env outer A₀ base h₀ L m s news (own ++ own0) Q E C F N (List.forall_mem_append.mpr ⟨hown, fun q hq => hfoc q (h1 q (List.mem_append_left _ hq))⟩)
    (fun q hq => hfoc q (h1 q (List.mem_append_right _ hq))) (apart_left af ap0) (fun q hq => List.mem_append_left _ (hro q hq)) (fun v foc' h' tk' F' N' ap' hp => ?_)
  obtain ⟨big', hb, hp'⟩ := h2 v foc' (app_apart.mp ap').2 hp
  refine ret v big' h' tk' F' (subNews N' (List.forall_mem_append.mpr ⟨fun q hq => List.mem_append_left _ (List.mem_append_left _ hq), fun q hq => ?_⟩)) (fun p hp q hq => ?_) hp'
  · rcases List.mem_append.mp (hb q hq) with z | z
    · exact List.mem_append_left _ (List.mem_append_right _ z)
    · exact List.mem_append_right _ z
  · rcases List.mem_append.mp (hb q hq) with z | z
    · exact ao p hp q z
    · exact ap' p (List.mem_append_left _ hp) q z
/-- a contract with less room asked -/
theorem Spec.low {prog : Program} {w : World} {K : Frag} {d u d' u' : Nat} {f : Addr} {args : List Value} {ro foc : Led} {Post : Value → Led → Prop} (S : Spec prog w K d u f args ro foc Post) (hd : d' ≤ d) (hu : u' ≤ u) : Spec prog w K d' u' f args ro foc Post :=
  fun p loose mean mg mb gd env outer A₀ base h₀ L m s news own Q E C F N hown hfoc ap hro ret => wpAny_up (d := d) (u := u) (S p loose mean mg mb gd env outer A₀ base h₀ L m s news own Q E C F N hown hfoc ap hro ret) hd hu

/-- the words of the law -/
noncomputable def words7 : List Str := ["", "0", "a", "b", "ab", "ba", "00"]
structure Hs.ok (prog : Program) (w : World) (h : Hs) : Prop where
  d : h.tob.IsDictOf (strKind prog w) (kvsOf h.es)
  lo : (h.t == sysModules) = false
  sub : ∀ y ∈ h.keys, y ∈ words7
theorem Hs.ok.nodup {prog : Program} {w : World} {h : Hs} (x : h.ok prog w) : h.keys.Nodup := by
  have := dict_nodup x.d
  rw [keys_kvs] at this
  exact this
theorem nodup_sub_len : ∀ {l m : List Str}, l.Nodup → (∀ y ∈ l, y ∈ m) → l.length ≤ m.length
  | [], _, _, _ => Nat.zero_le _
  | a :: l, m, hn, h => by
    obtain ⟨h1, h2⟩ := List.nodup_cons.mp hn
    have ha : a ∈ m := h a (.head _)
    have := nodup_sub_len (m := m.erase a) h2 fun y hy => (List.mem_erase_of_ne (fun e => h1 (by rw [← e]; exact hy))).mpr (h y (.tail _ hy))
    rw [List.length_erase_of_mem ha] at this
    have := List.length_pos_of_mem ha
    simp only [List.length_cons]
    omega
theorem len7 {l : List Str} (hn : l.Nodup) (h : ∀ y ∈ l, y ∈ words7) : l.length ≤ 7 := nodup_sub_len (m := words7) hn h
noncomputable def shL (sh : Addr) (hs : List Hs) (sn : Nat) : Led := [(sh, PySem.W.listOf (hs.map fun h => Value.ref h.x).toArray sn)]
noncomputable def hsL (P : Params) (hs : List Hs) : Led := hs.flatMap (Hs.led P)
/-- the world of the law, as a ledger: the counter, the shelf, the hashes -/
noncomputable def Wd (prog : Program) (w : World) (c : Cn) (sh : Addr) (n : Nat) (σ : List (Addr × List Str)) (foc : Led) : Prop :=
  ∃ (kh : Nat → Tok) (last a b cc e : Int) (zs : Array Value) (zn : Nat) (plo emo : Obj) (sn : Nat) (hs : List Hs),
    foc = coreL w.params c kh last a b cc e zs zn plo emo ++ (shL sh hs sn ++ hsL w.params hs) ∧
    zs.size ≤ 100 * n ∧ 0 ≤ last ∧ last ≤ 100 * n ∧ hs.length ≤ n ∧ plo.IsDictOf (intKind prog w) [] ∧ emo.IsDictOf (intKind prog w) [] ∧ (c.pl == sysModules) = false ∧ (c.em == sysModules) = false ∧
    (adr foc).Nodup ∧ (∀ h ∈ hs, h.ok prog w) ∧ σ = hs.map fun h => (h.x, h.keys)
theorem hsL_append (P : Params) (A B : List Hs) : hsL P (A ++ B) = hsL P A ++ hsL P B := List.flatMap_append
theorem hsL_cons (P : Params) (h : Hs) (B : List Hs) : hsL P (h :: B) = Hs.led P h ++ hsL P B := rfl
theorem led_eq (P : Params) (h : Hs) : Hs.led P h = hashL P h.k h.num h.wl h.x h.dx h.t h.tob ++ scL P h.es := rfl
theorem shL_eq {sh : Addr} {A B : List Hs} {h h' : Hs} {sn : Nat} (e : h'.x = h.x) : shL sh (A ++ h' :: B) sn = shL sh (A ++ h :: B) sn := by
  unfold shL; simp [e]
theorem adr_hashL {P : Params} {k k' : Nat → Tok} {num : Int} {wl x dx t : Addr} {tob tob' : Obj} : adr (hashL P k' num wl x dx t tob') = adr (hashL P k num wl x dx t tob) := rfl
theorem apart_hashL {P : Params} {k k' : Nat → Tok} {num : Int} {wl x dx t : Addr} {tob tob' : Obj} {o : Led} (h : Apart o (hashL P k num wl x dx t tob)) : Apart o (hashL P k' num wl x dx t tob') :=
  apart_adr h fun y hy => hy
theorem mem_split {hs : List Hs} {x : Addr} {ks : List Str} (h : (x, ks) ∈ hs.map fun h => (h.x, h.keys)) : ∃ A h B, hs = A ++ h :: B ∧ x = h.x ∧ ks = h.keys := by
  obtain ⟨z, hm, e⟩ := List.mem_map.mp h
  obtain ⟨A, B, rfl⟩ := List.append_of_mem hm
  cases e
  exact ⟨A, z, B, rfl, rfl, rfl⟩
section
variable {prog : Program} {w : World} {c : Cn} {sh : Addr} {n : Nat} {σ : List (Addr × List Str)} {foc : Led} {x : Addr} {ks : List Str}
theorem wKeys (W : Wd prog w c sh n σ foc) (hx : (x, ks) ∈ σ) :
    Spec prog w (K w.params) 900 8000 352 [.ref x] [] foc
      (fun v foc' => ∃ l vs nn fw, v = .ref l ∧ StrsAre vs ks ∧ foc' = [(l, PySem.W.listOf vs.toArray nn)] ++ fw ∧ Wd prog w c sh n σ fw ∧ Apart [(l, PySem.W.listOf vs.toArray nn)] fw) := by
  obtain ⟨kh, last, a, b, cc, e, zs, zn, plo, emo, sn, hs, rfl, h1, h2, h3, h4, h5, h6, h7, h8, hn, hok, rfl⟩ := W
  obtain ⟨A, h, B, rfl, rfl, rfl⟩ := mem_split hx
  have ok := hok h (by simp)
  have l7 := len7 ok.nodup ok.sub
  rw [hsL_append, hsL_cons, led_eq] at hn
  have hn0 := hn
  simp only [nd_app, apart_app, app_apart, and_assoc] at hn
  have hh : (adr (hashL w.params h.k h.num h.wl h.x h.dx h.t h.tob)).Nodup := by
    repeat (obtain ⟨_, hn⟩ := hn)
    assumption
  have hh2 := hh
  simp only [adr, List.map_cons, List.map_nil, List.nodup_cons, List.mem_cons, List.not_mem_nil, or_false, not_or, List.nodup_nil, not_false_eq_true, and_true] at hh2
  refine Spec.wide (hash_keys_spec (kvs := kvsOf h.es) (k := h.k) (num := h.num) (wl := h.wl) (dx := h.dx) (t := h.t) (tob := h.tob) ok.d hh2.1.1 hh2.1.2 hh2.2 (by simp only [kvsOf, List.length_map]; simp only [Hs.keys, List.length_map] at l7; omega) ok.lo)
    (coreL w.params c kh last a b cc e zs zn plo emo ++ (shL sh (A ++ h :: B) sn ++ (hsL w.params A ++ (scL w.params h.es ++ hsL w.params B)))) _ ?_ ?_ ?_
  · rw [hsL_append, hsL_cons, led_eq]
    walk_at "my subs"
  · repeat (obtain ⟨_, hn⟩ := hn)
    walk_at "my apart"
  · rintro v foc' ap ⟨l, vs, nn, k', rfl, hS, rfl, n1, n2, n3⟩
    have ap' : Apart (coreL w.params c kh last a b cc e zs zn plo emo ++ (shL sh (A ++ h :: B) sn ++ (hsL w.params A ++ (scL w.params h.es ++ hsL w.params B)))) ([(l, PySem.W.listOf vs.toArray nn)] ++ hashL w.params k' h.num h.wl h.x h.dx h.t h.tob) := ap
    have a1 : Apart [(l, PySem.W.listOf vs.toArray nn)] (hashL w.params k' h.num h.wl h.x h.dx h.t h.tob) := apart_cons (fun q hq => by
      rcases List.mem_cons.mp hq with rfl | hq
      · exact n1.symm
      · rcases List.mem_cons.mp hq with rfl | hq
        · exact n2.symm
        · rw [List.mem_singleton.mp hq]; exact n3.symm) apart_nil_left
    have e1 : shL sh (A ++ { h with k := k' } :: B) sn = shL sh (A ++ h :: B) sn := shL_eq rfl
    have eF : coreL w.params c kh last a b cc e zs zn plo emo ++ (shL sh (A ++ { h with k := k' } :: B) sn ++ hsL w.params (A ++ { h with k := k' } :: B)) =
        coreL w.params c kh last a b cc e zs zn plo emo ++ (shL sh (A ++ h :: B) sn ++ (hsL w.params A ++ ((hashL w.params k' h.num h.wl h.x h.dx h.t h.tob ++ scL w.params h.es) ++ hsL w.params B))) := by
      rw [e1, hsL_append, hsL_cons, led_eq]
    refine ⟨[(l, PySem.W.listOf vs.toArray nn)] ++ (coreL w.params c kh last a b cc e zs zn plo emo ++ (shL sh (A ++ { h with k := k' } :: B) sn ++ hsL w.params (A ++ { h with k := k' } :: B))), ?_, l, vs, nn, _, rfl, ?_, rfl,
      ⟨kh, last, a, b, cc, e, zs, zn, plo, emo, sn, A ++ { h with k := k' } :: B, rfl, h1, h2, h3, ?_, h5, h6, h7, h8, ?_, ?_, ?_⟩, ?_⟩
    · rw [eF]
      show ∀ q ∈ _, q ∈ (coreL w.params c kh last a b cc e zs zn plo emo ++ (shL sh (A ++ h :: B) sn ++ (hsL w.params A ++ (scL w.params h.es ++ hsL w.params B)))) ++ ([(l, PySem.W.listOf vs.toArray nn)] ++ hashL w.params k' h.num h.wl h.x h.dx h.t h.tob)
      walk_at "my subs"
    · rw [keys_kvs] at hS; exact hS
    · simpa using h4
    · rw [eF]
      have e2 : adr (coreL w.params c kh last a b cc e zs zn plo emo ++ (shL sh (A ++ h :: B) sn ++ (hsL w.params A ++ ((hashL w.params k' h.num h.wl h.x h.dx h.t h.tob ++ scL w.params h.es) ++ hsL w.params B)))) =
          adr (coreL w.params c kh last a b cc e zs zn plo emo ++ (shL sh (A ++ h :: B) sn ++ (hsL w.params A ++ ((hashL w.params h.k h.num h.wl h.x h.dx h.t h.tob ++ scL w.params h.es) ++ hsL w.params B)))) := by
        simp only [adr_append, adr_hashL (k := h.k) (tob := h.tob)]
      rw [e2]
      exact hn0
    · intro z hz
      rcases List.mem_append.mp hz with hz | hz
      · exact hok z (by simp [hz])
      · rcases List.mem_cons.mp hz with rfl | hz
        · exact ⟨ok.d, ok.lo, ok.sub⟩
        · exact hok z (by simp [hz])
    · simp [Hs.keys]
    · rw [eF]
      simp only [apart_app, app_apart, and_assoc] at ap'
      repeat (obtain ⟨_, ap'⟩ := ap')
      walk_at "my apart"
theorem wCount (W : Wd prog w c sh n σ foc) (hx : (x, ks) ∈ σ) :
    Spec prog w (K w.params) 900 8000 359 [.ref x] [] foc (fun v foc' => ∃ tk, v = .int ks.length tk ∧ foc' = foc) := by
  obtain ⟨kh, last, a, b, cc, e, zs, zn, plo, emo, sn, hs, rfl, h1, h2, h3, h4, h5, h6, h7, h8, hn, hok, rfl⟩ := W
  obtain ⟨A, h, B, rfl, rfl, rfl⟩ := mem_split hx
  have ok := hok h (by simp)
  have l7 := len7 ok.nodup ok.sub
  rw [hsL_append, hsL_cons, led_eq] at hn
  simp only [nd_app, apart_app, app_apart, and_assoc] at hn
  refine Spec.wide (hash_count_spec (kvs := kvsOf h.es) (k := h.k) (num := h.num) (wl := h.wl) (dx := h.dx) (t := h.t) (tob := h.tob) ok.d (by simp only [kvsOf, List.length_map]; simp only [Hs.keys, List.length_map] at l7; omega) ok.lo)
    (coreL w.params c kh last a b cc e zs zn plo emo ++ (shL sh (A ++ h :: B) sn ++ (hsL w.params A ++ (scL w.params h.es ++ hsL w.params B)))) _ ?_ ?_ ?_
  · rw [hsL_append, hsL_cons, led_eq]
    walk_at "my subs"
  · repeat (obtain ⟨_, hn⟩ := hn)
    walk_at "my apart"
  · rintro v foc' ap ⟨tk, rfl, rfl⟩
    refine ⟨_, ?_, tk, by simp [kvsOf, Hs.keys], rfl⟩
    rw [hsL_append, hsL_cons, led_eq]
    walk_at "my subs"
theorem wHas (W : Wd prog w c sh n σ foc) (hx : (x, ks) ∈ σ) (y : Str) (tk : Tok) :
    Spec prog w (K w.params) 900 8000 324 [.ref x, .str y tk] [] foc (fun v foc' => v = .bool (decide (y ∈ ks)) ∧ foc' = foc) := by
  obtain ⟨kh, last, a, b, cc, e, zs, zn, plo, emo, sn, hs, rfl, h1, h2, h3, h4, h5, h6, h7, h8, hn, hok, rfl⟩ := W
  obtain ⟨A, h, B, rfl, rfl, rfl⟩ := mem_split hx
  have ok := hok h (by simp)
  have l7 := len7 ok.nodup ok.sub
  rw [hsL_append, hsL_cons, led_eq] at hn
  simp only [nd_app, apart_app, app_apart, and_assoc] at hn
  refine Spec.wide (has_key_spec (kvs := kvsOf h.es) (k := h.k) (num := h.num) (wl := h.wl) (dx := h.dx) (t := h.t) (tob := h.tob) ok.d (by simp only [kvsOf, List.length_map]; simp only [Hs.keys, List.length_map] at l7; omega) ok.lo y tk)
    (coreL w.params c kh last a b cc e zs zn plo emo ++ (shL sh (A ++ h :: B) sn ++ (hsL w.params A ++ (scL w.params h.es ++ hsL w.params B)))) _ ?_ ?_ ?_
  · rw [hsL_append, hsL_cons, led_eq]
    walk_at "my subs"
  · repeat (obtain ⟨_, hn⟩ := hn)
    walk_at "my apart"
  · rintro v foc' ap ⟨rfl, rfl⟩
    refine ⟨_, ?_, by rw [keys_kvs]; rfl, rfl⟩
    rw [hsL_append, hsL_cons, led_eq]
    walk_at "my subs"
theorem coreL_split {P : Params} {c : Cn} {kh : Nat → Tok} {last a b cc e : Int} {zs : Array Value} {zn : Nat} {plo emo : Obj} : coreL P c kh last a b cc e zs zn plo emo = dropL P c kh last zs zn ++ (limL P c a b cc e ++ plL c plo emo) := rfl
theorem apart_subset {a b b' : Led} (h : Apart a b) (e : ∀ y ∈ adr b', y ∈ adr b) : Apart a b' := apart_adr h e
theorem adr_scL_less (P : Params) (y : Str) : ∀ es : List Sc, List.Sublist (adr (scL P (lessK es y))) (adr (scL P es))
  | [] => List.Sublist.refl _
  | e :: es => by
    have ih := adr_scL_less P y es
    by_cases h : e.key = y
    · have e1 : lessK (e :: es) y = lessK es y := by unfold lessK; rw [List.filter_cons_of_neg (by simp [h])]
      rw [e1, scL_cons, adr_append]
      exact ih.trans (List.sublist_append_right _ _)
    · have e1 : lessK (e :: es) y = e :: lessK es y := by unfold lessK; rw [List.filter_cons_of_pos (by simp [h])]
      rw [e1, scL_cons, scL_cons, adr_append, adr_append]
      exact List.Sublist.append (List.Sublist.refl _) ih
theorem wDelete {A B : List (Addr × List Str)} (W : Wd prog w c sh n (A ++ (x, ks) :: B) foc) (hn1 : n ≤ 1000) (y : Str) (tk : Tok) :
    Spec prog w (K w.params) 850 7000 338 [.ref c.ci, .ref x, .str y tk] [] foc (fun v foc' => Wd prog w c sh (n + 1) (A ++ (x, ks.filter fun z => decide (z ≠ y)) :: B) foc') := by
  obtain ⟨kh, last, a, b, cc, e, zs, zn, plo, emo, sn, hs, rfl, h1, h2, h3, h4, h5, h6, h7, h8, hn, hok, hσ⟩ := W
  obtain ⟨A', C', rfl, rfl, hC⟩ := List.append_eq_map_iff.mp hσ
  obtain ⟨h, B', rfl, e2, rfl⟩ := List.map_eq_cons_iff.mp hC
  cases e2
  have ok := hok h (by simp)
  have l7 := len7 ok.nodup ok.sub
  rw [hsL_append, hsL_cons, led_eq] at hn
  have hn0 := hn
  rw [coreL_split] at hn
  simp only [nd_app, apart_app, app_apart, and_assoc] at hn
  refine Spec.wide (delete_key_spec (c := c) (kh := kh) (last := last) (zs := zs) (zn := zn) (k := h.k) (num := h.num) (wl := h.wl) (dx := h.dx) (t := h.t) (tob := h.tob) (es := h.es) ok.d (by omega) (by simp only [Hs.keys, List.length_map] at l7; omega) ok.lo y tk ?_)
    ((limL w.params c a b cc e ++ plL c plo emo) ++ (shL sh (A' ++ h :: B') sn ++ (hsL w.params A' ++ hsL w.params B'))) _ ?_ ?_ ?_
  · repeat (obtain ⟨_, hn⟩ := hn)
    simp only [nd_app, apart_app, app_apart, and_assoc]
    (repeat' apply And.intro) <;> walk_at "my apart"
  · rw [hsL_append, hsL_cons, led_eq, coreL_split]
    walk_at "my subs"
  · repeat (obtain ⟨_, hn⟩ := hn)
    walk_at "my apart"
  · rintro v foc' ap ⟨zs', zn', tob', rfl, hz, hd⟩
    have eF : coreL w.params c kh last a b cc e zs' zn' plo emo ++ (shL sh (A' ++ { h with tob := tob', es := lessK h.es y } :: B') sn ++ hsL w.params (A' ++ { h with tob := tob', es := lessK h.es y } :: B')) =
        (dropL w.params c kh last zs' zn' ++ (limL w.params c a b cc e ++ plL c plo emo)) ++ (shL sh (A' ++ h :: B') sn ++ (hsL w.params A' ++ ((hashL w.params h.k h.num h.wl h.x h.dx h.t tob' ++ scL w.params (lessK h.es y)) ++ hsL w.params B'))) := by
      rw [hsL_append, hsL_cons, led_eq, coreL_split, shL_eq (h' := { h with tob := tob', es := lessK h.es y }) (h := h) rfl]
    have hkeys : (lessK h.es y).map Sc.key = h.keys.filter fun z => decide (z ≠ y) := by
      unfold lessK Hs.keys
      rw [List.filter_map]
      rfl
    refine ⟨_, ?_, kh, last, a, b, cc, e, zs', zn', plo, emo, sn, A' ++ { h with tob := tob', es := lessK h.es y } :: B', rfl, by omega, h2, by omega, ?_, h5, h6, h7, h8, ?_, ?_, ?_⟩
    · rw [eF]
      walk_at "my subs"
    · simp at h4 ⊢; omega
    · rw [eF]
      refine List.Sublist.nodup (l₂ := adr (coreL w.params c kh last a b cc e zs zn plo emo ++ (shL sh (A' ++ h :: B') sn ++ (hsL w.params A' ++ ((hashL w.params h.k h.num h.wl h.x h.dx h.t h.tob ++ scL w.params h.es) ++ hsL w.params B'))))) ?_ hn0
      rw [coreL_split]
      simp only [adr_append]
      refine List.Sublist.append (List.Sublist.refl _) (List.Sublist.append (List.Sublist.refl _) (List.Sublist.append (List.Sublist.refl _) (List.Sublist.append (List.Sublist.append (List.Sublist.refl _) (adr_scL_less _ _ _)) (List.Sublist.refl _))))
    · intro z hz
      rcases List.mem_append.mp hz with hz | hz
      · exact hok z (by simp [hz])
      · rcases List.mem_cons.mp hz with rfl | hz
        · refine ⟨hd, ok.lo, fun z hz => ok.sub z ?_⟩
          have hz' : z ∈ (lessK h.es y).map Sc.key := hz
          rw [hkeys] at hz'
          exact (List.mem_filter.mp hz').1
        · exact hok z (by simp [hz])
    · rw [List.map_append, List.map_cons]
      show _ = _ ++ (h.x, (lessK h.es y).map Sc.key) :: _
      rw [hkeys]
end
theorem mem_dd {ws : List Str} {y : Str} : y ∈ dd ws ↔ y ∈ ws := by
  have : ∀ (ws acc : List Str), y ∈ ws.foldl ddStep acc ↔ y ∈ acc ∨ y ∈ ws := by
    intro ws
    induction ws with
    | nil => simp
    | cons a r ih =>
      intro acc
      rw [List.foldl_cons, ih]
      unfold ddStep
      split
      · next h => constructor
                  · rintro (h' | h')
                    · exact .inl h'
                    · exact .inr (.tail _ h')
                  · rintro (h' | h')
                    · exact .inl h'
                    · rcases List.mem_cons.mp h' with rfl | h'
                      · exact .inl h
                      · exact .inr h'
      · simp [or_assoc]
  simpa [dd] using this ws []
section
variable {prog : Program} {w : World} {c : Cn} {sh : Addr} {n : Nat} {σ : List (Addr × List Str)} {foc : Led} {x : Addr} {ks : List Str}
theorem wLaid {ro : Led} {wa : Addr} {vs : List Value} {ws : List Str} (W : Wd prog w c sh n σ foc) (hn1 : n ≤ 1000) (hw : WordsAt (K w.params) ro wa vs) (hv : StrsAre vs ws) (hlen : ws.length ≤ 50) (h7w : ∀ y ∈ ws, y ∈ words7) :
    Spec prog w (K w.params) 750 5000 505 [.ref c.ci, .ref sh, .ref wa] ro foc (fun v foc' => ∃ x, v = .ref x ∧ Wd prog w c sh (n + 1) (σ ++ [(x, dd ws)]) foc') := by
  obtain ⟨kh, last, a, b, cc, e, zs, zn, plo, emo, sn, hs, rfl, h1, h2, h3, h4, h5, h6, h7, h8, hn, hok, rfl⟩ := W
  have hn0 := hn
  simp only [nd_app, apart_app, app_apart, and_assoc] at hn
  refine Spec.wide (laid_spec (c := c) (kh := kh) (last := last) (a := a) (b := b) (cc := cc) (e := e) (zs := zs) (zn := zn) (plo := plo) (emo := emo) (sh := sh) (ss := (hs.map fun h => Value.ref h.x).toArray) (sn := sn) hw hv hlen (by omega) (by omega) (by simp; omega) h5 h6 h7 h8 ?_)
    (hsL w.params hs) _ ?_ ?_ ?_
  · show (adr (coreL w.params c kh last a b cc e zs zn plo emo ++ shL sh hs sn)).Nodup
    repeat (obtain ⟨_, hn⟩ := hn)
    simp only [nd_app, apart_app, app_apart, and_assoc]
    (repeat' apply And.intro) <;> walk_at "my apart"
  · show ∀ q ∈ hsL w.params hs ++ (coreL w.params c kh last a b cc e zs zn plo emo ++ shL sh hs sn), q ∈ _
    walk_at "my subs"
  · show Apart (hsL w.params hs) (coreL w.params c kh last a b cc e zs zn plo emo ++ shL sh hs sn)
    repeat (obtain ⟨_, hn⟩ := hn)
    walk_at "my apart"
  · rintro v foc' ap ⟨kh', last', zs', zn', sn', h, rfl, rfl, hz, hl1, hl2, hd, hk, lo, hnd⟩
    have e1 : [(sh, PySem.W.listOf ((hs.map fun h => Value.ref h.x).toArray.push (.ref h.x)) sn')] = shL sh (hs ++ [h]) sn' := by
      unfold shL; simp
    rw [e1] at hnd ap ⊢
    have eF : coreL w.params c kh' last' a b cc e zs' zn' plo emo ++ (shL sh (hs ++ [h]) sn' ++ hsL w.params (hs ++ [h])) = coreL w.params c kh' last' a b cc e zs' zn' plo emo ++ (shL sh (hs ++ [h]) sn' ++ (hsL w.params hs ++ Hs.led w.params h)) := by
      rw [hsL_append, hsL_cons, show hsL w.params [] = [] from rfl, List.append_nil]
    refine ⟨_, ?_, h.x, rfl, kh', last', a, b, cc, e, zs', zn', plo, emo, sn', hs ++ [h], rfl, by omega, by omega, by omega, ?_, h5, h6, h7, h8, ?_, ?_, ?_⟩
    · rw [eF]
      walk_at "my subs"
    · simp; omega
    · rw [eF]
      simp only [nd_app, apart_app, app_apart, and_assoc] at hnd ap ⊢
      repeat (obtain ⟨_, hn⟩ := hn)
      repeat (obtain ⟨_, hnd⟩ := hnd)
      repeat (obtain ⟨_, ap⟩ := ap)
      (repeat' apply And.intro) <;> walk_at "my apart"
    · intro z hz
      rcases List.mem_append.mp hz with hz | hz
      · exact hok z hz
      · rw [List.mem_singleton.mp hz]
        exact ⟨hd, lo, fun y hy => h7w y (mem_dd.mp (by rw [← hk]; exact hy))⟩
    · rw [List.map_append, List.map_cons, List.map_nil, hk]
theorem wClear {A B : List (Addr × List Str)} (W : Wd prog w c sh n (A ++ (x, ks) :: B) foc) (hn1 : n ≤ 1000) :
    Spec prog w (K w.params) 850 7000 345 [.ref c.ci, .ref x] [] foc (fun v foc' => v = .none ∧ Wd prog w c sh (n + 1) (A ++ (x, []) :: B) foc') := by
  obtain ⟨kh, last, a, b, cc, e, zs, zn, plo, emo, sn, hs, rfl, h1, h2, h3, h4, h5, h6, h7, h8, hn, hok, hσ⟩ := W
  obtain ⟨A', C', rfl, rfl, hC⟩ := List.append_eq_map_iff.mp hσ
  obtain ⟨h, B', rfl, e2, rfl⟩ := List.map_eq_cons_iff.mp hC
  cases e2
  have ok := hok h (by simp)
  have l7 := len7 ok.nodup ok.sub
  rw [hsL_append, hsL_cons, led_eq] at hn
  have hn0 := hn
  rw [coreL_split] at hn
  simp only [nd_app, apart_app, app_apart, and_assoc] at hn
  refine Spec.wide (clear_hash_spec (c := c) (kh := kh) (last := last) (zs := zs) (zn := zn) (k := h.k) (num := h.num) (wl := h.wl) (dx := h.dx) (t := h.t) (tob := h.tob) (es := h.es) ok.d (by simp only [Hs.keys, List.length_map] at l7; omega) (by simp only [Hs.keys, List.length_map] at l7; omega) ok.lo ?_)
    ((limL w.params c a b cc e ++ plL c plo emo) ++ (shL sh (A' ++ h :: B') sn ++ (hsL w.params A' ++ hsL w.params B'))) _ ?_ ?_ ?_
  · repeat (obtain ⟨_, hn⟩ := hn)
    simp only [nd_app, apart_app, app_apart, and_assoc]
    (repeat' apply And.intro) <;> walk_at "my apart"
  · rw [hsL_append, hsL_cons, led_eq, coreL_split]
    walk_at "my subs"
  · repeat (obtain ⟨_, hn⟩ := hn)
    walk_at "my apart"
  · rintro v foc' ap ⟨rfl, zs', zn', k', t', tob', rfl, hz, hd, lo, hnd⟩
    have eF : coreL w.params c kh last a b cc e zs' zn' plo emo ++ (shL sh (A' ++ { h with k := k', t := t', tob := tob', es := [] } :: B') sn ++ hsL w.params (A' ++ { h with k := k', t := t', tob := tob', es := [] } :: B')) =
        (dropL w.params c kh last zs' zn' ++ (limL w.params c a b cc e ++ plL c plo emo)) ++ (shL sh (A' ++ h :: B') sn ++ (hsL w.params A' ++ (hashL w.params k' h.num h.wl h.x h.dx t' tob' ++ hsL w.params B'))) := by
      rw [hsL_append, hsL_cons, led_eq, coreL_split, shL_eq (h' := { h with k := k', t := t', tob := tob', es := [] }) (h := h) rfl, show scL w.params [] = [] from rfl, List.append_nil]
    refine ⟨_, ?_, rfl, kh, last, a, b, cc, e, zs', zn', plo, emo, sn, A' ++ { h with k := k', t := t', tob := tob', es := [] } :: B', rfl, ?_, h2, by omega, ?_, h5, h6, h7, h8, ?_, ?_, ?_⟩
    · rw [eF]
      walk_at "my subs"
    · simp only [Hs.keys, List.length_map] at l7; omega
    · simp at h4 ⊢; omega
    · rw [eF]
      simp only [nd_app, apart_app, app_apart, and_assoc] at hnd ap ⊢
      repeat (obtain ⟨_, hn⟩ := hn)
      repeat (obtain ⟨_, hnd⟩ := hnd)
      repeat (obtain ⟨_, ap⟩ := ap)
      (repeat' apply And.intro) <;> walk_at "my apart"
    · intro z hz
      rcases List.mem_append.mp hz with hz | hz
      · exact hok z (by simp [hz])
      · rcases List.mem_cons.mp hz with rfl | hz
        · exact ⟨hd, lo, fun z hz => nomatch hz⟩
        · exact hok z (by simp [hz])
    · rw [List.map_append, List.map_cons]
      rfl
end
section
variable {prog : Program} {w : World} {K : Frag} {d u : Nat} {f : Addr} {args : List Value} {ro foc : Led} {Post : Value → Led → Prop}
  {name qual : Str} {params : Arguments} {body : List Stmt} {scope : Scope} {dV kV doc pm cdv ct oc : Value} {an od : Option Addr} {osl : Array (Option Value)} {binds : List (Str × Value)}

theorem spec_ofC
    (ho : K.lookup f = some ⟨oc, od, .func (fnOf name qual params body scope dV kV doc pm an cdv ct), osl⟩) (hcd : codeIn K cdv qual = true) (hroom : d < recursionLimit)
    (hbind : ∀ s, BindsTo s (fnOf name qual params body scope dV kV doc pm an cdv ct) ⟨args, []⟩ binds) (hkind : (binds.all fun y => scope.names.lookup y.1 == some .local || scope.names.lookup y.1 == some .cell) = true)
    (hnd : ((cellsFrom 0 scope.names []).map (·.1)).Nodup)
    (h : ∀ (p : Program) (loose : List Str) (mean : ExcName → Option Value) (mg mb : Str → Option Value) (gd : Option (List Code)) (env : Env) (outer : List Env) (A₀ A₁ : Around) (base g : Heap) (L' : Addr) (h₁ : Heap) (tk : Nat) (s₁ : Shared) (cells : Led),
      s₁.heap = h₁ → Fr g L' h₁ (bindL (envOfC qual scope L' f cdv).kindOf binds fun _ => none) → News g L' h₁ (cells ++ foc) → CellsAre (bindC (envOfC qual scope L' f cdv).kindOf binds fun _ => none) (cellsFrom (L' + 1) scope.names []) cells →
      (∀ p ∈ foc, p.1 < L') → (∀ q ∈ ro, g.get? q.1 = some q.2) → Below A₁ base (env :: outer) g → K.In g → Top p loose mean mg mb g →
      wpAny (model prog w) ((Ar d u gd env outer).deeper (envOfC qual scope L' f cdv)) (execs body (envOfC qual scope L' f cdv))
        (fun fl s' => BodyEnd g L' Post s₁ (match fl with | .ret v => v | _ => .none) s') (fun _ _ => False) s₁)
    (hco : scope.isCoroutine = false) (hgen : scope.isGenerator = false) (hk : scope.kind = .function) :
    Spec prog w K d u f args ro foc Post := by
  intro p loose mean mg mb gd env outer A₀ base h₀ L m s news own Q E C F N hown hfoc ap hro ret
  refine wpAny_call ?_
  have N' : News h₀ L s.heap foc := subNews N hfoc
  obtain ⟨FG, BG, st, _⟩ := groundX (A := Ar d u gd env outer) (R := fun _ _ => True) C.B F N' rfl C.hf C.hk
  have X' := C.X.keeps F.keep
  refine codeAny_call_function hroom (X' _ _ ho) rfl hco hgen rfl (codeRec_of X' hcd) (hbind _ _ _ _ _ ?_)
  refine wpAny_newFunctionEnv_cells hk (kindsX hkind _) fun env' he s' x => ?_
  subst he
  refine ⟨(C.T.nolimit.keeps F.keep).keeps x.toInCall.keep, codeAny_func ?_⟩
  obtain ⟨h₁, tk, rfl, _⟩ := x.done
  have hk₁ := x.toInCall.keep
  obtain ⟨cells, NC, Y⟩ := Cl.news (h₀ := s.heap) (Nat.le_refl _) fun n c hm => ⟨x.cell n c (lookup_of_mem_nodup (cellsFrom_names scope.names 0 (s.heap.objs.size + 1) [] [] rfl ▸ hnd) hm), x.above n c hm⟩
  have Lt : ∀ q ∈ foc, q.1 < s.heap.objs.size := fun q hq => Heap.lt_size (N' q hq).1
  have hroG : ∀ q ∈ ro, (hideAll s.heap (foc.map (·.1))).get? q.1 = some q.2 := fun q hq =>
    hideAll_get _ (N q (hown q (hro q hq))).1 (ap.not_adr (hro q hq))
  have Xg : K.In (hideAll s.heap (foc.map (·.1))) := C.X.keeps st
  have Tg : Top p loose mean mg mb (hideAll s.heap (foc.map (·.1))) := C.T.keeps st
  refine wpAny_mono (h p loose mean mg mb gd env outer A₀ (Ar d u gd env outer) base (hideAll s.heap (foc.map (·.1))) s.heap.objs.size h₁ tk { s with heap := h₁, toks := tk } cells rfl
    ⟨x.toInCall.ns, fun b o e => hk₁ b o (of_hideAll _ e), Nat.le_of_eq (hideAll_size _ _)⟩ (fun p hp => ?_) Y Lt hroG BG (Xg) (Tg)) (fun fl s' hl => ?_) fun _ _ e => e.elim
  · rcases List.mem_append.mp hp with hp | hp
    · refine ⟨(NC p hp).1, (NC p hp).2.1, ?_⟩
      cases q : (hideAll s.heap (foc.map (·.1))).get? p.1 with
      | none => rfl
      | some o => have := of_hideAll _ q; rw [(NC p hp).2.2] at this; cases this
    · exact ⟨hk₁ _ _ (N' p hp).1, Nat.ne_of_lt (Lt p hp), hideAll_none _ (List.mem_map_of_mem hp)⟩
  obtain ⟨h', tk', m', foc', rfl, F', N'', hp⟩ := hl
  have keep : ∀ b o, s.heap.get? b = some o → b ∉ foc.map (·.1) → h'.get? b = some o := fun b o e hb => F'.keep b o (hideAll_get _ e hb)
  obtain ⟨oL, es, ep, hL, hLd, hLk, hLf⟩ := F.ns
  have nL : L ∉ foc.map (·.1) := fun q => by
    obtain ⟨r, hr, e⟩ := List.mem_map.mp q
    exact (N' r hr).2.1 e
  have old : ∀ b o, h₀.get? b = some o → b ∉ foc.map (·.1) := fun b o e q => by
    obtain ⟨r, hr, rfl⟩ := List.mem_map.mp q
    rw [(N' r hr).2.2] at e; cases e
  have Fc : Fr h₀ L h' m := ⟨⟨oL, es, ep, keep L oL hL nL, hLd, hLk, hLf⟩, fun b o e => keep b o (F.keep b o e) (old b o e), F.above⟩
  have nf : ∀ q ∈ foc', ∀ b o, s.heap.get? b = some o → b ∉ foc.map (·.1) → b ≠ q.1 := fun q hq b o e hb r => by
    have := (N'' q hq).2.2
    rw [← r, hideAll_get _ e hb] at this
    cases this
  refine ret _ foc' h' tk' Fc (fun q hq => ?_) (fun q hq r hr => nf r hr q.1 q.2 (N q (hown q hq)).1 (ap.not_adr hq)) hp
  rcases List.mem_append.mp hq with hq | hq
  · exact ⟨keep _ _ (N q (hown q hq)).1 (ap.not_adr hq), (N q (hown q hq)).2⟩
  · refine ⟨(N'' q hq).1, fun e => nf q hq L oL hL nL e.symm, ?_⟩
    cases e : h₀.get? q.1 with
    | none => rfl
    | some o => exact absurd rfl (nf q hq q.1 o (F.keep _ _ e) (old _ _ e))
end
section
local macro_rules | `(tactic| walk_at "call builtin:sorted") => `(tactic| refine stop ?_)
local macro_rules | `(tactic| walk_at "binaryOp Add ref ref") => `(tactic| refine stop ?_)
local macro_rules | `(tactic| walk_at "call ref") => `(tactic| ((with_reducible first | show wpAny _ _ (call (Value.ref 352) _ _) _ _ _ | show wpAny _ _ (call (Value.ref 359) _ _) _ _ _ | show wpAny _ _ (call (Value.ref 324) _ _) _ _ _ | show wpAny _ _ (call (Value.ref 338) _ _) _ _ _ | show wpAny _ _ (call (Value.ref 505) _ _) _ _ _ | show wpAny _ _ (call (Value.ref 364) _ _) _ _ _); refine stop ?_))
local macro_rules | `(tactic| walk_at "eval ListComp") => `(tactic| refine stop ?_)
local macro_rules | `(tactic| walk_at "CompSrc") => `(tactic| refine stop ?_)
local macro_rules | `(tactic| walk_at "CompSrcT") => `(tactic| refine stop ?_)
local macro_rules | `(tactic| walk_at "CompEnd") => `(tactic| refine stop ?_)
local macro_rules | `(tactic| walk_at "call ref") => `(tactic| ((with_reducible first | show wpAny _ _ (call (Value.ref 531) _ _) _ _ _ | show wpAny _ _ (call (Value.ref 512) _ _) _ _ _ | show wpAny _ _ (call (Value.ref 517) _ _) _ _ _ | show wpAny _ _ (call (Value.ref 524) _ _) _ _ _); refine stop ?_))
local macro_rules | `(tactic| walk_at "compareOp NotEq ref ref") => `(tactic| refine stop ?_)
local macro_rules | `(tactic| walk_at "compareOp Eq ref ref") => `(tactic| refine stop ?_)
local macro_rules | `(tactic| walk_at "compareOp In str ref") => `(tactic| refine stop ?_)
local macro_rules | `(tactic| walk_at "compareOp NotIn str ref") => `(tactic| refine stop ?_)
local macro_rules | `(tactic| walk_at "exec Assign cons ListComp") => `(tactic| refine stop ?_)
local macro_rules | `(tactic| walk_at "TupSrc") => `(tactic| refine stop ?_)
section
variable {prog : Program} {w : World} {c : Cn} {sh : Addr} {n : Nat} {σ : List (Addr × List Str)} {foc : Led} {x : Addr} {ks : List Str}
noncomputable abbrev oneL (l : Addr) (vs : List Value) (nn : Nat) : Led := [(l, PySem.W.listOf vs.toArray nn)]
theorem Wd.len {fw : Led} (W : Wd prog w c sh n σ fw) (hx : (x, ks) ∈ σ) : ks.Nodup ∧ (∀ y ∈ ks, y ∈ words7) ∧ ks.length ≤ 7 := by
  obtain ⟨kh, last, a, b, cc, e, zs, zn, plo, emo, sn, hs, rfl, h1, h2, h3, h4, h5, h6, h7, h8, hn, hok, rfl⟩ := W
  obtain ⟨A, h, B, rfl, rfl, rfl⟩ := mem_split hx
  have ok := hok h (by simp)
  exact ⟨ok.nodup, ok.sub, len7 ok.nodup ok.sub⟩
theorem wSorted (W : Wd prog w c sh n σ foc) (hx : (x, ks) ∈ σ) :
    Spec prog w (K w.params) 850 7000 531 [.ref x] [] foc
      (fun v foc' => ∃ l vs nn ss fw, v = .ref l ∧ StrsAre vs ss ∧ ss.Perm ks ∧ sortedS ss = true ∧ foc' = oneL l vs nn ++ fw ∧ Wd prog w c sh n σ fw ∧ Apart (oneL l vs nn) fw) := by
  refine' spec_of (binds := [("made", .ref x)]) ?k1 ?k2 ?k3 ?k4 ?k5 ?_ ?c1 ?c2 ?c3 ?c4
  walk_at "my spec"
  intro p loose mean mg mb gd env outer A₀ A₁ base g L' h₁ s₁ hs F N lt hro B X T
  subst hs
  have N0 : News g L' s₁.heap ([] ++ foc) := N
  k_steps
  show wpAny _ _ _ _ _ _
  refine Spec.use (wKeys W hx) [] rfl rfl (Nat.le_of_ble_eq_true rfl) (Nat.le_of_ble_eq_true rfl) ⟨B, X, T, rfl, rfl⟩ F N (fun _ h => nomatch h) (fun _ h => h) apart_nil_left (fun _ h => nomatch h) ?_
  rintro v foc' h2 tk2 F2 N2 ap2 ⟨l, vs, nn, fw, rfl, hS, rfl, W2, ap3⟩
  try dsimp only
  have N3 : News g L' h2 ((l, PySem.W.listOf vs.toArray nn) :: fw) := N2
  k_steps
  show wpAny _ _ _ _ _ _
  refine sorted_N_str F2 N3 (N3.isList (.head _)) hS (by have := hS.length; have := (W.len hx).2.2; omega) ?_
  intro h4 vs4 ss4 e4 F4 N4 hS4 hp4 hs4
  k_steps
  refine ⟨_, _, _, oneL _ vs4 e4 ++ fw, rfl, F4, subNews N4 ?_, _, vs4, e4, ss4, fw, rfl, hS4, hp4, hs4, rfl, W2, ?_⟩
  · intro q hq
    rcases List.mem_append.mp hq with hq | hq
    · rw [List.mem_singleton.mp hq]; exact .head _
    · exact .tail _ (.tail _ hq)
  · exact apart_of_lt fun q hq => Nat.lt_succ_of_lt (Heap.lt_size (N3 q (.tail _ hq)).1)
end
section
variable {prog : Program} {w : World} {c : Cn} {sh : Addr} {n : Nat} {σ : List (Addr × List Str)} {foc : Led} {x y : Addr} {ks ls : List Str}
theorem wordsAt_list {K : Frag} {l : Addr} {vs : List Value} {nn : Nat} : WordsAt K (oneL l vs nn) l vs := fun _ _ h => .inl ⟨_, h _ (.head _), rfl, _, rfl⟩
theorem strs_app : ∀ {vs vs' : List Value} {ss ss' : List Str}, StrsAre vs ss → StrsAre vs' ss' → StrsAre (vs ++ vs') (ss ++ ss')
  | _, _, _, _, .nil, h => h
  | _, _, _, _, .cons a b r, h => .cons a b (strs_app r h)
theorem wEither (W : Wd prog w c sh n σ foc) (hn1 : n ≤ 1000) (hx : (x, ks) ∈ σ) (hy : (y, ls) ∈ σ) :
    Spec prog w (K w.params) 700 4500 512 [.ref c.ci, .ref sh, .ref x, .ref y] [] foc
      (fun v foc' => ∃ z, v = .ref z ∧ Wd prog w c sh (n + 1) (σ ++ [(z, dd (ks ++ ls))]) foc') := by
  refine' spec_of (binds := [("counter", .ref c.ci), ("shelf", .ref sh), ("one", .ref x), ("other", .ref y)]) ?k1 ?k2 ?k3 ?k4 ?k5 ?_ ?c1 ?c2 ?c3 ?c4
  walk_at "my spec"
  intro p loose mean mg mb gd env outer A₀ A₁ base g L' h₁ s₁ hs F N lt hro B X T
  subst hs
  k_steps
  show wpAny _ _ _ _ _ _
  refine Spec.use (wKeys W hx) [] rfl rfl (Nat.le_of_ble_eq_true rfl) (Nat.le_of_ble_eq_true rfl) ⟨B, X, T, rfl, rfl⟩ F N (fun _ h => nomatch h) (fun _ h => h) apart_nil_left (fun _ h => nomatch h) ?_
  rintro v foc' h2 tk2 F2 N2 ap2 ⟨l, vs, nn, fw, rfl, hS, rfl, W2, ap3⟩
  try dsimp only
  have N3 : News g L' h2 (oneL l vs nn ++ fw) := N2
  clear N N2
  k_steps
  show wpAny _ _ _ _ _ _
  refine Spec.use (wKeys W2 hy) (oneL l vs nn) rfl rfl (Nat.le_of_ble_eq_true rfl) (Nat.le_of_ble_eq_true rfl) ⟨B, X, T, rfl, rfl⟩ F2 N3 (by walk_at "my subs") (by walk_at "my subs") ap3 (fun _ h => nomatch h) ?_
  rintro v foc' h4 tk4 F4 N4 ap4 ⟨l2, vs2, nn2, fw2, rfl, hS2, rfl, W4, ap5⟩
  try dsimp only
  clear N3
  k_steps
  show wpAny _ _ _ _ _ _
  have c1 := W.len hx
  have c2 := W.len hy
  have b1 := hS.length
  have b2 := hS2.length
  refine add_lists F4 N4 (N4.isList (.head _)) (N4.isList (.tail _ (.head _))) (fun h5 F5 N5 => ?_) (by rw [sizeLine_eq]; omega)
  have N6 : News g L' h5 (oneL h4.objs.size (vs ++ vs2) 0 ++ fw2) := subNews N5 (by
    intro q hq
    rcases List.mem_append.mp hq with hq | hq
    · rw [List.mem_singleton.mp hq]; exact .head _
    · exact .tail _ (.tail _ (.tail _ hq)))
  have ap6 : Apart (oneL h4.objs.size (vs ++ vs2) 0) fw2 := apart_of_lt fun q hq => Heap.lt_size (N4 q (.tail _ (.tail _ hq))).1
  clear N5 N4
  k_steps
  show wpAny _ _ _ _ _ _
  refine Spec.use (wLaid W4 hn1 wordsAt_list (strs_app hS hS2) (by rw [List.length_append]; omega) (fun z hz => (List.mem_append.mp hz).elim (c1.2.1 z) (c2.2.1 z))) (oneL h4.objs.size (vs ++ vs2) 0) rfl rfl (Nat.le_of_ble_eq_true rfl) (Nat.le_of_ble_eq_true rfl) ⟨B, X, T, rfl, rfl⟩ F5 N6 (by walk_at "my subs") (by walk_at "my subs") ap6 (fun _ h => h) ?_
  rintro v foc' h7 tk7 F7 N7 ap7 ⟨z, rfl, W7⟩
  try dsimp only
  k_steps
  exact ⟨_, _, _, foc', rfl, F7, subNews N7 fun q hq => List.mem_append_right _ hq, z, rfl, W7⟩
end
theorem filter_step {ks ws : List Str} {i : Nat} {y : Str} (hy : ws[i]? = some y) : ((ks.filter fun z => decide (z ∉ ws.take i)).filter fun z => decide (z ≠ y)) = ks.filter fun z => decide (z ∉ ws.take (i + 1)) := by
  rw [List.filter_filter, List.take_add_one, hy]
  congr 1
  funext z
  simp only [Option.toList_some, List.mem_append, List.mem_singleton, not_or, ne_eq]
  by_cases h1 : z = y <;> by_cases h2 : z ∈ ws.take i <;> simp [h1, h2]
section
open PySem.Spec LCg
variable {prog : Program} {w : World} {A : Around} {h₀ : Heap} {L : Addr} {m : Str → Option Value} {env : Env} {elt : Expr} {x : Str} {scope : Scope} {cl : List (Str × Addr)} {s : Shared} {S : List (Addr × Obj) → Prop} {P : Nat → Value → Prop}
    {Fin : List Value → List (Addr × Obj) → Prop}
theorem compRest_of (n : Nat) (J : Nat → List Value → Led → Prop)
    (turn : ∀ i ys news v I oI C oC D m₂ h tk (E' : Value → Shared → Prop), i < n → J i ys news → P i v → NsObj oC m₂ → m₂ x = some v → Fr h₀ L h m → News h₀ L h ((I, oI) :: (C, oC) :: (D, lst ys) :: news) → Off3 I C D news → ((@Ne Nat I C) ∧ (@Ne Nat I D) ∧ (@Ne Nat C D)) →
      wpAny (model prog w) A (eval elt (compEnvC scope cl C env)) (CompEnd h₀ L m { s with heap := h, toks := tk } I oI C oC D (lst ys) S (fun y news' => J (i + 1) (ys ++ [y]) news')) E' { s with heap := h, toks := tk })
    (fin : ∀ ys news, J n ys news → Fin ys news) :
    ∀ k i ys news, i + k = n → J i ys news → CompRest prog w A h₀ L m env elt x scope cl s S P Fin k i ys news
  | 0, i, ys, news, e, hj => CompRest.zero (fin ys news (by rw [← e]; exact hj))
  | k + 1, i, ys, news, e, hj => CompRest.succ fun v I oI C oC D m₂ h tk E' hP hC hx F N off ne => by
    refine wpAny_mono (turn i ys news v I oI C oC D m₂ h tk E' (by omega) hj hP hC hx F N off ne) (fun y s' h' => ?_) fun _ _ e => e
    obtain ⟨h'', tk', news', e', F', N', off', hS, hj'⟩ := h'
    exact ⟨h'', tk', news', e', F', N', off', hS, compRest_of n J turn fin k (i + 1) (ys ++ [y]) news' (by omega) hj'⟩
end
section
variable {prog : Program} {w : World} {c : Cn} {sh : Addr} {n : Nat} {A B : List (Addr × List Str)} {foc : Led} {x y l : Addr} {ks ls ws : List Str} {vs : List Value} {nn : Nat}
theorem wDelAll (W : Wd prog w c sh n (A ++ (x, ks) :: B) foc) (hn1 : n + ws.length ≤ 1000) (hv : StrsAre vs ws) :
    Spec prog w (K w.params) 800 6000 364 [.ref c.ci, .ref x, .ref l] (oneL l vs nn) foc
      (fun v foc' => Wd prog w c sh (n + ws.length) (A ++ (x, ks.filter fun z => decide (z ∉ ws)) :: B) foc') := by
  refine' spec_ofC (binds := [("counter", .ref c.ci), ("table_thing", .ref x), ("names", .ref l)]) ?k1 ?k2 ?k3 ?k4 ?k5 ?k6 ?_ ?c1 ?c2 ?c3
  case k1 => k_is
  case k2 => k_is
  case k3 => decide
  case k4 => exact fun s => BindsTo.of_eq rfl
  case k5 => rfl
  case k6 => decide +kernel
  case c1 => rfl
  case c2 => rfl
  case c3 => rfl
  intro p loose mean mg mb gd env outer A₀ A₁ base g L' h₁ tk0 s₁ cells hs F N Y lt hro Bl X T
  subst hs
  k_cells Y
  k_steps
  show wpAny _ _ _ _ _ _
  rename_i o1 o2 d1 d2
  have hl : g.IsList l vs.toArray := ⟨_, hro _ (.head _), rfl, _, rfl⟩
  refine LCg.ListComp_U (F₀ := F) (by with_unfolding_all rfl) (by decide) (by rfl) (by decide) (by rfl) ?_
  k_steps
  show LCg.CompSrc _ _ _ _ _ _ _ _ _ _ _ _ _ _
  have hvl := hv.length
  refine LCg.CompSrc.base rfl F N hl (by rw [sizeLine_eq, List.size_toArray]; omega) ?_
  intro g'
  have ap0 : Apart [(L' + 1 + 1, o1), (L' + 1, o2)] foc := fun q hq z hz => by
    have := lt z hz
    rcases List.mem_cons.mp hq with rfl | hq
    · exact Nat.ne_of_gt (Nat.lt_succ_of_lt (Nat.lt_succ_of_lt this))
    · rw [List.mem_singleton.mp hq]; exact Nat.ne_of_gt (Nat.lt_succ_of_lt this)
  refine compRest_of vs.toArray.size (fun i ys news => ∃ fw, news = [(L' + 1 + 1, o1), (L' + 1, o2)] ++ fw ∧ Wd prog w c sh (n + i) (A ++ (x, ks.filter fun z => decide (z ∉ ws.take i)) :: B) fw ∧ Apart [(L' + 1 + 1, o1), (L' + 1, o2)] fw)
    ?_ ?_ _ 0 [] _ (Nat.zero_add _) ⟨foc, rfl, ?_, ap0⟩
  · rintro i ys news v I oI C oC D m₂ h tk E' hi ⟨fw, rfl, Wi, api⟩ hP hC hx F1 N1 off ne
    rw [List.size_toArray] at hi
    obtain ⟨y, t, hy, rfl⟩ := strsAre_get hv (show vs[i]? = some v by simpa using hP)
    have off3 := off.mem
    obtain ⟨ne1, ne2, ne3⟩ := ne
    have N2 : News g L' h ((I, oI) :: (C, oC) :: (D, LCg.lst ys) :: (L' + 1 + 1, o1) :: (L' + 1, o2) :: fw) := N1
    clear N N1
    k_steps
    show wpAny _ _ _ _ _ _
    rename Fr _ _ _ _ => F3
    have ap4 : Apart [(I, oI), (C, oC), (D, LCg.lst ys), (L' + 1 + 1, o1), (L' + 1, o2)] fw := by
      refine apart_left (a := [(I, oI), (C, oC), (D, LCg.lst ys)]) ?_ api
      refine apart_cons (fun q hq => (off3 q (List.mem_append_right _ hq)).1) (apart_cons (fun q hq => (off3 q (List.mem_append_right _ hq)).2.1) (apart_cons (fun q hq => (off3 q (List.mem_append_right _ hq)).2.2) apart_nil_left))
    refine Spec.use (wDelete Wi (by omega) y t) [(I, oI), (C, oC), (D, LCg.lst ys), (L' + 1 + 1, o1), (L' + 1, o2)] rfl rfl (Nat.le_of_ble_eq_true rfl) (Nat.le_of_ble_eq_true rfl) ⟨Bl, X, T, rfl, rfl⟩ F3
      (news := [(I, oI), (C, oC), (D, LCg.lst ys), (L' + 1 + 1, o1), (L' + 1, o2)] ++ fw) N2 (fun q hq => List.mem_append_left _ hq) (fun q hq => List.mem_append_right _ hq) ap4 (fun _ h => nomatch h) ?_
    intro v foc' h5 tk5 F5 N5 ap5 W5
    try dsimp only
    k_steps
    show LCg.CompEnd _ _ _ _ _ _ _ _ _ _ _ _ _ _
    refine LCg.CompEnd.intro F5 N5 ([(L' + 1 + 1, o1), (L' + 1, o2)] ++ foc') (fun q hq => hq) ?_ (.inl hl) ⟨foc', rfl, ?_, ap5.sub (fun q hq => .tail _ (.tail _ (.tail _ hq))) fun _ h => h⟩
    · refine LCg.Off3.of fun q hq => ?_
      rcases List.mem_append.mp hq with hq | hq
      · exact off3 q (List.mem_append_left _ hq)
      · exact ⟨fun e => ap5 _ (.head _) q hq e.symm, fun e => ap5 _ (.tail _ (.head _)) q hq e.symm, fun e => ap5 _ (.tail _ (.tail _ (.head _))) q hq e.symm⟩
    · rw [filter_step hy] at W5
      exact W5
  · rintro ys news ⟨fw, rfl, Wi, api⟩
    intro D h tk F1 N1 off1
    try dsimp only
    k_steps
    rw [List.size_toArray, hvl, List.take_length] at Wi
    exact ⟨_, _, _, fw, rfl, F1, subNews N1 fun q hq => .tail _ (List.mem_append_right _ hq), Wi⟩
  · have e : (ks.filter fun z => decide (z ∉ ws.take 0)) = ks := by simp
    rw [e]
    exact W
end
theorem off1_mem {D : Addr} : ∀ {l : List (Addr × Obj)}, LCg.Off1 D l → ∀ p ∈ l, p.1 ≠ D
  | [], _, _, h => nomatch h
  | _ :: _, x, p, h => by
    rcases List.mem_cons.mp h with rfl | h
    · exact x.1
    · exact off1_mem x.2 p h
section
variable {prog : Program} {w : World} {c : Cn} {sh : Addr} {n : Nat} {σ : List (Addr × List Str)} {foc : Led} {x y : Addr} {ks ls : List Str}
theorem Wd.mono {n' : Nat} (W : Wd prog w c sh n σ foc) (h : n ≤ n') : Wd prog w c sh n' σ foc := by
  obtain ⟨kh, last, a, b, cc, e, zs, zn, plo, emo, sn, hs, rfl, h1, h2, h3, h4, r⟩ := W
  exact ⟨kh, last, a, b, cc, e, zs, zn, plo, emo, sn, hs, rfl, by omega, h2, by omega, by omega, r⟩
theorem wWithout (W : Wd prog w c sh n σ foc) (hn1 : n ≤ 900) (hx : (x, ks) ∈ σ) (hy : (y, ls) ∈ σ) :
    Spec prog w (K w.params) 700 4500 524 [.ref c.ci, .ref sh, .ref x, .ref y] [] foc
      (fun v foc' => ∃ z, v = .ref z ∧ Wd prog w c sh (n + 8) (σ ++ [(z, (dd ks).filter fun q => decide (q ∉ ls))]) foc') := by
  refine' spec_of (binds := [("counter", .ref c.ci), ("shelf", .ref sh), ("one", .ref x), ("other", .ref y)]) ?k1 ?k2 ?k3 ?k4 ?k5 ?_ ?c1 ?c2 ?c3 ?c4
  walk_at "my spec"
  intro p loose mean mg mb gd env outer A₀ A₁ base g L' h₁ s₁ hs F N lt hro B X T
  subst hs
  have c1 := W.len hx
  have c2 := W.len hy
  k_steps
  show wpAny _ _ _ _ _ _
  refine Spec.use (wKeys W hx) [] rfl rfl (Nat.le_of_ble_eq_true rfl) (Nat.le_of_ble_eq_true rfl) ⟨B, X, T, rfl, rfl⟩ F N (fun _ h => nomatch h) (fun _ h => h) apart_nil_left (fun _ h => nomatch h) ?_
  rintro v foc' h2 tk2 F2 N2 ap2 ⟨l, vs, nn, fw, rfl, hS, rfl, W2, ap3⟩
  try dsimp only
  have N3 : News g L' h2 (oneL l vs nn ++ fw) := N2
  clear N N2
  k_steps
  show wpAny _ _ _ _ _ _
  refine Spec.use (wLaid W2 (by omega) wordsAt_list hS (by omega) c1.2.1) (oneL l vs nn) rfl rfl (Nat.le_of_ble_eq_true rfl) (Nat.le_of_ble_eq_true rfl) ⟨B, X, T, rfl, rfl⟩ F2 N3 (by walk_at "my subs") (by walk_at "my subs") ap3 (fun _ h => h) ?_
  rintro v foc4 h4 tk4 F4 N4 ap4 ⟨z, rfl, W4⟩
  try dsimp only
  have N5 : News g L' h4 foc4 := subNews N4 fun q hq => List.mem_append_right _ hq
  clear N3 N4
  k_steps
  show wpAny _ _ _ _ _ _
  rename Fr _ _ _ _ => F6
  rename News _ _ _ _ => N6
  have hy4 : (y, ls) ∈ σ ++ [(z, dd ks)] := List.mem_append_left _ hy
  refine Spec.use (wKeys W4 hy4) [] rfl rfl (Nat.le_of_ble_eq_true rfl) (Nat.le_of_ble_eq_true rfl) ⟨B, X, T, rfl, rfl⟩ F6 N6 (fun _ h => nomatch h) (fun _ h => h) apart_nil_left (fun _ h => nomatch h) ?_
  rintro v foc' h7 tk7 F7 N7 ap7 ⟨l2, vs2, nn2, fw2, rfl, hS2, rfl, W7, ap8⟩
  try dsimp only
  have N8 : News g L' h7 (oneL l2 vs2 nn2 ++ fw2) := N7
  clear N7 N6
  k_steps
  show wpAny _ _ _ _ _ _
  refine Spec.use (wDelAll (A := σ) (B := []) W7 (by omega) hS2) (oneL l2 vs2 nn2) rfl rfl (Nat.le_of_ble_eq_true rfl) (Nat.le_of_ble_eq_true rfl) ⟨B, X, T, rfl, rfl⟩ F7 N8 (by walk_at "my subs") (by walk_at "my subs") ap8 (fun _ h => h) ?_
  intro v foc9 h9 tk9 F9 N9 ap9 W9
  try dsimp only
  have N10 : News g L' h9 foc9 := subNews N9 fun q hq => List.mem_append_right _ hq
  clear N8 N9
  k_steps
  exact ⟨_, _, _, foc9, rfl, F9, N10, z, rfl, W9.mono (by omega)⟩
end
section
open PySem.Spec LCg
variable {prog : Program} {w : World} {A : Around} {h₀ : Heap} {L : Addr} {m : Str → Option Value} {env : Env} {ct elt : Expr} {x : Str} {scope : Scope} {cl : List (Str × Addr)} {s : Shared} {S : List (Addr × Obj) → Prop} {P : Nat → Value → Prop}
    {Fin : List Value → List (Addr × Obj) → Prop}
theorem compRestT_of (n : Nat) (J : Nat → List Value → Led → Prop)
    (turn : ∀ i ys news v I oI C oC D m₂ h tk (E' : Value → Shared → Prop), i < n → J i ys news → P i v → NsObj oC m₂ → m₂ x = some v → Fr h₀ L h m → News h₀ L h ((I, oI) :: (C, oC) :: (D, lst ys) :: news) → Off3 I C D news → ((@Ne Nat I C) ∧ (@Ne Nat I D) ∧ (@Ne Nat C D)) →
      wpAny (model prog w) A (isTrue ct (compEnvC scope cl C env) (eval ct (compEnvC scope cl C env))) (fun ok s' => if ok = true then
        wpAny (model prog w) A (eval elt (compEnvC scope cl C env)) (CompEnd h₀ L m { s with heap := h, toks := tk } I oI C oC D (lst ys) S (fun y news' => J (i + 1) (ys ++ [y]) news')) E' s'
        else CompEnd h₀ L m { s with heap := h, toks := tk } I oI C oC D (lst ys) S (fun _ news' => J (i + 1) ys news') Value.none s') E' { s with heap := h, toks := tk })
    (fin : ∀ ys news, J n ys news → Fin ys news) :
    ∀ k i ys news, i + k = n → J i ys news → LCt.CompRestT prog w A h₀ L m env ct elt x scope cl s S P Fin k i ys news
  | 0, i, ys, news, e, hj => LCt.CompRestT.zero (fin ys news (by rw [← e]; exact hj))
  | k + 1, i, ys, news, e, hj => LCt.CompRestT.succ fun v I oI C oC D m₂ h tk E' hP hC hx F N off ne => by
    refine wpAny_mono (turn i ys news v I oI C oC D m₂ h tk E' (by omega) hj hP hC hx F N off ne) (fun ok s' h' => ?_) fun _ _ e => e
    cases ok with
    | true =>
      simp only [if_true] at h' ⊢
      refine wpAny_mono h' (fun y s' h' => ?_) fun _ _ e => e
      obtain ⟨h'', tk', news', e', F', N', off', hS, hj'⟩ := h'
      exact ⟨h'', tk', news', e', F', N', off', hS, compRestT_of n J turn fin k (i + 1) (ys ++ [y]) news' (by omega) hj'⟩
    | false =>
      simp only [Bool.false_eq_true, if_false] at h' ⊢
      obtain ⟨h'', tk', news', e', F', N', off', hS, hj'⟩ := h'
      exact ⟨h'', tk', news', e', F', N', off', hS, compRestT_of n J turn fin k (i + 1) ys news' (by omega) hj'⟩
end
section
variable {prog : Program} {w : World} {c : Cn} {sh : Addr} {n : Nat} {σ : List (Addr × List Str)} {foc : Led} {x y : Addr} {ks ls : List Str}
theorem wBoth (W : Wd prog w c sh n σ foc) (hn1 : n ≤ 900) (hx : (x, ks) ∈ σ) (hy : (y, ls) ∈ σ) :
    Spec prog w (K w.params) 700 4500 517 [.ref c.ci, .ref sh, .ref x, .ref y] [] foc
      (fun v foc' => ∃ z, v = .ref z ∧ Wd prog w c sh (n + 1) (σ ++ [(z, dd (ks.filter fun q => decide (q ∈ ls)))]) foc') := by
  refine' spec_ofC (binds := [("counter", .ref c.ci), ("shelf", .ref sh), ("one", .ref x), ("other", .ref y)]) ?k1 ?k2 ?k3 ?k4 ?k5 ?k6 ?_ ?c1 ?c2 ?c3
  case k1 => k_is
  case k2 => k_is
  case k3 => decide
  case k4 => exact fun s => BindsTo.of_eq rfl
  case k5 => rfl
  case k6 => decide +kernel
  case c1 => rfl
  case c2 => rfl
  case c3 => rfl
  intro p loose mean mg mb gd env outer A₀ A₁ base g L' h₁ tk0 s₁ cells hs F N Y lt hro Bl X T
  subst hs
  k_cells Y
  rename_i o1 d1
  have ap0 : Apart [(L' + 1, o1)] foc := fun q hq z hz => by
    rw [List.mem_singleton.mp hq]; exact Nat.ne_of_gt (Nat.lt_succ_of_lt (lt z hz))
  have c1 := W.len hx
  have c2 := W.len hy
  k_steps
  show wpAny _ _ _ _ _ _
  refine LCt.ListComp_T (F₀ := F) (by with_unfolding_all rfl) (by decide) (by rfl) (by decide) (by rfl) ?_
  k_steps
  show wpAny _ _ _ _ _ _
  refine Spec.use (wKeys W hx) [(L' + 1, o1)] rfl rfl (Nat.le_of_ble_eq_true rfl) (Nat.le_of_ble_eq_true rfl) ⟨Bl, X, T, rfl, rfl⟩ F N (by walk_at "my subs") (by walk_at "my subs") ap0 (fun _ h => nomatch h) ?_
  rintro v foc' h2 tk2 F2 N2 ap2 ⟨l, vs, nn, fw, rfl, hS, rfl, W2, ap3⟩
  try dsimp only
  have hvl := hS.length
  k_steps
  show LCt.CompSrcT _ _ _ _ _ _ _ _ _ _ _ _ _ _ _
  have N3 : News g L' h2 ([(L' + 1, o1)] ++ (oneL l vs nn ++ fw)) := N2
  have ap4 : Apart ([(L' + 1, o1)] ++ oneL l vs nn) fw := apart_left (apart_app.mp ap2).2 ap3
  have a1l : @Ne Nat (L' + 1) l := (apart_app.mp ap2).1 _ (.head _) _ (.head _)
  refine LCt.CompSrcT.ledger (ax := l) (its := vs.toArray) (k := nn) rfl F2 N3 (.tail _ (.head _)) (by rw [sizeLine_eq, List.size_toArray]; omega) ?_
  intro g'
  refine compRestT_of vs.toArray.size (fun i ys news => news = [(L' + 1, o1)] ++ (oneL l vs nn ++ fw) ∧ StrsAre ys ((ks.take i).filter fun q => decide (q ∈ ls))) ?_ ?_ _ 0 [] _ (Nat.zero_add _) ⟨rfl, .nil⟩
  · rintro i ys news v I oI C oC D m₂ h tk E' hi ⟨rfl, hys⟩ hP hC hxx F1 N1 off ne
    rw [List.size_toArray] at hi
    obtain ⟨q, t, hq, rfl⟩ := strsAre_get hS (show vs[i]? = some v by simpa using hP)
    have off3 := off.mem
    obtain ⟨ne1, ne2, ne3⟩ := ne
    have N4 : News g L' h ((I, oI) :: (C, oC) :: (D, LCg.lst ys) :: (L' + 1, o1) :: (l, PySem.W.listOf vs.toArray nn) :: fw) := N1
    clear N N1 N2 N3
    have ap5 : Apart [(I, oI), (C, oC), (D, LCg.lst ys), (L' + 1, o1), (l, PySem.W.listOf vs.toArray nn)] fw := by
      refine apart_left (a := [(I, oI), (C, oC), (D, LCg.lst ys)]) ?_ ap4
      refine apart_cons (fun z hz => (off3 z (List.mem_append_right _ (List.mem_append_right _ hz))).1) (apart_cons (fun z hz => (off3 z (List.mem_append_right _ (List.mem_append_right _ hz))).2.1) (apart_cons (fun z hz => (off3 z (List.mem_append_right _ (List.mem_append_right _ hz))).2.2) apart_nil_left))
    have htk : (ks.take (i + 1)).filter (fun q => decide (q ∈ ls)) = (ks.take i).filter (fun q => decide (q ∈ ls)) ++ (if q ∈ ls then [q] else []) := by
      rw [List.take_add_one, hq, List.filter_append]
      congr 1
      by_cases hm : q ∈ ls <;> simp [hm]
    k_steps
    show wpAny _ _ _ _ _ _
    rename Fr _ _ _ _ => F3
    refine Spec.use (wHas W2 hy q t) [(I, oI), (C, oC), (D, LCg.lst ys), (L' + 1, o1), (l, PySem.W.listOf vs.toArray nn)] rfl rfl (Nat.le_of_ble_eq_true rfl) (Nat.le_of_ble_eq_true rfl) ⟨Bl, X, T, rfl, rfl⟩ F3
      (news := [(I, oI), (C, oC), (D, LCg.lst ys), (L' + 1, o1), (l, PySem.W.listOf vs.toArray nn)] ++ fw) N4 (fun q hq => List.mem_append_left _ hq) (fun q hq => List.mem_append_right _ hq) ap5 (fun _ h => nomatch h) ?_
    rintro v foc' h5 tk5 F5 N5 ap5' ⟨rfl, rfl⟩
    try dsimp only
    by_cases hm : q ∈ ls
    · rw [decide_eq_true hm]
      k_steps
      show LCg.CompEnd _ _ _ _ _ _ _ _ _ _ _ _ _ _
      refine LCg.CompEnd.intro F5 N5 ([(L' + 1, o1)] ++ (oneL l vs nn ++ foc')) (fun q hq => hq) off (.inr ⟨_, .tail _ (.head _), rfl, _, rfl⟩) ⟨rfl, ?_⟩
      rw [htk, if_pos hm]
      exact strs_app hys (.cons _ _ .nil)
    · rw [decide_eq_false hm]
      k_steps
      show LCg.CompEnd _ _ _ _ _ _ _ _ _ _ _ _ _ _
      refine LCg.CompEnd.intro F5 N5 ([(L' + 1, o1)] ++ (oneL l vs nn ++ foc')) (fun q hq => hq) off (.inr ⟨_, .tail _ (.head _), rfl, _, rfl⟩) ⟨rfl, ?_⟩
      rw [htk, if_neg hm, List.append_nil]
      exact hys
  · rintro ys news ⟨rfl, hys⟩
    intro D h tk F1 N1 off1
    try dsimp only
    rw [List.size_toArray, hvl, List.take_length] at hys
    have ap6 : Apart (oneL D ys ys.length) fw := by
      refine apart_cons (fun z hz => ?_) apart_nil_left
      exact off1_mem off1 z (List.mem_append_right _ (List.mem_append_right _ hz))
    have N6 : News g L' h (oneL D ys ys.length ++ fw) := subNews N1 (by
      intro q hq
      rcases List.mem_append.mp hq with hq | hq
      · rw [List.mem_singleton.mp hq]; exact .head _
      · exact .tail _ (List.mem_append_right _ (List.mem_append_right _ hq)))
    clear N N1 N2 N3
    k_steps
    show wpAny _ _ _ _ _ _
    refine Spec.use (wLaid W2 (by omega) wordsAt_list hys (by have := List.length_filter_le (fun q => decide (q ∈ ls)) ks; omega) (fun q hq => c1.2.1 q (List.mem_filter.mp hq).1)) (oneL D ys ys.length) rfl rfl (Nat.le_of_ble_eq_true rfl) (Nat.le_of_ble_eq_true rfl) ⟨Bl, X, T, rfl, rfl⟩ F1 N6 (by walk_at "my subs") (by walk_at "my subs") ap6 (fun _ h => h) ?_
    rintro v foc4 h4 tk4 F4 N4 ap4 ⟨z, rfl, W4⟩
    try dsimp only
    k_steps
    exact ⟨_, _, _, foc4, rfl, F4, subNews N4 fun q hq => List.mem_append_right _ hq, z, rfl, W4⟩
end
noncomputable abbrev leS (a b : Str) : Prop := a.cps.toList ≤ b.cps.toList
theorem leS_of {a b : Str} (h : Spec.ltCps b.cps.toList a.cps.toList = false) : leS a b := by
  rw [ltCps_eq] at h
  exact List.not_lt.mp (of_decide_eq_false h)
theorem leS_trans {a b c : Str} (h : leS a b) (h' : leS b c) : leS a c := List.le_trans h h'
theorem leS_anti {a b : Str} (h : leS a b) (h' : leS b a) : a = b := by
  have : a.cps.toList = b.cps.toList := List.le_antisymm h h'
  cases a; cases b
  simp only [Str.mk.injEq]
  exact Array.toList_inj.mp this
noncomputable def Srt (l : List Str) : Prop := l.Pairwise leS
theorem srt_rising : ∀ (p : Str) (l : List Str), risingS p l = true → Srt (p :: l)
  | p, [], _ => List.pairwise_singleton _ _
  | p, x :: r, h => by
    have h' : (!Spec.ltCps x.cps.toList p.cps.toList && risingS x r) = true := h
    rw [Bool.and_eq_true] at h'
    have h1 : leS p x := leS_of (by simpa using h'.1)
    have h2 := srt_rising x r h'.2
    refine List.pairwise_cons.mpr ⟨fun z hz => ?_, h2⟩
    rcases List.mem_cons.mp hz with rfl | hz
    · exact h1
    · exact leS_trans h1 (List.rel_of_pairwise_cons h2 hz)
theorem srt_of : ∀ {l : List Str}, sortedS l = true → Srt l
  | [], _ => .nil
  | x :: r, h => srt_rising x r h
theorem Srt.filter {l : List Str} (p : Str → Bool) (h : Srt l) : Srt (l.filter p) := List.Pairwise.filter p h
theorem srt_ext : ∀ {l m : List Str}, Srt l → Srt m → l.Nodup → m.Nodup → (∀ z, z ∈ l ↔ z ∈ m) → l = m
  | [], [], _, _, _, _, _ => rfl
  | [], b :: m, _, _, _, _, h => nomatch (h b).mpr (.head _)
  | a :: l, [], _, _, _, _, h => nomatch (h a).mp (.head _)
  | a :: l, b :: m, h1, h2, h3, h4, h => by
    have h1' := List.pairwise_cons.mp h1
    have h2' := List.pairwise_cons.mp h2
    have h3' := List.nodup_cons.mp h3
    have h4' := List.nodup_cons.mp h4
    have e : a = b := by
      rcases List.mem_cons.mp ((h a).mp (.head _)) with e | e
      · exact e
      · rcases List.mem_cons.mp ((h b).mpr (.head _)) with e' | e'
        · exact e'.symm
        · exact leS_anti (h1'.1 b e') (h2'.1 a e)
    subst e
    rw [srt_ext h1'.2 h2'.2 h3'.2 h4'.2 fun z => ?_]
    constructor
    · intro hz
      rcases List.mem_cons.mp ((h z).mp (.tail _ hz)) with rfl | e
      · exact absurd hz h3'.1
      · exact e
    · intro hz
      rcases List.mem_cons.mp ((h z).mpr (.tail _ hz)) with rfl | e
      · exact absurd hz h4'.1
      · exact e
/-- the sorted words of a set -/
structure Has (ss ks : List Str) : Prop where
  srt : Srt ss
  nd : ss.Nodup
  mem : ∀ z, z ∈ ss ↔ z ∈ ks
theorem has_of {ss ks : List Str} (h : ss.Perm ks) (hs : sortedS ss = true) (hn : ks.Nodup) : Has ss ks := ⟨srt_of hs, h.nodup_iff.mpr hn, fun z => h.mem_iff⟩
theorem Has.eq {ss tt ks ls : List Str} (a : Has ss ks) (b : Has tt ls) (h : ∀ z, z ∈ ks ↔ z ∈ ls) : ss = tt := srt_ext a.srt b.srt a.nd b.nd fun z => by rw [a.mem, b.mem, h]
theorem Has.filter {ss ks : List Str} (a : Has ss ks) (p : Str → Bool) : Has (ss.filter p) (ks.filter p) := ⟨a.srt.filter p, a.nd.filter p, fun z => by rw [List.mem_filter, List.mem_filter, a.mem]⟩
theorem nodup_dd (ws : List Str) : (dd ws).Nodup := by
  have : ∀ (ws acc : List Str), acc.Nodup → (ws.foldl ddStep acc).Nodup := by
    intro ws
    induction ws with
    | nil => exact fun _ h => h
    | cons a r ih =>
      intro acc h
      rw [List.foldl_cons]
      refine ih _ ?_
      unfold ddStep
      split
      · exact h
      · next hn =>
        rw [List.nodup_append]
        exact ⟨h, by simp, fun x hx y hy => by rw [List.mem_singleton.mp hy]; exact fun e => hn (e ▸ hx)⟩
  exact this ws [] .nil
theorem nodup_len_eq {l m : List Str} (h1 : l.Nodup) (h2 : m.Nodup) (h : ∀ z, z ∈ l ↔ z ∈ m) : l.length = m.length :=
  Nat.le_antisymm (nodup_sub_len h1 fun z hz => (h z).mp hz) (nodup_sub_len h2 fun z hz => (h z).mpr hz)
theorem ok7 : ∀ y ∈ words7, PyData.strOk y = true := by decide +kernel
theorem st_canLayAll0 : ∀ ns : List Str, (∀ y ∈ ns, y ∈ words7) → PyData.canLayAll0 (ns.map PyData.str) = true
  | [], _ => rfl
  | a :: r, h => by simp [PyData.canLayAll0, PyData.canLay0, ok7 a (h a (.head _)), st_canLayAll0 r fun y hy => h y (.tail _ hy)]
theorem st_depthAll : ∀ ns : List Str, PyData.depthAll (ns.map PyData.str) = 0
  | [] => rfl
  | _ :: r => by simp [PyData.depthAll, PyData.depth, st_depthAll r]
theorem st_shaped (ns : List Str) (h : ∀ y ∈ ns, y ∈ words7) : SeqAt.shaped (.list (ns.map PyData.str)) = true := by
  simp [SeqAt.shaped, PyData.canLay0, PyData.depth, st_canLayAll0 ns h, st_depthAll]
theorem st_sameAll : ∀ ns ms : List Str, PySem.Spec.sameAll (ns.map PyData.str) (ms.map PyData.str) = decide (ns = ms)
  | [], [] => by simp [PySem.Spec.sameAll]
  | [], _ :: _ => by simp [PySem.Spec.sameAll]
  | _ :: _, [] => by simp [PySem.Spec.sameAll]
  | a :: r, b :: t => by
    simp only [List.map_cons, PySem.Spec.sameAll, PySem.Spec.same, st_sameAll r t]
    by_cases h : a = b <;> by_cases h' : r = t <;> simp [h, h']
theorem st_same (ns ms : List Str) : PySem.Spec.same (.list (ns.map PyData.str)) (.list (ms.map PyData.str)) = decide (ns = ms) := by
  simp only [PySem.Spec.same]; exact st_sameAll ns ms
section
variable {prog : Program} {w : World} {A : Around} {E : Value → Shared → Prop} {s : Shared} {a b : Addr} {xs ys : List Value} {ns ms : List Str} {Q : Value → Shared → Prop}
theorem eq_strs (ha : s.heap.IsList a xs.toArray) (hb : s.heap.IsList b ys.toArray) (hi : StrsAre xs ns) (hj : StrsAre ys ms) (hn : ∀ y ∈ ns, y ∈ words7) (hm : ∀ y ∈ ms, y ∈ words7) (hu : A.units + 64 < cLine) (h : Q (.bool (decide (ns = ms))) s) :
    wpAny (model prog w) A (compareOp .Eq (.ref a) (.ref b)) Q E s :=
  eq_dataH_same (reads_newData ha hi.carried) (reads_newData hb hj.carried) (st_shaped _ hn) (st_shaped _ hm) hu (SeqAt.noMix_of_shape (.list .str) rfl _ _ (list_map_has fun _ => rfl) (list_map_has fun _ => rfl)) (by rw [st_same]; exact h)
theorem ne_strs (ha : s.heap.IsList a xs.toArray) (hb : s.heap.IsList b ys.toArray) (hi : StrsAre xs ns) (hj : StrsAre ys ms) (hn : ∀ y ∈ ns, y ∈ words7) (hm : ∀ y ∈ ms, y ∈ words7) (hu : A.units + 64 < cLine) (h : Q (.bool (!decide (ns = ms))) s) :
    wpAny (model prog w) A (compareOp .NotEq (.ref a) (.ref b)) Q E s :=
  ne_dataH_same (reads_newData ha hi.carried) (reads_newData hb hj.carried) (st_shaped _ hn) (st_shaped _ hm) hu (SeqAt.noMix_of_shape (.list .str) rfl _ _ (list_map_has fun _ => rfl) (list_map_has fun _ => rfl)) (by rw [st_same]; exact h)
end
section
open PySem.Spec LCg
variable {prog : Program} {w : World} {A : Around} {h₀ : Heap} {L : Addr} {m : Str → Option Value} {env : Env} {ct : Expr} {x : Str} {px : Pos} {scope : Scope} {cl : List (Str × Addr)} {s : Shared} {S : List (Addr × Obj) → Prop}
    {Fin : List Value → List (Addr × Obj) → Prop} {vs : List Value} {ss : List Str} {news : Led}
theorem filtRest (hv : StrsAre vs ss) (p : Str → Bool) (hsrc : S news)
    (hct : ∀ q t I oI C oC D ys m₂ h tk (Q' : Bool → Shared → Prop) (E' : Value → Shared → Prop), NsObj oC m₂ → m₂ x = some (.str q t) → Fr h₀ L h m → News h₀ L h ((I, oI) :: (C, oC) :: (D, lst ys) :: news) → Q' (p q) { s with heap := h, toks := tk } →
      wpAny (model prog w) A (isTrue ct (compEnvC scope cl C env) (eval ct (compEnvC scope cl C env))) Q' E' { s with heap := h, toks := tk })
    (hfin : ∀ ys, StrsAre ys (ss.filter p) → Fin ys news)
    (hk : ∀ C, (compEnvC scope cl C env).scope.kind = .function) (hl : ∀ C, (compEnvC scope cl C env).kindOf x = some .local) (hd : (x == ("__debug__" : Str)) = false) :
    LCt.CompRestT prog w A h₀ L m env ct (.Name x px) x scope cl s S (fun i v => vs.toArray[i]? = some v) Fin vs.toArray.size 0 [] news := by
  have hvl := hv.length
  refine compRestT_of vs.toArray.size (fun i ys nw => nw = news ∧ StrsAre ys ((ss.take i).filter p)) ?_ ?_ _ 0 [] _ (Nat.zero_add _) ⟨rfl, .nil⟩
  · rintro i ys nw v I oI C oC D m₂ h tk E' hi ⟨rfl, hys⟩ hP hC hxx F N off ne
    rw [List.size_toArray] at hi
    obtain ⟨q, t, hq, rfl⟩ := strsAre_get hv (show vs[i]? = some v by simpa using hP)
    have htk : (ss.take (i + 1)).filter p = (ss.take i).filter p ++ (if p q = true then [q] else []) := by
      rw [List.take_add_one, hq, List.filter_append]
      congr 1
      by_cases hm : p q = true <;> simp [hm]
    refine hct q t I oI C oC D ys m₂ h tk _ E' hC hxx F N ?_
    by_cases hm : p q = true
    · rw [if_pos hm]
      refine LCgL.ld_own N (.tail _ (.head _)) hC hxx ?_ (hk C) (hl C) hd
      refine LCg.CompEnd.intro F N nw (fun q hq => hq) off hsrc ⟨rfl, ?_⟩
      rw [htk, if_pos hm]
      exact strs_app hys (.cons _ _ .nil)
    · rw [if_neg hm]
      refine LCg.CompEnd.intro F N nw (fun q hq => hq) off hsrc ⟨rfl, ?_⟩
      rw [htk, if_neg hm, List.append_nil]
      exact hys
  · rintro ys nw ⟨rfl, hys⟩
    rw [List.size_toArray, hvl, List.take_length] at hys
    exact hfin ys hys
end
theorem CellsAre.five {cm : Str → Option Value} {n1 n2 n3 n4 n5 : Str} {c1 c2 c3 c4 c5 : Addr} {cells : List (Addr × Obj)} (x : CellsAre cm [(n1, c1), (n2, c2), (n3, c3), (n4, c4), (n5, c5)] cells) :
    ∃ o1 o2 o3 o4 o5, cells = [(c1, o1), (c2, o2), (c3, o3), (c4, o4), (c5, o5)] ∧ o1.data = .cell (cm n1) ∧ o2.data = .cell (cm n2) ∧ o3.data = .cell (cm n3) ∧ o4.data = .cell (cm n4) ∧ o5.data = .cell (cm n5) := by
  cases x with | cons h r => obtain ⟨o2, o3, o4, o5, rfl, a, b, c, d⟩ := r.four; exact ⟨_, o2, o3, o4, o5, rfl, h, a, b, c, d⟩
noncomputable abbrev Z7 (L' : Addr) (oy ox o3 o4 o5 : Obj) (l1 : Addr) (vs1 : List Value) (nn1 : Nat) (l2 : Addr) (vs2 : List Value) (nn2 : Nat) : Led :=
  [(L' + 1 + 1 + 1 + 1 + 1, oy), (L' + 1 + 1 + 1 + 1, ox), (L' + 1 + 1 + 1, o3), (L' + 1 + 1, o4), (L' + 1, o5), (l1, PySem.W.listOf vs1.toArray nn1), (l2, PySem.W.listOf vs2.toArray nn2)]
noncomputable abbrev prEnv (L' : Addr) : Env := envOfC "_law_pair_right" s536 L' 536 (.ref 535)
noncomputable abbrev prM0 (L' : Addr) (ci sh x y f : Addr) : Str → Option Value := bindL (prEnv L').kindOf [("counter", .ref ci), ("shelf", .ref sh), ("one", .ref x), ("other", .ref y), ("full", .ref f)] fun _ => none
noncomputable abbrev prM (L' : Addr) (ci sh x y f ze zb zl zm : Addr) : Str → Option Value := fun q => if q = "less" then some (Value.ref zl) else if q = "more" then some (Value.ref zm) else if q = "either" then some (Value.ref ze) else if q = "both" then some (Value.ref zb) else prM0 L' ci sh x y f q
noncomputable def testAt (b : List Stmt) (i : Nat) : Expr := match b[i]? with | some (.If t _ _ _) => t | _ => .Constant .none 0 default
section
variable {prog : Program} {w : World} {c : Cn} {sh : Addr} {x y f : Addr} {ks ls fs : List Str} {p : Program} {loose : List Str} {mean : ExcName → Option Value} {mg mb : Str → Option Value} {gd : Option (List Code)} {env : Env} {outer : List Env} {A₀ A₁ : Around} {base g : Heap} {L' : Addr}
  {oy ox o3 o4 o5 : Obj} {l1 l2 : Addr} {vs1 vs2 : List Value} {nn1 nn2 : Nat} {ss1 ss2 : List Str}
/-- what stays while the law of a pair runs -/
structure Px (w : World) (c : Cn) (sh x y f : Addr) (ks ls : List Str) (p : Program) (loose : List Str) (mean : ExcName → Option Value) (mg mb : Str → Option Value) (env : Env) (outer : List Env) (A₁ : Around) (base g : Heap) (L' : Addr) (oy ox o3 o4 o5 : Obj) (l1 : Addr) (vs1 : List Value) (l2 : Addr) (vs2 : List Value) (ss1 ss2 : List Str) : Prop where
  B : Below A₁ base (env :: outer) g
  X : (K w.params).In g
  T : Top p loose mean mg mb g
  dy : oy.data = .cell (some (.ref l2))
  dx : ox.data = .cell (some (.ref l1))
  d3 : o3.data = .cell (some (.ref f))
  d4 : o4.data = .cell (some (.ref sh))
  d5 : o5.data = .cell (some (.ref c.ci))
  S1 : StrsAre vs1 ss1
  S2 : StrsAre vs2 ss2
  H1 : Has ss1 ks
  H2 : Has ss2 ls
  k7 : ∀ z ∈ ks, z ∈ words7
  l7 : ∀ z ∈ ls, z ∈ words7
  n1 : ks.Nodup
  n2 : ls.Nodup
end
theorem any_beq {m : List Str} {q : Str} : m.any (· == q) = decide (q ∈ m) := by
  rw [Bool.eq_iff_iff, List.any_eq_true, decide_eq_true_iff]
  constructor
  · rintro ⟨x, hx, e⟩
    exact beq_iff_eq.mp e ▸ hx
  · exact fun h => ⟨q, h, beq_iff_eq.mpr rfl⟩
theorem mem_notany {l m : List Str} (z : Str) : z ∈ l.filter (fun q => !m.any (· == q)) ↔ z ∈ l ∧ z ∉ m := by
  rw [List.mem_filter, any_beq]
  simp
section
variable {prog : Program} {w : World} {c : Cn} {sh : Addr} {x y f : Addr} {ks ls fs : List Str} {p : Program} {loose : List Str} {mean : ExcName → Option Value} {mg mb : Str → Option Value} {gd : Option (List Code)} {env : Env} {outer : List Env} {A₀ A₁ : Around} {base g : Heap} {L' : Addr}
  {oy ox o3 o4 o5 : Obj} {l1 l2 : Addr} {vs1 vs2 : List Value} {nn1 nn2 : Nat} {ss1 ss2 : List Str}
variable {ze zb zl zm : Addr} {n : Nat} {σ : List (Addr × List Str)} {fw : Led} {s : Shared} {Q : Bool → Shared → Prop} {E : Value → Shared → Prop}
theorem pr_if1 (P : Px w c sh x y f ks ls p loose mean mg mb env outer A₁ base g L' oy ox o3 o4 o5 l1 vs1 l2 vs2 ss1 ss2)
    (F : Fr g L' s.heap (prM L' c.ci sh x y f ze zb zl zm)) (N : News g L' s.heap (Z7 L' oy ox o3 o4 o5 l1 vs1 nn1 l2 vs2 nn2 ++ fw)) (ap : Apart (Z7 L' oy ox o3 o4 o5 l1 vs1 nn1 l2 vs2 nn2) fw)
    (W : Wd prog w c sh n σ fw) (hn1 : n ≤ 900) (he : (ze, dd (ks ++ ls)) ∈ σ) (hb : (zb, dd (ks.filter fun q => decide (q ∈ ls))) ∈ σ)
    (k : ∀ h' tk' fw', Fr g L' h' (prM L' c.ci sh x y f ze zb zl zm) → News g L' h' (Z7 L' oy ox o3 o4 o5 l1 vs1 nn1 l2 vs2 nn2 ++ fw') → Apart (Z7 L' oy ox o3 o4 o5 l1 vs1 nn1 l2 vs2 nn2) fw' → Wd prog w c sh n σ fw' → Q false { s with heap := h', toks := tk' }) :
    wpAny (model prog w) ((Ar 650 4000 gd env outer).deeper (prEnv L')) (isTrue (testAt b536 3) (prEnv L') (eval (testAt b536 3) (prEnv L'))) Q E s := by
  obtain ⟨Bl, X, T, dy, dx, d3, d4, d5, S1, S2, H1, H2, k7, l7, n1, n2⟩ := P
  show wpAny _ _ (isTrue (Expr.BoolOp _ _ _) _ _) _ _ _
  k_steps
  show wpAny _ _ _ _ _ _
  refine Spec.use (wSorted W he) (Z7 L' oy ox o3 o4 o5 l1 vs1 nn1 l2 vs2 nn2) rfl rfl (Nat.le_of_ble_eq_true rfl) (Nat.le_of_ble_eq_true rfl) ⟨Bl, X, T, rfl, rfl⟩ F N (fun _ h => List.mem_append_left _ h) (fun _ h => List.mem_append_right _ h) ap (fun _ h => nomatch h) ?_
  rintro v foc' h2 tk2 F2 N2 ap2 ⟨l3, vs3, nn3, ss3, fw3, rfl, hS3, hp3, hs3, rfl, W3, ap3⟩
  have H3 : Has ss3 (dd (ks ++ ls)) := has_of hp3 hs3 (nodup_dd _)
  obtain ⟨apa, apb⟩ := apart_app.mp ap2
  try dsimp only
  clear N
  k_steps
  show wpAny _ _ _ _ _ _
  refine LCt.ListComp_T (F₀ := F2) (by with_unfolding_all rfl) (by decide) (by rfl) (by decide) (by rfl) ?_
  k_steps
  show LCt.CompSrcT _ _ _ _ _ _ _ _ _ _ _ _ _ _ _
  have c3 := (W.len he).2.2
  have b1 := S1.length
  have b2 := S2.length
  refine LCt.CompSrcT.ledger (ax := l2) (its := vs2.toArray) (k := nn2) rfl F2 N2 (by k_mem) (by rw [sizeLine_eq, List.size_toArray]; have := nodup_sub_len H2.nd fun z hz => l7 z ((H2.mem z).mp hz); have e7 : words7.length = 7 := rfl; omega) ?_
  intro g'
  refine filtRest S2 (fun q => !ss1.any (· == q)) (.inr ⟨_, by k_mem, rfl, _, rfl⟩) ?_ ?_ (fun _ => rfl) (fun _ => rfl) (by decide)
  · intro q t I oI C oC D ys m₂ h tk Q' E' hC hxx F4 N4 kq
    clear N2
    k_steps
    show wpAny _ _ _ _ _ _
    refine notin_list_strs (N4.isList (by k_mem)) S1 ?_
    k_steps
    exact kq
  · intro ys hys
    intro D h tk F5 N5 off5
    try dsimp only
    clear N2
    k_steps
    show wpAny _ _ _ _ _ _
    have m7 : words7.length = 7 := rfl
    have b3 := nodup_sub_len H1.nd fun z hz => k7 z ((H1.mem z).mp hz)
    have b4 := nodup_sub_len H2.nd fun z hz => l7 z ((H2.mem z).mp hz)
    have b5 := hys.length
    have b6 := List.length_filter_le (fun q => !ss1.any (· == q)) ss2
    refine add_lists F5 N5 (N5.isList (by k_mem)) (N5.isList (by k_mem)) (fun h6 F6 N6 => ?_) (by rw [sizeLine_eq]; omega)
    have hys2 := strs_app S1 hys
    clear N5
    k_steps
    show wpAny _ _ _ _ _ _
    refine sorted_N_str F6 N6 (N6.isList (by k_mem)) hys2 (by rw [List.length_append]; omega) ?_
    intro h7 vs7 ss7 e7 F7 N7 hS7 hp7 hs7
    have memf : ∀ z, z ∈ ss2.filter (fun q => !ss1.any (· == q)) ↔ z ∈ ss2 ∧ z ∉ ss1 := mem_notany
    have H7 : Has ss7 (ss1 ++ ss2.filter fun q => !ss1.any (· == q)) := has_of hp7 hs7 (List.nodup_append.mpr ⟨H1.nd, H2.nd.filter _, fun a ha b hb e => ((memf b).mp hb).2 (e ▸ ha)⟩)
    have e37 : ss3 = ss7 := H3.eq H7 fun z => by
      rw [mem_dd, List.mem_append, List.mem_append, memf, H1.mem, H2.mem]
      constructor
      · rintro (h | h)
        · exact .inl h
        · by_cases hk : z ∈ ks
          · exact .inl hk
          · exact .inr ⟨h, hk⟩
      · rintro (h | h)
        · exact .inl h
        · exact .inr h.1
    have s3 : ∀ z ∈ ss3, z ∈ words7 := fun z hz => by
      rcases List.mem_append.mp (mem_dd.mp ((H3.mem z).mp hz)) with h | h
      · exact k7 z h
      · exact l7 z h
    clear N6
    k_steps
    show wpAny _ _ _ _ _ _
    refine ne_strs (N7.isList (by k_mem)) (N7.isList (by k_mem)) hS3 hS7 s3 (fun z hz => s3 z (e37 ▸ hz)) (Nat.le_of_ble_eq_true rfl) ?_
    rw [decide_eq_true e37]
    have N8 : News g L' h7 (Z7 L' oy ox o3 o4 o5 l1 vs1 nn1 l2 vs2 nn2 ++ fw3) := subNews N7 (by
      intro q hq
      rcases List.mem_append.mp hq with hq | hq
      · exact .tail _ (.tail _ (.tail _ (List.mem_append_left _ hq)))
      · exact .tail _ (.tail _ (.tail _ (List.mem_append_right _ (.tail _ hq)))))
    clear N7
    k_steps
    show wpAny _ _ _ _ _ _
    refine Spec.use (wSorted W3 hb) (Z7 L' oy ox o3 o4 o5 l1 vs1 nn1 l2 vs2 nn2) rfl rfl (Nat.le_of_ble_eq_true rfl) (Nat.le_of_ble_eq_true rfl) ⟨Bl, X, T, rfl, rfl⟩ F7 N8 (fun _ h => List.mem_append_left _ h) (fun _ h => List.mem_append_right _ h) apb (fun _ h => nomatch h) ?_
    rintro v foc' h9 tk9 F9 N9 ap9 ⟨l9, vs9, nn9, ss9, fw9, rfl, hS9, hp9, hs9, rfl, W9, ap10⟩
    have H9 : Has ss9 (dd (ks.filter fun q => decide (q ∈ ls))) := has_of hp9 hs9 (nodup_dd _)
    obtain ⟨apc, apd⟩ := apart_app.mp ap9
    try dsimp only
    clear N8
    k_steps
    show wpAny _ _ _ _ _ _
    refine LCt.ListComp_T (F₀ := F9) (by with_unfolding_all rfl) (by decide) (by rfl) (by decide) (by rfl) ?_
    k_steps
    show LCt.CompSrcT _ _ _ _ _ _ _ _ _ _ _ _ _ _ _
    have b1 := S1.length
    refine LCt.CompSrcT.ledger (ax := l1) (its := vs1.toArray) (k := nn1) rfl F9 N9 (by k_mem) (by rw [sizeLine_eq, List.size_toArray]; omega) ?_
    intro g'
    refine filtRest S1 (fun q => ss2.any (· == q)) (.inr ⟨_, by k_mem, rfl, _, rfl⟩) ?_ ?_ (fun _ => rfl) (fun _ => rfl) (by decide)
    · intro q t I oI C oC D ys m₂ h tk Q' E' hC hxx F4 N4 kq
      clear N9
      k_steps
      show wpAny _ _ _ _ _ _
      refine in_list_strs (N4.isList (by k_mem)) S2 ?_
      k_steps
      exact kq
    · intro ys hys
      intro D h tk F10 N10 off10
      try dsimp only
      clear N9
      have H10 : Has (ss1.filter fun q => ss2.any (· == q)) (ks.filter fun q => ss2.any (· == q)) := H1.filter _
      have e9 : ss9 = ss1.filter fun q => ss2.any (· == q) := H9.eq H10 fun z => by
        rw [mem_dd, List.mem_filter, List.mem_filter]
        simp [H2.mem]
      have s9 : ∀ z ∈ ss9, z ∈ words7 := fun z hz => k7 z (List.mem_filter.mp (mem_dd.mp ((H9.mem z).mp hz))).1
      k_steps
      show wpAny _ _ _ _ _ _
      refine ne_strs (N10.isList (by k_mem)) (N10.isList (by k_mem)) hS9 hys s9 (fun z hz => s9 z (e9 ▸ hz)) (Nat.le_of_ble_eq_true rfl) ?_
      rw [decide_eq_true e9]
      k_steps
      refine k _ _ fw9 F10 (subNews N10 ?_) apd W9
      intro q hq
      rcases List.mem_append.mp hq with hq | hq
      · exact .tail _ (List.mem_append_left _ hq)
      · exact .tail _ (List.mem_append_right _ (.tail _ hq))
end
section
variable {prog : Program} {w : World} {c : Cn} {sh : Addr} {x y f : Addr} {ks ls fs : List Str} {p : Program} {loose : List Str} {mean : ExcName → Option Value} {mg mb : Str → Option Value} {gd : Option (List Code)} {env : Env} {outer : List Env} {A₀ A₁ : Around} {base g : Heap} {L' : Addr}
  {oy ox o3 o4 o5 : Obj} {l1 l2 : Addr} {vs1 vs2 : List Value} {nn1 nn2 : Nat} {ss1 ss2 : List Str}
variable {ze zb zl zm : Addr} {n : Nat} {σ : List (Addr × List Str)} {fw : Led} {s : Shared} {Q : Bool → Shared → Prop} {E : Value → Shared → Prop}
theorem len_split (p : Str → Bool) : ∀ l : List Str, l.length = (l.filter p).length + (l.filter fun q => !p q).length
  | [] => rfl
  | a :: l => by
    have ih := len_split p l
    by_cases h : p a = true
    · rw [List.filter_cons_of_pos h, List.filter_cons_of_neg (by simp [h])]
      simp only [List.length_cons]
      omega
    · rw [List.filter_cons_of_neg h, List.filter_cons_of_pos (by simpa using h)]
      simp only [List.length_cons]
      omega
theorem card_eq {ks ls : List Str} (n1 : ks.Nodup) (n2 : ls.Nodup) : (dd (ks ++ ls)).length + (dd (ks.filter fun q => decide (q ∈ ls))).length = ks.length + ls.length := by
  have e1 : (dd (ks ++ ls)).length = (ks ++ ls.filter fun q => !decide (q ∈ ks)).length := nodup_len_eq (nodup_dd _) (List.nodup_append.mpr ⟨n1, n2.filter _, fun a ha b hb e => by
      subst e
      have := (List.mem_filter.mp hb).2
      simp [ha] at this⟩) fun z => by
    rw [mem_dd, List.mem_append, List.mem_append, List.mem_filter]
    by_cases h : z ∈ ks <;> simp [h]
  have e2 : (dd (ks.filter fun q => decide (q ∈ ls))).length = (ls.filter fun q => decide (q ∈ ks)).length := nodup_len_eq (nodup_dd _) (n2.filter _) fun z => by
    rw [mem_dd, List.mem_filter, List.mem_filter]
    simp [and_comm]
  have e3 := len_split (fun q => decide (q ∈ ks)) ls
  rw [e1, e2, List.length_append]
  omega
theorem pr_if2 (P : Px w c sh x y f ks ls p loose mean mg mb env outer A₁ base g L' oy ox o3 o4 o5 l1 vs1 l2 vs2 ss1 ss2)
    (F : Fr g L' s.heap (prM L' c.ci sh x y f ze zb zl zm)) (N : News g L' s.heap (Z7 L' oy ox o3 o4 o5 l1 vs1 nn1 l2 vs2 nn2 ++ fw)) (ap : Apart (Z7 L' oy ox o3 o4 o5 l1 vs1 nn1 l2 vs2 nn2) fw)
    (W : Wd prog w c sh n σ fw) (hn1 : n ≤ 900) (hx : (x, ks) ∈ σ) (hy : (y, ls) ∈ σ) (he : (ze, dd (ks ++ ls)) ∈ σ) (hb : (zb, dd (ks.filter fun q => decide (q ∈ ls))) ∈ σ) (hl : (zl, (dd ks).filter fun q => decide (q ∉ ls)) ∈ σ)
    (k : ∀ h' tk' fw', Fr g L' h' (prM L' c.ci sh x y f ze zb zl zm) → News g L' h' (Z7 L' oy ox o3 o4 o5 l1 vs1 nn1 l2 vs2 nn2 ++ fw') → Apart (Z7 L' oy ox o3 o4 o5 l1 vs1 nn1 l2 vs2 nn2) fw' → Wd prog w c sh n σ fw' → Q false { s with heap := h', toks := tk' }) :
    wpAny (model prog w) ((Ar 650 4000 gd env outer).deeper (prEnv L')) (isTrue (testAt b536 4) (prEnv L') (eval (testAt b536 4) (prEnv L'))) Q E s := by
  obtain ⟨Bl, X, T, dy, dx, d3, d4, d5, S1, S2, H1, H2, k7, l7, n1, n2⟩ := P
  show wpAny _ _ (isTrue (Expr.BoolOp _ _ _) _ _) _ _ _
  k_steps
  show wpAny _ _ _ _ _ _
  refine Spec.use (wSorted W hl) (Z7 L' oy ox o3 o4 o5 l1 vs1 nn1 l2 vs2 nn2) rfl rfl (Nat.le_of_ble_eq_true rfl) (Nat.le_of_ble_eq_true rfl) ⟨Bl, X, T, rfl, rfl⟩ F N (fun _ h => List.mem_append_left _ h) (fun _ h => List.mem_append_right _ h) ap (fun _ h => nomatch h) ?_
  rintro v foc' h9 tk9 F9 N9 ap9 ⟨l9, vs9, nn9, ss9, fw9, rfl, hS9, hp9, hs9, rfl, W9, ap10⟩
  have H9 : Has ss9 ((dd ks).filter fun q => decide (q ∉ ls)) := has_of hp9 hs9 ((nodup_dd _).filter _)
  obtain ⟨apc, apd⟩ := apart_app.mp ap9
  try dsimp only
  clear N
  k_steps
  show wpAny _ _ _ _ _ _
  refine LCt.ListComp_T (F₀ := F9) (by with_unfolding_all rfl) (by decide) (by rfl) (by decide) (by rfl) ?_
  k_steps
  show LCt.CompSrcT _ _ _ _ _ _ _ _ _ _ _ _ _ _ _
  have b1 := S1.length
  have m7 : words7.length = 7 := rfl
  have b3 := nodup_sub_len H1.nd fun z hz => k7 z ((H1.mem z).mp hz)
  refine LCt.CompSrcT.ledger (ax := l1) (its := vs1.toArray) (k := nn1) rfl F9 N9 (by k_mem) (by rw [sizeLine_eq, List.size_toArray]; omega) ?_
  intro g'
  refine filtRest S1 (fun q => !ss2.any (· == q)) (.inr ⟨_, by k_mem, rfl, _, rfl⟩) ?_ ?_ (fun _ => rfl) (fun _ => rfl) (by decide)
  · intro q t I oI C oC D ys m₂ h tk Q' E' hC hxx F4 N4 kq
    clear N9
    k_steps
    show wpAny _ _ _ _ _ _
    refine notin_list_strs (N4.isList (by k_mem)) S2 ?_
    k_steps
    exact kq
  · intro ys hys
    intro D h tk F10 N10 off10
    try dsimp only
    clear N9
    have H10 : Has (ss1.filter fun q => !ss2.any (· == q)) (ks.filter fun q => !ss2.any (· == q)) := H1.filter _
    have e9 : ss9 = ss1.filter fun q => !ss2.any (· == q) := H9.eq H10 fun z => by
      rw [mem_notany, H2.mem, List.mem_filter, mem_dd]
      simp
    have s9 : ∀ z ∈ ss9, z ∈ words7 := fun z hz => k7 z (mem_dd.mp (List.mem_filter.mp ((H9.mem z).mp hz)).1)
    k_steps
    show wpAny _ _ _ _ _ _
    refine ne_strs (N10.isList (by k_mem)) (N10.isList (by k_mem)) hS9 hys s9 (fun z hz => s9 z (e9 ▸ hz)) (Nat.le_of_ble_eq_true rfl) ?_
    rw [decide_eq_true e9]
    have N11 : News g L' h (Z7 L' oy ox o3 o4 o5 l1 vs1 nn1 l2 vs2 nn2 ++ fw9) := subNews N10 (by
      intro q hq
      rcases List.mem_append.mp hq with hq | hq
      · exact .tail _ (List.mem_append_left _ hq)
      · exact .tail _ (List.mem_append_right _ (.tail _ hq)))
    clear N10
    k_steps
    show wpAny _ _ _ _ _ _
    refine Spec.use (wCount W9 he) (Z7 L' oy ox o3 o4 o5 l1 vs1 nn1 l2 vs2 nn2) rfl rfl (Nat.le_of_ble_eq_true rfl) (Nat.le_of_ble_eq_true rfl) ⟨Bl, X, T, rfl, rfl⟩ F10 N11 (fun _ h => List.mem_append_left _ h) (fun _ h => List.mem_append_right _ h) apd (fun _ h => nomatch h) ?_
    rintro v foc' h12 tk12 F12 N12 ap12 ⟨t12, rfl, rfl⟩
    try dsimp only
    clear N11
    k_steps
    show wpAny _ _ _ _ _ _
    refine Spec.use (wCount W9 hb) (Z7 L' oy ox o3 o4 o5 l1 vs1 nn1 l2 vs2 nn2) rfl rfl (Nat.le_of_ble_eq_true rfl) (Nat.le_of_ble_eq_true rfl) ⟨Bl, X, T, rfl, rfl⟩ F12 N12 (fun _ h => List.mem_append_left _ h) (fun _ h => List.mem_append_right _ h) ap12 (fun _ h => nomatch h) ?_
    rintro v foc' h13 tk13 F13 N13 ap13 ⟨t13, rfl, rfl⟩
    try dsimp only
    clear N12
    k_steps
    show wpAny _ _ _ _ _ _
    refine Spec.use (wCount W9 hx) (Z7 L' oy ox o3 o4 o5 l1 vs1 nn1 l2 vs2 nn2) rfl rfl (Nat.le_of_ble_eq_true rfl) (Nat.le_of_ble_eq_true rfl) ⟨Bl, X, T, rfl, rfl⟩ F13 N13 (fun _ h => List.mem_append_left _ h) (fun _ h => List.mem_append_right _ h) ap13 (fun _ h => nomatch h) ?_
    rintro v foc' h14 tk14 F14 N14 ap14 ⟨t14, rfl, rfl⟩
    try dsimp only
    clear N13
    k_steps
    show wpAny _ _ _ _ _ _
    refine Spec.use (wCount W9 hy) (Z7 L' oy ox o3 o4 o5 l1 vs1 nn1 l2 vs2 nn2) rfl rfl (Nat.le_of_ble_eq_true rfl) (Nat.le_of_ble_eq_true rfl) ⟨Bl, X, T, rfl, rfl⟩ F14 N14 (fun _ h => List.mem_append_left _ h) (fun _ h => List.mem_append_right _ h) ap14 (fun _ h => nomatch h) ?_
    rintro v foc' h15 tk15 F15 N15 ap15 ⟨t15, rfl, rfl⟩
    try dsimp only
    clear N14
    have card := card_eq n1 n2
    k_steps
    · exfalso; omega
    · exact k _ _ foc' F15 N15 ap15 W9
end
section
variable {prog : Program} {w : World} {c : Cn} {sh : Addr} {x y f : Addr} {ks ls fs : List Str} {p : Program} {loose : List Str} {mean : ExcName → Option Value} {mg mb : Str → Option Value} {gd : Option (List Code)} {env : Env} {outer : List Env} {A₀ A₁ : Around} {base g : Heap} {L' : Addr}
  {oy ox o3 o4 o5 : Obj} {l1 l2 : Addr} {vs1 vs2 : List Value} {nn1 nn2 : Nat} {ss1 ss2 : List Str}
variable {ze zb zl zm : Addr} {n : Nat} {σ : List (Addr × List Str)} {fw : Led} {s : Shared} {Q : Bool → Shared → Prop} {E : Value → Shared → Prop}
theorem pr_if3 (P : Px w c sh x y f ks ls p loose mean mg mb env outer A₁ base g L' oy ox o3 o4 o5 l1 vs1 l2 vs2 ss1 ss2)
    (F : Fr g L' s.heap (prM L' c.ci sh x y f ze zb zl zm)) (N : News g L' s.heap (Z7 L' oy ox o3 o4 o5 l1 vs1 nn1 l2 vs2 nn2 ++ fw)) (ap : Apart (Z7 L' oy ox o3 o4 o5 l1 vs1 nn1 l2 vs2 nn2) fw)
    (W : Wd prog w c sh n σ fw) (hn1 : n ≤ 800) (he : (ze, dd (ks ++ ls)) ∈ σ) (hb : (zb, dd (ks.filter fun q => decide (q ∈ ls))) ∈ σ) (hl : (zl, (dd ks).filter fun q => decide (q ∉ ls)) ∈ σ) (hm : (zm, (dd ls).filter fun q => decide (q ∉ ks)) ∈ σ)
    (k : ∀ h' tk' fw' τ, Fr g L' h' (prM L' c.ci sh x y f ze zb zl zm) → News g L' h' (Z7 L' oy ox o3 o4 o5 l1 vs1 nn1 l2 vs2 nn2 ++ fw') → Apart (Z7 L' oy ox o3 o4 o5 l1 vs1 nn1 l2 vs2 nn2) fw' → Wd prog w c sh (n + 9) (σ ++ τ) fw' → Q false { s with heap := h', toks := tk' }) :
    wpAny (model prog w) ((Ar 650 4000 gd env outer).deeper (prEnv L')) (isTrue (testAt b536 5) (prEnv L') (eval (testAt b536 5) (prEnv L'))) Q E s := by
  obtain ⟨Bl, X, T, dy, dx, d3, d4, d5, S1, S2, H1, H2, k7, l7, n1, n2⟩ := P
  show wpAny _ _ (isTrue (Expr.Compare _ _ _ _) _ _) _ _ _
  k_steps
  show wpAny _ _ _ _ _ _
  refine Spec.use (wEither W (by omega) hl hm) (Z7 L' oy ox o3 o4 o5 l1 vs1 nn1 l2 vs2 nn2) rfl rfl (Nat.le_of_ble_eq_true rfl) (Nat.le_of_ble_eq_true rfl) ⟨Bl, X, T, rfl, rfl⟩ F N (fun _ h => List.mem_append_left _ h) (fun _ h => List.mem_append_right _ h) ap (fun _ h => nomatch h) ?_
  rintro v foc1 h1 tk1 F1 N1 ap1 ⟨z1, rfl, W1⟩
  try dsimp only
  clear N
  k_steps
  show wpAny _ _ _ _ _ _
  refine Spec.use (wSorted W1 (List.mem_append_right _ (.head _))) (Z7 L' oy ox o3 o4 o5 l1 vs1 nn1 l2 vs2 nn2) rfl rfl (Nat.le_of_ble_eq_true rfl) (Nat.le_of_ble_eq_true rfl) ⟨Bl, X, T, rfl, rfl⟩ F1 N1 (fun _ h => List.mem_append_left _ h) (fun _ h => List.mem_append_right _ h) ap1 (fun _ h => nomatch h) ?_
  rintro v foc' h2 tk2 F2 N2 ap2 ⟨l3, vs3, nn3, ss3, fw3, rfl, hS3, hp3, hs3, rfl, W3, ap3⟩
  have H3 := has_of hp3 hs3 (nodup_dd _)
  obtain ⟨apa, apb⟩ := apart_app.mp ap2
  try dsimp only
  clear N1
  have N3 : News g L' h2 ((Z7 L' oy ox o3 o4 o5 l1 vs1 nn1 l2 vs2 nn2 ++ oneL l3 vs3 nn3) ++ fw3) := subNews N2 (by walk_at "my subs")
  k_steps
  show wpAny _ _ _ _ _ _
  refine Spec.use (wWithout W3 (by omega) (List.mem_append_left _ he) (List.mem_append_left _ hb)) (Z7 L' oy ox o3 o4 o5 l1 vs1 nn1 l2 vs2 nn2 ++ oneL l3 vs3 nn3) rfl rfl (Nat.le_of_ble_eq_true rfl) (Nat.le_of_ble_eq_true rfl) ⟨Bl, X, T, rfl, rfl⟩ F2 N3 (fun _ h => List.mem_append_left _ h) (fun _ h => List.mem_append_right _ h) (apart_left apb ap3) (fun _ h => nomatch h) ?_
  rintro v foc4 h4 tk4 F4 N4 ap4 ⟨z4, rfl, W4⟩
  try dsimp only
  clear N2 N3
  k_steps
  show wpAny _ _ _ _ _ _
  refine Spec.use (wSorted W4 (List.mem_append_right _ (.head _))) (Z7 L' oy ox o3 o4 o5 l1 vs1 nn1 l2 vs2 nn2 ++ oneL l3 vs3 nn3) rfl rfl (Nat.le_of_ble_eq_true rfl) (Nat.le_of_ble_eq_true rfl) ⟨Bl, X, T, rfl, rfl⟩ F4 N4 (fun _ h => List.mem_append_left _ h) (fun _ h => List.mem_append_right _ h) ap4 (fun _ h => nomatch h) ?_
  rintro v foc' h5 tk5 F5 N5 ap5 ⟨l6, vs6, nn6, ss6, fw6, rfl, hS6, hp6, hs6, rfl, W6, ap6⟩
  have H6 := has_of hp6 hs6 ((nodup_dd _).filter _)
  try dsimp only
  clear N4
  have e : ss3 = ss6 := H3.eq H6 fun z => by
    simp only [mem_dd, List.mem_append, List.mem_filter, decide_eq_true_eq]
    by_cases h1 : z ∈ ks <;> by_cases h2 : z ∈ ls <;> simp [h1, h2]
  have s3 : ∀ z ∈ ss3, z ∈ words7 := fun z hz => by
    rcases List.mem_append.mp (mem_dd.mp ((H3.mem z).mp hz)) with h | h
    · exact k7 z (mem_dd.mp (List.mem_filter.mp h).1)
    · exact l7 z (mem_dd.mp (List.mem_filter.mp h).1)
  k_steps
  show wpAny _ _ _ _ _ _
  refine ne_strs (N5.isList (List.mem_append_left _ (List.mem_append_right _ (.head _)))) (N5.isList (List.mem_append_right _ (.head _))) hS3 hS6 s3 (fun z hz => s3 z (e ▸ hz)) (Nat.le_of_ble_eq_true rfl) ?_
  rw [decide_eq_true e]
  k_steps
  rw [List.append_assoc] at W6
  refine k _ _ fw6 _ F5 (subNews N5 ?_) ((app_apart.mp (apart_app.mp ap5).2).1) (W6.mono (by omega))
  intro q hq
  rcases List.mem_append.mp hq with hq | hq
  · exact List.mem_append_left _ (List.mem_append_left _ hq)
  · exact List.mem_append_right _ (List.mem_append_right _ hq)
end
section
variable {prog : Program} {w : World} {c : Cn} {sh : Addr} {x y f : Addr} {ks ls fs : List Str} {p : Program} {loose : List Str} {mean : ExcName → Option Value} {mg mb : Str → Option Value} {gd : Option (List Code)} {env : Env} {outer : List Env} {A₀ A₁ : Around} {base g : Heap} {L' : Addr}
  {oy ox o3 o4 o5 : Obj} {l1 l2 : Addr} {vs1 vs2 : List Value} {nn1 nn2 : Nat} {ss1 ss2 : List Str}
variable {ze zb zl zm : Addr} {n : Nat} {σ : List (Addr × List Str)} {fw : Led} {s : Shared} {Q : Bool → Shared → Prop} {E : Value → Shared → Prop}
theorem pr_if4 (P : Px w c sh x y f ks ls p loose mean mg mb env outer A₁ base g L' oy ox o3 o4 o5 l1 vs1 l2 vs2 ss1 ss2)
    (F : Fr g L' s.heap (prM L' c.ci sh x y f ze zb zl zm)) (N : News g L' s.heap (Z7 L' oy ox o3 o4 o5 l1 vs1 nn1 l2 vs2 nn2 ++ fw)) (ap : Apart (Z7 L' oy ox o3 o4 o5 l1 vs1 nn1 l2 vs2 nn2) fw)
    (W : Wd prog w c sh n σ fw) (hn1 : n ≤ 800) (he : (ze, dd (ks ++ ls)) ∈ σ) (hb : (zb, dd (ks.filter fun q => decide (q ∈ ls))) ∈ σ) (hl : (zl, (dd ks).filter fun q => decide (q ∉ ls)) ∈ σ)
    (k : ∀ h' tk' fw' τ, Fr g L' h' (prM L' c.ci sh x y f ze zb zl zm) → News g L' h' (Z7 L' oy ox o3 o4 o5 l1 vs1 nn1 l2 vs2 nn2 ++ fw') → Apart (Z7 L' oy ox o3 o4 o5 l1 vs1 nn1 l2 vs2 nn2) fw' → Wd prog w c sh (n + 1) (σ ++ τ) fw' → Q false { s with heap := h', toks := tk' }) :
    wpAny (model prog w) ((Ar 650 4000 gd env outer).deeper (prEnv L')) (isTrue (testAt b536 6) (prEnv L') (eval (testAt b536 6) (prEnv L'))) Q E s := by
  obtain ⟨Bl, X, T, dy, dx, d3, d4, d5, S1, S2, H1, H2, k7, l7, n1, n2⟩ := P
  show wpAny _ _ (isTrue (Expr.BoolOp _ _ _) _ _) _ _ _
  k_steps
  show wpAny _ _ _ _ _ _
  refine Spec.use (wCount W hl) (Z7 L' oy ox o3 o4 o5 l1 vs1 nn1 l2 vs2 nn2) rfl rfl (Nat.le_of_ble_eq_true rfl) (Nat.le_of_ble_eq_true rfl) ⟨Bl, X, T, rfl, rfl⟩ F N (fun _ h => List.mem_append_left _ h) (fun _ h => List.mem_append_right _ h) ap (fun _ h => nomatch h) ?_
  rintro v foc1 h1 tk1 F1 N1 ap1 ⟨t1, rfl, rfl⟩
  try dsimp only
  clear N
  k_steps
  show wpAny _ _ _ _ _ _
  refine Spec.use (wSorted W he) (Z7 L' oy ox o3 o4 o5 l1 vs1 nn1 l2 vs2 nn2) rfl rfl (Nat.le_of_ble_eq_true rfl) (Nat.le_of_ble_eq_true rfl) ⟨Bl, X, T, rfl, rfl⟩ F1 N1 (fun _ h => List.mem_append_left _ h) (fun _ h => List.mem_append_right _ h) ap1 (fun _ h => nomatch h) ?_
  rintro v foc' h2 tk2 F2 N2 ap2 ⟨l3, vs3, nn3, ss3, fw3, rfl, hS3, hp3, hs3, rfl, W3, ap3⟩
  have H3 := has_of hp3 hs3 (nodup_dd _)
  obtain ⟨apa, apb⟩ := apart_app.mp ap2
  try dsimp only
  clear N1
  have s3 : ∀ z ∈ ss3, z ∈ words7 := fun z hz => by
    rcases List.mem_append.mp (mem_dd.mp ((H3.mem z).mp hz)) with h | h
    · exact k7 z h
    · exact l7 z h
  have s2 : ∀ z ∈ ss2, z ∈ words7 := fun z hz => l7 z ((H2.mem z).mp hz)
  k_steps
  show wpAny _ _ _ _ _ _
  refine eq_strs (N2.isList (List.mem_append_right _ (.head _))) (N2.isList (List.mem_append_left _ (by k_mem))) hS3 S2 s3 s2 (Nat.le_of_ble_eq_true rfl) ?_
  have ec : decide (ss3 = ss2) = ((((dd ks).filter fun q => decide (q ∉ ls)).length : Int) == 0) := by
    rw [Bool.eq_iff_iff, decide_eq_true_iff, beq_iff_eq, Int.natCast_eq_zero, List.length_eq_zero_iff, List.filter_eq_nil_iff]
    constructor
    · intro e z hz
      have h1 : z ∈ ss3 := (H3.mem z).mpr (mem_dd.mpr (List.mem_append_left _ (mem_dd.mp hz)))
      rw [e, H2.mem] at h1
      simpa using h1
    · intro h
      refine H3.eq H2 fun z => ?_
      rw [mem_dd, List.mem_append]
      constructor
      · rintro (h1 | h1)
        · have := h z (mem_dd.mpr h1)
          simpa using this
        · exact h1
      · exact .inr
  rw [ec]
  k_steps
  · exfalso
    simp_all
  · show wpAny _ _ _ _ _ _
    have N4 : News g L' h2 (Z7 L' oy ox o3 o4 o5 l1 vs1 nn1 l2 vs2 nn2 ++ fw3) := subNews N2 (by walk_at "my subs")
    clear N2
    refine Spec.use (wEither W3 (by omega) hl hb) (Z7 L' oy ox o3 o4 o5 l1 vs1 nn1 l2 vs2 nn2) rfl rfl (Nat.le_of_ble_eq_true rfl) (Nat.le_of_ble_eq_true rfl) ⟨Bl, X, T, rfl, rfl⟩ F2 N4 (fun _ h => List.mem_append_left _ h) (fun _ h => List.mem_append_right _ h) apb (fun _ h => nomatch h) ?_
    rintro v foc5 h5 tk5 F5 N5 ap5 ⟨z5, rfl, W5⟩
    try dsimp only
    clear N4
    k_steps
    show wpAny _ _ _ _ _ _
    refine Spec.use (wSorted W5 (List.mem_append_right _ (.head _))) (Z7 L' oy ox o3 o4 o5 l1 vs1 nn1 l2 vs2 nn2) rfl rfl (Nat.le_of_ble_eq_true rfl) (Nat.le_of_ble_eq_true rfl) ⟨Bl, X, T, rfl, rfl⟩ F5 N5 (fun _ h => List.mem_append_left _ h) (fun _ h => List.mem_append_right _ h) ap5 (fun _ h => nomatch h) ?_
    rintro v foc' h6 tk6 F6 N6 ap6 ⟨l6, vs6, nn6, ss6, fw6, rfl, hS6, hp6, hs6, rfl, W6, ap7⟩
    have H6 := has_of hp6 hs6 (nodup_dd _)
    obtain ⟨apc, apd⟩ := apart_app.mp ap6
    try dsimp only
    clear N5
    have e : ss6 = ss1 := H6.eq H1 fun z => by
      simp only [mem_dd, List.mem_append, List.mem_filter, decide_eq_true_eq]
      by_cases h1 : z ∈ ks <;> by_cases h2 : z ∈ ls <;> simp [h1, h2]
    have s1 : ∀ z ∈ ss1, z ∈ words7 := fun z hz => k7 z ((H1.mem z).mp hz)
    k_steps
    show wpAny _ _ _ _ _ _
    refine ne_strs (N6.isList (List.mem_append_right _ (.head _))) (N6.isList (List.mem_append_left _ (by k_mem))) hS6 S1 (fun z hz => s1 z (e ▸ hz)) s1 (Nat.le_of_ble_eq_true rfl) ?_
    rw [decide_eq_true e]
    k_steps
    exact k _ _ fw6 _ F6 (subNews N6 (by walk_at "my subs")) apd W6
end
/-! a list comprehension over a tuple of the ledger, its value given to a name -/
section
open LCg
variable {prog : Program} {w : World} {A : Around} {E : Value → Shared → Prop} {s : Shared} {h₀ : Heap} {m : Str → Option Value} {env : Env}
noncomputable def TupAt (its : Array Value) (ax : Addr) (nx : Led) : Prop := ∃ o, (ax, o) ∈ nx ∧ o.cls = .type "tuple" ∧ ∃ n, o.data = .seq its n
noncomputable def TupSrc (prog : Program) (w : World) (A : Around) (h₀ : Heap) (L : Addr) (m : Str → Option Value) (env : Env) (elt : Expr) (x : Str) (scope : Scope) (cl : List (Str × Addr)) (Fin : Shared → List Value → Led → Prop) (xv : Value) (s₁ : Shared) : Prop :=
  ∃ ax its nx, xv = .ref ax ∧ A.handled = none ∧ Fr h₀ L s₁.heap m ∧ News h₀ L s₁.heap nx ∧ TupAt its ax nx ∧ its.size ≤ sizeLine ∧
    ∀ hp : Heap, CompRest prog w A h₀ L m env elt x scope cl { s₁ with heap := hp } (TupAt its ax) (fun i v => its[i]? = some v) (Fin { s₁ with heap := hp }) its.size 0 [] nx
theorem assign_comp_tup {elt iter : Expr} {x y : Str} {px py : Pos} {scope : Scope} {cl : List (Str × Addr)} {pos spos : Pos} {Q : Flow → Shared → Prop}
    (hsw : swapsWith (.ListComp elt [⟨.Name x px, iter, [], 0⟩] scope pos) (some (.Name y py)) spos.line env = pure true)
    (hclos : closureFor scope env = pure cl) (hcell : ∀ z ∈ scope.names, z.2 ≠ .cell) (hkind : scope.kind = .function)
    (hnames : ∀ z ∈ scope.names, z.2 = .local → scope.names.lookup z.1 = some .local) (hx : scope.names.lookup x = some .local)
    (hy : env.kindOf y = some .local) (hp : (env.scope.kind == .class || (env.scope.kind == .module && env.locals != env.globals)) = false)
    (h : wpAny (model prog w) A (eval iter env) (TupSrc prog w A h₀ env.locals m env elt x scope cl (fun s₂ => FinA h₀ env.locals m s₂ y Q)) E s)
    (hs : ∀ x, foldedSetIterable iter env x = pure x := by intro _; rfl) :
    wpAny (model prog w) A (exec (.Assign [.Name y py] (.ListComp elt [⟨.Name x px, iter, [], 0⟩] scope pos) spos) env) Q E s := by
  rw [exec_Assign_Name_used _ _ _ _ hsw]
  refine wpAny_bind (wpAny_standAt (wpAny_bind ?_))
  show wpAny _ A (do let _ ← comprehension (.ListComp elt [⟨.Name x px, iter, [], 0⟩] scope pos) scope env _ (newList []) false (eval iter env) (some (assign (.Name y py) env))) _ _ s
  refine wpAny_bind (wpAny_mono (Q := fun _ s' => Q .next s') (wpAny_comprehension_free (use := some (assign (.Name y py) env)) rfl hs hclos hkind hnames (wpAny_mono h (fun xv s₁ h₁ => ?_) fun _ _ e => e)) (fun _ s' hq => wpAny_pure (wpAny_pure hq)) fun _ _ e => e)
  obtain ⟨ax, its, nx, rfl, hh, F, N, S, hsz, R⟩ := h₁
  have tup : ∀ h' nw, News h₀ env.locals h' nw → TupAt its ax nw → h'.IsTuple ax its := fun h' nw N' ⟨o, a, b, c⟩ => ⟨o, (N' _ a).1, b, c⟩
  have ht := tup _ _ N S
  have hlt : ax < s₁.heap.objs.size := by obtain ⟨_, e, _⟩ := ht; exact Heap.lt_size e
  refine wpAny_pyIter_tuple ht ?_
  refine block_U (S := TupAt its ax) (Walks.tuple hh s₁.heap.objs.size ax (Nat.ne_of_lt hlt) its) hsz (fun i h' st => let ⟨⟨o, e, _⟩, _⟩ := st; ⟨o, e⟩) ?_ hcell hkind hx ⟨⟨_, Heap.get?_push_size _ rfl, rfl, rfl⟩, ht.at fun o e => Heap.get?_push_of_some _ e⟩ ?_
    (F.push _) (N.grown fun _ _ e => Heap.get?_push_of_some _ e) (Nat.ne_of_lt F.ns.lt) (next_is_new F) (fun p hp => Nat.ne_of_lt (Heap.lt_size (N p hp).1)) S (R _) ?_
  · rintro i h1 h2 o nw ⟨⟨o', a, b⟩, _⟩ e e' _ N' S'
    rw [e] at a
    cases a
    exact ⟨⟨o, e', b⟩, tup _ _ N' S'⟩
  · intro b hb
    have : b < s₁.heap.objs.size + 1 := by
      rcases List.mem_cons.mp hb with rfl | hb
      · exact Nat.lt_succ_self _
      · rw [List.mem_singleton.mp hb]; exact Nat.lt_succ_of_lt hlt
    simpa using this
  · intro D C h1 tk m1 ys nw F1 N1 o1 hn hC hD hCL hDL hCD offC fin
    show wpAny _ A (assign (.Name y py) env (.ref D)) _ _ _
    refine wpAny_assign_Name (wpAny_storeName_local hy F1.ns (fun h2 hn2 hs2 => ?_) hp)
    refine ⟨m1, hn.sameBut hs2 hCL, fun h3 hs3 => fin D h3 _ ((F1.set hn2 hs2).change hs3 hCL hC) (fun q hq => ?_) o1⟩
    obtain ⟨a1, a2⟩ := (N1.set hs2) q hq
    refine ⟨hs3.extBut _ _ (fun e => ?_) a1, a2⟩
    rcases List.mem_cons.mp hq with rfl | hq
    · exact hCD e.symm
    · exact offC q hq e
end
section
variable {prog : Program} {w : World} {c : Cn} {sh : Addr} {x y f : Addr} {ks ls fs : List Str} {p : Program} {loose : List Str} {mean : ExcName → Option Value} {mg mb : Str → Option Value} {gd : Option (List Code)} {env : Env} {outer : List Env} {A₀ A₁ : Around} {base g : Heap} {L' : Addr}
  {oy ox o3 o4 o5 : Obj} {l1 l2 : Addr} {vs1 vs2 : List Value} {nn1 nn2 : Nat} {ss1 ss2 : List Str}
variable {ze zb zl zm : Addr} {n : Nat} {σ : List (Addr × List Str)} {fw : Led} {s : Shared} {Q : Flow → Shared → Prop} {E : Value → Shared → Prop}
theorem pr_end (P : Px w c sh x y f ks ls p loose mean mg mb env outer A₁ base g L' oy ox o3 o4 o5 l1 vs1 l2 vs2 ss1 ss2)
    (F : Fr g L' s.heap (prM L' c.ci sh x y f ze zb zl zm)) (N : News g L' s.heap (Z7 L' oy ox o3 o4 o5 l1 vs1 nn1 l2 vs2 nn2 ++ fw)) (ap : Apart (Z7 L' oy ox o3 o4 o5 l1 vs1 nn1 l2 vs2 nn2) fw)
    (W : Wd prog w c sh n σ fw) (hn1 : n ≤ 800) (hx : (x, ks) ∈ σ) (hy : (y, ls) ∈ σ) (hf : (f, fs) ∈ σ) (hall : ∀ z ∈ words7, z ∈ fs) (he : (ze, dd (ks ++ ls)) ∈ σ)
    (k : ∀ h' tk' m' fw' τ, Fr g L' h' m' → News g L' h' fw' → Wd prog w c sh (n + 30) (σ ++ τ) fw' → Q (.ret (.bool true)) { s with heap := h', toks := tk' }) :
    wpAny (model prog w) ((Ar 650 4000 gd env outer).deeper (prEnv L')) (execs (b536.drop 7) (prEnv L')) Q E s := by
  obtain ⟨Bl, X, T, dy, dx, d3, d4, d5, S1, S2, H1, H2, k7, l7, n1, n2⟩ := P
  show wpAny _ _ (execs (_ :: _) _) _ _ _
  k_steps
  show wpAny _ _ _ _ _ _
  refine Spec.use (wWithout W (by omega) hf he) (Z7 L' oy ox o3 o4 o5 l1 vs1 nn1 l2 vs2 nn2) rfl rfl (Nat.le_of_ble_eq_true rfl) (Nat.le_of_ble_eq_true rfl) ⟨Bl, X, T, rfl, rfl⟩ F N (fun _ h => List.mem_append_left _ h) (fun _ h => List.mem_append_right _ h) ap (fun _ h => nomatch h) ?_
  rintro v foc1 h1 tk1 F1 N1 ap1 ⟨z1, rfl, W1⟩
  try dsimp only
  clear N
  k_steps
  show wpAny _ _ _ _ _ _
  rename Fr _ _ _ _ => F2
  rename News _ _ _ _ => N2
  refine assign_comp_tup (h₀ := g) (m := fun q => if q = "outside" then some (Value.ref z1) else prM L' c.ci sh x y f ze zb zl zm q) (by with_unfolding_all rfl) (by with_unfolding_all rfl) (by decide) (by rfl) (by decide) (by rfl) (by rfl) (by rfl) ?_
  k_steps
  show TupSrc _ _ _ _ _ _ _ _ _ _ _ _ _ _
  rename (∀ p ∈ _, _ < _) => lD
  rename Fr _ _ _ _ => F3
  rename News _ _ _ _ => N3
  rename_i T0 h3
  have aT : Apart ((T0, ({ cls := .type "tuple", data := .seq #[.ref x, .ref y] } : Obj)) :: Z7 L' oy ox o3 o4 o5 l1 vs1 nn1 l2 vs2 nn2) foc1 :=
    apart_cons (fun q hq => Nat.ne_of_lt (lD q (List.mem_append_right _ hq))) ap1
  refine ⟨T0, #[.ref x, .ref y], (T0, { cls := .type "tuple", data := .seq #[.ref x, .ref y] }) :: (Z7 L' oy ox o3 o4 o5 l1 vs1 nn1 l2 vs2 nn2 ++ foc1), rfl, rfl, F3, N3, ⟨_, .head _, rfl, _, rfl⟩, Nat.le_of_ble_eq_true rfl, fun hp => ?_⟩
  refine compRest_of 2 (fun i ys nw => ∃ fw' τ, nw = ((T0, ({ cls := .type "tuple", data := .seq #[.ref x, .ref y] } : Obj)) :: Z7 L' oy ox o3 o4 o5 l1 vs1 nn1 l2 vs2 nn2) ++ fw' ∧ Apart ((T0, ({ cls := .type "tuple", data := .seq #[.ref x, .ref y] } : Obj)) :: Z7 L' oy ox o3 o4 o5 l1 vs1 nn1 l2 vs2 nn2) fw' ∧
    Wd prog w c sh (n + 8 + 8 * i) (σ ++ [(z1, (dd fs).filter fun q => decide (q ∉ dd (ks ++ ls)))] ++ τ) fw' ∧ ys = τ.map (fun p => Value.ref p.1) ∧ τ.map (·.2) = ([ks, ls].take i).map fun l => (dd fs).filter fun q => decide (q ∉ l)) ?_ ?_ _ 0 [] _ rfl ⟨foc1, [], rfl, aT, by simpa using W1, rfl, rfl⟩
  · rintro i ys nw v I oI C oC D m₂ h tk E' hi ⟨fw', τ, rfl, api, Wi, rfl, hτ⟩ hP hC hxx F4 N4 off ne
    have hxk : ∀ i : Nat, i < 2 → #[Value.ref x, Value.ref y][i]? = some v → ∃ xi ki, v = .ref xi ∧ (xi, ki) ∈ σ ∧ [ks, ls][i]? = some ki := by
      intro i hi hP
      match i, hi, hP with
      | 0, _, hP => exact ⟨x, ks, (Option.some.inj (show some (Value.ref x) = some v from hP)).symm, hx, rfl⟩
      | 1, _, hP => exact ⟨y, ls, (Option.some.inj (show some (Value.ref y) = some v from hP)).symm, hy, rfl⟩
    replace hxk := hxk i hi hP
    obtain ⟨xi, ki, rfl, hxi, hki⟩ := hxk
    have off3 := off.mem
    obtain ⟨ne1, ne2, ne3⟩ := ne
    clear N3
    have ap5 : Apart ((I, oI) :: (C, oC) :: (D, LCg.lst (τ.map fun p => Value.ref p.1)) :: (T0, ({ cls := .type "tuple", data := .seq #[.ref x, .ref y] } : Obj)) :: Z7 L' oy ox o3 o4 o5 l1 vs1 nn1 l2 vs2 nn2) fw' :=
      apart_cons (fun z hz => (off3 z (List.mem_append_right _ hz)).1) (apart_cons (fun z hz => (off3 z (List.mem_append_right _ hz)).2.1) (apart_cons (fun z hz => (off3 z (List.mem_append_right _ hz)).2.2) api))
    have N5 : News g L' h (((I, oI) :: (C, oC) :: (D, LCg.lst (τ.map fun p => Value.ref p.1)) :: (T0, ({ cls := .type "tuple", data := .seq #[.ref x, .ref y] } : Obj)) :: Z7 L' oy ox o3 o4 o5 l1 vs1 nn1 l2 vs2 nn2) ++ fw') := N4
    clear N4
    k_steps
    show wpAny _ _ _ _ _ _
    rename Fr _ _ _ _ => F6
    refine Spec.use (wWithout Wi (by omega) (List.mem_append_left _ (List.mem_append_left _ hf)) (List.mem_append_left _ (List.mem_append_left _ hxi))) ((I, oI) :: (C, oC) :: (D, LCg.lst (τ.map fun p => Value.ref p.1)) :: (T0, ({ cls := .type "tuple", data := .seq #[.ref x, .ref y] } : Obj)) :: Z7 L' oy ox o3 o4 o5 l1 vs1 nn1 l2 vs2 nn2) rfl rfl (Nat.le_of_ble_eq_true rfl) (Nat.le_of_ble_eq_true rfl) ⟨Bl, X, T, rfl, rfl⟩ F6 N5 (fun _ h => List.mem_append_left _ h) (fun _ h => List.mem_append_right _ h) ap5 (fun _ h => nomatch h) ?_
    rintro v foc7 h7 tk7 F7 N7 ap7 ⟨z7, rfl, W7⟩
    try dsimp only
    clear N5
    k_steps
    show LCg.CompEnd _ _ _ _ _ _ _ _ _ _ _ _ _ _
    refine LCg.CompEnd.intro F7 N7 (((T0, ({ cls := .type "tuple", data := .seq #[.ref x, .ref y] } : Obj)) :: Z7 L' oy ox o3 o4 o5 l1 vs1 nn1 l2 vs2 nn2) ++ foc7) (fun q hq => hq) ?_ ⟨_, .head _, rfl, _, rfl⟩
      ⟨foc7, τ ++ [(z7, (dd fs).filter fun q => decide (q ∉ ki))], rfl, ap7.sub (fun q hq => .tail _ (.tail _ (.tail _ hq))) fun _ h => h, ?_, by simp, ?_⟩
    · refine LCg.Off3.of fun q hq => ?_
      rcases List.mem_append.mp hq with hq | hq
      · exact off3 q (List.mem_append_left _ hq)
      · exact ⟨fun e => ap7 _ (.head _) q hq e.symm, fun e => ap7 _ (.tail _ (.head _)) q hq e.symm, fun e => ap7 _ (.tail _ (.tail _ (.head _))) q hq e.symm⟩
    · rw [← List.append_assoc]
      exact W7.mono (by omega)
    · rw [List.map_append, hτ, List.take_add_one, hki, List.map_append]
      rfl
  · rintro ys nw ⟨fw', τ, rfl, api, Wi, rfl, hτ⟩
    intro D h tk F5 N5 off5
    match τ, hτ with
    | [(a1, k1), (a2, k2)], hτ =>
      simp only [List.take_succ_cons, List.take_zero, List.map_cons, List.map_nil, List.cons.injEq, and_true] at hτ
      obtain ⟨rfl, rfl⟩ := hτ
      try dsimp only
      have N6 : News g L' h ((oneL D [.ref a1, .ref a2] 2 ++ Z7 L' oy ox o3 o4 o5 l1 vs1 nn1 l2 vs2 nn2) ++ fw') := subNews N5 (by
        intro q hq
        rcases List.mem_append.mp hq with hq | hq
        · rcases List.mem_append.mp hq with hq | hq
          · rw [List.mem_singleton.mp hq]; exact .head _
          · exact .tail _ (.tail _ (List.mem_append_left _ hq))
        · exact .tail _ (List.mem_append_right _ hq))
      have ap6 : Apart (oneL D [.ref a1, .ref a2] 2 ++ Z7 L' oy ox o3 o4 o5 l1 vs1 nn1 l2 vs2 nn2) fw' := apart_left (apart_cons (fun z hz => off1_mem off5 z (List.mem_append_right _ hz)) apart_nil_left) (api.sub (fun _ h => .tail _ h) fun _ h => h)
      clear N3 N5
      k_steps
      show wpAny _ _ _ _ _ _
      refine Spec.use (wSorted Wi (List.mem_append_left _ (List.mem_append_right _ (.head _)))) (oneL D [.ref a1, .ref a2] 2 ++ Z7 L' oy ox o3 o4 o5 l1 vs1 nn1 l2 vs2 nn2) rfl rfl (Nat.le_of_ble_eq_true rfl) (Nat.le_of_ble_eq_true rfl) ⟨Bl, X, T, rfl, rfl⟩ F5 N6 (fun _ h => List.mem_append_left _ h) (fun _ h => List.mem_append_right _ h) ap6 (fun _ h => nomatch h) ?_
      rintro v foc' h7 tk7 F7 N7 ap7 ⟨l3, vs3, nn3, ss3, fw3, rfl, hS3, hp3, hs3, rfl, W3, ap8⟩
      have H3 := has_of hp3 hs3 ((nodup_dd _).filter _)
      obtain ⟨apa, apb⟩ := apart_app.mp ap7
      try dsimp only
      clear N6
      k_steps
      show wpAny _ _ _ _ _ _
      rename Fr _ _ _ _ => F8
      have N8 : News g L' h7 ((Z7 L' oy ox o3 o4 o5 l1 vs1 nn1 l2 vs2 nn2 ++ oneL l3 vs3 nn3) ++ fw3) := subNews N7 (by walk_at "my subs")
      refine Spec.use (wBoth W3 (by omega) (List.mem_append_right _ (.head _)) (List.mem_append_right _ (.tail _ (.head _)))) (Z7 L' oy ox o3 o4 o5 l1 vs1 nn1 l2 vs2 nn2 ++ oneL l3 vs3 nn3) rfl rfl (Nat.le_of_ble_eq_true rfl) (Nat.le_of_ble_eq_true rfl) ⟨Bl, X, T, rfl, rfl⟩ F8 N8 (fun _ h => List.mem_append_left _ h) (fun _ h => List.mem_append_right _ h) (apart_left (app_apart.mp apb).2 ap8) (fun _ h => nomatch h) ?_
      rintro v foc9 h9 tk9 F9 N9 ap9 ⟨z9, rfl, W9⟩
      try dsimp only
      clear N7 N8
      k_steps
      show wpAny _ _ _ _ _ _
      refine Spec.use (wSorted W9 (List.mem_append_right _ (.head _))) (Z7 L' oy ox o3 o4 o5 l1 vs1 nn1 l2 vs2 nn2 ++ oneL l3 vs3 nn3) rfl rfl (Nat.le_of_ble_eq_true rfl) (Nat.le_of_ble_eq_true rfl) ⟨Bl, X, T, rfl, rfl⟩ F9 N9 (fun _ h => List.mem_append_left _ h) (fun _ h => List.mem_append_right _ h) ap9 (fun _ h => nomatch h) ?_
      rintro v foc' h10 tk10 F10 N10 ap10 ⟨l4, vs4, nn4, ss4, fw4, rfl, hS4, hp4, hs4, rfl, W4, ap11⟩
      have H4 := has_of hp4 hs4 (nodup_dd _)
      try dsimp only
      k_steps
      show wpAny _ _ _ _ _ _
      have e : ss3 = ss4 := H3.eq H4 fun z => by
        simp only [mem_dd, List.mem_append, List.mem_filter, decide_eq_true_eq, not_or]
        by_cases h1 : z ∈ ks <;> by_cases h2 : z ∈ ls <;> by_cases h3 : z ∈ fs <;> simp [h1, h2, h3]
      have s3 : ∀ z ∈ ss3, z ∈ words7 := fun z hz => (W.len hf).2.1 z (mem_dd.mp (List.mem_filter.mp ((H3.mem z).mp hz)).1)
      refine eq_strs (N10.isList (List.mem_append_left _ (List.mem_append_right _ (.head _)))) (N10.isList (List.mem_append_right _ (.head _))) hS3 hS4 s3 (fun z hz => s3 z (e ▸ hz)) (Nat.le_of_ble_eq_true rfl) ?_
      rw [decide_eq_true e]
      try dsimp only
      rw [List.append_assoc, List.append_assoc] at W4
      have W5 := Wd.mono (n' := n + 30) W4 (by omega)
      exact k _ _ _ fw4 _ F10 (subNews N10 fun q hq => List.mem_append_right _ (List.mem_append_right _ hq)) W5
end
section
local macro_rules | `(tactic| walk_at "isTrue BoolOp") => `(tactic| refine stop ?_)
local macro_rules | `(tactic| walk_at "isTrue Compare") => `(tactic| refine stop ?_)
section
variable {prog : Program} {w : World} {c : Cn} {sh : Addr} {n : Nat} {σ : List (Addr × List Str)} {foc : Led} {x y f : Addr} {ks ls fs : List Str}
theorem pair_right (W : Wd prog w c sh n σ foc) (hn1 : n ≤ 600) (hx : (x, ks) ∈ σ) (hy : (y, ls) ∈ σ) (hf : (f, fs) ∈ σ) (hall : ∀ z ∈ words7, z ∈ fs) :
    Spec prog w (K w.params) 650 4000 536 [.ref c.ci, .ref sh, .ref x, .ref y, .ref f] [] foc
      (fun v foc' => v = .bool true ∧ ∃ τ, Wd prog w c sh (n + 150) (σ ++ τ) foc') := by
  refine' spec_ofC (binds := [("counter", .ref c.ci), ("shelf", .ref sh), ("one", .ref x), ("other", .ref y), ("full", .ref f)]) ?k1 ?k2 ?k3 ?k4 ?k5 ?k6 ?_ ?c1 ?c2 ?c3
  case k1 => k_is
  case k2 => k_is
  case k3 => decide
  case k4 => exact fun s => BindsTo.of_eq rfl
  case k5 => rfl
  case k6 => decide +kernel
  case c1 => rfl
  case c2 => rfl
  case c3 => rfl
  intro p loose mean mg mb gd env outer A₀ A₁ base g L' h₁ tk0 s₁ cells hs F N Y lt hro Bl X T
  subst hs
  have hY := CellsAre.five Y
  obtain ⟨o1, o2, o3, o4, o5, hE, d1, d2, d3, d4, d5⟩ := hY
  subst hE
  clear Y
  have apc : Apart [(L' + 1 + 1 + 1 + 1 + 1, o1), (L' + 1 + 1 + 1 + 1, o2), (L' + 1 + 1 + 1, o3), (L' + 1 + 1, o4), (L' + 1, o5)] foc := fun q hq z hz => by
    have h1 : @LT.lt Nat _ z.1 L' := lt z hz
    have h2 : @LE.le Nat _ L' q.1 := by
      simp only [List.mem_cons, List.not_mem_nil, or_false] at hq
      rcases hq with rfl | rfl | rfl | rfl | rfl <;> (dsimp only; omega)
    exact Nat.ne_of_gt (Nat.lt_of_lt_of_le h1 h2)
  k_steps
  show wpAny _ _ _ _ _ _
  refine Spec.use (wSorted W hx) [(L' + 1 + 1 + 1 + 1 + 1, o1), (L' + 1 + 1 + 1 + 1, o2), (L' + 1 + 1 + 1, o3), (L' + 1 + 1, o4), (L' + 1, o5)] rfl rfl (Nat.le_of_ble_eq_true rfl) (Nat.le_of_ble_eq_true rfl) ⟨Bl, X, T, rfl, rfl⟩ F N (by walk_at "my subs") (by walk_at "my subs") apc (fun _ h => nomatch h) ?_
  rintro v foc' h2 tk2 F2 N2 ap2 ⟨l1, vs1, nn1, ss1, fw, rfl, hS1, hp1, hs1, rfl, W2, ap3⟩
  try dsimp only
  have H1 : Has ss1 ks := has_of hp1 hs1 (W.len hx).1
  obtain ⟨apa, apb⟩ := apart_app.mp ap2
  have N3 : News g L' h2 ([(L' + 1 + 1 + 1 + 1 + 1, o1), (L' + 1 + 1 + 1 + 1, o2), (L' + 1 + 1 + 1, o3), (L' + 1 + 1, o4), (L' + 1, o5)] ++ (oneL l1 vs1 nn1 ++ fw)) := N2
  clear N N2
  k_steps
  show wpAny _ _ _ _ _ _
  refine Spec.use (wSorted W2 hy) ([(L' + 1 + 1 + 1 + 1 + 1, o1), (L' + 1 + 1 + 1 + 1, o2), (L' + 1 + 1 + 1, o3), (L' + 1 + 1, o4), (L' + 1, o5)] ++ oneL l1 vs1 nn1) rfl rfl (Nat.le_of_ble_eq_true rfl) (Nat.le_of_ble_eq_true rfl) ⟨Bl, X, T, rfl, rfl⟩ F2 N3 (by walk_at "my subs") (by walk_at "my subs") (apart_left apb ap3) (fun _ h => nomatch h) ?_
  rintro v foc' h4 tk4 F4 N4 ap4 ⟨l2, vs2, nn2, ss2, fw2, rfl, hS2, hp2, hs2, rfl, W4, ap5⟩
  try dsimp only
  have H2 : Has ss2 ls := has_of hp2 hs2 (W.len hy).1
  simp only [apart_app, app_apart, and_assoc] at ap4
  obtain ⟨apd, ape, apf, apg⟩ := ap4
  have N5 : News g L' h4 ((L' + 1 + 1 + 1 + 1 + 1, o1) :: (L' + 1 + 1 + 1 + 1, o2) :: (L' + 1 + 1 + 1, o3) :: (L' + 1 + 1, o4) :: (L' + 1, o5) :: (l1, PySem.W.listOf vs1.toArray nn1) :: (l2, PySem.W.listOf vs2.toArray nn2) :: fw2) := N4
  have aZ : Apart [(L' + 1 + 1 + 1 + 1 + 1, o1), (L' + 1 + 1 + 1 + 1, o2), (L' + 1 + 1 + 1, o3), (L' + 1 + 1, o4), (L' + 1, o5)] (oneL l1 vs1 nn1 ++ (oneL l2 vs2 nn2 ++ fw2)) := by walk_at "my apart"
  clear N3 N4
  k_steps
  show wpAny _ _ _ _ _ _
  rename Fr _ _ _ _ => F6
  rename News _ _ _ _ => N6
  have r1 : ∀ z ∈ [(L' + 1 + 1 + 1 + 1 + 1, o1), (L' + 1 + 1 + 1, o3), (L' + 1 + 1, o4), (L' + 1, o5)] ++ (oneL l1 vs1 nn1 ++ (oneL l2 vs2 nn2 ++ fw2)), z.1 ≠ L' + 1 + 1 + 1 + 1 := fun z hz => by
    rcases List.mem_append.mp hz with hz | hz
    · simp only [List.mem_cons, List.not_mem_nil, or_false] at hz
      rcases hz with rfl | rfl | rfl | rfl <;> (refine neN ?_; dsimp only; omega)
    · exact fun e => aZ _ (.tail _ (.head _)) z hz e.symm
  have N7 : News g L' _ ((L' + 1 + 1 + 1 + 1, o2) :: ([(L' + 1 + 1 + 1 + 1 + 1, o1), (L' + 1 + 1 + 1, o3), (L' + 1 + 1, o4), (L' + 1, o5)] ++ (oneL l1 vs1 nn1 ++ (oneL l2 vs2 nn2 ++ fw2)))) := subNews N6 (by
    simp only [List.cons_append, List.nil_append]
    walk_at "my sub")
  refine storeX_C F6 N7 (by rfl) (UpdF.head r1) d2 ?_
  intro h8 o2' F8 N8 d2'
  clear N6 N7
  k_steps
  show wpAny _ _ _ _ _ _
  have r2 : ∀ z ∈ [(L' + 1 + 1 + 1 + 1, o2'), (L' + 1 + 1 + 1, o3), (L' + 1 + 1, o4), (L' + 1, o5)] ++ (oneL l1 vs1 nn1 ++ (oneL l2 vs2 nn2 ++ fw2)), z.1 ≠ L' + 1 + 1 + 1 + 1 + 1 := fun z hz => by
    rcases List.mem_append.mp hz with hz | hz
    · simp only [List.mem_cons, List.not_mem_nil, or_false] at hz
      rcases hz with rfl | rfl | rfl | rfl <;> (refine neN ?_; dsimp only; omega)
    · exact fun e => aZ _ (.head _) z hz e.symm
  have N9 : News g L' h8 ((L' + 1 + 1 + 1 + 1 + 1, o1) :: ([(L' + 1 + 1 + 1 + 1, o2'), (L' + 1 + 1 + 1, o3), (L' + 1 + 1, o4), (L' + 1, o5)] ++ (oneL l1 vs1 nn1 ++ (oneL l2 vs2 nn2 ++ fw2)))) := subNews N8 (by
    simp only [List.cons_append, List.nil_append]
    walk_at "my sub")
  refine storeX_C F8 N9 (by rfl) (UpdF.head r2) d1 ?_
  intro h10 o1' F10 N10 d1'
  clear N8 N9
  have N11 : News g L' h10 ((L' + 1 + 1 + 1 + 1 + 1, o1') :: (L' + 1 + 1 + 1 + 1, o2') :: (L' + 1 + 1 + 1, o3) :: (L' + 1 + 1, o4) :: (L' + 1, o5) :: (l1, PySem.W.listOf vs1.toArray nn1) :: (l2, PySem.W.listOf vs2.toArray nn2) :: fw2) := N10
  have aZ2 : Apart [(L' + 1 + 1 + 1 + 1 + 1, o1'), (L' + 1 + 1 + 1 + 1, o2'), (L' + 1 + 1 + 1, o3), (L' + 1 + 1, o4), (L' + 1, o5), (l1, PySem.W.listOf vs1.toArray nn1), (l2, PySem.W.listOf vs2.toArray nn2)] fw2 := by
    refine apart_left (a := [(L' + 1 + 1 + 1 + 1 + 1, o1'), (L' + 1 + 1 + 1 + 1, o2'), (L' + 1 + 1 + 1, o3), (L' + 1 + 1, o4), (L' + 1, o5)]) ?_ (apart_left (a := oneL l1 vs1 nn1) apg ap5)
    exact apart_symm (apart_adr (apart_symm (aZ.sub (fun _ h => h) fun q hq => List.mem_append_right _ (List.mem_append_right _ hq))) fun _ h => h)
  clear N10
  k_steps
  show wpAny _ _ _ _ _ _
  refine Spec.use (wEither W4 (by omega) hx hy) (Z7 L' o1' o2' o3 o4 o5 l1 vs1 nn1 l2 vs2 nn2) rfl rfl (Nat.le_of_ble_eq_true rfl) (Nat.le_of_ble_eq_true rfl) ⟨Bl, X, T, rfl, rfl⟩ F10 (news := Z7 L' o1' o2' o3 o4 o5 l1 vs1 nn1 l2 vs2 nn2 ++ fw2) N11
    (fun _ h => List.mem_append_left _ h) (fun _ h => List.mem_append_right _ h) aZ2 (fun _ h => nomatch h) ?_
  rintro v foc12 h12 tk12 F12 N12 ap12 ⟨ze, rfl, W12⟩
  try dsimp only
  clear N11
  k_steps
  show wpAny _ _ _ _ _ _
  refine Spec.use (wBoth W12 (by omega) (List.mem_append_left _ hx) (List.mem_append_left _ hy)) (Z7 L' o1' o2' o3 o4 o5 l1 vs1 nn1 l2 vs2 nn2) rfl rfl (Nat.le_of_ble_eq_true rfl) (Nat.le_of_ble_eq_true rfl) ⟨Bl, X, T, rfl, rfl⟩ F12 N12
    (fun _ h => List.mem_append_left _ h) (fun _ h => List.mem_append_right _ h) ap12 (fun _ h => nomatch h) ?_
  rintro v foc14 h14 tk14 F14 N14 ap14 ⟨zb, rfl, W14⟩
  try dsimp only
  clear N12
  k_steps
  show wpAny _ _ _ _ _ _
  rename Fr _ _ _ _ => F15
  rename News _ _ _ _ => N15
  have N16 : News g L' _ (Z7 L' o1' o2' o3 o4 o5 l1 vs1 nn1 l2 vs2 nn2 ++ foc14) := subNews N15 fun q hq => .tail _ hq
  refine Spec.use (wWithout W14 (by omega) (List.mem_append_left _ (List.mem_append_left _ hx)) (List.mem_append_left _ (List.mem_append_left _ hy))) (Z7 L' o1' o2' o3 o4 o5 l1 vs1 nn1 l2 vs2 nn2) rfl rfl (Nat.le_of_ble_eq_true rfl) (Nat.le_of_ble_eq_true rfl) ⟨Bl, X, T, rfl, rfl⟩ F15 N16
    (fun _ h => List.mem_append_left _ h) (fun _ h => List.mem_append_right _ h) ap14 (fun _ h => nomatch h) ?_
  rintro v foc17 h17 tk17 F17 N17 ap17 ⟨zl, rfl, W17⟩
  try dsimp only
  clear N15 N16
  k_steps
  show wpAny _ _ _ _ _ _
  refine Spec.use (wWithout W17 (by omega) (List.mem_append_left _ (List.mem_append_left _ (List.mem_append_left _ hy))) (List.mem_append_left _ (List.mem_append_left _ (List.mem_append_left _ hx)))) (Z7 L' o1' o2' o3 o4 o5 l1 vs1 nn1 l2 vs2 nn2) rfl rfl (Nat.le_of_ble_eq_true rfl) (Nat.le_of_ble_eq_true rfl) ⟨Bl, X, T, rfl, rfl⟩ F17 N17
    (fun _ h => List.mem_append_left _ h) (fun _ h => List.mem_append_right _ h) ap17 (fun _ h => nomatch h) ?_
  rintro v foc18 h18 tk18 F18 N18 ap18 ⟨zm, rfl, W18⟩
  try dsimp only
  clear N17
  k_steps
  show wpAny _ _ _ _ _ _
  rename Fr _ _ _ _ => F19
  rename News _ _ _ _ => N19
  have P : Px w c sh x y f ks ls p loose mean mg mb env outer A₁ base g L' o1' o2' o3 o4 o5 l1 vs1 l2 vs2 ss1 ss2 := ⟨Bl, X, T, d1', d2', d3, d4, d5, hS1, hS2, H1, H2, (W.len hx).2.1, (W.len hy).2.1, (W.len hx).1, (W.len hy).1⟩
  have hx4 : (x, ks) ∈ σ ++ [(ze, dd (ks ++ ls))] ++ [(zb, dd (ks.filter fun q => decide (q ∈ ls)))] ++ [(zl, (dd ks).filter fun q => decide (q ∉ ls))] ++ [(zm, (dd ls).filter fun q => decide (q ∉ ks))] := List.mem_append_left _ (List.mem_append_left _ (List.mem_append_left _ (List.mem_append_left _ hx)))
  have hy4 : (y, ls) ∈ σ ++ [(ze, dd (ks ++ ls))] ++ [(zb, dd (ks.filter fun q => decide (q ∈ ls)))] ++ [(zl, (dd ks).filter fun q => decide (q ∉ ls))] ++ [(zm, (dd ls).filter fun q => decide (q ∉ ks))] := List.mem_append_left _ (List.mem_append_left _ (List.mem_append_left _ (List.mem_append_left _ hy)))
  have hf4 : (f, fs) ∈ σ ++ [(ze, dd (ks ++ ls))] ++ [(zb, dd (ks.filter fun q => decide (q ∈ ls)))] ++ [(zl, (dd ks).filter fun q => decide (q ∉ ls))] ++ [(zm, (dd ls).filter fun q => decide (q ∉ ks))] := List.mem_append_left _ (List.mem_append_left _ (List.mem_append_left _ (List.mem_append_left _ hf)))
  have he : (ze, dd (ks ++ ls)) ∈ σ ++ [(ze, dd (ks ++ ls))] ++ [(zb, dd (ks.filter fun q => decide (q ∈ ls)))] ++ [(zl, (dd ks).filter fun q => decide (q ∉ ls))] ++ [(zm, (dd ls).filter fun q => decide (q ∉ ks))] := List.mem_append_left _ (List.mem_append_left _ (List.mem_append_left _ (List.mem_append_right _ (.head _))))
  have hb : (zb, dd (ks.filter fun q => decide (q ∈ ls))) ∈ σ ++ [(ze, dd (ks ++ ls))] ++ [(zb, dd (ks.filter fun q => decide (q ∈ ls)))] ++ [(zl, (dd ks).filter fun q => decide (q ∉ ls))] ++ [(zm, (dd ls).filter fun q => decide (q ∉ ks))] := List.mem_append_left _ (List.mem_append_left _ (List.mem_append_right _ (.head _)))
  have hl : (zl, (dd ks).filter fun q => decide (q ∉ ls)) ∈ σ ++ [(ze, dd (ks ++ ls))] ++ [(zb, dd (ks.filter fun q => decide (q ∈ ls)))] ++ [(zl, (dd ks).filter fun q => decide (q ∉ ls))] ++ [(zm, (dd ls).filter fun q => decide (q ∉ ks))] := List.mem_append_left _ (List.mem_append_right _ (.head _))
  have hm : (zm, (dd ls).filter fun q => decide (q ∉ ks)) ∈ σ ++ [(ze, dd (ks ++ ls))] ++ [(zb, dd (ks.filter fun q => decide (q ∈ ls)))] ++ [(zl, (dd ks).filter fun q => decide (q ∉ ls))] ++ [(zm, (dd ls).filter fun q => decide (q ∉ ks))] := List.mem_append_right _ (.head _)
  generalize hσ : σ ++ [(ze, dd (ks ++ ls))] ++ [(zb, dd (ks.filter fun q => decide (q ∈ ls)))] ++ [(zl, (dd ks).filter fun q => decide (q ∉ ls))] ++ [(zm, (dd ls).filter fun q => decide (q ∉ ks))] = σ4 at W18 hx4 hy4 hf4 he hb hl hm
  refine pr_if1 P F19 (subNews N19 fun q hq => .tail _ hq) ap18 W18 (by omega) he hb ?_
  try clear N19
  intro h20 tk20 fw20 F20 N20 ap20 W20
  try dsimp only
  k_steps
  show wpAny _ _ _ _ _ _
  refine pr_if2 P F20 N20 ap20 W20 (by omega) hx4 hy4 he hb hl ?_
  intro h21 tk21 fw21 F21 N21 ap21 W21
  try dsimp only
  try clear N20
  k_steps
  show wpAny _ _ _ _ _ _
  refine pr_if3 P F21 N21 ap21 W21 (by omega) he hb hl hm ?_
  intro h22 tk22 fw22 τ3 F22 N22 ap22 W22
  try dsimp only
  try clear N21
  k_steps
  show wpAny _ _ _ _ _ _
  refine pr_if4 P F22 N22 ap22 W22 (by omega) (List.mem_append_left _ he) (List.mem_append_left _ hb) (List.mem_append_left _ hl) ?_
  intro h23 tk23 fw23 τ4 F23 N23 ap23 W23
  try dsimp only
  rw [if_neg Bool.false_ne_true]
  show wpAny _ _ (pure Flow.next) _ _ _
  refine wpAny_pure ?_
  show wpAny _ _ (execs (b536.drop 7) (prEnv L')) _ _ _
  refine pr_end P F23 N23 ap23 W23 (by omega) (List.mem_append_left _ (List.mem_append_left _ hx4)) (List.mem_append_left _ (List.mem_append_left _ hy4)) (List.mem_append_left _ (List.mem_append_left _ hf4)) hall (List.mem_append_left _ (List.mem_append_left _ he)) ?_
  intro h24 tk24 m24 fw24 τ5 F24 N24 W24
  subst hσ
  have W25 := Wd.mono (n' := n + 150) W24 (by omega)
  simp only [List.append_assoc] at W25
  exact ⟨h24, tk24, m24, fw24, rfl, F24, N24, rfl, _, W25⟩
end
end
section
local macro_rules | `(tactic| walk_at "getItem ref int") => `(tactic| refine stop ?_)
local macro_rules | `(tactic| walk_at "subscriptTail Name") => `(tactic| refine stop ?_)
local macro_rules | `(tactic| walk_at "subscriptTail") => `(tactic| refine stop ?_)

noncomputable abbrev ropeL (r r0 : Addr) (vs : List Value) (nn0 : Nat) (k : Int) (tk : Tok) (nn : Nat) : Led := [(r, PySem.W.listOf #[.ref r0, .int k tk] nn), (r0, PySem.W.listOf vs.toArray nn0)]
theorem item_tup_any {prog : Program} {w : World} {A : Around} {E : Value → Shared → Prop} {s : Shared} {value slice : Expr} {l : Addr} {vs : List Value} {k : Int} {u : Tok} {v : Value} {Q : Value → Shared → Prop}
    (hl : IsTup s.heap l vs.toArray) (h0 : 0 ≤ k) (hhi : k < 2 ^ 63) (h1 : k < (vs.length : Int)) (hx : vs[k.toNat]? = some v) (h : Q v s)
    (hs : subscripted slice false (.ref l) (.int k u) = operate [.ref l, .int k u] (getItem (.ref l) (.int k u)) := by with_unfolding_all rfl) :
    wpAny (model prog w) A (subscriptTail value slice (.ref l) (.int k u)) Q E s :=
  tail_any hl.typeIs slot_tuple_getitem.lookup (getItem_tuple hl (by omega) hhi (seqIndex_of h0 (by rw [List.size_toArray]; exact h1)) (by simpa using hx) h) hs
noncomputable abbrev restV : List Value := [(.int 3 864), (.int 0 865), (.int 2 866), (.int 3 867), (.int 3 868), (.int 2 869), (.int 4 870), (.int 2 871), (.int 4 872), (.int 3 873), (.int 1 874), (.int 0 875), (.int 6 876)]
theorem intsAre_get : ∀ {vs : List Value} {ns : List Int} {i : Nat} {v : Value}, IntsAre vs ns → vs[i]? = some v → ∃ z t, ns[i]? = some z ∧ v = .int z t
  | _, _, i, _, .nil, h => by simp at h
  | _, _, 0, v, .cons y t r, h => ⟨y, t, rfl, by simpa using h.symm⟩
  | _, _, i + 1, v, .cons y t r, h => by
    obtain ⟨y', t', e, e'⟩ := intsAre_get r (by simpa using h)
    exact ⟨y', t', by simpa using e, e'⟩
section
variable {prog : Program} {w : World} {r r0 : Addr} {vs : List Value} {is : List Int} {nn0 : Nat} {k : Int} {tk : Tok} {nn : Nat}
theorem yank (hr : r ≠ r0) (hv : IntsAre vs is) (hl : vs.length ≤ 100) (hk : 0 ≤ k ∧ k ≤ 1000) (t7 : Tok) :
    Spec prog w (K w.params) 650 4000 498 [.ref r, .int 7 t7] [] (ropeL r r0 vs nn0 k tk nn)
      (fun v foc' => ∃ i t tk', v = .int i t ∧ 0 ≤ i ∧ i < 7 ∧ foc' = ropeL r r0 vs nn0 (k + 1) tk' nn) := by
  refine' spec_of (binds := [("rope", .ref r), ("many", .int 7 t7)]) ?k1 ?k2 ?k3 ?k4 ?k5 ?_ ?c1 ?c2 ?c3 ?c4
  walk_at "my spec"
  intro p loose mean mg mb gd env outer A₀ A₁ base g L' h₁ s₁ hs F N lt hro B X T
  subst hs
  k_steps
  show wpAny _ _ _ _ _ _
  refine wpAny_getItem_list (N.isList (.head _)) (by decide) (by decide) (x := .int k tk) rfl ?_
  k_steps
  show wpAny _ _ _ _ _ _
  rename Fr _ _ _ _ => F2
  rename News _ _ _ _ => N2
  refine item_base (N2.isList (.head _)) (by decide) (by decide) rfl ?_
  k_steps
  show wpAny _ _ _ _ _ _
  rename Fr _ _ _ _ => F3
  rename News _ _ _ _ => N3
  refine item_base (N3.isList (.head _)) (by decide) (by decide) rfl ?_
  k_steps
  show wpAny _ _ _ _ _ _
  refine Calls.call_len_list (items := vs.toArray) (N3.isList (.tail _ (.head _))) (by simp only [List.size_toArray]; omega) ?_
  simp only [List.size_toArray]
  k_steps
  · show wpAny _ _ _ _ _ _
    rename_i hle
    refine item_base (N3.isList (.head _)) (by decide) (by decide) rfl ?_
    k_steps
    show wpAny _ _ _ _ _ _
    have hi : (k + 1 - 1).toNat < vs.length := by omega
    obtain ⟨z, tz, hz⟩ : ∃ z t, vs[(k + 1 - 1).toNat]? = some (.int z t) := by
      obtain ⟨z, t, _, hz⟩ := intsAre_get hv (List.getElem?_eq_getElem hi)
      exact ⟨z, t, by rw [List.getElem?_eq_getElem hi, hz]⟩
    refine item_base (N3.isList (.tail _ (.head _))) (by omega) (by omega) hz ?_
    k_steps
    exact ⟨_, _, _, _, rfl, F3, N3, _, _, _, rfl, Int.fmod_nonneg_of_pos _ (by decide), Int.fmod_lt_of_pos _ (by decide), rfl⟩
  · show wpAny _ _ _ _ _ _
    have hX := X.keeps F3.keep 491 _ (by k_is)
    have q0 : 0 ≤ (k + 1 - 1).fmod 13 := Int.fmod_nonneg_of_pos _ (by decide)
    have q1 : (k + 1 - 1).fmod 13 < 13 := Int.fmod_lt_of_pos _ (by decide)
    have hv9 : IntsAre restV [3, 0, 2, 3, 3, 2, 4, 2, 4, 3, 1, 0, 6] := by repeat constructor
    have hi : ((k + 1 - 1).fmod 13).toNat < 13 := by omega
    obtain ⟨z, tz, _, hz⟩ := intsAre_get hv9 (List.getElem?_eq_getElem (l := restV) (i := ((k + 1 - 1).fmod 13).toNat) hi)
    refine item_tup_any (vs := restV) ⟨_, hX, rfl, _, rfl⟩ q0 (by omega) q1 (by rw [List.getElem?_eq_getElem (l := restV) hi, hz]) ?_
    k_steps
    exact ⟨_, _, _, _, rfl, F3, N3, _, _, _, rfl, Int.fmod_nonneg_of_pos _ (by decide), Int.fmod_lt_of_pos _ (by decide), rfl⟩
end
end
section
local macro_rules | `(tactic| walk_at "subscriptTail Name") => `(tactic| refine stop ?_)
local macro_rules | `(tactic| walk_at "exec For") => `(tactic| refine stop ?_)
local macro_rules | `(tactic| walk_at "exec For Name") => `(tactic| refine stop ?_)
local macro_rules | `(tactic| walk_at "storeX") => `(tactic| refine stop ?_)

noncomputable abbrev lawEnv (L fa : Addr) (cdv : Value) : Env := envOfC "law" s541 L fa cdv
section
variable {prog : Program} {w : World} {p : Program} {loose : List Str} {mean : ExcName → Option Value} {mg mb : Str → Option Value} {base g : Heap} {L fa : Addr} {cdv : Value} {rest : Led} {m : Str → Option Value}
  {s : Shared} {Q : Value → Shared → Prop} {E : Value → Shared → Prop}
theorem mk_lim (B : Below callerA base [] g) (X : (K2 w.params).In g) (T : Top p loose mean mg mb g) (F : Fr g L s.heap m) (N : News g L s.heap rest)
    (k : ∀ x dx kl h' tk', Fr g L h' m → News g L h' ((x, instObj 485 dx) :: (dx, limD w.params kl 64 50 1000000 100000) :: rest) → (∀ q ∈ rest, q.1 < dx) → dx < x → Q (.ref x) { s with heap := h', toks := tk' }) :
    wpAny (model prog w) (callerA.deeper (lawEnv L fa cdv)) (call (.ref 485) []) Q E s := by
  k_steps
  rename News g L _ _ => kN
  rename Fr g L _ _ => kF
  exact k _ _ (toks [_, _, _, _, _, _, _, _, _, _]) _ _ kF kN (by assumption) (by assumption)
theorem mk_heap (li : Addr) (B : Below callerA base [] g) (X : (K2 w.params).In g) (T : Top p loose mean mg mb g) (F : Fr g L s.heap m) (N : News g L s.heap rest)
    (k : ∀ x dx kh zl h' tk', Fr g L h' m → News g L h' ((zl, PySem.W.listOf #[] 0) :: (x, instObj 225 dx) :: (dx, heapD w.params kh 0 li zl) :: rest) → (∀ q ∈ rest, q.1 < dx) → dx < x → x < zl → Q (.ref x) { s with heap := h', toks := tk' }) :
    wpAny (model prog w) (callerA.deeper (lawEnv L fa cdv)) (call (.ref 225) [.ref li]) Q E s := by
  k_steps
  rename News g L _ _ => kN
  rename Fr g L _ _ => kF
  rename _ < _ ∧ _ ∧ AllLt _ _ => l1
  exact k _ _ (toks [_, _, _, _]) _ _ _ kF kN (by assumption) (by assumption) l1.1
theorem mk_ctr (hi : Addr) (B : Below callerA base [] g) (X : (K2 w.params).In g) (T : Top p loose mean mg mb g) (F : Fr g L s.heap m) (N : News g L s.heap rest)
    (k : ∀ x dx kc pl em plo emo h' tk', Fr g L h' m → News g L h' ((em, emo) :: (pl, plo) :: (x, instObj 463 dx) :: (dx, cntD w.params kc hi pl em) :: rest) → (∀ q ∈ rest, q.1 < dx) → dx < x → x < pl → pl < em → plo.IsDictOf (intKind prog w) [] → emo.IsDictOf (intKind prog w) [] → (pl == sysModules) = false → (em == sysModules) = false → Q (.ref x) { s with heap := h', toks := tk' }) :
    wpAny (model prog w) (callerA.deeper (lawEnv L fa cdv)) (call (.ref 463) [.ref hi, .none]) Q E s := by
  k_steps
  rename News g L _ _ => kN
  rename Fr g L _ _ => kF
  rename _ < _ ∧ _ < _ ∧ _ < _ ∧ AllLt _ _ => l1
  rename _ < _ ∧ _ < _ ∧ AllLt _ _ => l2
  exact k _ _ (toks [_, _, _, _]) _ _ _ _ _ _ kF kN (by assumption) (by assumption) l2.1 l1.1 (by assumption) (by assumption) (by assumption) (by assumption)
end
end
section
local macro_rules | `(tactic| walk_at "exec For") => `(tactic| refine stop ?_)
local macro_rules | `(tactic| walk_at "exec For Name") => `(tactic| refine stop ?_)
local macro_rules | `(tactic| walk_at "call ref") => `(tactic| ((with_reducible first | show wpAny _ _ (call (Value.ref 485) _) _ _ _ | show wpAny _ _ (call (Value.ref 225) _) _ _ _ | show wpAny _ _ (call (Value.ref 463) _) _ _ _); refine stop ?_))
noncomputable def Hid (p : Prop) : Prop := p
noncomputable abbrev lawM0 (L fa : Addr) (cdv : Value) (l : Addr) : Str → Option Value := bindL (lawEnv L fa cdv).kindOf [("script", .ref l)] fun _ => none
noncomputable abbrev lawM1 (L fa : Addr) (cdv : Value) (l ci sh st : Addr) : Str → Option Value := fun y => if y = "sets" then some (.ref st) else if y = "counter" then some (.ref ci) else if y = "shelf" then some (.ref sh) else lawM0 L fa cdv l y
noncomputable abbrev O4 (L : Addr) (oc : Obj) (r r0 : Addr) (vs : List Value) (nn0 : Nat) (k : Int) (tk : Tok) (nn : Nat) (st : Addr) (ts : List Value) (tn : Nat) : Led :=
  [(L + 1, oc), (r, PySem.W.listOf #[.ref r0, .int k tk] nn), (r0, PySem.W.listOf vs.toArray nn0), (st, PySem.W.listOf ts.toArray tn)]
noncomputable def Inc : Nat → List Nat → Prop
  | _, [] => True
  | a, b :: r => a < b ∧ Inc b r
theorem Inc.all : ∀ {a : Nat} {l : List Nat}, Inc a l → (∀ x ∈ l, a < x) ∧ l.Pairwise (· < ·)
  | _, [], _ => ⟨fun _ h => (nomatch h), .nil⟩
  | a, b :: r, h => by
    obtain ⟨i1, i2⟩ := Inc.all h.2
    refine ⟨fun x hx => ?_, List.pairwise_cons.mpr ⟨i1, i2⟩⟩
    rcases List.mem_cons.mp hx with rfl | hx
    · exact h.1
    · exact Nat.lt_trans h.1 (i1 x hx)
theorem start_nums {L r r0 st ldx li hdx hi zl cdx ci pl em sh : Nat} (h : L + 1 < r0 ∧ r0 < r ∧ r < ldx ∧ ldx < li ∧ li < hdx ∧ hdx < hi ∧ hi < zl ∧ zl < cdx ∧ cdx < ci ∧ ci < pl ∧ pl < em ∧ em < sh ∧ sh < st) :
    [ci, cdx, hi, hdx, zl, li, ldx, pl, em, sh].Nodup ∧ (∀ a ∈ [L + 1, r, r0, st], ∀ b ∈ [ci, cdx, hi, hdx, zl, li, ldx, pl, em, sh], a ≠ b) ∧ r ≠ r0 ∧ st ≠ r ∧ st ≠ r0 ∧ L + 1 ≠ r ∧ L + 1 ≠ r0 ∧ L + 1 ≠ st := by
  obtain ⟨h1, h2, h3, h4, h5, h6, h7, h8, h9, h10, h11, h12, h13⟩ := h
  have c : Inc (L + 1) [r0, r, ldx, li, hdx, hi, zl, cdx, ci, pl, em, sh, st] := ⟨h1, h2, h3, h4, h5, h6, h7, h8, h9, h10, h11, h12, h13, trivial⟩
  have p : [L + 1, r0, r, ldx, li, hdx, hi, zl, cdx, ci, pl, em, sh, st].Pairwise (· < ·) := List.pairwise_cons.mpr c.all
  have q := List.pairwise_iff_getElem.mp p
  exact ⟨(List.nodup_cons.mpr ⟨(List.not_mem_cons_of_ne_of_not_mem (Nat.ne_of_gt (q 8 9 (Nat.le_of_ble_eq_true rfl) (Nat.le_of_ble_eq_true rfl) (Nat.le_of_ble_eq_true rfl))) (List.not_mem_cons_of_ne_of_not_mem (Nat.ne_of_gt (q 6 9 (Nat.le_of_ble_eq_true rfl) (Nat.le_of_ble_eq_true rfl) (Nat.le_of_ble_eq_true rfl))) (List.not_mem_cons_of_ne_of_not_mem (Nat.ne_of_gt (q 5 9 (Nat.le_of_ble_eq_true rfl) (Nat.le_of_ble_eq_true rfl) (Nat.le_of_ble_eq_true rfl))) (List.not_mem_cons_of_ne_of_not_mem (Nat.ne_of_gt (q 7 9 (Nat.le_of_ble_eq_true rfl) (Nat.le_of_ble_eq_true rfl) (Nat.le_of_ble_eq_true rfl))) (List.not_mem_cons_of_ne_of_not_mem (Nat.ne_of_gt (q 4 9 (Nat.le_of_ble_eq_true rfl) (Nat.le_of_ble_eq_true rfl) (Nat.le_of_ble_eq_true rfl))) (List.not_mem_cons_of_ne_of_not_mem (Nat.ne_of_gt (q 3 9 (Nat.le_of_ble_eq_true rfl) (Nat.le_of_ble_eq_true rfl) (Nat.le_of_ble_eq_true rfl))) (List.not_mem_cons_of_ne_of_not_mem (Nat.ne_of_lt (q 9 10 (Nat.le_of_ble_eq_true rfl) (Nat.le_of_ble_eq_true rfl) (Nat.le_of_ble_eq_true rfl))) (List.not_mem_cons_of_ne_of_not_mem (Nat.ne_of_lt (q 9 11 (Nat.le_of_ble_eq_true rfl) (Nat.le_of_ble_eq_true rfl) (Nat.le_of_ble_eq_true rfl))) (List.not_mem_cons_of_ne_of_not_mem (Nat.ne_of_lt (q 9 12 (Nat.le_of_ble_eq_true rfl) (Nat.le_of_ble_eq_true rfl) (Nat.le_of_ble_eq_true rfl))) List.not_mem_nil))))))))), (List.nodup_cons.mpr ⟨(List.not_mem_cons_of_ne_of_not_mem (Nat.ne_of_gt (q 6 8 (Nat.le_of_ble_eq_true rfl) (Nat.le_of_ble_eq_true rfl) (Nat.le_of_ble_eq_true rfl))) (List.not_mem_cons_of_ne_of_not_mem (Nat.ne_of_gt (q 5 8 (Nat.le_of_ble_eq_true rfl) (Nat.le_of_ble_eq_true rfl) (Nat.le_of_ble_eq_true rfl))) (List.not_mem_cons_of_ne_of_not_mem (Nat.ne_of_gt (q 7 8 (Nat.le_of_ble_eq_true rfl) (Nat.le_of_ble_eq_true rfl) (Nat.le_of_ble_eq_true rfl))) (List.not_mem_cons_of_ne_of_not_mem (Nat.ne_of_gt (q 4 8 (Nat.le_of_ble_eq_true rfl) (Nat.le_of_ble_eq_true rfl) (Nat.le_of_ble_eq_true rfl))) (List.not_mem_cons_of_ne_of_not_mem (Nat.ne_of_gt (q 3 8 (Nat.le_of_ble_eq_true rfl) (Nat.le_of_ble_eq_true rfl) (Nat.le_of_ble_eq_true rfl))) (List.not_mem_cons_of_ne_of_not_mem (Nat.ne_of_lt (q 8 10 (Nat.le_of_ble_eq_true rfl) (Nat.le_of_ble_eq_true rfl) (Nat.le_of_ble_eq_true rfl))) (List.not_mem_cons_of_ne_of_not_mem (Nat.ne_of_lt (q 8 11 (Nat.le_of_ble_eq_true rfl) (Nat.le_of_ble_eq_true rfl) (Nat.le_of_ble_eq_true rfl))) (List.not_mem_cons_of_ne_of_not_mem (Nat.ne_of_lt (q 8 12 (Nat.le_of_ble_eq_true rfl) (Nat.le_of_ble_eq_true rfl) (Nat.le_of_ble_eq_true rfl))) List.not_mem_nil)))))))), (List.nodup_cons.mpr ⟨(List.not_mem_cons_of_ne_of_not_mem (Nat.ne_of_gt (q 5 6 (Nat.le_of_ble_eq_true rfl) (Nat.le_of_ble_eq_true rfl) (Nat.le_of_ble_eq_true rfl))) (List.not_mem_cons_of_ne_of_not_mem (Nat.ne_of_lt (q 6 7 (Nat.le_of_ble_eq_true rfl) (Nat.le_of_ble_eq_true rfl) (Nat.le_of_ble_eq_true rfl))) (List.not_mem_cons_of_ne_of_not_mem (Nat.ne_of_gt (q 4 6 (Nat.le_of_ble_eq_true rfl) (Nat.le_of_ble_eq_true rfl) (Nat.le_of_ble_eq_true rfl))) (List.not_mem_cons_of_ne_of_not_mem (Nat.ne_of_gt (q 3 6 (Nat.le_of_ble_eq_true rfl) (Nat.le_of_ble_eq_true rfl) (Nat.le_of_ble_eq_true rfl))) (List.not_mem_cons_of_ne_of_not_mem (Nat.ne_of_lt (q 6 10 (Nat.le_of_ble_eq_true rfl) (Nat.le_of_ble_eq_true rfl) (Nat.le_of_ble_eq_true rfl))) (List.not_mem_cons_of_ne_of_not_mem (Nat.ne_of_lt (q 6 11 (Nat.le_of_ble_eq_true rfl) (Nat.le_of_ble_eq_true rfl) (Nat.le_of_ble_eq_true rfl))) (List.not_mem_cons_of_ne_of_not_mem (Nat.ne_of_lt (q 6 12 (Nat.le_of_ble_eq_true rfl) (Nat.le_of_ble_eq_true rfl) (Nat.le_of_ble_eq_true rfl))) List.not_mem_nil))))))), (List.nodup_cons.mpr ⟨(List.not_mem_cons_of_ne_of_not_mem (Nat.ne_of_lt (q 5 7 (Nat.le_of_ble_eq_true rfl) (Nat.le_of_ble_eq_true rfl) (Nat.le_of_ble_eq_true rfl))) (List.not_mem_cons_of_ne_of_not_mem (Nat.ne_of_gt (q 4 5 (Nat.le_of_ble_eq_true rfl) (Nat.le_of_ble_eq_true rfl) (Nat.le_of_ble_eq_true rfl))) (List.not_mem_cons_of_ne_of_not_mem (Nat.ne_of_gt (q 3 5 (Nat.le_of_ble_eq_true rfl) (Nat.le_of_ble_eq_true rfl) (Nat.le_of_ble_eq_true rfl))) (List.not_mem_cons_of_ne_of_not_mem (Nat.ne_of_lt (q 5 10 (Nat.le_of_ble_eq_true rfl) (Nat.le_of_ble_eq_true rfl) (Nat.le_of_ble_eq_true rfl))) (List.not_mem_cons_of_ne_of_not_mem (Nat.ne_of_lt (q 5 11 (Nat.le_of_ble_eq_true rfl) (Nat.le_of_ble_eq_true rfl) (Nat.le_of_ble_eq_true rfl))) (List.not_mem_cons_of_ne_of_not_mem (Nat.ne_of_lt (q 5 12 (Nat.le_of_ble_eq_true rfl) (Nat.le_of_ble_eq_true rfl) (Nat.le_of_ble_eq_true rfl))) List.not_mem_nil)))))), (List.nodup_cons.mpr ⟨(List.not_mem_cons_of_ne_of_not_mem (Nat.ne_of_gt (q 4 7 (Nat.le_of_ble_eq_true rfl) (Nat.le_of_ble_eq_true rfl) (Nat.le_of_ble_eq_true rfl))) (List.not_mem_cons_of_ne_of_not_mem (Nat.ne_of_gt (q 3 7 (Nat.le_of_ble_eq_true rfl) (Nat.le_of_ble_eq_true rfl) (Nat.le_of_ble_eq_true rfl))) (List.not_mem_cons_of_ne_of_not_mem (Nat.ne_of_lt (q 7 10 (Nat.le_of_ble_eq_true rfl) (Nat.le_of_ble_eq_true rfl) (Nat.le_of_ble_eq_true rfl))) (List.not_mem_cons_of_ne_of_not_mem (Nat.ne_of_lt (q 7 11 (Nat.le_of_ble_eq_true rfl) (Nat.le_of_ble_eq_true rfl) (Nat.le_of_ble_eq_true rfl))) (List.not_mem_cons_of_ne_of_not_mem (Nat.ne_of_lt (q 7 12 (Nat.le_of_ble_eq_true rfl) (Nat.le_of_ble_eq_true rfl) (Nat.le_of_ble_eq_true rfl))) List.not_mem_nil))))), (List.nodup_cons.mpr ⟨(List.not_mem_cons_of_ne_of_not_mem (Nat.ne_of_gt (q 3 4 (Nat.le_of_ble_eq_true rfl) (Nat.le_of_ble_eq_true rfl) (Nat.le_of_ble_eq_true rfl))) (List.not_mem_cons_of_ne_of_not_mem (Nat.ne_of_lt (q 4 10 (Nat.le_of_ble_eq_true rfl) (Nat.le_of_ble_eq_true rfl) (Nat.le_of_ble_eq_true rfl))) (List.not_mem_cons_of_ne_of_not_mem (Nat.ne_of_lt (q 4 11 (Nat.le_of_ble_eq_true rfl) (Nat.le_of_ble_eq_true rfl) (Nat.le_of_ble_eq_true rfl))) (List.not_mem_cons_of_ne_of_not_mem (Nat.ne_of_lt (q 4 12 (Nat.le_of_ble_eq_true rfl) (Nat.le_of_ble_eq_true rfl) (Nat.le_of_ble_eq_true rfl))) List.not_mem_nil)))), (List.nodup_cons.mpr ⟨(List.not_mem_cons_of_ne_of_not_mem (Nat.ne_of_lt (q 3 10 (Nat.le_of_ble_eq_true rfl) (Nat.le_of_ble_eq_true rfl) (Nat.le_of_ble_eq_true rfl))) (List.not_mem_cons_of_ne_of_not_mem (Nat.ne_of_lt (q 3 11 (Nat.le_of_ble_eq_true rfl) (Nat.le_of_ble_eq_true rfl) (Nat.le_of_ble_eq_true rfl))) (List.not_mem_cons_of_ne_of_not_mem (Nat.ne_of_lt (q 3 12 (Nat.le_of_ble_eq_true rfl) (Nat.le_of_ble_eq_true rfl) (Nat.le_of_ble_eq_true rfl))) List.not_mem_nil))), (List.nodup_cons.mpr ⟨(List.not_mem_cons_of_ne_of_not_mem (Nat.ne_of_lt (q 10 11 (Nat.le_of_ble_eq_true rfl) (Nat.le_of_ble_eq_true rfl) (Nat.le_of_ble_eq_true rfl))) (List.not_mem_cons_of_ne_of_not_mem (Nat.ne_of_lt (q 10 12 (Nat.le_of_ble_eq_true rfl) (Nat.le_of_ble_eq_true rfl) (Nat.le_of_ble_eq_true rfl))) List.not_mem_nil)), (List.nodup_cons.mpr ⟨(List.not_mem_cons_of_ne_of_not_mem (Nat.ne_of_lt (q 11 12 (Nat.le_of_ble_eq_true rfl) (Nat.le_of_ble_eq_true rfl) (Nat.le_of_ble_eq_true rfl))) List.not_mem_nil), (List.nodup_cons.mpr ⟨List.not_mem_nil, List.nodup_nil⟩)⟩)⟩)⟩)⟩)⟩)⟩)⟩)⟩)⟩),
    (List.forall_mem_cons.mpr ⟨(List.forall_mem_cons.mpr ⟨(Nat.ne_of_lt (q 0 9 (Nat.le_of_ble_eq_true rfl) (Nat.le_of_ble_eq_true rfl) (Nat.le_of_ble_eq_true rfl))), (List.forall_mem_cons.mpr ⟨(Nat.ne_of_lt (q 0 8 (Nat.le_of_ble_eq_true rfl) (Nat.le_of_ble_eq_true rfl) (Nat.le_of_ble_eq_true rfl))), (List.forall_mem_cons.mpr ⟨(Nat.ne_of_lt (q 0 6 (Nat.le_of_ble_eq_true rfl) (Nat.le_of_ble_eq_true rfl) (Nat.le_of_ble_eq_true rfl))), (List.forall_mem_cons.mpr ⟨(Nat.ne_of_lt (q 0 5 (Nat.le_of_ble_eq_true rfl) (Nat.le_of_ble_eq_true rfl) (Nat.le_of_ble_eq_true rfl))), (List.forall_mem_cons.mpr ⟨(Nat.ne_of_lt (q 0 7 (Nat.le_of_ble_eq_true rfl) (Nat.le_of_ble_eq_true rfl) (Nat.le_of_ble_eq_true rfl))), (List.forall_mem_cons.mpr ⟨(Nat.ne_of_lt (q 0 4 (Nat.le_of_ble_eq_true rfl) (Nat.le_of_ble_eq_true rfl) (Nat.le_of_ble_eq_true rfl))), (List.forall_mem_cons.mpr ⟨(Nat.ne_of_lt (q 0 3 (Nat.le_of_ble_eq_true rfl) (Nat.le_of_ble_eq_true rfl) (Nat.le_of_ble_eq_true rfl))), (List.forall_mem_cons.mpr ⟨(Nat.ne_of_lt (q 0 10 (Nat.le_of_ble_eq_true rfl) (Nat.le_of_ble_eq_true rfl) (Nat.le_of_ble_eq_true rfl))), (List.forall_mem_cons.mpr ⟨(Nat.ne_of_lt (q 0 11 (Nat.le_of_ble_eq_true rfl) (Nat.le_of_ble_eq_true rfl) (Nat.le_of_ble_eq_true rfl))), (List.forall_mem_cons.mpr ⟨(Nat.ne_of_lt (q 0 12 (Nat.le_of_ble_eq_true rfl) (Nat.le_of_ble_eq_true rfl) (Nat.le_of_ble_eq_true rfl))), (fun _ h => nomatch h)⟩)⟩)⟩)⟩)⟩)⟩)⟩)⟩)⟩)⟩), (List.forall_mem_cons.mpr ⟨(List.forall_mem_cons.mpr ⟨(Nat.ne_of_lt (q 2 9 (Nat.le_of_ble_eq_true rfl) (Nat.le_of_ble_eq_true rfl) (Nat.le_of_ble_eq_true rfl))), (List.forall_mem_cons.mpr ⟨(Nat.ne_of_lt (q 2 8 (Nat.le_of_ble_eq_true rfl) (Nat.le_of_ble_eq_true rfl) (Nat.le_of_ble_eq_true rfl))), (List.forall_mem_cons.mpr ⟨(Nat.ne_of_lt (q 2 6 (Nat.le_of_ble_eq_true rfl) (Nat.le_of_ble_eq_true rfl) (Nat.le_of_ble_eq_true rfl))), (List.forall_mem_cons.mpr ⟨(Nat.ne_of_lt (q 2 5 (Nat.le_of_ble_eq_true rfl) (Nat.le_of_ble_eq_true rfl) (Nat.le_of_ble_eq_true rfl))), (List.forall_mem_cons.mpr ⟨(Nat.ne_of_lt (q 2 7 (Nat.le_of_ble_eq_true rfl) (Nat.le_of_ble_eq_true rfl) (Nat.le_of_ble_eq_true rfl))), (List.forall_mem_cons.mpr ⟨(Nat.ne_of_lt (q 2 4 (Nat.le_of_ble_eq_true rfl) (Nat.le_of_ble_eq_true rfl) (Nat.le_of_ble_eq_true rfl))), (List.forall_mem_cons.mpr ⟨(Nat.ne_of_lt (q 2 3 (Nat.le_of_ble_eq_true rfl) (Nat.le_of_ble_eq_true rfl) (Nat.le_of_ble_eq_true rfl))), (List.forall_mem_cons.mpr ⟨(Nat.ne_of_lt (q 2 10 (Nat.le_of_ble_eq_true rfl) (Nat.le_of_ble_eq_true rfl) (Nat.le_of_ble_eq_true rfl))), (List.forall_mem_cons.mpr ⟨(Nat.ne_of_lt (q 2 11 (Nat.le_of_ble_eq_true rfl) (Nat.le_of_ble_eq_true rfl) (Nat.le_of_ble_eq_true rfl))), (List.forall_mem_cons.mpr ⟨(Nat.ne_of_lt (q 2 12 (Nat.le_of_ble_eq_true rfl) (Nat.le_of_ble_eq_true rfl) (Nat.le_of_ble_eq_true rfl))), (fun _ h => nomatch h)⟩)⟩)⟩)⟩)⟩)⟩)⟩)⟩)⟩)⟩), (List.forall_mem_cons.mpr ⟨(List.forall_mem_cons.mpr ⟨(Nat.ne_of_lt (q 1 9 (Nat.le_of_ble_eq_true rfl) (Nat.le_of_ble_eq_true rfl) (Nat.le_of_ble_eq_true rfl))), (List.forall_mem_cons.mpr ⟨(Nat.ne_of_lt (q 1 8 (Nat.le_of_ble_eq_true rfl) (Nat.le_of_ble_eq_true rfl) (Nat.le_of_ble_eq_true rfl))), (List.forall_mem_cons.mpr ⟨(Nat.ne_of_lt (q 1 6 (Nat.le_of_ble_eq_true rfl) (Nat.le_of_ble_eq_true rfl) (Nat.le_of_ble_eq_true rfl))), (List.forall_mem_cons.mpr ⟨(Nat.ne_of_lt (q 1 5 (Nat.le_of_ble_eq_true rfl) (Nat.le_of_ble_eq_true rfl) (Nat.le_of_ble_eq_true rfl))), (List.forall_mem_cons.mpr ⟨(Nat.ne_of_lt (q 1 7 (Nat.le_of_ble_eq_true rfl) (Nat.le_of_ble_eq_true rfl) (Nat.le_of_ble_eq_true rfl))), (List.forall_mem_cons.mpr ⟨(Nat.ne_of_lt (q 1 4 (Nat.le_of_ble_eq_true rfl) (Nat.le_of_ble_eq_true rfl) (Nat.le_of_ble_eq_true rfl))), (List.forall_mem_cons.mpr ⟨(Nat.ne_of_lt (q 1 3 (Nat.le_of_ble_eq_true rfl) (Nat.le_of_ble_eq_true rfl) (Nat.le_of_ble_eq_true rfl))), (List.forall_mem_cons.mpr ⟨(Nat.ne_of_lt (q 1 10 (Nat.le_of_ble_eq_true rfl) (Nat.le_of_ble_eq_true rfl) (Nat.le_of_ble_eq_true rfl))), (List.forall_mem_cons.mpr ⟨(Nat.ne_of_lt (q 1 11 (Nat.le_of_ble_eq_true rfl) (Nat.le_of_ble_eq_true rfl) (Nat.le_of_ble_eq_true rfl))), (List.forall_mem_cons.mpr ⟨(Nat.ne_of_lt (q 1 12 (Nat.le_of_ble_eq_true rfl) (Nat.le_of_ble_eq_true rfl) (Nat.le_of_ble_eq_true rfl))), (fun _ h => nomatch h)⟩)⟩)⟩)⟩)⟩)⟩)⟩)⟩)⟩)⟩), (List.forall_mem_cons.mpr ⟨(List.forall_mem_cons.mpr ⟨(Nat.ne_of_gt (q 9 13 (Nat.le_of_ble_eq_true rfl) (Nat.le_of_ble_eq_true rfl) (Nat.le_of_ble_eq_true rfl))), (List.forall_mem_cons.mpr ⟨(Nat.ne_of_gt (q 8 13 (Nat.le_of_ble_eq_true rfl) (Nat.le_of_ble_eq_true rfl) (Nat.le_of_ble_eq_true rfl))), (List.forall_mem_cons.mpr ⟨(Nat.ne_of_gt (q 6 13 (Nat.le_of_ble_eq_true rfl) (Nat.le_of_ble_eq_true rfl) (Nat.le_of_ble_eq_true rfl))), (List.forall_mem_cons.mpr ⟨(Nat.ne_of_gt (q 5 13 (Nat.le_of_ble_eq_true rfl) (Nat.le_of_ble_eq_true rfl) (Nat.le_of_ble_eq_true rfl))), (List.forall_mem_cons.mpr ⟨(Nat.ne_of_gt (q 7 13 (Nat.le_of_ble_eq_true rfl) (Nat.le_of_ble_eq_true rfl) (Nat.le_of_ble_eq_true rfl))), (List.forall_mem_cons.mpr ⟨(Nat.ne_of_gt (q 4 13 (Nat.le_of_ble_eq_true rfl) (Nat.le_of_ble_eq_true rfl) (Nat.le_of_ble_eq_true rfl))), (List.forall_mem_cons.mpr ⟨(Nat.ne_of_gt (q 3 13 (Nat.le_of_ble_eq_true rfl) (Nat.le_of_ble_eq_true rfl) (Nat.le_of_ble_eq_true rfl))), (List.forall_mem_cons.mpr ⟨(Nat.ne_of_gt (q 10 13 (Nat.le_of_ble_eq_true rfl) (Nat.le_of_ble_eq_true rfl) (Nat.le_of_ble_eq_true rfl))), (List.forall_mem_cons.mpr ⟨(Nat.ne_of_gt (q 11 13 (Nat.le_of_ble_eq_true rfl) (Nat.le_of_ble_eq_true rfl) (Nat.le_of_ble_eq_true rfl))), (List.forall_mem_cons.mpr ⟨(Nat.ne_of_gt (q 12 13 (Nat.le_of_ble_eq_true rfl) (Nat.le_of_ble_eq_true rfl) (Nat.le_of_ble_eq_true rfl))), (fun _ h => nomatch h)⟩)⟩)⟩)⟩)⟩)⟩)⟩)⟩)⟩)⟩), (fun _ h => nomatch h)⟩)⟩)⟩)⟩), (Nat.ne_of_gt (q 1 2 (Nat.le_of_ble_eq_true rfl) (Nat.le_of_ble_eq_true rfl) (Nat.le_of_ble_eq_true rfl))), (Nat.ne_of_gt (q 2 13 (Nat.le_of_ble_eq_true rfl) (Nat.le_of_ble_eq_true rfl) (Nat.le_of_ble_eq_true rfl))), (Nat.ne_of_gt (q 1 13 (Nat.le_of_ble_eq_true rfl) (Nat.le_of_ble_eq_true rfl) (Nat.le_of_ble_eq_true rfl))), (Nat.ne_of_lt (q 0 2 (Nat.le_of_ble_eq_true rfl) (Nat.le_of_ble_eq_true rfl) (Nat.le_of_ble_eq_true rfl))), (Nat.ne_of_lt (q 0 1 (Nat.le_of_ble_eq_true rfl) (Nat.le_of_ble_eq_true rfl) (Nat.le_of_ble_eq_true rfl))), (Nat.ne_of_lt (q 0 13 (Nat.le_of_ble_eq_true rfl) (Nat.le_of_ble_eq_true rfl) (Nat.le_of_ble_eq_true rfl)))⟩
theorem apart_of_adr {own foc : Led} (h : ∀ a ∈ adr own, ∀ b ∈ adr foc, a ≠ b) : Apart own foc := fun p hp q hq => h _ (mem_adr hp) _ (mem_adr hq)
section
variable {prog : Program} {w : World} {p : Program} {loose : List Str} {mean : ExcName → Option Value} {mg mb : Str → Option Value} {base g : Heap} {L fa : Addr} {cdv : Value} {oc : Obj} {l : Addr} {vs : List Value} {is : List Int}
  {s : Shared} {Q : Flow → Shared → Prop} {E : Value → Shared → Prop}
theorem law_a (B : Below callerA base [] g) (X : (K w.params).In g) (X2 : Hid ((K2 w.params).In g)) (T : Top p loose mean mg mb g) (F : Fr g L s.heap (lawM0 L fa cdv l)) (N : News g L s.heap [(L + 1, oc)]) (dc : oc.data = .cell none)
    (hl : g.IsList l vs.toArray) (hI : IntsAre vs is) (hn : is.length ≤ 63)
    (k : ∀ c sh oc' r r0 ws js t st h' tk' foc, Fr g L h' (lawM1 L fa cdv l c.ci sh st) → News g L h' (O4 L oc' r r0 ws 0 0 t 0 st [] 0 ++ foc) → Apart (O4 L oc' r r0 ws 0 0 t 0 st [] 0) foc → Wd prog w c sh 0 [] foc →
      oc'.data = .cell (some (.ref r)) → r ≠ r0 → st ≠ r → st ≠ r0 → L + 1 ≠ r → L + 1 ≠ r0 → L + 1 ≠ st → IntsAre ws js → js.length ≤ 63 →
      wpAny (model prog w) (callerA.deeper (lawEnv L fa cdv)) (exec (nth b541 3) (lawEnv L fa cdv)) (fun f s' => match f with | .next => wpAny (model prog w) (callerA.deeper (lawEnv L fa cdv)) (execs (b541.drop 4) (lawEnv L fa cdv)) Q E s' | f => Q f s') E { s with heap := h', toks := tk' }) :
    wpAny (model prog w) (callerA.deeper (lawEnv L fa cdv)) (execs b541 (lawEnv L fa cdv)) Q E s := by
  k_steps
  show wpAny _ _ _ _ _ _
  rename Fr _ _ _ _ => F1
  rename News _ _ _ _ => N1
  refine mk_lim B X2 T F1 N1 ?_
  intro li ldx kl h2 tk2 F2 N2 a1 a2
  clear F1 N1
  k_steps
  show wpAny _ _ _ _ _ _
  refine mk_heap li B X2 T F2 N2 ?_
  intro hi hdx kh zl h3 tk3 F3 N3 a3 a4 a5
  clear F2 N2
  k_steps
  show wpAny _ _ _ _ _ _
  refine mk_ctr hi B X2 T F3 N3 ?_
  intro ci cdx kc pl em plo emo h4 tk4 F4 N4 a6 a7 a8 a9 d1 d2 lo1 lo2
  clear F3 N3
  k_steps
  show wpAny _ _ _ _ _ _
  rename_i r0 ws x1 hIw x2 hLw b1 r x3 b2 x4 oc' dc' x5 sh x6 b3 D x7 b4 x8 x9 x10 st x11 b5 h9 F9 N9
  simp only [List.forall_mem_cons] at a1 a3 a6
  have nums := start_nums (L := L) (r := r) (r0 := r0) (st := st) (ldx := ldx) (li := li) (hdx := hdx) (hi := hi) (zl := zl) (cdx := cdx) (ci := ci) (pl := pl) (em := em) (sh := sh)
    ⟨b1, b2.1, a1.1, a2, a3.1, a4, a5, a6.1, a7, a8, a9, b3.1, b5.2.1⟩
  obtain ⟨n1, n2, n3, n4, n5, n6, n7, n8⟩ := nums
  refine k ⟨ci, cdx, hi, hdx, li, ldx, pl, em, zl, kc, kh, kl⟩ sh oc' r r0 ws (is.take 30) (s.toks + 1) st h9 _ (coreL w.params ⟨ci, cdx, hi, hdx, li, ldx, pl, em, zl, kc, kh, kl⟩ kh 0 64 50 1000000 100000 #[] 0 plo emo ++ (shL sh [] 0 ++ hsL w.params [])) F9 (subNews N9 ?_) (apart_of_adr n2) ?_ dc' n3 n4 n5 n6 n7 n8 hIw (Nat.le_trans hLw hn)
  · show ∀ q ∈ [_, _, _, _, _, _, _, _, _, _, _, _, _, _], _
    walk_at "my sub"
  · exact ⟨kh, 0, 64, 50, 1000000, 100000, #[], 0, plo, emo, 0, [], rfl, Nat.zero_le _, Int.le_refl _, Int.le_refl _, Nat.le_refl _, d1, d2, lo1, lo2, n1, (fun _ h => nomatch h), rfl⟩
end
end
section
local macro_rules | `(tactic| walk_at "exec For") => `(tactic| refine stop ?_)
local macro_rules | `(tactic| walk_at "exec For Name") => `(tactic| refine stop ?_)
local macro_rules | `(tactic| walk_at "call ref") => `(tactic| ((with_reducible show wpAny _ _ (call (Value.ref 498) _) _ _ _); refine stop ?_))
local macro_rules | `(tactic| walk_at "subscriptTail Name") => `(tactic| refine stop ?_)
local macro_rules | `(tactic| walk_at "subscriptTail") => `(tactic| refine stop ?_)
local macro_rules | `(tactic| walk_at "call builtin:list.append") => `(tactic| refine stop ?_)
theorem rope_ap {a b i r r0 : Addr} {oa ob oi : Obj} {foc : Led} {ws : List Value} {k : Int} {t : Tok} (h1 : ∀ q ∈ foc, q.1 ≠ r) (h2 : ∀ q ∈ foc, q.1 ≠ r0) (n1 : a ≠ r) (n2 : a ≠ r0) (n3 : b ≠ r) (n4 : b ≠ r0) (n5 : i ≠ r) (n6 : i ≠ r0) :
    Apart ([(a, oa), (b, ob), (i, oi)] ++ foc) (ropeL r r0 ws 0 k t 0) := by
  intro q hq z hz
  have hz' : z.1 = r ∨ z.1 = r0 := by
    simp only [List.mem_cons, List.not_mem_nil, or_false] at hz
    rcases hz with rfl | rfl
    · exact .inl rfl
    · exact .inr rfl
  rcases List.mem_append.mp hq with hq | hq
  · simp only [List.mem_cons, List.not_mem_nil, or_false] at hq
    rcases hz' with e | e <;> rw [e] <;> rcases hq with rfl | rfl | rfl <;> assumption
  · rcases hz' with e | e <;> rw [e]
    · exact h1 q hq
    · exact h2 q hq
noncomputable def forBody : Stmt → List Stmt
  | .For _ _ b _ _ => b
  | _ => []
noncomputable abbrev wordsV : List Value := [(.str "" 856), (.str "0" 857), (.str "a" 858), (.str "b" 859), (.str "ab" 860), (.str "ba" 861), (.str "00" 862)]
theorem wordsV_are : StrsAre wordsV words7 := by repeat constructor
section
variable {prog : Program} {w : World} {p : Program} {loose : List Str} {mean : ExcName → Option Value} {mg mb : Str → Option Value} {base g : Heap} {L fa : Addr} {cdv : Value} {oc : Obj} {l : Addr} {ws : List Value} {js : List Int}
  {c : Cn} {sh r r0 st I : Addr} {io : Obj} {k : Int} {t : Tok} {tn n : Nat} {ts : List Value} {tv : Option Value} {σ : List (Addr × List Str)} {foc : Led}
  {s : Shared} {Q : Flow → Shared → Prop} {E : Value → Shared → Prop}
theorem law_turn (B : Below callerA base [] g) (X : (K w.params).In g) (T : Top p loose mean mg mb g) (dc : oc.data = .cell (some (.ref r)))
    (n3 : r ≠ r0) (n4 : st ≠ r) (n5 : st ≠ r0) (n6 : L + 1 ≠ r) (n7 : L + 1 ≠ r0) (n8 : L + 1 ≠ st) (m1 : L + 1 ≠ I) (m2 : r ≠ I) (m3 : r0 ≠ I) (m4 : st ≠ I) (hI : IntsAre ws js) (hn : js.length ≤ 63) (hk : 0 ≤ k ∧ k ≤ 100)
    (F : Fr g L s.heap (fun y => if y = "turn" then tv else lawM1 L fa cdv l c.ci sh st y)) (N : News g L s.heap ((O4 L oc r r0 ws 0 k t 0 st ts tn ++ [(I, io)]) ++ foc)) (ap : Apart (O4 L oc r r0 ws 0 k t 0 st ts tn ++ [(I, io)]) foc)
    (W : Wd prog w c sh n σ foc) (hn1 : n ≤ 500) (hts : ts.length ≤ 10)
    (cont : ∀ z kk k' t' tn' h' tk' foc', k ≤ k' → k' ≤ k + 8 → Fr g L h' (fun y => if y = "turn" then tv else lawM1 L fa cdv l c.ci sh st y) → News g L h' ((O4 L oc r r0 ws 0 k' t' 0 st (ts ++ [.ref z]) tn' ++ [(I, io)]) ++ foc') →
      Apart (O4 L oc r r0 ws 0 k' t' 0 st (ts ++ [.ref z]) tn' ++ [(I, io)]) foc' → Wd prog w c sh (n + 1) (σ ++ [(z, kk)]) foc' → Q .next { s with heap := h', toks := tk' }) :
    wpAny (model prog w) (callerA.deeper (lawEnv L fa cdv)) (execs (forBody (nth b541 3)) (lawEnv L fa cdv)) Q E s := by
  show wpAny _ _ (execs (_ :: _) _) _ _ _
  k_steps
  show wpAny _ _ _ _ _ _
  refine LCg.ListComp_U (h₀ := g) F (by with_unfolding_all rfl) (by decide) (by rfl) (by decide) (by rfl) ?_
  k_steps
  show wpAny _ _ _ _ _ _
  have f1 : ∀ q ∈ foc, q.1 ≠ r := fun q hq e => ap (r, PySem.W.listOf #[.ref r0, .int k t] 0) (by k_mem) q hq e.symm
  have f2 : ∀ q ∈ foc, q.1 ≠ r0 := fun q hq e => ap (r0, PySem.W.listOf ws.toArray 0) (by k_mem) q hq e.symm
  refine Spec.use (yank (k := k) (tk := t) (nn0 := 0) (nn := 0) n3 hI (by have := hI.length; omega) (by omega) _) ([(L + 1, oc), (st, PySem.W.listOf ts.toArray tn), (I, io)] ++ foc) rfl rfl (Nat.le_of_ble_eq_true rfl) (Nat.le_of_ble_eq_true rfl) ⟨B, X, T, rfl, rfl⟩ F N
    (List.forall_mem_append.mpr ⟨by walk_at "my sub", fun q hq => List.mem_append_right _ hq⟩) (by walk_at "my sub") (rope_ap f1 f2 n6 n7 n4 n5 m2.symm m3.symm) (fun _ h => nomatch h) ?_
  rintro v foc1 h1 tk1 F1 N1 ap1 ⟨i, t1, t2, rfl, hi0, hi7, rfl⟩
  try dsimp only
  clear N
  k_steps
  show LCg.CompSrc _ _ _ _ _ _ _ _ _ _ _ _ _ _
  rename_i h2 tk2 ta tb tc hR F2 N2 hk2
  refine LCg.CompSrc.range rfl F2 N2 hR (small_one (by decide) (by decide) (by omega) (by omega)) (rangeSize_nat _ _) (by rw [sizeLine_eq]; omega) ?_
  intro hp
  refine compRest_of (i - 0).toNat (fun j ys nw => ∃ t' k' ss, k + 1 ≤ k' ∧ k' ≤ k + 1 + j ∧ nw = ([(L + 1, oc), (st, PySem.W.listOf ts.toArray tn), (I, io)] ++ foc) ++ ropeL r r0 ws 0 k' t' 0 ∧ StrsAre ys ss ∧ ss.length = j ∧ ∀ y ∈ ss, y ∈ words7) ?_ ?_ _ 0 [] _ (Nat.zero_add _)
    ⟨t2, k + 1, [], Int.le_refl _, by omega, rfl, .nil, rfl, fun _ h => nomatch h⟩
  · rintro j ys nw v I2 oI C oC D m₂ h tk E' hj ⟨t', k', ss, hk1, hk2, rfl, hS, hlen, hw7⟩ hP hC hxx F4 N4 off ne
    have off3 := off.mem
    obtain ⟨ne1, ne2, ne3⟩ := ne
    clear N2
    have ap5 : Apart ((I2, oI) :: (C, oC) :: (D, LCg.lst ys) :: ([(L + 1, oc), (st, PySem.W.listOf ts.toArray tn), (I, io)] ++ foc)) (ropeL r r0 ws 0 k' t' 0) :=
      apart_cons (fun z hz => (off3 z (List.mem_append_right _ hz)).1) (apart_cons (fun z hz => (off3 z (List.mem_append_right _ hz)).2.1) (apart_cons (fun z hz => (off3 z (List.mem_append_right _ hz)).2.2) (rope_ap f1 f2 n6 n7 n4 n5 m2.symm m3.symm)))
    have N5 : News g L h (((I2, oI) :: (C, oC) :: (D, LCg.lst ys) :: ([(L + 1, oc), (st, PySem.W.listOf ts.toArray tn), (I, io)] ++ foc)) ++ ropeL r r0 ws 0 k' t' 0) := N4
    clear N4
    k_steps
    show wpAny _ _ _ _ _ _
    rename Fr _ _ _ _ => F6
    refine Spec.use (yank (k := k') (tk := t') (nn0 := 0) (nn := 0) n3 hI (by have := hI.length; omega) (by omega) _) ((I2, oI) :: (C, oC) :: (D, LCg.lst ys) :: ([(L + 1, oc), (st, PySem.W.listOf ts.toArray tn), (I, io)] ++ foc)) rfl rfl (Nat.le_of_ble_eq_true rfl) (Nat.le_of_ble_eq_true rfl) ⟨B, X, T, rfl, rfl⟩ F6 N5
      (fun _ h => List.mem_append_left _ h) (fun _ h => List.mem_append_right _ h) ap5 (fun _ h => nomatch h) ?_
    rintro v foc7 h7 tk7 F7 N7 ap7 ⟨i2, t3, t4, rfl, hj0, hj7, rfl⟩
    try dsimp only
    clear N5
    k_steps
    show wpAny _ _ _ _ _ _
    have hi : i2.toNat < 7 := by omega
    obtain ⟨y, ty, hy, he⟩ := strsAre_get wordsV_are (List.getElem?_eq_getElem (l := wordsV) (i := i2.toNat) hi)
    refine item_tup_any (vs := wordsV) ⟨_, X.keeps F7.keep 490 _ (by k_is), rfl, _, rfl⟩ hj0 (by omega) hj7 (by rw [List.getElem?_eq_getElem (l := wordsV) hi, he]) ?_
    k_steps
    show LCg.CompEnd _ _ _ _ _ _ _ _ _ _ _ _ _ _
    refine LCg.CompEnd.intro F7 N7 (([(L + 1, oc), (st, PySem.W.listOf ts.toArray tn), (I, io)] ++ foc) ++ ropeL r r0 ws 0 (k' + 1) t4 0) (fun q hq => hq) ?_ trivial
      ⟨t4, k' + 1, ss ++ [y], by omega, by omega, rfl, strs_app hS (.cons y ty .nil), by simp [hlen], ?_⟩
    · refine LCg.Off3.of fun q hq => ?_
      rcases List.mem_append.mp hq with hq | hq
      · exact off3 q (List.mem_append_left _ hq)
      · exact ⟨fun e => ap7 _ (.head _) q hq e.symm, fun e => ap7 _ (.tail _ (.head _)) q hq e.symm, fun e => ap7 _ (.tail _ (.tail _ (.head _))) q hq e.symm⟩
    · intro z hz
      rcases List.mem_append.mp hz with hz | hz
      · exact hw7 z hz
      · rw [List.mem_singleton.mp hz]; exact List.mem_of_getElem? hy
  · rintro ys nw ⟨t', k', ss, hk1, hk2, rfl, hS, hlen, h7⟩
    intro D h tk F5 N5 off5
    k_steps
    show wpAny _ _ _ _ _ _
    have N6 : News g L h ((oneL D ys ys.length ++ ([(L + 1, oc), (st, PySem.W.listOf ts.toArray tn), (I, io)] ++ ropeL r r0 ws 0 k' t' 0)) ++ foc) := subNews N5 (by
      intro q hq
      rcases List.mem_append.mp hq with hq | hq
      · rcases List.mem_append.mp hq with hq | hq
        · rw [List.mem_singleton.mp hq]; exact .head _
        · rcases List.mem_append.mp hq with hq | hq
          · exact .tail _ (List.mem_append_left _ (List.mem_append_left _ hq))
          · exact .tail _ (List.mem_append_right _ hq)
      · exact .tail _ (List.mem_append_left _ (List.mem_append_right _ hq)))
    have apD : Apart (oneL D ys ys.length) foc := apart_cons (fun z hz => off1_mem off5 z (List.mem_append_left _ (List.mem_append_right _ hz))) apart_nil_left
    have apO : Apart ([(L + 1, oc), (st, PySem.W.listOf ts.toArray tn), (I, io)] ++ ropeL r r0 ws 0 k' t' 0) foc :=
      apart_symm (apart_adr (b := [(L + 1, oc), (st, PySem.W.listOf ts.toArray tn), (I, io)] ++ ropeL r r0 ws 0 k t 0) (apart_symm (ap.sub (List.forall_mem_append.mpr ⟨by walk_at "my sub", by walk_at "my sub"⟩) fun _ h => h)) fun _ h => h)
    clear N5
    refine Spec.use (wLaid W (by omega) wordsAt_list hS (by omega) h7) (oneL D ys ys.length ++ ([(L + 1, oc), (st, PySem.W.listOf ts.toArray tn), (I, io)] ++ ropeL r r0 ws 0 k' t' 0)) rfl rfl (Nat.le_of_ble_eq_true rfl) (Nat.le_of_ble_eq_true rfl) ⟨B, X, T, rfl, rfl⟩ F5 N6
      (fun _ h => List.mem_append_left _ h) (fun _ h => List.mem_append_right _ h) (apart_left apD apO) (fun _ h => List.mem_append_left _ h) ?_
    rintro v foc8 h8 tk8 F8 N8 ap8 ⟨z, rfl, W8⟩
    try dsimp only
    clear N6
    k_steps
    show wpAny _ _ _ _ _ _
    obtain ⟨apa, apb⟩ := app_apart.mp ap8
    have N9 : News g L h8 ((st, PySem.W.listOf ts.toArray tn) :: ([(L + 1, oc), (r, PySem.W.listOf #[.ref r0, .int k' t'] 0), (r0, PySem.W.listOf ws.toArray 0), (I, io)] ++ foc8)) := subNews N8 (by
      refine List.forall_mem_cons.mpr ⟨by k_mem, List.forall_mem_append.mpr ⟨by walk_at "my sub", fun q hq => List.mem_append_right _ hq⟩⟩)
    clear N8
    refine append_K F8 N9 (Upd.head ?_) ?_ (by rw [sizeLine_eq, List.size_toArray]; omega)
    · intro q hq
      rcases List.mem_append.mp hq with hq | hq
      · simp only [List.mem_cons, List.not_mem_nil, or_false] at hq
        rcases hq with rfl | rfl | rfl | rfl
        · exact n8
        · exact n4.symm
        · exact n5.symm
        · exact m4.symm
      · exact fun e => apb (st, PySem.W.listOf ts.toArray tn) (by k_mem) q hq e.symm
    · intro h9 F9 N10
      have ep : ts.toArray.push (Value.ref z) = (ts ++ [Value.ref z]).toArray := by simp
      rw [ep] at N10
      show wpAny _ _ (pure Flow.next) _ _ _
      refine wpAny_pure ?_
      refine cont z (dd ss) k' t' (tn + 1) h9 _ foc8 (by omega) (by omega) F9 (subNews N10 ?_) ?_ W8
      · exact List.forall_mem_append.mpr ⟨by walk_at "my sub", fun q hq => .tail _ (List.mem_append_right _ hq)⟩
      · refine apart_symm (apart_adr (apart_symm apb) fun x hx => ?_)
        have hx' : x ∈ [L + 1, r, r0, st, I] := hx
        show x ∈ [L + 1, st, I, r, r0]
        simp only [List.mem_cons, List.not_mem_nil, or_false] at hx' ⊢
        rcases hx' with h | h | h | h | h <;> simp [h]
end
end
section
local macro_rules | `(tactic| walk_at "exec For") => `(tactic| refine stop ?_)
local macro_rules | `(tactic| walk_at "exec For Name") => `(tactic| refine stop ?_)
local macro_rules | `(tactic| walk_at "pyIter ref") => `(tactic| refine stop ?_)
section
variable {prog : Program} {w : World} {A : Around} {E : Value → Shared → Prop} {s : Shared} {env : Env} {h₀ : Heap} {x : Str} {body : List Stmt} {Q : Flow → Shared → Prop}
theorem loop_at2 {I : Addr} {fp : List Addr} {n : Nat} {P : Nat → Value → Prop} {St : Nat → Heap → Prop} {m : Str → Option Value} {news : Led} {c : String} (hc : c ∈ itCls)
    (J : Nat → (Str → Option Value) → Led → Prop) (W : Walks prog w A I fp [I] n P St) (hI : ∀ i h, St i h → ∃ o, h.get? I = some o ∧ o.cls = .type c) (hst : St 0 s.heap)
    (hI0 : h₀.get? I = none) (hL : env.locals ∉ fp) (hfp : ∀ b ∈ fp, b = I ∨ (∃ o, h₀.get? b = some o) ∨ ∃ o, ∀ i m nx, J i m nx → (b, o) ∈ nx) (hnc : ∀ i m nx, J i m nx → ∀ p ∈ nx, p.1 ≠ I ∨ ∀ c ∈ itCls, p.2.cls ≠ .type c)
    (F : Fr h₀ env.locals s.heap m) (N : News h₀ env.locals s.heap news) (h0 : J 0 m news)
    (turn : ∀ i v m₁ nx h tk io, i < n → P i v → J i m₁ nx → (∀ p ∈ nx, p.1 ≠ I) → Fr h₀ env.locals h (fun y => if y = x then some v else m₁ y) → News h₀ env.locals h (nx ++ [(I, io)]) →
      wpAny (model prog w) A (execs body env) (TurnK h₀ env.locals (J (i + 1)) [(I, io)] { s with heap := h, toks := tk } Q) E { s with heap := h, toks := tk })
    (done : ∀ h' tk m' nx, Fr h₀ env.locals h' m' → News h₀ env.locals h' nx → J n m' nx → Q .next { s with heap := h', toks := tk }) :
    LoopAtV prog w A h₀ env x body Q E (.ref I) s := by
  have apart : ∀ i h nx (m' : Str → Option Value), St i h → J i m' nx → News h₀ env.locals h nx → ∀ p ∈ nx, p.1 ∉ [I] := fun i h nx m' st hj N' p hp e => by
    obtain ⟨o, ho, hcl⟩ := hI i h st
    have e1 : p.1 = I := List.mem_singleton.mp e
    have := (N' p hp).1
    rw [e1, ho] at this
    rcases hnc i m' nx hj p hp with r | r
    · exact r e1
    · exact r c hc ((Option.some.inj this) ▸ hcl)
  have hIf : I ∈ fp := W.sub I (.head _)
  refine ⟨I, fp, [I], n, P, St, m, news, fun i m' nx => J i m' nx, rfl, W, hL, ?_, apart 0 _ _ _ hst h0 N, hst, F, N, h0, ?_, fun h' tk m' nx F' N' _ hj => done h' tk m' nx F' N' hj⟩
  · intro b hb
    rw [List.mem_singleton.mp hb]; exact hI0
  · rintro i v m₁ nx s₁ own ⟨h, tk, rfl⟩ hi hP hj hnw hown hget hfo hst₁ F₁ N₁
    obtain ⟨io, hio, hcl⟩ := hI (i + 1) h hst₁
    have hmem : (I, io) ∈ own := hfo I hIf hI0 io hio
    have N₂ : News h₀ env.locals h (nx ++ [(I, io)]) := fun p hp => N₁ p ((List.mem_append.mp hp).elim (fun q => List.mem_append_right _ q) fun q => List.mem_append_left _ (by rw [List.mem_singleton.mp q]; exact hmem))
    refine wpAny_mono (turn i v m₁ nx h tk io hi hP hj (fun p hp e => hnw p hp (by rw [e]; exact .head _)) F₁ N₂) (fun f s₂ h₂ => ?_) fun _ _ e => e
    have fin : (∃ h' tk' m' nx, s₂ = { s with heap := h', toks := tk' } ∧ Fr h₀ env.locals h' m' ∧ News h₀ env.locals h' (nx ++ [(I, io)]) ∧ J (i + 1) m' nx) →
        LoopStepU h₀ env.locals [I] own (J (i + 1)) { s with heap := h, toks := tk } .next s₂ := by
      rintro ⟨h', tk', m', nx', e, F', N', hj'⟩
      refine ⟨rfl, h', tk', m', nx', e, F', fun p hp => ?_, fun p hp e' => ?_, hj'⟩
      · rcases List.mem_append.mp hp with q | q
        · have z := N₁ p (List.mem_append_left _ q)
          rcases hfp p.1 (hown p q) with r | ⟨o, r⟩ | ⟨o, r⟩
          · have : p.2 = io := by
              have := z.1; rw [r, hio] at this; exact (Option.some.inj this).symm
            have e3 : p = (I, io) := Prod.ext r this
            rw [e3]; exact N' _ (List.mem_append_right _ (.head _))
          · rw [z.2.2] at r; cases r
          · have h1 := (N₁ _ (List.mem_append_right _ (r i m₁ nx hj))).1
            have : p.2 = o := by
              have := z.1; rw [h1] at this; exact (Option.some.inj this).symm
            have e3 : p = (p.1, o) := Prod.ext rfl this
            rw [e3]; exact N' _ (List.mem_append_left _ (r (i + 1) m' nx' hj'))
        · exact N' p (List.mem_append_left _ q)
      · have e1 : p.1 = I := List.mem_singleton.mp e'
        have h1 := (N' p (List.mem_append_left _ hp)).1
        have h2 := (N' _ (List.mem_append_right _ (.head _))).1
        rw [e1, h2] at h1
        rcases hnc (i + 1) m' nx' hj' p hp with r | r
        · exact r e1
        · exact r c hc ((Option.some.inj h1) ▸ hcl)
    cases f with
    | ret v => exact h₂
    | brk => exact h₂
    | next => exact fin h₂
    | cont => exact fin h₂

theorem iter_range2 {r : Addr} {a b c : Int} {t u v : Tok} {n : Nat} {m : Str → Option Value} {news : Led} (J : Nat → (Str → Option Value) → Led → Prop) (hh : A.handled = none) (hr : IsRange s.heap r a b c t u v)
    (hsmall : Builtin.Range.small a b c = true) (hn : Builtin.Range.rangeSize a b c = (n : Int))
    (hnc : ∀ i m nx, J i m nx → ∀ p ∈ nx, p.1 ≠ s.heap.objs.size ∨ ∀ c ∈ itCls, p.2.cls ≠ .type c) (F : Fr h₀ env.locals s.heap m) (N : News h₀ env.locals s.heap news) (h0 : J 0 m news)
    (turn : ∀ i t m₁ nx h tk I io, i < n → J i m₁ nx → (∀ p ∈ nx, p.1 ≠ I) → Fr h₀ env.locals h (fun y => if y = x then some (.int (a + i * c) t) else m₁ y) → News h₀ env.locals h (nx ++ [(I, io)]) →
      wpAny (model prog w) A (execs body env) (TurnK h₀ env.locals (J (i + 1)) [(I, io)] { s with heap := h, toks := tk } Q) E { s with heap := h, toks := tk })
    (done : ∀ h' tk m' nx, Fr h₀ env.locals h' m' → News h₀ env.locals h' nx → J n m' nx → Q .next { s with heap := h', toks := tk }) :
    wpAny (model prog w) A (pyIter (.ref r)) (fun it s₂ => LoopAtV prog w A h₀ env x body Q E it s₂) E s := by
  refine wpAny_pyIter_range hr hsmall ?_
  have W := Walks.range (prog := prog) (w := w) hh s.heap.objs.size a c n
  refine loop_at2 (c := "range_iterator") (by decide) J W (fun i h st => ⟨_, st, rfl⟩) (by rw [hn]; simpa using Heap.get?_push_size _ rfl) (next_is_new F) ?_ ?_ hnc (F.push _)
    (fun p hp => ⟨Heap.get?_push_of_some _ (N p hp).1, (N p hp).2⟩) h0 (fun i v m₁ nx h tk io hi hP hj ho F₁ N₁ => ?_) done
  · intro hm
    exact locals_lt F (List.mem_singleton.mp hm)
  · intro b hb
    exact .inl (List.mem_singleton.mp hb)
  · obtain ⟨t, rfl⟩ := hP
    exact turn i t m₁ nx h tk _ io hi hj ho F₁ N₁
end
theorem noIt_hsL {prog : Program} {w : World} {P : Params} : ∀ {hs : List Hs}, (∀ h ∈ hs, h.ok prog w) → NoIt (hsL P hs)
  | [], _ => noIt_nil
  | h :: hs, ok => by
    rw [hsL_cons, led_eq]
    exact noIt_append (noIt_append (noIt_cons (noIt_ref rfl) (noIt_cons (noIt_dict rfl) (noIt_cons (noIt_dict (dict_cls (ok h (.head _)).d)) noIt_nil))) (noIt_scL _ _)) (noIt_hsL fun z hz => ok z (.tail _ hz))
theorem Wd.noIt {prog : Program} {w : World} {c : Cn} {sh : Addr} {n : Nat} {σ : List (Addr × List Str)} {foc : Led} (W : Wd prog w c sh n σ foc) : NoIt foc := by
  obtain ⟨kh, last, a, b, cc, e, zs, zn, plo, emo, sn, hs, rfl, h1, h2, h3, h4, h5, h6, h7, h8, hn, hok, rfl⟩ := W
  exact noIt_append (noIt_core h5 h6) (noIt_append (noIt_cons (noIt_list rfl) noIt_nil) (noIt_hsL hok))
section
variable {prog : Program} {w : World} {p : Program} {loose : List Str} {mean : ExcName → Option Value} {mg mb : Str → Option Value} {base g : Heap} {L fa : Addr} {cdv : Value} {oc : Obj} {l : Addr} {ws : List Value} {js : List Int}
  {c : Cn} {sh r r0 st : Addr} {t : Tok} {foc : Led}
  {s : Shared} {Q : Flow → Shared → Prop}
theorem law_b (B : Below callerA base [] g) (X : (K w.params).In g) (T : Top p loose mean mg mb g) (dc : oc.data = .cell (some (.ref r)))
    (n3 : r ≠ r0) (n4 : st ≠ r) (n5 : st ≠ r0) (n6 : L + 1 ≠ r) (n7 : L + 1 ≠ r0) (n8 : L + 1 ≠ st) (hI : IntsAre ws js) (hn : js.length ≤ 63)
    (F : Fr g L s.heap (lawM1 L fa cdv l c.ci sh st)) (N : News g L s.heap (O4 L oc r r0 ws 0 0 t 0 st [] 0 ++ foc)) (ap : Apart (O4 L oc r r0 ws 0 0 t 0 st [] 0) foc) (W : Wd prog w c sh 0 [] foc)
    (k : ∀ z1 z2 z3 k1 k2 k3 tv tn' h' tk' foc', Fr g L h' (fun y => if y = "turn" then tv else lawM1 L fa cdv l c.ci sh st y) → News g L h' (oneL st [.ref z1, .ref z2, .ref z3] tn' ++ foc') → Apart (oneL st [.ref z1, .ref z2, .ref z3] tn') foc' →
      Wd prog w c sh 3 [(z1, k1), (z2, k2), (z3, k3)] foc' → wpAny (model prog w) (callerA.deeper (lawEnv L fa cdv)) (execs (b541.drop 4) (lawEnv L fa cdv)) Q (fun _ _ => False) { s with heap := h', toks := tk' }) :
    wpAny (model prog w) (callerA.deeper (lawEnv L fa cdv)) (exec (nth b541 3) (lawEnv L fa cdv)) (fun f s' => match f with | .next => wpAny (model prog w) (callerA.deeper (lawEnv L fa cdv)) (execs (b541.drop 4) (lawEnv L fa cdv)) Q (fun _ _ => False) s' | f => Q f s') (fun _ _ => False) s := by
  show wpAny _ _ (exec (Stmt.For _ _ _ _ _) _) _ _ _
  refine For_invVF F (by rfl) (by rfl) ?_
  k_steps
  show wpAny _ _ _ _ _ _
  rename_i h2 tk2 ta tb tc hR F2 N2 hk2
  have lt1 : L + 1 < h2.objs.size := Heap.lt_size (N2 (L + 1, oc) (.head _)).1
  refine iter_range2 (n := 3) (fun i m nx => ∃ (k' : Int) (t' : Tok) (tn' : Nat) (ts : List Value) (σ : List (Addr × List Str)) (foc' : Led), 0 ≤ k' ∧ k' ≤ 8 * (i : Int) ∧ (∀ z : Str, z ≠ "turn" → m z = lawM1 L fa cdv l c.ci sh st z) ∧ nx = O4 L oc r r0 ws 0 k' t' 0 st ts tn' ++ foc' ∧ Apart (O4 L oc r r0 ws 0 k' t' 0 st ts tn') foc' ∧ Wd prog w c sh i σ foc' ∧ ts = σ.map (fun p => Value.ref p.1) ∧ σ.length = i)
    rfl hR (by decide +kernel) (by decide +kernel) ?_ F2 N2 ⟨0, t, 0, [], [], foc, Int.le_refl _, by decide, fun _ _ => rfl, rfl, ap, W, rfl, rfl⟩ ?_ ?_
  · rintro i m nx ⟨k', t', tn', ts, σ, foc', _, _, _, rfl, _, W', _, _⟩ q hq
    rcases List.mem_append.mp hq with hq | hq
    · simp only [List.mem_cons, List.not_mem_nil, or_false] at hq
      rcases hq with rfl | rfl | rfl | rfl
      · exact .inl (Nat.ne_of_lt lt1)
      · exact .inr (noIt_list rfl)
      · exact .inr (noIt_list rfl)
      · exact .inr (noIt_list rfl)
    · exact .inr (W'.noIt q hq)
  · rintro i tt m₁ nx h tk I io hi ⟨k', t', tn', ts, σ, foc', hk0, hk8, hm, rfl, ap', W', rfl, hlen⟩ hJ F1 N1
    have e : (fun y : Str => if y = "turn" then some (Value.int (0 + i * 1) tt) else m₁ y) = (fun y : Str => if y = "turn" then some (Value.int (0 + i * 1) tt) else lawM1 L fa cdv l c.ci sh st y) := by
      funext y
      split
      · rfl
      · next hy => exact hm y hy
    rw [e] at F1
    have apI : Apart [(I, io)] foc' := apart_cons (fun z hz => hJ z (List.mem_append_right _ hz)) apart_nil_left
    refine law_turn (io := io) B X T dc n3 n4 n5 n6 n7 n8 (hJ (L + 1, oc) (List.mem_append_left _ (by k_mem))) (hJ (r, _) (List.mem_append_left _ (.tail _ (.head _)))) (hJ (r0, _) (List.mem_append_left _ (.tail _ (.tail _ (.head _))))) (hJ (st, _) (List.mem_append_left _ (.tail _ (.tail _ (.tail _ (.head _))))))
      hI hn ⟨hk0, by omega⟩ F1 (subNews N1 ?_) (apart_left ap' apI) W' (by omega) (by rw [List.length_map]; omega) ?_
    · intro q hq
      rcases List.mem_append.mp hq with hq | hq
      · rcases List.mem_append.mp hq with hq | hq
        · exact List.mem_append_left _ (List.mem_append_left _ hq)
        · exact List.mem_append_right _ hq
      · exact List.mem_append_left _ (List.mem_append_right _ hq)
    · intro z kk k2 t2 tn2 h' tk' foc2 hk1 hk2 F3 N3 ap3 W3
      refine ⟨h', tk', _, O4 L oc r r0 ws 0 k2 t2 0 st (σ.map (fun p => Value.ref p.1) ++ [.ref z]) tn2 ++ foc2, rfl, F3, subNews N3 ?_, k2, t2, tn2, _, σ ++ [(z, kk)], foc2, by omega, by omega, fun y hy => if_neg hy, rfl, (app_apart.mp ap3).1, W3, by simp, by simp [hlen]⟩
      intro q hq
      rcases List.mem_append.mp hq with hq | hq
      · rcases List.mem_append.mp hq with hq | hq
        · exact List.mem_append_left _ (List.mem_append_left _ hq)
        · exact List.mem_append_right _ hq
      · exact List.mem_append_left _ (List.mem_append_right _ hq)
  · rintro h' tk' m' nx F3 N3 ⟨k', t', tn', ts, σ, foc', hk0, hk8, hm, rfl, ap', W', rfl, hlen⟩
    match σ, hlen with
    | [(z1, k1), (z2, k2), (z3, k3)], _ =>
      rw [setX5 hm] at F3
      exact k z1 z2 z3 k1 k2 k3 (m' "turn") tn' h' tk' foc' F3 (subNews N3 (List.forall_mem_append.mpr ⟨fun q hq => by rw [List.mem_singleton.mp hq]; exact List.mem_append_left _ (.tail _ (.tail _ (.tail _ (.head _)))), fun q hq => List.mem_append_right _ hq⟩))
        (ap'.sub (fun q hq => by rw [List.mem_singleton.mp hq]; exact .tail _ (.tail _ (.tail _ (.head _)))) fun _ h => h) W'
end
end
section
local macro_rules | `(tactic| walk_at "call ref") => `(tactic| ((with_reducible show wpAny _ _ (call (Value.ref 536) _) _ _ _); refine stop ?_))
local macro_rules | `(tactic| walk_at "exec Assign") => `(tactic| ((with_reducible show wpAny _ _ (exec (Stmt.Assign [Expr.Name (Str.ofString "left") _] _ _) _) _ _ _); refine stop ?_))
local macro_rules | `(tactic| walk_at "exec Assign cons Call") => `(tactic| ((with_reducible show wpAny _ _ (exec (Stmt.Assign [Expr.Name (Str.ofString "left") _] _ _) _) _ _ _); refine stop ?_))
noncomputable abbrev lawM2 (L fa : Addr) (cdv : Value) (l ci sh st z1 z2 z3 z4 : Addr) (tv : Option Value) : Str → Option Value := fun y => if y = "third" then some (.ref z3) else if y = "other" then some (.ref z2) else if y = "one" then some (.ref z1) else if y = "full" then some (.ref z4) else if y = "turn" then tv else lawM1 L fa cdv l ci sh st y
section
variable {prog : Program} {w : World} {p : Program} {loose : List Str} {mean : ExcName → Option Value} {mg mb : Str → Option Value} {base g : Heap} {L fa : Addr} {cdv : Value} {l : Addr}
  {c : Cn} {sh st z1 z2 z3 : Addr} {k1 k2 k3 : List Str} {tv : Option Value} {tn : Nat} {foc : Led}
  {s : Shared} {Q : Flow → Shared → Prop}
theorem wordsAt490 {P : Params} : WordsAt (K P) [] 490 wordsV := fun g X _ => .inr ⟨_, X 490 _ (by k_is), rfl, _, rfl⟩
theorem law_c (B : Below callerA base [] g) (X : (K w.params).In g) (T : Top p loose mean mg mb g)
    (F : Fr g L s.heap (fun y => if y = "turn" then tv else lawM1 L fa cdv l c.ci sh st y)) (N : News g L s.heap (oneL st [.ref z1, .ref z2, .ref z3] tn ++ foc)) (ap : Apart (oneL st [.ref z1, .ref z2, .ref z3] tn) foc)
    (W : Wd prog w c sh 3 [(z1, k1), (z2, k2), (z3, k3)] foc)
    (k : ∀ z4 h' tk' foc' τ, Fr g L h' (lawM2 L fa cdv l c.ci sh st z1 z2 z3 z4 tv) → News g L h' foc' → Wd prog w c sh 304 ([(z1, k1), (z2, k2), (z3, k3)] ++ τ) foc' →
      wpAny (model prog w) (callerA.deeper (lawEnv L fa cdv)) (exec (nth b541 7) (lawEnv L fa cdv)) (fun f s' => match f with | .next => wpAny (model prog w) (callerA.deeper (lawEnv L fa cdv)) (execs (b541.drop 8) (lawEnv L fa cdv)) Q (fun _ _ => False) s' | f => Q f s') (fun _ _ => False) { s with heap := h', toks := tk' }) :
    wpAny (model prog w) (callerA.deeper (lawEnv L fa cdv)) (execs (b541.drop 4) (lawEnv L fa cdv)) Q (fun _ _ => False) s := by
  show wpAny _ _ (execs (_ :: _) _) _ _ _
  k_steps
  show wpAny _ _ _ _ _ _
  refine Spec.use (wLaid W (by omega) wordsAt490 wordsV_are (by decide) fun _ h => h) (oneL st [.ref z1, .ref z2, .ref z3] tn) rfl rfl (Nat.le_of_ble_eq_true rfl) (Nat.le_of_ble_eq_true rfl) ⟨B, X, T, rfl, rfl⟩ F N (fun _ h => List.mem_append_left _ h) (fun _ h => List.mem_append_right _ h) ap (fun _ h => nomatch h) ?_
  rintro v foc1 h1 tk1 F1 N1 ap1 ⟨z4, rfl, W1⟩
  try dsimp only
  clear N
  k_steps
  show wpAny _ _ _ _ _ _
  rename Fr _ _ _ _ => F2
  rename News _ _ _ _ => N2
  refine Spec.use (wCount W1 (List.mem_append_right _ (.head _))) (oneL st [.ref z1, .ref z2, .ref z3] tn) rfl rfl (Nat.le_of_ble_eq_true rfl) (Nat.le_of_ble_eq_true rfl) ⟨B, X, T, rfl, rfl⟩ F2 N2 (fun _ h => List.mem_append_left _ h) (fun _ h => List.mem_append_right _ h) ap1 (fun _ h => nomatch h) ?_
  rintro v foc' h3 tk3 F3 N3 ap3 ⟨t, rfl, rfl⟩
  rw [show ((dd words7).length : Int) = 7 by decide +kernel]
  try dsimp only
  clear N2
  k_steps
  show wpAny _ _ _ _ _ _
  have hall : ∀ z ∈ words7, z ∈ dd words7 := fun z hz => mem_dd.mpr hz
  refine Spec.use (pair_right W1 (by omega) (List.mem_append_left _ (.head _)) (List.mem_append_left _ (.tail _ (.head _))) (List.mem_append_right _ (.head _)) hall) (oneL st [.ref z1, .ref z2, .ref z3] tn) rfl rfl (Nat.le_of_ble_eq_true rfl) (Nat.le_of_ble_eq_true rfl) ⟨B, X, T, rfl, rfl⟩ F3 N3 (fun _ h => List.mem_append_left _ h) (fun _ h => List.mem_append_right _ h) ap3 (fun _ h => nomatch h) ?_
  rintro v foc4 h4 tk4 F4 N4 ap4 ⟨rfl, τ, W4⟩
  try dsimp only
  clear N3
  k_steps
  show wpAny _ _ _ _ _ _
  refine Spec.use (pair_right W4 (by omega) (List.mem_append_left _ (List.mem_append_left _ (.tail _ (.head _)))) (List.mem_append_left _ (List.mem_append_left _ (.tail _ (.tail _ (.head _))))) (List.mem_append_left _ (List.mem_append_right _ (.head _))) hall) (oneL st [.ref z1, .ref z2, .ref z3] tn) rfl rfl (Nat.le_of_ble_eq_true rfl) (Nat.le_of_ble_eq_true rfl) ⟨B, X, T, rfl, rfl⟩ F4 N4 (fun _ h => List.mem_append_left _ h) (fun _ h => List.mem_append_right _ h) ap4 (fun _ h => nomatch h) ?_
  rintro v foc5 h5 tk5 F5 N5 ap5 ⟨rfl, τ', W5⟩
  try dsimp only
  clear N4
  k_steps
  show wpAny _ _ _ _ _ _
  rw [List.append_assoc, List.append_assoc] at W5
  exact k z4 _ _ foc5 _ F5 (subNews N5 fun q hq => List.mem_append_right _ hq) (W5.mono (by omega))
end
end
section
local macro_rules | `(tactic| walk_at "exec Assign") => `(tactic| ((with_reducible show wpAny _ _ (exec (Stmt.Assign [Expr.Name (Str.ofString "left") _] _ _) _) _ _ _); refine stop ?_))
local macro_rules | `(tactic| walk_at "exec Assign cons Call") => `(tactic| ((with_reducible show wpAny _ _ (exec (Stmt.Assign [Expr.Name (Str.ofString "left") _] _ _) _) _ _ _); refine stop ?_))
local macro_rules | `(tactic| walk_at "exec For") => `(tactic| refine stop ?_)
local macro_rules | `(tactic| walk_at "exec For Name") => `(tactic| refine stop ?_)
noncomputable abbrev lawLR (zl zr : Addr) (m : Str → Option Value) : Str → Option Value := fun y => if y = "right" then some (.ref zr) else if y = "left" then some (.ref zl) else m y
section
variable {prog : Program} {w : World} {p : Program} {loose : List Str} {mean : ExcName → Option Value} {mg mb : Str → Option Value} {base g : Heap} {L fa : Addr} {cdv : Value} {l : Addr}
  {c : Cn} {sh st z1 z2 z3 z4 zl zr : Addr} {k1 k2 k3 : List Str} {tv : Option Value} {n : Nat} {σ : List (Addr × List Str)} {foc : Led}
  {s : Shared} {Q : Flow → Shared → Prop}
theorem law_d (B : Below callerA base [] g) (X : (K w.params).In g) (T : Top p loose mean mg mb g)
    (F : Fr g L s.heap (lawM2 L fa cdv l c.ci sh st z1 z2 z3 z4 tv)) (N : News g L s.heap foc)
    (W : Wd prog w c sh n σ foc) (hn1 : n ≤ 700) (h1 : (z1, k1) ∈ σ) (h2 : (z2, k2) ∈ σ) (h3 : (z3, k3) ∈ σ)
    (k : ∀ zl' zr' h' tk' foc' τ, Fr g L h' (lawLR zl' zr' (lawM2 L fa cdv l c.ci sh st z1 z2 z3 z4 tv)) → News g L h' foc' → Wd prog w c sh (n + 10) (σ ++ τ) foc' →
      wpAny (model prog w) (callerA.deeper (lawEnv L fa cdv)) (exec (nth b541 10) (lawEnv L fa cdv)) (fun f s' => match f with | .next => wpAny (model prog w) (callerA.deeper (lawEnv L fa cdv)) (execs (b541.drop 11) (lawEnv L fa cdv)) Q (fun _ _ => False) s' | f => Q f s') (fun _ _ => False) { s with heap := h', toks := tk' }) :
    wpAny (model prog w) (callerA.deeper (lawEnv L fa cdv)) (exec (nth b541 7) (lawEnv L fa cdv)) (fun f s' => match f with | .next => wpAny (model prog w) (callerA.deeper (lawEnv L fa cdv)) (execs (b541.drop 8) (lawEnv L fa cdv)) Q (fun _ _ => False) s' | f => Q f s') (fun _ _ => False) s := by
  have c1 := (W.len h1).2.1
  have c2 := (W.len h2).2.1
  have c3 := (W.len h3).2.1
  show wpAny _ _ (exec (Stmt.Assign [_] _ _) _) _ _ _
  refine wpAny_Assign_Name ?_
  k_steps
  show wpAny _ _ _ _ _ _
  rename Fr _ _ _ _ => G1
  rename News _ _ _ _ => M1
  refine Spec.use (wEither W (by omega) h2 h3) [] rfl rfl (Nat.le_of_ble_eq_true rfl) (Nat.le_of_ble_eq_true rfl) ⟨B, X, T, rfl, rfl⟩ G1 M1 (fun _ h => nomatch h) (fun _ h => h) apart_nil_left (fun _ h => nomatch h) ?_
  rintro v foc1 h1' tk1 F1 N1 ap1 ⟨y1, rfl, W1⟩
  try dsimp only
  clear M1
  k_steps
  show wpAny _ _ _ _ _ _
  rename Fr _ _ _ _ => G2
  rename News _ _ _ _ => M2
  refine Spec.use (wBoth W1 (by omega) (List.mem_append_left _ h1) (List.mem_append_right _ (.head _))) [] rfl rfl (Nat.le_of_ble_eq_true rfl) (Nat.le_of_ble_eq_true rfl) ⟨B, X, T, rfl, rfl⟩ G2 M2 (fun _ h => nomatch h) (fun _ h => h) apart_nil_left (fun _ h => nomatch h) ?_
  rintro v foc2 h2' tk2 F2 N2 ap2 ⟨y2, rfl, W2⟩
  try dsimp only
  clear M2
  k_steps
  show wpAny _ _ _ _ _ _
  rename Fr _ _ _ _ => G3
  rename News _ _ _ _ => M3
  refine Spec.use (wBoth W2 (by omega) (List.mem_append_left _ (List.mem_append_left _ h1)) (List.mem_append_left _ (List.mem_append_left _ h2))) [] rfl rfl (Nat.le_of_ble_eq_true rfl) (Nat.le_of_ble_eq_true rfl) ⟨B, X, T, rfl, rfl⟩ G3 M3 (fun _ h => nomatch h) (fun _ h => h) apart_nil_left (fun _ h => nomatch h) ?_
  rintro v foc3 h3' tk3 F3 N3 ap3 ⟨y3, rfl, W3⟩
  try dsimp only
  clear M3
  k_steps
  show wpAny _ _ _ _ _ _
  rename Fr _ _ _ _ => G4
  rename News _ _ _ _ => M4
  refine Spec.use (wBoth W3 (by omega) (List.mem_append_left _ (List.mem_append_left _ (List.mem_append_left _ h1))) (List.mem_append_left _ (List.mem_append_left _ (List.mem_append_left _ h3)))) [] rfl rfl (Nat.le_of_ble_eq_true rfl) (Nat.le_of_ble_eq_true rfl) ⟨B, X, T, rfl, rfl⟩ G4 M4 (fun _ h => nomatch h) (fun _ h => h) apart_nil_left (fun _ h => nomatch h) ?_
  rintro v foc4 h4' tk4 F4 N4 ap4 ⟨y4, rfl, W4⟩
  try dsimp only
  clear M4
  k_steps
  show wpAny _ _ _ _ _ _
  rename Fr _ _ _ _ => G5
  rename News _ _ _ _ => M5
  refine Spec.use (wEither W4 (by omega) (List.mem_append_left _ (List.mem_append_right _ (.head _))) (List.mem_append_right _ (.head _))) [] rfl rfl (Nat.le_of_ble_eq_true rfl) (Nat.le_of_ble_eq_true rfl) ⟨B, X, T, rfl, rfl⟩ G5 M5 (fun _ h => nomatch h) (fun _ h => h) apart_nil_left (fun _ h => nomatch h) ?_
  rintro v foc5 h5' tk5 F5 N5 ap5 ⟨y5, rfl, W5⟩
  try dsimp only
  clear M5
  k_steps
  show wpAny _ _ _ _ _ _
  rename Fr _ _ _ _ => F6
  rename News _ _ _ _ => N6
  refine Spec.use (wSorted W5 (List.mem_append_left _ (List.mem_append_left _ (List.mem_append_left _ (List.mem_append_right _ (.head _)))))) [] rfl rfl (Nat.le_of_ble_eq_true rfl) (Nat.le_of_ble_eq_true rfl) ⟨B, X, T, rfl, rfl⟩ F6 N6 (fun _ h => nomatch h) (fun _ h => h) apart_nil_left (fun _ h => nomatch h) ?_
  rintro v foc7 h7' tk7 F7 N7 ap7 ⟨l7, vs7, nn7, ss7, fw7, rfl, hS7, hp7, hs7, rfl, W7, ap8⟩
  have H7 := has_of hp7 hs7 (nodup_dd _)
  try dsimp only
  clear N6
  k_steps
  show wpAny _ _ _ _ _ _
  refine Spec.use (wSorted W7 (List.mem_append_right _ (.head _))) (oneL l7 vs7 nn7) rfl rfl (Nat.le_of_ble_eq_true rfl) (Nat.le_of_ble_eq_true rfl) ⟨B, X, T, rfl, rfl⟩ F7 (news := oneL l7 vs7 nn7 ++ fw7) N7 (fun _ h => List.mem_append_left _ h) (fun _ h => List.mem_append_right _ h) ap8 (fun _ h => nomatch h) ?_
  rintro v foc8 h8' tk8 F8 N8 ap9 ⟨l8, vs8, nn8, ss8, fw8, rfl, hS8, hp8, hs8, rfl, W8, ap10⟩
  have H8 := has_of hp8 hs8 (nodup_dd _)
  try dsimp only
  clear N7
  have e : ss7 = ss8 := H7.eq H8 fun z => by
    simp only [mem_dd, List.mem_append, List.mem_filter, decide_eq_true_eq]
    by_cases h1 : z ∈ k1 <;> by_cases h2 : z ∈ k2 <;> by_cases h3 : z ∈ k3 <;> simp [h1, h2, h3]
  have s7 : ∀ z ∈ ss7, z ∈ words7 := fun z hz => by
    have hz := (H7.mem z).mp hz
    simp only [mem_dd, List.mem_append, List.mem_filter, decide_eq_true_eq] at hz
    exact c1 z hz.1
  k_steps
  show wpAny _ _ _ _ _ _
  refine ne_strs (N8.isList (List.mem_append_left _ (.head _))) (N8.isList (List.mem_append_right _ (.head _))) hS7 hS8 s7 (fun z hz => s7 z (e ▸ hz)) (Nat.le_of_ble_eq_true rfl) ?_
  rw [decide_eq_true e]
  k_steps
  show wpAny _ _ _ _ _ _
  have W9 := Wd.mono (n' := n + 10) W8 (by omega)
  simp only [List.append_assoc] at W9
  exact k _ _ _ _ fw8 _ F8 (subNews N8 fun q hq => List.mem_append_right _ (List.mem_append_right _ hq)) W9
end
end
section
local macro_rules | `(tactic| walk_at "exec Assign") => `(tactic| ((with_reducible show wpAny _ _ (exec (Stmt.Assign [Expr.Name (Str.ofString "left") _] _ _) _) _ _ _); refine stop ?_))
local macro_rules | `(tactic| walk_at "exec Assign cons Call") => `(tactic| ((with_reducible show wpAny _ _ (exec (Stmt.Assign [Expr.Name (Str.ofString "left") _] _ _) _) _ _ _); refine stop ?_))
local macro_rules | `(tactic| walk_at "exec For") => `(tactic| refine stop ?_)
local macro_rules | `(tactic| walk_at "exec For Name") => `(tactic| refine stop ?_)
section
variable {prog : Program} {w : World} {p : Program} {loose : List Str} {mean : ExcName → Option Value} {mg mb : Str → Option Value} {base g : Heap} {L fa : Addr} {cdv : Value} {l : Addr}
  {c : Cn} {sh st z1 z2 z3 z4 zl zr : Addr} {k1 k2 k3 : List Str} {tv : Option Value} {n : Nat} {σ : List (Addr × List Str)} {foc : Led}
  {s : Shared} {Q : Flow → Shared → Prop}
theorem law_e (B : Below callerA base [] g) (X : (K w.params).In g) (T : Top p loose mean mg mb g)
    (F : Fr g L s.heap (lawLR zl zr (lawM2 L fa cdv l c.ci sh st z1 z2 z3 z4 tv))) (N : News g L s.heap foc)
    (W : Wd prog w c sh n σ foc) (hn1 : n ≤ 700) (h1 : (z1, k1) ∈ σ) (h2 : (z2, k2) ∈ σ) (h3 : (z3, k3) ∈ σ)
    (k : ∀ zl' zr' h' tk' foc' τ, Fr g L h' (lawLR zl' zr' (lawLR zl zr (lawM2 L fa cdv l c.ci sh st z1 z2 z3 z4 tv))) → News g L h' foc' → Wd prog w c sh (n + 10) (σ ++ τ) foc' →
      wpAny (model prog w) (callerA.deeper (lawEnv L fa cdv)) (exec (nth b541 13) (lawEnv L fa cdv)) (fun f s' => match f with | .next => wpAny (model prog w) (callerA.deeper (lawEnv L fa cdv)) (execs (b541.drop 14) (lawEnv L fa cdv)) Q (fun _ _ => False) s' | f => Q f s') (fun _ _ => False) { s with heap := h', toks := tk' }) :
    wpAny (model prog w) (callerA.deeper (lawEnv L fa cdv)) (exec (nth b541 10) (lawEnv L fa cdv)) (fun f s' => match f with | .next => wpAny (model prog w) (callerA.deeper (lawEnv L fa cdv)) (execs (b541.drop 11) (lawEnv L fa cdv)) Q (fun _ _ => False) s' | f => Q f s') (fun _ _ => False) s := by
  have c1 := (W.len h1).2.1
  have c2 := (W.len h2).2.1
  have c3 := (W.len h3).2.1
  show wpAny _ _ (exec (Stmt.Assign [_] _ _) _) _ _ _
  refine wpAny_Assign_Name ?_
  k_steps
  show wpAny _ _ _ _ _ _
  rename Fr _ _ _ _ => G1
  rename News _ _ _ _ => M1
  refine Spec.use (wBoth W (by omega) h2 h3) [] rfl rfl (Nat.le_of_ble_eq_true rfl) (Nat.le_of_ble_eq_true rfl) ⟨B, X, T, rfl, rfl⟩ G1 M1 (fun _ h => nomatch h) (fun _ h => h) apart_nil_left (fun _ h => nomatch h) ?_
  rintro v foc1 h1' tk1 F1 N1 ap1 ⟨y1, rfl, W1⟩
  try dsimp only
  clear M1
  k_steps
  show wpAny _ _ _ _ _ _
  rename Fr _ _ _ _ => G2
  rename News _ _ _ _ => M2
  refine Spec.use (wEither W1 (by omega) (List.mem_append_left _ h1) (List.mem_append_right _ (.head _))) [] rfl rfl (Nat.le_of_ble_eq_true rfl) (Nat.le_of_ble_eq_true rfl) ⟨B, X, T, rfl, rfl⟩ G2 M2 (fun _ h => nomatch h) (fun _ h => h) apart_nil_left (fun _ h => nomatch h) ?_
  rintro v foc2 h2' tk2 F2 N2 ap2 ⟨y2, rfl, W2⟩
  try dsimp only
  clear M2
  k_steps
  show wpAny _ _ _ _ _ _
  rename Fr _ _ _ _ => G3
  rename News _ _ _ _ => M3
  refine Spec.use (wEither W2 (by omega) (List.mem_append_left _ (List.mem_append_left _ h1)) (List.mem_append_left _ (List.mem_append_left _ h2))) [] rfl rfl (Nat.le_of_ble_eq_true rfl) (Nat.le_of_ble_eq_true rfl) ⟨B, X, T, rfl, rfl⟩ G3 M3 (fun _ h => nomatch h) (fun _ h => h) apart_nil_left (fun _ h => nomatch h) ?_
  rintro v foc3 h3' tk3 F3 N3 ap3 ⟨y3, rfl, W3⟩
  try dsimp only
  clear M3
  k_steps
  show wpAny _ _ _ _ _ _
  rename Fr _ _ _ _ => G4
  rename News _ _ _ _ => M4
  refine Spec.use (wEither W3 (by omega) (List.mem_append_left _ (List.mem_append_left _ (List.mem_append_left _ h1))) (List.mem_append_left _ (List.mem_append_left _ (List.mem_append_left _ h3)))) [] rfl rfl (Nat.le_of_ble_eq_true rfl) (Nat.le_of_ble_eq_true rfl) ⟨B, X, T, rfl, rfl⟩ G4 M4 (fun _ h => nomatch h) (fun _ h => h) apart_nil_left (fun _ h => nomatch h) ?_
  rintro v foc4 h4' tk4 F4 N4 ap4 ⟨y4, rfl, W4⟩
  try dsimp only
  clear M4
  k_steps
  show wpAny _ _ _ _ _ _
  rename Fr _ _ _ _ => G5
  rename News _ _ _ _ => M5
  refine Spec.use (wBoth W4 (by omega) (List.mem_append_left _ (List.mem_append_right _ (.head _))) (List.mem_append_right _ (.head _))) [] rfl rfl (Nat.le_of_ble_eq_true rfl) (Nat.le_of_ble_eq_true rfl) ⟨B, X, T, rfl, rfl⟩ G5 M5 (fun _ h => nomatch h) (fun _ h => h) apart_nil_left (fun _ h => nomatch h) ?_
  rintro v foc5 h5' tk5 F5 N5 ap5 ⟨y5, rfl, W5⟩
  try dsimp only
  clear M5
  k_steps
  show wpAny _ _ _ _ _ _
  rename Fr _ _ _ _ => F6
  rename News _ _ _ _ => N6
  refine Spec.use (wSorted W5 (List.mem_append_left _ (List.mem_append_left _ (List.mem_append_left _ (List.mem_append_right _ (.head _)))))) [] rfl rfl (Nat.le_of_ble_eq_true rfl) (Nat.le_of_ble_eq_true rfl) ⟨B, X, T, rfl, rfl⟩ F6 N6 (fun _ h => nomatch h) (fun _ h => h) apart_nil_left (fun _ h => nomatch h) ?_
  rintro v foc7 h7' tk7 F7 N7 ap7 ⟨l7, vs7, nn7, ss7, fw7, rfl, hS7, hp7, hs7, rfl, W7, ap8⟩
  have H7 := has_of hp7 hs7 (nodup_dd _)
  try dsimp only
  clear N6
  k_steps
  show wpAny _ _ _ _ _ _
  refine Spec.use (wSorted W7 (List.mem_append_right _ (.head _))) (oneL l7 vs7 nn7) rfl rfl (Nat.le_of_ble_eq_true rfl) (Nat.le_of_ble_eq_true rfl) ⟨B, X, T, rfl, rfl⟩ F7 (news := oneL l7 vs7 nn7 ++ fw7) N7 (fun _ h => List.mem_append_left _ h) (fun _ h => List.mem_append_right _ h) ap8 (fun _ h => nomatch h) ?_
  rintro v foc8 h8' tk8 F8 N8 ap9 ⟨l8, vs8, nn8, ss8, fw8, rfl, hS8, hp8, hs8, rfl, W8, ap10⟩
  have H8 := has_of hp8 hs8 (nodup_dd _)
  try dsimp only
  clear N7
  have e : ss7 = ss8 := H7.eq H8 fun z => by
    simp only [mem_dd, List.mem_append, List.mem_filter, decide_eq_true_eq]
    by_cases h1 : z ∈ k1 <;> by_cases h2 : z ∈ k2 <;> by_cases h3 : z ∈ k3 <;> simp [h1, h2, h3]
  have s7 : ∀ z ∈ ss7, z ∈ words7 := fun z hz => by
    have hz := (H7.mem z).mp hz
    simp only [mem_dd, List.mem_append, List.mem_filter, decide_eq_true_eq] at hz
    rcases hz with hz | hz
    · exact c1 z hz
    · exact c2 z hz.1
  k_steps
  show wpAny _ _ _ _ _ _
  refine ne_strs (N8.isList (List.mem_append_left _ (.head _))) (N8.isList (List.mem_append_right _ (.head _))) hS7 hS8 s7 (fun z hz => s7 z (e ▸ hz)) (Nat.le_of_ble_eq_true rfl) ?_
  rw [decide_eq_true e]
  k_steps
  show wpAny _ _ _ _ _ _
  have W9 := Wd.mono (n' := n + 10) W8 (by omega)
  simp only [List.append_assoc] at W9
  exact k _ _ _ _ fw8 _ F8 (subNews N8 fun q hq => List.mem_append_right _ (List.mem_append_right _ hq)) W9
end
end
section
variable {prog : Program} {w : World} {c : Cn} {sh : Addr} {n : Nat} {σ : List (Addr × List Str)} {foc : Led} {x : Addr} {ks : List Str}
theorem wClear2 {A B : List (Addr × List Str)} (W : Wd prog w c sh n (A ++ (x, ks) :: B) foc) (hn1 : n ≤ 1000) :
    Spec prog w (K w.params) 850 7000 345 [.ref c.ci, .ref x] [] foc (fun v foc' => v = .none ∧ Wd prog w c sh (n + 1) (A ++ (x, []) :: B) foc' ∧ ∃ o, (sh, o) ∈ foc ∧ (sh, o) ∈ foc') := by
  obtain ⟨kh, last, a, b, cc, e, zs, zn, plo, emo, sn, hs, rfl, h1, h2, h3, h4, h5, h6, h7, h8, hn, hok, hσ⟩ := W
  obtain ⟨A', C', rfl, rfl, hC⟩ := List.append_eq_map_iff.mp hσ
  obtain ⟨h, B', rfl, e2, rfl⟩ := List.map_eq_cons_iff.mp hC
  cases e2
  have ok := hok h (by simp)
  have l7 := len7 ok.nodup ok.sub
  rw [hsL_append, hsL_cons, led_eq] at hn
  have hn0 := hn
  rw [coreL_split] at hn
  simp only [nd_app, apart_app, app_apart, and_assoc] at hn
  refine Spec.wide (clear_hash_spec (c := c) (kh := kh) (last := last) (zs := zs) (zn := zn) (k := h.k) (num := h.num) (wl := h.wl) (dx := h.dx) (t := h.t) (tob := h.tob) (es := h.es) ok.d (by simp only [Hs.keys, List.length_map] at l7; omega) (by simp only [Hs.keys, List.length_map] at l7; omega) ok.lo ?_)
    ((limL w.params c a b cc e ++ plL c plo emo) ++ (shL sh (A' ++ h :: B') sn ++ (hsL w.params A' ++ hsL w.params B'))) _ ?_ ?_ ?_
  · repeat (obtain ⟨_, hn⟩ := hn)
    simp only [nd_app, apart_app, app_apart, and_assoc]
    (repeat' apply And.intro) <;> walk_at "my apart"
  · rw [hsL_append, hsL_cons, led_eq, coreL_split]
    walk_at "my subs"
  · repeat (obtain ⟨_, hn⟩ := hn)
    walk_at "my apart"
  · rintro v foc' ap ⟨rfl, zs', zn', k', t', tob', rfl, hz, hd, lo, hnd⟩
    have eF : coreL w.params c kh last a b cc e zs' zn' plo emo ++ (shL sh (A' ++ { h with k := k', t := t', tob := tob', es := [] } :: B') sn ++ hsL w.params (A' ++ { h with k := k', t := t', tob := tob', es := [] } :: B')) =
        (dropL w.params c kh last zs' zn' ++ (limL w.params c a b cc e ++ plL c plo emo)) ++ (shL sh (A' ++ h :: B') sn ++ (hsL w.params A' ++ (hashL w.params k' h.num h.wl h.x h.dx t' tob' ++ hsL w.params B'))) := by
      rw [hsL_append, hsL_cons, led_eq, coreL_split, shL_eq (h' := { h with k := k', t := t', tob := tob', es := [] }) (h := h) rfl, show scL w.params [] = [] from rfl, List.append_nil]
    refine ⟨_, ?_, rfl, ⟨kh, last, a, b, cc, e, zs', zn', plo, emo, sn, A' ++ { h with k := k', t := t', tob := tob', es := [] } :: B', rfl, ?_, h2, by omega, ?_, h5, h6, h7, h8, ?_, ?_, ?_⟩, PySem.W.listOf ((A' ++ h :: B').map fun h => Value.ref h.x).toArray sn, List.mem_append_right _ (List.mem_append_left _ (.head _)), by rw [eF]; exact List.mem_append_right _ (List.mem_append_left _ (.head _))⟩
    · rw [eF]
      walk_at "my subs"
    · simp only [Hs.keys, List.length_map] at l7; omega
    · simp at h4 ⊢; omega
    · rw [eF]
      simp only [nd_app, apart_app, app_apart, and_assoc] at hnd ap ⊢
      repeat (obtain ⟨_, hn⟩ := hn)
      repeat (obtain ⟨_, hnd⟩ := hnd)
      repeat (obtain ⟨_, ap⟩ := ap)
      (repeat' apply And.intro) <;> walk_at "my apart"
    · intro z hz
      rcases List.mem_append.mp hz with hz | hz
      · exact hok z (by simp [hz])
      · rcases List.mem_cons.mp hz with rfl | hz
        · exact ⟨hd, lo, fun z hz => nomatch hz⟩
        · exact hok z (by simp [hz])
    · rw [List.map_append, List.map_cons]
      rfl
theorem Wd.nd (W : Wd prog w c sh n σ foc) : (adr foc).Nodup := by
  obtain ⟨kh, last, a, b, cc, e, zs, zn, plo, emo, sn, hs, rfl, h1, h2, h3, h4, h5, h6, h7, h8, hn, hok, rfl⟩ := W
  exact hn
theorem Wd.short (W : Wd prog w c sh n σ foc) : σ.length ≤ n := by
  obtain ⟨kh, last, a, b, cc, e, zs, zn, plo, emo, sn, hs, rfl, h1, h2, h3, h4, h5, h6, h7, h8, hn, hok, rfl⟩ := W
  rw [List.length_map]; exact h4
theorem Wd.shelf (W : Wd prog w c sh n σ foc) : ∃ sn, (sh, PySem.W.listOf (σ.map fun p => Value.ref p.1).toArray sn) ∈ foc := by
  obtain ⟨kh, last, a, b, cc, e, zs, zn, plo, emo, sn, hs, rfl, h1, h2, h3, h4, h5, h6, h7, h8, hn, hok, rfl⟩ := W
  refine ⟨sn, List.mem_append_right _ (List.mem_append_left _ ?_)⟩
  rw [List.map_map]
  exact .head _
theorem nd_uniq {l : Led} (hn : (adr l).Nodup) {a : Addr} {o o' : Obj} (h : (a, o) ∈ l) (h' : (a, o') ∈ l) : o = o' := by
  induction l with
  | nil => cases h
  | cons q r ih =>
    obtain ⟨h1, h2⟩ := List.nodup_cons.mp (show (q.1 :: adr r).Nodup from hn)
    rcases List.mem_cons.mp h with e | h
    · rcases List.mem_cons.mp h' with e' | h'
      · exact (Prod.ext_iff.mp (e.trans e'.symm)).2
      · exact absurd (mem_adr h') (by rw [show q.1 = a from (congrArg Prod.fst e).symm] at h1; exact h1)
    · rcases List.mem_cons.mp h' with e' | h'
      · exact absurd (mem_adr h) (by rw [show q.1 = a from (congrArg Prod.fst e').symm] at h1; exact h1)
      · exact ih h2 h h'
end
section
local macro_rules | `(tactic| walk_at "exec For") => `(tactic| refine stop ?_)
local macro_rules | `(tactic| walk_at "exec For Name") => `(tactic| refine stop ?_)
local macro_rules | `(tactic| walk_at "pyIter ref") => `(tactic| refine stop ?_)
local macro_rules | `(tactic| walk_at "call ref") => `(tactic| ((with_reducible show wpAny _ _ (call (Value.ref 345) _ _) _ _ _); refine stop ?_))
local macro_rules | `(tactic| walk_at "my nothing") => `(tactic| skip)
noncomputable abbrev lawM4 (L fa : Addr) (cdv : Value) (l ci sh st z1 z2 z3 z4 a1 a2 a3 a4 : Addr) (tv : Option Value) : Str → Option Value := lawLR a1 a2 (lawLR a3 a4 (lawM2 L fa cdv l ci sh st z1 z2 z3 z4 tv))
section
variable {prog : Program} {w : World} {p : Program} {loose : List Str} {mean : ExcName → Option Value} {mg mb : Str → Option Value} {base g : Heap} {L fa : Addr} {cdv : Value} {l : Addr}
  {c : Cn} {sh st z1 z2 z3 z4 a1 a2 a3 a4 : Addr} {tv : Option Value} {n : Nat} {σ : List (Addr × List Str)} {foc : Led}
  {s : Shared} {Q : Flow → Shared → Prop}
theorem law_f (B : Below callerA base [] g) (X : (K w.params).In g) (T : Top p loose mean mg mb g)
    (F : Fr g L s.heap (lawM4 L fa cdv l c.ci sh st z1 z2 z3 z4 a1 a2 a3 a4 tv)) (N : News g L s.heap foc)
    (W : Wd prog w c sh n σ foc) (hn1 : n ≤ 400)
    (k : ∀ h' tk' foc' mv, Fr g L h' (fun y => if y = "made" then mv else lawM4 L fa cdv l c.ci sh st z1 z2 z3 z4 a1 a2 a3 a4 tv y) → News g L h' foc' → Wd prog w c sh 800 (σ.map fun p => (p.1, [])) foc' →
      wpAny (model prog w) (callerA.deeper (lawEnv L fa cdv)) (execs (b541.drop 14) (lawEnv L fa cdv)) Q (fun _ _ => False) { s with heap := h', toks := tk' }) :
    wpAny (model prog w) (callerA.deeper (lawEnv L fa cdv)) (exec (nth b541 13) (lawEnv L fa cdv)) (fun f s' => match f with | .next => wpAny (model prog w) (callerA.deeper (lawEnv L fa cdv)) (execs (b541.drop 14) (lawEnv L fa cdv)) Q (fun _ _ => False) s' | f => Q f s') (fun _ _ => False) s := by
  have hlen := W.short
  show wpAny _ _ (exec (Stmt.For _ _ _ _ _) _) _ _ _
  refine For_invVF F (by rfl) (by rfl) ?_
  k_steps
  show wpAny _ _ _ _ _ _
  obtain ⟨sn, hsh⟩ := W.shelf
  refine iter_list (l := sh) (vs := σ.map fun p => Value.ref p.1) (fun i m nx => (∀ z : Str, z ≠ "made" → m z = lawM4 L fa cdv l c.ci sh st z1 z2 z3 z4 a1 a2 a3 a4 tv z) ∧ Wd prog w c sh (n + i) (((σ.take i).map fun p => (p.1, [])) ++ σ.drop i) nx ∧ (sh, PySem.W.listOf (σ.map fun p => Value.ref p.1).toArray sn) ∈ nx)
    rfl (N.isList hsh) (.inr ⟨_, fun i m nx h => h.2.2⟩) (fun i m nx h => h.2.1.noIt) F N ⟨fun _ _ => rfl, W, hsh⟩ ?_ ?_
  · rintro i v m₁ nx h tk I io hv ⟨hm, W', hs'⟩ hJ F1 N1
    obtain ⟨⟨x, ks⟩, hx, rfl⟩ : ∃ q, σ[i]? = some q ∧ v = Value.ref q.1 := by
      rw [List.getElem?_map] at hv
      cases hq : σ[i]? with
      | none => rw [hq] at hv; cases hv
      | some q => rw [hq] at hv; exact ⟨q, rfl, (Option.some.inj hv).symm⟩
    have hi : i < σ.length := (List.getElem?_eq_some_iff.mp hx).1
    have hd : σ.drop i = (x, ks) :: σ.drop (i + 1) := by
      rw [List.drop_eq_getElem_cons hi]
      congr 1
      exact (List.getElem?_eq_some_iff.mp hx).2
    rw [hd] at W'
    have e : (fun y : Str => if y = "made" then some (Value.ref x) else m₁ y) = (fun y : Str => if y = "made" then some (Value.ref x) else lawM4 L fa cdv l c.ci sh st z1 z2 z3 z4 a1 a2 a3 a4 tv y) := by
      funext y
      split
      · rfl
      · next hy => exact hm y hy
    rw [e] at F1
    have apI : Apart [(I, io)] nx := apart_cons hJ apart_nil_left
    show wpAny _ _ (execs (_ :: _) _) _ _ _
    k_steps
    show wpAny _ _ _ _ _ _
    refine Spec.use (wClear2 W' (by omega)) [(I, io)] rfl rfl (Nat.le_of_ble_eq_true rfl) (Nat.le_of_ble_eq_true rfl) ⟨B, X, T, rfl, rfl⟩ F1 N1 (fun _ h => List.mem_append_right _ h) (fun _ h => List.mem_append_left _ h) apI (fun _ h => nomatch h) ?_
    rintro v foc2 h2 tk2 F2 N2 ap2 ⟨rfl, W2, o, ho1, ho2⟩
    try dsimp only
    have eo : o = PySem.W.listOf (σ.map fun p => Value.ref p.1).toArray sn := nd_uniq W'.nd ho1 hs'
    k_steps
    refine ⟨_, _, _, foc2, rfl, F2, subNews N2 ?_, fun y hy => if_neg hy, ?_, eo ▸ ho2⟩
    · intro q hq
      rcases List.mem_append.mp hq with hq | hq
      · exact List.mem_append_right _ hq
      · exact List.mem_append_left _ hq
    · have et : ((σ.take (i + 1)).map fun p : Addr × List Str => (p.1, ([] : List Str))) ++ σ.drop (i + 1) = ((σ.take i).map fun p : Addr × List Str => (p.1, ([] : List Str))) ++ (x, []) :: σ.drop (i + 1) := by
        rw [List.take_add_one, hx, List.map_append, List.append_assoc]
        rfl
      rw [et]
      exact W2
  · rintro h' tk' m' nx F3 N3 ⟨hm, W', hs'⟩
    rw [List.length_map, List.take_length, List.drop_length, List.append_nil] at W'
    rw [setX5 hm] at F3
    exact k h' tk' nx (m' "made") F3 N3 (W'.mono (by omega))
end
end
section
variable {prog : Program} {w : World} {p : Program} {loose : List Str} {mean : ExcName → Option Value} {mg mb : Str → Option Value} {base g : Heap} {L fa : Addr} {cdv : Value} {l : Addr}
  {c : Cn} {sh st z1 z2 z3 z4 a1 a2 a3 a4 : Addr} {tv mv : Option Value} {n : Nat} {τ : List (Addr × List Str)} {foc : Led}
  {s : Shared} {Q : Flow → Shared → Prop} {E : Value → Shared → Prop}
theorem law_g (B : Below callerA base [] g) (X : (K w.params).In g) (T : Top p loose mean mg mb g)
    (F : Fr g L s.heap (fun y => if y = "made" then mv else lawM4 L fa cdv l c.ci sh st z1 z2 z3 z4 a1 a2 a3 a4 tv y)) (N : News g L s.heap foc)
    (W : Wd prog w c sh n τ foc) (hn1 : n ≤ 900) (hτ : ∀ q ∈ τ, q.2 = []) (k : ∀ h' tk' m', Fr g L h' m' → Q (.ret (.bool true)) { s with heap := h', toks := tk' }) :
    wpAny (model prog w) (callerA.deeper (lawEnv L fa cdv)) (execs (b541.drop 14) (lawEnv L fa cdv)) Q E s := by
  have hlen := W.short
  show wpAny _ _ (execs (_ :: _) _) _ _ _
  k_steps
  show wpAny _ _ _ _ _ _
  refine LCt.ListComp_T (F₀ := F) (by with_unfolding_all rfl) (by decide) (by rfl) (by decide) (by rfl) ?_
  k_steps
  show LCt.CompSrcT _ _ _ _ _ _ _ _ _ _ _ _ _ _ _
  obtain ⟨sn, hsh⟩ := W.shelf
  refine LCt.CompSrcT.ledger (ax := sh) (its := (τ.map fun p => Value.ref p.1).toArray) (k := sn) rfl F N hsh (by rw [sizeLine_eq, List.size_toArray, List.length_map]; omega) ?_
  intro g'
  refine compRestT_of (τ.map fun p => Value.ref p.1).toArray.size (fun i ys news => ys = [] ∧ Wd prog w c sh n τ news) ?_ ?_ _ 0 [] _ (Nat.zero_add _) ⟨rfl, W⟩
  · rintro i ys news v I oI C oC D m₂ h tk E' hi ⟨rfl, W'⟩ hP hC hxx F1 N1 off ne
    obtain ⟨⟨x, ks⟩, hx, rfl⟩ : ∃ q, q ∈ τ ∧ v = Value.ref q.1 := by
      have hv : (τ.map fun p => Value.ref p.1)[i]? = some v := by simpa using hP
      rw [List.getElem?_map] at hv
      cases hq : τ[i]? with
      | none => rw [hq] at hv; cases hv
      | some q => rw [hq] at hv; exact ⟨q, List.mem_of_getElem? hq, (Option.some.inj hv).symm⟩
    obtain rfl : ks = [] := hτ _ hx
    have off3 := off.mem
    obtain ⟨ne1, ne2, ne3⟩ := ne
    have ap5 : Apart [(I, oI), (C, oC), (D, LCg.lst [])] news := apart_cons (fun z hz => (off3 z hz).1) (apart_cons (fun z hz => (off3 z hz).2.1) (apart_cons (fun z hz => (off3 z hz).2.2) apart_nil_left))
    clear N
    k_steps
    show wpAny _ _ _ _ _ _
    rename Fr _ _ _ _ => F3
    refine Spec.use (wCount W' hx) [(I, oI), (C, oC), (D, LCg.lst [])] rfl rfl (Nat.le_of_ble_eq_true rfl) (Nat.le_of_ble_eq_true rfl) ⟨B, X, T, rfl, rfl⟩ F3
      (news := [(I, oI), (C, oC), (D, LCg.lst [])] ++ news) N1 (fun q hq => List.mem_append_left _ hq) (fun q hq => List.mem_append_right _ hq) ap5 (fun _ h => nomatch h) ?_
    rintro v foc5 h5 tk5 F5 N5 ap5' ⟨t, rfl, rfl⟩
    rw [show ((([] : List Str).length : Nat) : Int) = 0 from rfl]
    try dsimp only
    clear N1
    k_steps
    show wpAny _ _ _ _ _ _
    refine Spec.use (wKeys W' hx) [(I, oI), (C, oC), (D, LCg.lst [])] rfl rfl (Nat.le_of_ble_eq_true rfl) (Nat.le_of_ble_eq_true rfl) ⟨B, X, T, rfl, rfl⟩ F5
      N5 (fun q hq => List.mem_append_left _ hq) (fun q hq => List.mem_append_right _ hq) ap5' (fun _ h => nomatch h) ?_
    rintro v foc6 h6 tk6 F6 N6 ap6 ⟨l6, vs6, nn6, fw, rfl, hS, rfl, W6, ap7⟩
    cases hS
    obtain ⟨apa, apb⟩ := apart_app.mp ap6
    try dsimp only
    clear N5
    k_steps
    show wpAny _ _ _ _ _ _
    rename Fr _ _ _ _ => F7
    rename News _ _ _ _ => N7
    refine ne_strs (xs := []) (ys := []) (N7.isList (.tail _ (List.mem_append_right _ (List.mem_append_left _ (.head _))))) (N7.isList (.head _)) .nil .nil (fun _ h => nomatch h) (fun _ h => nomatch h) (Nat.le_of_ble_eq_true rfl) ?_
    rw [decide_eq_true rfl]
    k_steps
    show LCg.CompEnd _ _ _ _ _ _ _ _ _ _ _ _ _ _
    obtain ⟨sn6, hsh6⟩ := W6.shelf
    refine LCg.CompEnd.intro F7 N7 fw ?_ (LCg.Off3.of fun q hq => ⟨fun e => apb _ (.head _) q hq e.symm, fun e => apb _ (.tail _ (.head _)) q hq e.symm, fun e => apb _ (.tail _ (.tail _ (.head _))) q hq e.symm⟩) (.inr ⟨_, hsh6, rfl, _, rfl⟩) ⟨rfl, W6⟩
    intro q hq
    rcases List.mem_append.mp (show q ∈ [(I, oI), (C, oC), (D, LCg.lst [])] ++ fw from hq) with hq | hq
    · exact .tail _ (List.mem_append_left _ hq)
    · exact .tail _ (List.mem_append_right _ (List.mem_append_right _ hq))
  · rintro ys news ⟨rfl, W'⟩
    intro D h tk F1 N1 off1
    try dsimp only
    clear N
    k_steps
    show wpAny _ _ _ _ _ _
    rename Fr _ _ _ _ => F7
    rename News _ _ _ _ => N7
    refine eq_strs (xs := []) (ys := []) (N7.isList (.tail _ (.head _))) (N7.isList (.head _)) .nil .nil (fun _ h => nomatch h) (fun _ h => nomatch h) (Nat.le_of_ble_eq_true rfl) ?_
    rw [decide_eq_true rfl]
    k_steps
    exact k _ _ _ F7
end
section
variable {prog : Program} {w : World} {p : Program} {loose : List Str} {mean : ExcName → Option Value} {mg mb : Str → Option Value} {base g : Heap} {L fa : Addr} {cdv : Value} {oc : Obj} {l : Addr} {vs : List Value} {is : List Int}
  {s : Shared} {Q : Flow → Shared → Prop}
theorem law_body (B : Below callerA base [] g) (X : (K w.params).In g) (X2 : Hid ((K2 w.params).In g)) (T : Top p loose mean mg mb g) (F : Fr g L s.heap (lawM0 L fa cdv l)) (N : News g L s.heap [(L + 1, oc)]) (dc : oc.data = .cell none)
    (hl : g.IsList l vs.toArray) (hI : IntsAre vs is) (hn : is.length ≤ 63) (k : ∀ h' tk' m', Fr g L h' m' → Q (.ret (.bool true)) { s with heap := h', toks := tk' }) :
    wpAny (model prog w) (callerA.deeper (lawEnv L fa cdv)) (execs b541 (lawEnv L fa cdv)) Q (fun _ _ => False) s := by
  refine law_a B X X2 T F N dc hl hI hn ?_
  intro c sh oc' r r0 ws js t st h1 tk1 foc1 F1 N1 ap1 W1 dc1 n3 n4 n5 n6 n7 n8 hI1 hn1
  refine law_b B X T dc1 n3 n4 n5 n6 n7 n8 hI1 hn1 F1 N1 ap1 W1 ?_
  intro z1 z2 z3 k1 k2 k3 tv tn' h2 tk2 foc2 F2 N2 ap2 W2
  refine law_c B X T F2 N2 ap2 W2 ?_
  intro z4 h3 tk3 foc3 τ F3 N3 W3
  refine law_d B X T F3 N3 W3 (by omega) (List.mem_append_left _ (.head _)) (List.mem_append_left _ (.tail _ (.head _))) (List.mem_append_left _ (.tail _ (.tail _ (.head _)))) ?_
  intro a3 a4 h4 tk4 foc4 τ4 F4 N4 W4
  refine law_e B X T F4 N4 W4 (by omega) (List.mem_append_left _ (List.mem_append_left _ (.head _))) (List.mem_append_left _ (List.mem_append_left _ (.tail _ (.head _)))) (List.mem_append_left _ (List.mem_append_left _ (.tail _ (.tail _ (.head _))))) ?_
  intro a1 a2 h5 tk5 foc5 τ5 F5 N5 W5
  refine law_f B X T F5 N5 W5 (by omega) ?_
  intro h6 tk6 foc6 mv F6 N6 W6
  refine law_g B X T F6 N6 W6 (by omega) ?_ fun h' tk' m' F' => k h' tk' m' F'
  intro q hq
  obtain ⟨z, _, rfl⟩ := List.mem_map.mp hq
  rfl
end
end
end
end Mine
set_option maxHeartbeats 8000000 in
theorem PySem.Challenge.cw_sz0090_01_holds : PySem.Challenge.rw_sz0090_01.Holds := by
  w_on
  o_law
  refine holds_open (q := view Mine.pg Mine.keepIx) (loose := Mine.lo1) (Xt := Mine.topXt Mine.pg) (XP := XL (view Mine.pg Mine.keepIx) []) (Yf := Hook.obs Mine.hk) (Ya := Hook.val Mine.hk) (YP := Hook.says Mine.hk) (N := 12 + (1 + (1063 + (1140 + (980 + (1127 + 2)))))) Mine.left0 (Hook.of Mine.hk) (Hook.keeps Mine.hk) (fun s e => xl_of s (Bool.and_eq_true_iff.mp e).1) XL.keeps (by rfl) (by rfl) (by rfl) (fun s e => recFacts_of (Bool.and_eq_true_iff.mp e).2) (by rfl) (by first | assumption | decide +kernel) (by decide +kernel) ⟨rfl, rfl, rfl, rfl, rfl, by decide +kernel⟩ ?hw ?hc
  case hw => w_witness2
  k_go0
  rename (Mine.K2 _).In _ => KX
  rename Below callerA _ _ _ => KB
  rename Top _ _ _ _ _ _ => KT
  rename Fr _ _ _ _ => KF
  rename News _ _ _ _ => KN
  rename CellsAre _ _ _ => KC
  rename IntsAre _ _ => KI
  rename Heap.IsList _ _ _ => KL
  rename ¬ _ => KH
  rename _ = Data.cell _ => KD
  refine wpAny_mono (Mine.law_body KB (Mine.k2_in KX) KX KT KF KN KD KL KI (by omega) ?_) (fun _ _ h => h) fun _ _ h => h.elim
  intro h' tk' m' KE
  clear KF KN KC KD
  show GoodW _ _ _ _ _ (Except.ok (Flow.ret (Value.bool true))) _
  k_steps
