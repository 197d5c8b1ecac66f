import PyProof.Rows.All
import Wide.All
import OpenK.AllK
import Wide.FinOn
import Lean
import PySem.Challenge.RW_pb0209_01
open PySem PySem.W PySem.Calls PyProof.Rows
set_option Elab.async false
set_option linter.all false
set_option maxRecDepth 100000
set_option maxHeartbeats 0
set_option compiler.extract_closed false
section
namespace Mine
noncomputable section
noncomputable abbrev pw : Program := PySem.Challenge.pw_pb0209_01
structure Df where
  args : Arguments
  body : List Stmt
  scope : Scope
noncomputable def dfNone : Df := ⟨⟨[], [], none, [], [], none, []⟩, [], { kind := .function, names := [], isGenerator := false, isCoroutine := false, more := [] }⟩
noncomputable def dfOf : Stmt → Df
  | .FunctionDef _ a b _ _ _ sc _ _ _ => ⟨a, b, sc⟩
  | _ => dfNone
noncomputable def stAt (i : Nat) : Stmt := (pw.main.body)[i]?.getD (.Pass default)
noncomputable def inCl : Stmt → Nat → Stmt
  | .ClassDef _ _ _ b _ _ _ _ _ _ _, j => b[j]?.getD (.Pass default)
  | _, _ => .Pass default
noncomputable def fnAt (i : Nat) : Df := dfOf (stAt i)
noncomputable def mtAt (i j : Nat) : Df := dfOf (inCl (stAt i) j)
noncomputable abbrev vs (s : String) (t : Nat) : Value := .str (Str.ofString s) t
noncomputable abbrev en (P : Params) (s : String) (t : Nat) (v : Value) : DictEntry := ⟨PyData.keyHash P (Str.ofString s), .str (Str.ofString s) t, v⟩
noncomputable abbrev fnD (d : Df) (name qual : Str) (scope : Scope) (g : Nat) (cl : List (Str × Addr)) (dv kv doc pm : Value) (an : Option Addr) (cd ct : Value) (b : Nat) : FuncData :=
  { name := name, qualname := qual, params := d.args, body := .stmts d.body, scope := scope, globals := g, closure := cl, defaults := dv, kwdefaults := kv, doc := doc, pyModule := pm, annotations := an, code := cd, closureTuple := ct, builtins := b }
noncomputable abbrev clD (name : Str) (bases mro : List Value) (ns : Nat) (qual : Str) (hd : Bool) (sl : List Str) (sub : List Value) (ab : Bool) (co : Option Bool) (de : Bool) : ClassData :=
  { name := name, bases := bases, mro := mro, ns := ns, qualname := qual, hasDict := hd, slotNames := sl, subclasses := sub, abstract := ab, collection := co, hasDel := de }
noncomputable abbrev N := BT.node
noncomputable abbrev E := BT.nil
noncomputable abbrev S (x : String) : Str := Str.ofString x
noncomputable abbrev Z {α : Type} (l : List α) : Array α := List.toArray l
noncomputable abbrev j (n : Int) : Value := .int n 0
noncomputable abbrev tu (l : List Value) : Obj := ⟨(.type "tuple"), none, .seq (Z l) 0, Z []⟩
noncomputable abbrev cO (l : List Value) : Obj := ⟨(.type "code"), none, .fields (Z l), Z []⟩
noncomputable abbrev nO (l : List Value) : Obj := ⟨.none, none, .fields (Z l), Z []⟩
noncomputable abbrev fO (l : List (Option Value)) : Obj := ⟨(.type "frame"), none, .plain, Z l⟩
noncomputable abbrev r (a : Addr) : Value := .ref a
noncomputable abbrev fG (d : Df) (n q : String) : Obj := ⟨.none, none, .func (fnD d (S n) (S q) d.scope 0 [] .none .none .none .none none .none .none 0), Z []⟩
noncomputable abbrev fF (d : Df) (n q : String) (g : Nat) (dc pm cd : Value) : Obj := ⟨(.type "function"), none, .func (fnD d (S n) (S q) d.scope g [] .none .none dc pm none cd .none 0), Z []⟩
def o11 (P : Params) : Obj := tu []
def o12 (P : Params) : Obj := nO []
def o13 (P : Params) : Obj := cO [(vs "<module>" 182), (vs "<module>" 183), (vs "/claim/cut.py" 184), (j 1), (j 0), (j 0), (j 0), (j 0), (r 11), (.bool false), (j 181), (r 12), .none, .none, .none, .none, (j 185), (j 1), (vs "/claim/cut.py" 186)]
def o14 (P : Params) : Obj := fO [(some (r 13)), (some (r 3)), (some (r 3)), none, (some (vs "__main__" 164)), none, (some (r 0))]
def o3v4 (P : Params) : Obj := ⟨(.type "dict"), none, .dict (Z [en P "__name__" 165 (vs "joinedhand.marks" 771), en P "__doc__" 166 .none, en P "__package__" 167 .none, en P "__loader__" 168 (.builtin "__main__.__loader__#opaque"), en P "__spec__" 169 .none, en P "__annotations__" 170 (r 6), en P "__builtins__" 171 (r 4), en P "__file__" 173 (vs "/claim/cut.py" 172), en P "__cached__" 174 .none, en P "_wall" 193 (r 21), en P "RIGHT_TO_LEFT" 197 (.int 1 196), en P "IGNORE_BASES" 199 (.int 2 198), en P "IGNORE_LIGATURES" 201 (.int 4 200), en P "IGNORE_MARKS" 203 (.int 8 202), en P "USE_SET" 205 (.int 16 204), en P "Lookup" 246 (r 43), en P "Scene" 287 (r 65), en P "attach_wanted" 294 (r 76), en P "class_bit" 301 (r 83), en P "is_ignored" 312 (r 90), en P "passes" 320 (r 97), en P "nested_scene" 329 (r 104), en P "Info" 392 (r 135), en P "Buffer" 458 (r 188), en P "hang" 464 (r 197), en P "KINDS_IN_INPUT" 469 (r 198), en P "KINDS_AROUND" 473 (r 199), en P "fits" 481 (r 206), en P "neighbour" 491 (r 213), en P "next_at" 499 (r 220), en P "before_at" 507 (r 227), en P "is_borne" 515 (r 234), en P "found_at" 529 (r 241), en P "input_at" 541 (r 248), en P "last_at" 553 (r 255), en P "ahead_at" 562 (r 262), en P "back_at" 571 (r 269), en P "Anchor" 611 (r 293), en P "told_anchor" 618 (r 304), en P "difference" 626 (r 311), en P "told_marks" 632 (r 316), en P "BOND" 636 (vs "cursive" 635), en P "Cursive" 693 (r 357), en P "join_forward" 704 (r 368), en P "join_backward" 715 (r 375), en P "loosen" 722 (r 382), en P "turn_chain" 736 (r 389), en P "break_ring" 747 (r 396), en P "tie" 757 (r 403), en P "apply_cursive" 770 (r 410), en P "MARK_GLYPH" 774 (.int 3 773), en P "classes_of" 780 (r 415)]) 52, Z []⟩
def o12v5 (P : Params) : Obj := nO [(j 1), (j 0), (r 20), (j 10), (j 0), (r 27), (j 21), (j 0), (r 53), (j 31), (j 0), (r 75), (j 33), (j 0), (r 82), (j 35), (j 0), (r 89), (j 45), (j 0), (r 96), (j 47), (j 0), (r 103), (j 54), (j 0), (r 110), (j 93), (j 0), (r 145), (j 115), (j 0), (r 196), (j 126), (j 0), (r 205), (j 132), (j 0), (r 212), (j 139), (j 0), (r 219), (j 141), (j 0), (r 226), (j 143), (j 0), (r 233), (j 145), (j 0), (r 240), (j 156), (j 0), (r 247), (j 166), (j 0), (r 254), (j 173), (j 0), (r 261), (j 175), (j 0), (r 268), (j 178), (j 0), (r 275), (j 186), (j 0), (r 303), (j 188), (j 0), (r 310), (j 190), (j 0), (r 315), (j 194), (j 0), (r 322), (j 210), (j 0), (r 367), (j 215), (j 0), (r 374), (j 220), (j 0), (r 381), (j 223), (j 0), (r 388), (j 237), (j 0), (r 395), (j 247), (j 0), (r 402), (j 253), (j 0), (r 409), (j 274), (j 0), (r 414)]
def o17 (P : Params) : Obj := tu [(vs "k" 190)]
def o19 (P : Params) : Obj := fG (fnAt 0) "_wall" "_wall"
def o20 (P : Params) : Obj := cO [(vs "_wall" 187), (vs "_wall" 188), (vs "/claim/cut.py" 189), (j 1), (j 1), (j 0), (j 0), (j 3), (r 15), (.bool true), (j 181), (r 16), .none, (r 17), (r 18), (r 19), (j 191), (j 1), (vs "/claim/cut.py" 192)]
def o21 (P : Params) : Obj := fF (fnAt 0) "_wall" "_wall" 3 .none (vs "__main__" 164) (r 20)
def o23 (P : Params) : Obj := ⟨(.type "builtin_function_or_method"), none, .fields (Z [(.builtin "type.__prepare__"), (.type "type")]), Z []⟩
def o24 (P : Params) : Obj := ⟨(.type "dict"), none, .dict (Z [en P "__module__" 213 (vs "joinedhand.flags" 194), en P "__qualname__" 215 (vs "Lookup" 214), en P "__firstlineno__" 217 (.int 10 216), en P "__init__" 228 (r 35), en P "told" 234 (r 40), en P "__static_attributes__" 239 (r 41)]) 6, Z []⟩
def o26 (P : Params) : Obj := nO [(j 12), (j 4), (r 34), (j 18), (j 4), (r 39)]
def o27 (P : Params) : Obj := cO [(vs "Lookup" 208), (vs "Lookup" 209), (vs "/claim/cut.py" 210), (j 10), (j 0), (j 0), (j 0), (j 0), (r 25), (.bool false), (j 181), (r 26), .none, .none, .none, .none, (j 211), (j 10), (vs "/claim/cut.py" 212)]
def o28 (P : Params) : Obj := fO [(some (r 27)), (some (r 3)), (some (r 24)), none, (some (vs "joinedhand.flags" 194)), none, (some (r 0))]
def o31 (P : Params) : Obj := tu [(vs "self" 221), (vs "kind" 222), (vs "flag" 223), (vs "mark_set" 224), (vs "tables" 225)]
def o33 (P : Params) : Obj := fG (mtAt 7 0) "__init__" "Lookup.__init__"
def o34 (P : Params) : Obj := cO [(vs "__init__" 218), (vs "Lookup.__init__" 219), (vs "/claim/cut.py" 220), (j 12), (j 5), (j 0), (j 0), (j 3), (r 29), (.bool true), (j 181), (r 30), .none, (r 31), (r 32), (r 33), (j 226), (j 12), (vs "/claim/cut.py" 227)]
def o35 (P : Params) : Obj := fF (mtAt 7 0) "__init__" "Lookup.__init__" 3 .none (vs "joinedhand.flags" 194) (r 34)
def o38 (P : Params) : Obj := fG (mtAt 7 1) "told" "Lookup.told"
def o39 (P : Params) : Obj := cO [(vs "told" 229), (vs "Lookup.told" 230), (vs "/claim/cut.py" 231), (j 18), (j 1), (j 0), (j 0), (j 3), (r 36), (.bool true), (j 181), (r 37), .none, .none, .none, (r 38), (j 232), (j 18), (vs "/claim/cut.py" 233)]
def o40 (P : Params) : Obj := fF (mtAt 7 1) "told" "Lookup.told" 3 .none (vs "joinedhand.flags" 194) (r 39)
def o41 (P : Params) : Obj := tu [(vs "flag" 235), (vs "kind" 236), (vs "mark_set" 237), (vs "tables" 238)]
def o42 (P : Params) : Obj := ⟨(.type "dict"), none, .dict (Z [en P "__module__" 213 (vs "joinedhand.flags" 194), en P "__firstlineno__" 217 (.int 10 216), en P "__init__" 228 (r 35), en P "told" 234 (r 40), en P "__static_attributes__" 239 (r 41), en P "__dict__" 241 (r 44), en P "__weakref__" 243 (r 45), en P "__doc__" 244 .none]) 4, Z []⟩
def o43 (P : Params) : Obj := ⟨(.type "type"), none, .cls (clD (S "Lookup") [(.type "object")] [(r 43), (.type "object")] 42 (S "Lookup") true [] [] false none false), Z [none, none, (some (vs "Lookup" 206)), (some (vs "Lookup" 214)), (some (.builtin "object.__new__")), (some (.bool true))]⟩
def o44 (P : Params) : Obj := ⟨(.type "getset_descriptor"), none, .fields (Z [(vs "__dict__" 240), (r 43), (.builtin "function.__dict__"), (.builtin "function.__dict__#set")]), Z []⟩
def o45 (P : Params) : Obj := ⟨(.type "getset_descriptor"), none, .fields (Z [(vs "__weakref__" 242), (r 43), (.builtin "ExceptionGroup.__weakref__"), .none]), Z []⟩
def o46 (P : Params) : Obj := ⟨(.type "super"), none, .fields (Z [(r 43), (r 43), (r 43)]), Z []⟩
def o47 (P : Params) : Obj := ⟨(.type "builtin_function_or_method"), none, .fields (Z [(.builtin "object.__init_subclass__"), (r 43)]), Z []⟩
def o50 (P : Params) : Obj := ⟨(.type "dict"), none, .dict (Z [en P "__module__" 254 (vs "joinedhand.flags" 194), en P "__qualname__" 256 (vs "Scene" 255), en P "__firstlineno__" 258 (.int 21 257), en P "__init__" 272 (r 62), en P "__static_attributes__" 280 (r 63)]) 5, Z []⟩
def o52 (P : Params) : Obj := nO [(j 23), (j 4), (r 61)]
def o53 (P : Params) : Obj := cO [(vs "Scene" 249), (vs "Scene" 250), (vs "/claim/cut.py" 251), (j 21), (j 0), (j 0), (j 0), (j 0), (r 51), (.bool false), (j 181), (r 52), .none, .none, .none, .none, (j 252), (j 21), (vs "/claim/cut.py" 253)]
def o54 (P : Params) : Obj := fO [(some (r 53)), (some (r 3)), (some (r 50)), none, (some (vs "joinedhand.flags" 194)), none, (some (r 0))]
def o55 (P : Params) : Obj := tu [(.int 0 259)]
def o58 (P : Params) : Obj := tu [(vs "self" 263), (vs "buffer" 264), (vs "gdef" 265), (vs "lookups" 266), (vs "lookup" 267), (vs "mask" 268), (vs "depth" 269)]
def o60 (P : Params) : Obj := fG (mtAt 8 0) "__init__" "Scene.__init__"
def o61 (P : Params) : Obj := cO [(vs "__init__" 260), (vs "Scene.__init__" 261), (vs "/claim/cut.py" 262), (j 23), (j 7), (j 0), (j 0), (j 3), (r 56), (.bool true), (j 181), (r 57), .none, (r 58), (r 59), (r 60), (j 270), (j 23), (vs "/claim/cut.py" 271)]
def o62 (P : Params) : Obj := ⟨(.type "function"), none, .func (fnD (mtAt 8 0) (S "__init__") (S "Scene.__init__") (mtAt 8 0).scope 3 [] (r 55) .none .none (vs "joinedhand.flags" 194) none (r 61) .none 0), Z []⟩
def o63 (P : Params) : Obj := tu [(vs "buffer" 273), (vs "depth" 274), (vs "gdef" 275), (vs "lookup" 276), (vs "lookups" 277), (vs "mask" 278), (vs "steps" 279)]
def o64 (P : Params) : Obj := ⟨(.type "dict"), none, .dict (Z [en P "__module__" 254 (vs "joinedhand.flags" 194), en P "__firstlineno__" 258 (.int 21 257), en P "__init__" 272 (r 62), en P "__static_attributes__" 280 (r 63), en P "__dict__" 282 (r 66), en P "__weakref__" 284 (r 67), en P "__doc__" 285 .none]) 4, Z []⟩
def o65 (P : Params) : Obj := ⟨(.type "type"), none, .cls (clD (S "Scene") [(.type "object")] [(r 65), (.type "object")] 64 (S "Scene") true [] [] false none false), Z [none, none, (some (vs "Scene" 247)), (some (vs "Scene" 255)), (some (.builtin "object.__new__")), (some (.bool true))]⟩
def o66 (P : Params) : Obj := ⟨(.type "getset_descriptor"), none, .fields (Z [(vs "__dict__" 281), (r 65), (.builtin "function.__dict__"), (.builtin "function.__dict__#set")]), Z []⟩
def o67 (P : Params) : Obj := ⟨(.type "getset_descriptor"), none, .fields (Z [(vs "__weakref__" 283), (r 65), (.builtin "ExceptionGroup.__weakref__"), .none]), Z []⟩
def o68 (P : Params) : Obj := ⟨(.type "super"), none, .fields (Z [(r 65), (r 65), (r 65)]), Z []⟩
def o69 (P : Params) : Obj := ⟨(.type "builtin_function_or_method"), none, .fields (Z [(.builtin "object.__init_subclass__"), (r 65)]), Z []⟩
def o72 (P : Params) : Obj := tu [(vs "flag" 291)]
def o74 (P : Params) : Obj := fG (fnAt 9) "attach_wanted" "attach_wanted"
def o75 (P : Params) : Obj := cO [(vs "attach_wanted" 288), (vs "attach_wanted" 289), (vs "/claim/cut.py" 290), (j 31), (j 1), (j 0), (j 0), (j 3), (r 70), (.bool true), (j 181), (r 71), .none, (r 72), (r 73), (r 74), (j 292), (j 31), (vs "/claim/cut.py" 293)]
def o76 (P : Params) : Obj := fF (fnAt 9) "attach_wanted" "attach_wanted" 3 .none (vs "joinedhand.flags" 194) (r 75)
def o79 (P : Params) : Obj := tu [(vs "number" 298)]
def o81 (P : Params) : Obj := fG (fnAt 10) "class_bit" "class_bit"
def o82 (P : Params) : Obj := cO [(vs "class_bit" 295), (vs "class_bit" 296), (vs "/claim/cut.py" 297), (j 33), (j 1), (j 0), (j 0), (j 3), (r 77), (.bool true), (j 181), (r 78), .none, (r 79), (r 80), (r 81), (j 299), (j 33), (vs "/claim/cut.py" 300)]
def o83 (P : Params) : Obj := fF (fnAt 10) "class_bit" "class_bit" 3 .none (vs "joinedhand.flags" 194) (r 82)
def o86 (P : Params) : Obj := tu [(vs "gdef" 305), (vs "lookup" 306), (vs "glyph" 307), (vs "number" 308), (vs "wanted" 309)]
def o88 (P : Params) : Obj := fG (fnAt 11) "is_ignored" "is_ignored"
def o89 (P : Params) : Obj := cO [(vs "is_ignored" 302), (vs "is_ignored" 303), (vs "/claim/cut.py" 304), (j 35), (j 3), (j 0), (j 0), (j 3), (r 84), (.bool true), (j 181), (r 85), .none, (r 86), (r 87), (r 88), (j 310), (j 35), (vs "/claim/cut.py" 311)]
def o90 (P : Params) : Obj := fF (fnAt 11) "is_ignored" "is_ignored" 3 .none (vs "joinedhand.flags" 194) (r 89)
def o93 (P : Params) : Obj := tu [(vs "scene" 316), (vs "at" 317)]
def o95 (P : Params) : Obj := fG (fnAt 12) "passes" "passes"
def o96 (P : Params) : Obj := cO [(vs "passes" 313), (vs "passes" 314), (vs "/claim/cut.py" 315), (j 45), (j 2), (j 0), (j 0), (j 3), (r 91), (.bool true), (j 181), (r 92), .none, (r 93), (r 94), (r 95), (j 318), (j 45), (vs "/claim/cut.py" 319)]
def o97 (P : Params) : Obj := fF (fnAt 12) "passes" "passes" 3 .none (vs "joinedhand.flags" 194) (r 96)
def o100 (P : Params) : Obj := tu [(vs "scene" 324), (vs "number" 325), (vs "found" 326)]
def o102 (P : Params) : Obj := fG (fnAt 13) "nested_scene" "nested_scene"
def o103 (P : Params) : Obj := cO [(vs "nested_scene" 321), (vs "nested_scene" 322), (vs "/claim/cut.py" 323), (j 47), (j 2), (j 0), (j 0), (j 3), (r 98), (.bool true), (j 181), (r 99), .none, (r 100), (r 101), (r 102), (j 327), (j 47), (vs "/claim/cut.py" 328)]
def o104 (P : Params) : Obj := fF (fnAt 13) "nested_scene" "nested_scene" 3 .none (vs "joinedhand.flags" 194) (r 103)
def o107 (P : Params) : Obj := ⟨(.type "dict"), none, .dict (Z [en P "__module__" 339 (vs "joinedhand.buffer" 330), en P "__qualname__" 341 (vs "Info" 340), en P "__firstlineno__" 343 (.int 54 342), en P "__init__" 353 (r 118), en P "copied" 361 (r 125), en P "told" 368 (r 132), en P "__static_attributes__" 385 (r 133)]) 7, Z []⟩
def o109 (P : Params) : Obj := nO [(j 56), (j 4), (r 117), (j 74), (j 4), (r 124), (j 91), (j 4), (r 131)]
def o110 (P : Params) : Obj := cO [(vs "Info" 334), (vs "Info" 335), (vs "/claim/cut.py" 336), (j 54), (j 0), (j 0), (j 0), (j 0), (r 108), (.bool false), (j 181), (r 109), .none, .none, .none, .none, (j 337), (j 54), (vs "/claim/cut.py" 338)]
def o111 (P : Params) : Obj := fO [(some (r 110)), (some (r 3)), (some (r 107)), none, (some (vs "joinedhand.buffer" 330)), none, (some (r 0))]
def o114 (P : Params) : Obj := tu [(vs "self" 347), (vs "code" 348), (vs "glyph" 349), (vs "cluster" 350)]
def o116 (P : Params) : Obj := fG (mtAt 15 0) "__init__" "Info.__init__"
def o117 (P : Params) : Obj := cO [(vs "__init__" 344), (vs "Info.__init__" 345), (vs "/claim/cut.py" 346), (j 56), (j 4), (j 0), (j 0), (j 3), (r 112), (.bool true), (j 181), (r 113), .none, (r 114), (r 115), (r 116), (j 351), (j 56), (vs "/claim/cut.py" 352)]
def o118 (P : Params) : Obj := fF (mtAt 15 0) "__init__" "Info.__init__" 3 .none (vs "joinedhand.buffer" 330) (r 117)
def o121 (P : Params) : Obj := tu [(vs "self" 357), (vs "found" 358)]
def o123 (P : Params) : Obj := fG (mtAt 15 1) "copied" "Info.copied"
def o124 (P : Params) : Obj := cO [(vs "copied" 354), (vs "Info.copied" 355), (vs "/claim/cut.py" 356), (j 74), (j 1), (j 0), (j 0), (j 3), (r 119), (.bool true), (j 181), (r 120), .none, (r 121), (r 122), (r 123), (j 359), (j 74), (vs "/claim/cut.py" 360)]
def o125 (P : Params) : Obj := fF (mtAt 15 1) "copied" "Info.copied" 3 .none (vs "joinedhand.buffer" 330) (r 124)
def o128 (P : Params) : Obj := tu [(vs "self" 365)]
def o130 (P : Params) : Obj := fG (mtAt 15 2) "told" "Info.told"
def o131 (P : Params) : Obj := cO [(vs "told" 362), (vs "Info.told" 363), (vs "/claim/cut.py" 364), (j 91), (j 1), (j 0), (j 0), (j 3), (r 126), (.bool true), (j 181), (r 127), .none, (r 128), (r 129), (r 130), (j 366), (j 91), (vs "/claim/cut.py" 367)]
def o132 (P : Params) : Obj := fF (mtAt 15 2) "told" "Info.told" 3 .none (vs "joinedhand.buffer" 330) (r 131)
def o133 (P : Params) : Obj := tu [(vs "bond" 369), (vs "cluster" 370), (vs "code" 371), (vs "glyph" 372), (vs "is_unsafe" 373), (vs "kind" 374), (vs "lig_count" 375), (vs "lig_id" 376), (vs "lig_part" 377), (vs "mask" 378), (vs "parent" 379), (vs "split_id" 380), (vs "x_advance" 381), (vs "x_offset" 382), (vs "y_advance" 383), (vs "y_offset" 384)]
def o134 (P : Params) : Obj := ⟨(.type "dict"), none, .dict (Z [en P "__module__" 339 (vs "joinedhand.buffer" 330), en P "__firstlineno__" 343 (.int 54 342), en P "__init__" 353 (r 118), en P "copied" 361 (r 125), en P "told" 368 (r 132), en P "__static_attributes__" 385 (r 133), en P "__dict__" 387 (r 136), en P "__weakref__" 389 (r 137), en P "__doc__" 390 .none]) 4, Z []⟩
def o135 (P : Params) : Obj := ⟨(.type "type"), none, .cls (clD (S "Info") [(.type "object")] [(r 135), (.type "object")] 134 (S "Info") true [] [] false none false), Z [none, none, (some (vs "Info" 332)), (some (vs "Info" 340)), (some (.builtin "object.__new__")), (some (.bool true))]⟩
def o136 (P : Params) : Obj := ⟨(.type "getset_descriptor"), none, .fields (Z [(vs "__dict__" 386), (r 135), (.builtin "function.__dict__"), (.builtin "function.__dict__#set")]), Z []⟩
def o137 (P : Params) : Obj := ⟨(.type "getset_descriptor"), none, .fields (Z [(vs "__weakref__" 388), (r 135), (.builtin "ExceptionGroup.__weakref__"), .none]), Z []⟩
def o138 (P : Params) : Obj := ⟨(.type "super"), none, .fields (Z [(r 135), (r 135), (r 135)]), Z []⟩
def o139 (P : Params) : Obj := ⟨(.type "builtin_function_or_method"), none, .fields (Z [(.builtin "object.__init_subclass__"), (r 135)]), Z []⟩
def o142 (P : Params) : Obj := ⟨(.type "dict"), none, .dict (Z [en P "__module__" 400 (vs "joinedhand.buffer" 330), en P "__qualname__" 402 (vs "Buffer" 401), en P "__firstlineno__" 404 (.int 93 403), en P "__init__" 413 (r 154), en P "glyphs" 419 (r 159), en P "clusters" 426 (r 166), en P "told" 432 (r 171), en P "next_lig" 439 (r 178), en P "next_split" 446 (r 185), en P "__static_attributes__" 451 (r 186)]) 10, Z []⟩
def o144 (P : Params) : Obj := nO [(j 95), (j 4), (r 153), (j 101), (j 4), (r 158), (j 104), (j 4), (r 165), (j 107), (j 4), (r 170), (j 110), (j 4), (r 177), (j 113), (j 4), (r 184)]
def o145 (P : Params) : Obj := cO [(vs "Buffer" 395), (vs "Buffer" 396), (vs "/claim/cut.py" 397), (j 93), (j 0), (j 0), (j 0), (j 0), (r 143), (.bool false), (j 181), (r 144), .none, .none, .none, .none, (j 398), (j 93), (vs "/claim/cut.py" 399)]
def o146 (P : Params) : Obj := fO [(some (r 145)), (some (r 3)), (some (r 142)), none, (some (vs "joinedhand.buffer" 330)), none, (some (r 0))]
def o147 (P : Params) : Obj := tu [(.bool false)]
def o150 (P : Params) : Obj := tu [(vs "self" 408), (vs "infos" 409), (vs "is_backward" 410)]
def o152 (P : Params) : Obj := fG (mtAt 16 0) "__init__" "Buffer.__init__"
def o153 (P : Params) : Obj := cO [(vs "__init__" 405), (vs "Buffer.__init__" 406), (vs "/claim/cut.py" 407), (j 95), (j 3), (j 0), (j 0), (j 3), (r 148), (.bool true), (j 181), (r 149), .none, (r 150), (r 151), (r 152), (j 411), (j 95), (vs "/claim/cut.py" 412)]
def o154 (P : Params) : Obj := ⟨(.type "function"), none, .func (fnD (mtAt 16 0) (S "__init__") (S "Buffer.__init__") (mtAt 16 0).scope 3 [] (r 147) .none .none (vs "joinedhand.buffer" 330) none (r 153) .none 0), Z []⟩
def o157 (P : Params) : Obj := fG (mtAt 16 1) "glyphs" "Buffer.glyphs"
def o158 (P : Params) : Obj := cO [(vs "glyphs" 414), (vs "Buffer.glyphs" 415), (vs "/claim/cut.py" 416), (j 101), (j 1), (j 0), (j 0), (j 3), (r 155), (.bool true), (j 181), (r 156), .none, .none, .none, (r 157), (j 417), (j 101), (vs "/claim/cut.py" 418)]
def o159 (P : Params) : Obj := fF (mtAt 16 1) "glyphs" "Buffer.glyphs" 3 .none (vs "joinedhand.buffer" 330) (r 158)
def o162 (P : Params) : Obj := tu [(vs "self" 423)]
def o164 (P : Params) : Obj := fG (mtAt 16 2) "clusters" "Buffer.clusters"
def o165 (P : Params) : Obj := cO [(vs "clusters" 420), (vs "Buffer.clusters" 421), (vs "/claim/cut.py" 422), (j 104), (j 1), (j 0), (j 0), (j 3), (r 160), (.bool true), (j 181), (r 161), .none, (r 162), (r 163), (r 164), (j 424), (j 104), (vs "/claim/cut.py" 425)]
def o166 (P : Params) : Obj := fF (mtAt 16 2) "clusters" "Buffer.clusters" 3 .none (vs "joinedhand.buffer" 330) (r 165)
def o169 (P : Params) : Obj := fG (mtAt 16 3) "told" "Buffer.told"
def o170 (P : Params) : Obj := cO [(vs "told" 427), (vs "Buffer.told" 428), (vs "/claim/cut.py" 429), (j 107), (j 1), (j 0), (j 0), (j 3), (r 167), (.bool true), (j 181), (r 168), .none, .none, .none, (r 169), (j 430), (j 107), (vs "/claim/cut.py" 431)]
def o171 (P : Params) : Obj := fF (mtAt 16 3) "told" "Buffer.told" 3 .none (vs "joinedhand.buffer" 330) (r 170)
def o174 (P : Params) : Obj := tu [(vs "self" 436)]
def o176 (P : Params) : Obj := fG (mtAt 16 4) "next_lig" "Buffer.next_lig"
def o177 (P : Params) : Obj := cO [(vs "next_lig" 433), (vs "Buffer.next_lig" 434), (vs "/claim/cut.py" 435), (j 110), (j 1), (j 0), (j 0), (j 3), (r 172), (.bool true), (j 181), (r 173), .none, (r 174), (r 175), (r 176), (j 437), (j 110), (vs "/claim/cut.py" 438)]
def o178 (P : Params) : Obj := fF (mtAt 16 4) "next_lig" "Buffer.next_lig" 3 .none (vs "joinedhand.buffer" 330) (r 177)
def o181 (P : Params) : Obj := tu [(vs "self" 443)]
def o183 (P : Params) : Obj := fG (mtAt 16 5) "next_split" "Buffer.next_split"
def o184 (P : Params) : Obj := cO [(vs "next_split" 440), (vs "Buffer.next_split" 441), (vs "/claim/cut.py" 442), (j 113), (j 1), (j 0), (j 0), (j 3), (r 179), (.bool true), (j 181), (r 180), .none, (r 181), (r 182), (r 183), (j 444), (j 113), (vs "/claim/cut.py" 445)]
def o185 (P : Params) : Obj := fF (mtAt 16 5) "next_split" "Buffer.next_split" 3 .none (vs "joinedhand.buffer" 330) (r 184)
def o186 (P : Params) : Obj := tu [(vs "is_backward" 447), (vs "last_lig" 448), (vs "last_split" 449), (vs "row" 450)]
def o187 (P : Params) : Obj := ⟨(.type "dict"), none, .dict (Z [en P "__module__" 400 (vs "joinedhand.buffer" 330), en P "__firstlineno__" 404 (.int 93 403), en P "__init__" 413 (r 154), en P "glyphs" 419 (r 159), en P "clusters" 426 (r 166), en P "told" 432 (r 171), en P "next_lig" 439 (r 178), en P "next_split" 446 (r 185), en P "__static_attributes__" 451 (r 186), en P "__dict__" 453 (r 189), en P "__weakref__" 455 (r 190), en P "__doc__" 456 .none]) 4, Z []⟩
def o188 (P : Params) : Obj := ⟨(.type "type"), none, .cls (clD (S "Buffer") [(.type "object")] [(r 188), (.type "object")] 187 (S "Buffer") true [] [] false none false), Z [none, none, (some (vs "Buffer" 393)), (some (vs "Buffer" 401)), (some (.builtin "object.__new__")), (some (.bool true))]⟩
def o189 (P : Params) : Obj := ⟨(.type "getset_descriptor"), none, .fields (Z [(vs "__dict__" 452), (r 188), (.builtin "function.__dict__"), (.builtin "function.__dict__#set")]), Z []⟩
def o190 (P : Params) : Obj := ⟨(.type "getset_descriptor"), none, .fields (Z [(vs "__weakref__" 454), (r 188), (.builtin "ExceptionGroup.__weakref__"), .none]), Z []⟩
def o191 (P : Params) : Obj := ⟨(.type "super"), none, .fields (Z [(r 188), (r 188), (r 188)]), Z []⟩
def o192 (P : Params) : Obj := ⟨(.type "builtin_function_or_method"), none, .fields (Z [(.builtin "object.__init_subclass__"), (r 188)]), Z []⟩
def o195 (P : Params) : Obj := fG (fnAt 17) "hang" "hang"
def o196 (P : Params) : Obj := cO [(vs "hang" 459), (vs "hang" 460), (vs "/claim/cut.py" 461), (j 115), (j 3), (j 0), (j 0), (j 3), (r 193), (.bool true), (j 181), (r 194), .none, .none, .none, (r 195), (j 462), (j 115), (vs "/claim/cut.py" 463)]
def o197 (P : Params) : Obj := fF (fnAt 17) "hang" "hang" 3 .none (vs "joinedhand.buffer" 330) (r 196)
def o198 (P : Params) : Obj := tu [(vs "zwj" 467), (vs "hidden" 468)]
def o199 (P : Params) : Obj := tu [(vs "zwj" 470), (vs "zwnj" 471), (vs "hidden" 472)]
def o202 (P : Params) : Obj := tu [(vs "test" 477), (vs "glyph" 478)]
def o204 (P : Params) : Obj := fG (fnAt 21) "fits" "fits"
def o205 (P : Params) : Obj := cO [(vs "fits" 474), (vs "fits" 475), (vs "/claim/cut.py" 476), (j 126), (j 2), (j 0), (j 0), (j 3), (r 200), (.bool true), (j 181), (r 201), .none, (r 202), (r 203), (r 204), (j 479), (j 126), (vs "/claim/cut.py" 480)]
def o206 (P : Params) : Obj := fF (fnAt 21) "fits" "fits" 3 .none (vs "joinedhand.matching" 465) (r 205)
def o209 (P : Params) : Obj := tu [(vs "scene" 485), (vs "at" 486), (vs "step" 487), (vs "here" 488)]
def o211 (P : Params) : Obj := fG (fnAt 22) "neighbour" "neighbour"
def o212 (P : Params) : Obj := cO [(vs "neighbour" 482), (vs "neighbour" 483), (vs "/claim/cut.py" 484), (j 132), (j 3), (j 0), (j 0), (j 3), (r 207), (.bool true), (j 181), (r 208), .none, (r 209), (r 210), (r 211), (j 489), (j 132), (vs "/claim/cut.py" 490)]
def o213 (P : Params) : Obj := fF (fnAt 22) "neighbour" "neighbour" 3 .none (vs "joinedhand.matching" 465) (r 212)
def o216 (P : Params) : Obj := tu [(vs "scene" 495), (vs "at" 496)]
def o218 (P : Params) : Obj := fG (fnAt 23) "next_at" "next_at"
def o219 (P : Params) : Obj := cO [(vs "next_at" 492), (vs "next_at" 493), (vs "/claim/cut.py" 494), (j 139), (j 2), (j 0), (j 0), (j 3), (r 214), (.bool true), (j 181), (r 215), .none, (r 216), (r 217), (r 218), (j 497), (j 139), (vs "/claim/cut.py" 498)]
def o220 (P : Params) : Obj := fF (fnAt 23) "next_at" "next_at" 3 .none (vs "joinedhand.matching" 465) (r 219)
def o223 (P : Params) : Obj := tu [(vs "scene" 503), (vs "at" 504)]
def o225 (P : Params) : Obj := fG (fnAt 24) "before_at" "before_at"
def o226 (P : Params) : Obj := cO [(vs "before_at" 500), (vs "before_at" 501), (vs "/claim/cut.py" 502), (j 141), (j 2), (j 0), (j 0), (j 3), (r 221), (.bool true), (j 181), (r 222), .none, (r 223), (r 224), (r 225), (j 505), (j 141), (vs "/claim/cut.py" 506)]
def o227 (P : Params) : Obj := fF (fnAt 24) "before_at" "before_at" 3 .none (vs "joinedhand.matching" 465) (r 226)
def o230 (P : Params) : Obj := tu [(vs "scene" 511), (vs "info" 512)]
def o232 (P : Params) : Obj := fG (fnAt 25) "is_borne" "is_borne"
def o233 (P : Params) : Obj := cO [(vs "is_borne" 508), (vs "is_borne" 509), (vs "/claim/cut.py" 510), (j 143), (j 2), (j 0), (j 0), (j 3), (r 228), (.bool true), (j 181), (r 229), .none, (r 230), (r 231), (r 232), (j 513), (j 143), (vs "/claim/cut.py" 514)]
def o234 (P : Params) : Obj := fF (fnAt 25) "is_borne" "is_borne" 3 .none (vs "joinedhand.matching" 465) (r 233)
def o237 (P : Params) : Obj := tu [(vs "scene" 519), (vs "at" 520), (vs "step" 521), (vs "test" 522), (vs "kinds" 523), (vs "is_input" 524), (vs "here" 525), (vs "info" 526)]
def o239 (P : Params) : Obj := fG (fnAt 26) "found_at" "found_at"
def o240 (P : Params) : Obj := cO [(vs "found_at" 516), (vs "found_at" 517), (vs "/claim/cut.py" 518), (j 145), (j 6), (j 0), (j 0), (j 3), (r 235), (.bool true), (j 181), (r 236), .none, (r 237), (r 238), (r 239), (j 527), (j 145), (vs "/claim/cut.py" 528)]
def o241 (P : Params) : Obj := fF (fnAt 26) "found_at" "found_at" 3 .none (vs "joinedhand.matching" 465) (r 240)
def o244 (P : Params) : Obj := tu [(vs "scene" 533), (vs "at" 534), (vs "tests" 535), (vs "found" 536), (vs "test" 537), (vs "here" 538)]
def o246 (P : Params) : Obj := fG (fnAt 27) "input_at" "input_at"
def o247 (P : Params) : Obj := cO [(vs "input_at" 530), (vs "input_at" 531), (vs "/claim/cut.py" 532), (j 156), (j 3), (j 0), (j 0), (j 3), (r 242), (.bool true), (j 181), (r 243), .none, (r 244), (r 245), (r 246), (j 539), (j 156), (vs "/claim/cut.py" 540)]
def o248 (P : Params) : Obj := fF (fnAt 27) "input_at" "input_at" 3 .none (vs "joinedhand.matching" 465) (r 247)
def o251 (P : Params) : Obj := tu [(vs "scene" 545), (vs "at" 546), (vs "step" 547), (vs "tests" 548), (vs "here" 549), (vs "test" 550)]
def o253 (P : Params) : Obj := fG (fnAt 28) "last_at" "last_at"
def o254 (P : Params) : Obj := cO [(vs "last_at" 542), (vs "last_at" 543), (vs "/claim/cut.py" 544), (j 166), (j 4), (j 0), (j 0), (j 3), (r 249), (.bool true), (j 181), (r 250), .none, (r 251), (r 252), (r 253), (j 551), (j 166), (vs "/claim/cut.py" 552)]
def o255 (P : Params) : Obj := fF (fnAt 28) "last_at" "last_at" 3 .none (vs "joinedhand.matching" 465) (r 254)
def o258 (P : Params) : Obj := tu [(vs "scene" 557), (vs "at" 558), (vs "tests" 559)]
def o260 (P : Params) : Obj := fG (fnAt 29) "ahead_at" "ahead_at"
def o261 (P : Params) : Obj := cO [(vs "ahead_at" 554), (vs "ahead_at" 555), (vs "/claim/cut.py" 556), (j 173), (j 3), (j 0), (j 0), (j 3), (r 256), (.bool true), (j 181), (r 257), .none, (r 258), (r 259), (r 260), (j 560), (j 173), (vs "/claim/cut.py" 561)]
def o262 (P : Params) : Obj := fF (fnAt 29) "ahead_at" "ahead_at" 3 .none (vs "joinedhand.matching" 465) (r 261)
def o265 (P : Params) : Obj := tu [(vs "scene" 566), (vs "at" 567), (vs "tests" 568)]
def o267 (P : Params) : Obj := fG (fnAt 30) "back_at" "back_at"
def o268 (P : Params) : Obj := cO [(vs "back_at" 563), (vs "back_at" 564), (vs "/claim/cut.py" 565), (j 175), (j 3), (j 0), (j 0), (j 3), (r 263), (.bool true), (j 181), (r 264), .none, (r 265), (r 266), (r 267), (j 569), (j 175), (vs "/claim/cut.py" 570)]
def o269 (P : Params) : Obj := fF (fnAt 30) "back_at" "back_at" 3 .none (vs "joinedhand.matching" 465) (r 268)
def o272 (P : Params) : Obj := ⟨(.type "dict"), none, .dict (Z [en P "__module__" 581 (vs "joinedhand.anchors" 572), en P "__qualname__" 583 (vs "Anchor" 582), en P "__firstlineno__" 585 (.int 178 584), en P "__init__" 594 (r 283), en P "told" 601 (r 290), en P "__static_attributes__" 604 (r 291)]) 6, Z []⟩
def o274 (P : Params) : Obj := nO [(j 180), (j 4), (r 282), (j 184), (j 4), (r 289)]
def o275 (P : Params) : Obj := cO [(vs "Anchor" 576), (vs "Anchor" 577), (vs "/claim/cut.py" 578), (j 178), (j 0), (j 0), (j 0), (j 0), (r 273), (.bool false), (j 181), (r 274), .none, .none, .none, .none, (j 579), (j 178), (vs "/claim/cut.py" 580)]
def o276 (P : Params) : Obj := fO [(some (r 275)), (some (r 3)), (some (r 272)), none, (some (vs "joinedhand.anchors" 572)), none, (some (r 0))]
def o279 (P : Params) : Obj := tu [(vs "self" 589), (vs "x" 590), (vs "y" 591)]
def o281 (P : Params) : Obj := fG (mtAt 32 0) "__init__" "Anchor.__init__"
def o282 (P : Params) : Obj := cO [(vs "__init__" 586), (vs "Anchor.__init__" 587), (vs "/claim/cut.py" 588), (j 180), (j 3), (j 0), (j 0), (j 3), (r 277), (.bool true), (j 181), (r 278), .none, (r 279), (r 280), (r 281), (j 592), (j 180), (vs "/claim/cut.py" 593)]
def o283 (P : Params) : Obj := fF (mtAt 32 0) "__init__" "Anchor.__init__" 3 .none (vs "joinedhand.anchors" 572) (r 282)
def o286 (P : Params) : Obj := tu [(vs "self" 598)]
def o288 (P : Params) : Obj := fG (mtAt 32 1) "told" "Anchor.told"
def o289 (P : Params) : Obj := cO [(vs "told" 595), (vs "Anchor.told" 596), (vs "/claim/cut.py" 597), (j 184), (j 1), (j 0), (j 0), (j 3), (r 284), (.bool true), (j 181), (r 285), .none, (r 286), (r 287), (r 288), (j 599), (j 184), (vs "/claim/cut.py" 600)]
def o290 (P : Params) : Obj := fF (mtAt 32 1) "told" "Anchor.told" 3 .none (vs "joinedhand.anchors" 572) (r 289)
def o291 (P : Params) : Obj := tu [(vs "x" 602), (vs "y" 603)]
def o292 (P : Params) : Obj := ⟨(.type "dict"), none, .dict (Z [en P "__module__" 581 (vs "joinedhand.anchors" 572), en P "__firstlineno__" 585 (.int 178 584), en P "__init__" 594 (r 283), en P "told" 601 (r 290), en P "__static_attributes__" 604 (r 291), en P "__dict__" 606 (r 294), en P "__weakref__" 608 (r 295), en P "__doc__" 609 .none]) 4, Z []⟩
def o293 (P : Params) : Obj := ⟨(.type "type"), none, .cls (clD (S "Anchor") [(.type "object")] [(r 293), (.type "object")] 292 (S "Anchor") true [] [] false none false), Z [none, none, (some (vs "Anchor" 574)), (some (vs "Anchor" 582)), (some (.builtin "object.__new__")), (some (.bool true))]⟩
def o294 (P : Params) : Obj := ⟨(.type "getset_descriptor"), none, .fields (Z [(vs "__dict__" 605), (r 293), (.builtin "function.__dict__"), (.builtin "function.__dict__#set")]), Z []⟩
def o295 (P : Params) : Obj := ⟨(.type "getset_descriptor"), none, .fields (Z [(vs "__weakref__" 607), (r 293), (.builtin "ExceptionGroup.__weakref__"), .none]), Z []⟩
def o296 (P : Params) : Obj := ⟨(.type "super"), none, .fields (Z [(r 293), (r 293), (r 293)]), Z []⟩
def o297 (P : Params) : Obj := ⟨(.type "builtin_function_or_method"), none, .fields (Z [(.builtin "object.__init_subclass__"), (r 293)]), Z []⟩
def o300 (P : Params) : Obj := tu [(vs "anchor" 615)]
def o302 (P : Params) : Obj := fG (fnAt 33) "told_anchor" "told_anchor"
def o303 (P : Params) : Obj := cO [(vs "told_anchor" 612), (vs "told_anchor" 613), (vs "/claim/cut.py" 614), (j 186), (j 1), (j 0), (j 0), (j 3), (r 298), (.bool true), (j 181), (r 299), .none, (r 300), (r 301), (r 302), (j 616), (j 186), (vs "/claim/cut.py" 617)]
def o304 (P : Params) : Obj := fF (fnAt 33) "told_anchor" "told_anchor" 3 .none (vs "joinedhand.anchors" 572) (r 303)
def o307 (P : Params) : Obj := tu [(vs "one" 622), (vs "other" 623)]
def o309 (P : Params) : Obj := fG (fnAt 34) "difference" "difference"
def o310 (P : Params) : Obj := cO [(vs "difference" 619), (vs "difference" 620), (vs "/claim/cut.py" 621), (j 188), (j 2), (j 0), (j 0), (j 3), (r 305), (.bool true), (j 181), (r 306), .none, (r 307), (r 308), (r 309), (j 624), (j 188), (vs "/claim/cut.py" 625)]
def o311 (P : Params) : Obj := fF (fnAt 34) "difference" "difference" 3 .none (vs "joinedhand.anchors" 572) (r 310)
def o314 (P : Params) : Obj := fG (fnAt 35) "told_marks" "told_marks"
def o315 (P : Params) : Obj := cO [(vs "told_marks" 627), (vs "told_marks" 628), (vs "/claim/cut.py" 629), (j 190), (j 1), (j 0), (j 0), (j 3), (r 312), (.bool true), (j 181), (r 313), .none, .none, .none, (r 314), (j 630), (j 190), (vs "/claim/cut.py" 631)]
def o316 (P : Params) : Obj := fF (fnAt 35) "told_marks" "told_marks" 3 .none (vs "joinedhand.anchors" 572) (r 315)
def o319 (P : Params) : Obj := ⟨(.type "dict"), none, .dict (Z [en P "__module__" 644 (vs "joinedhand.cursive" 633), en P "__qualname__" 646 (vs "Cursive" 645), en P "__firstlineno__" 648 (.int 194 647), en P "__init__" 656 (r 330), en P "entry" 664 (r 337), en P "exit" 672 (r 344), en P "glyphs" 678 (r 349), en P "told" 684 (r 354), en P "__static_attributes__" 686 (r 355)]) 9, Z []⟩
def o321 (P : Params) : Obj := nO [(j 196), (j 4), (r 329), (j 199), (j 4), (r 336), (j 202), (j 4), (r 343), (j 205), (j 4), (r 348), (j 208), (j 4), (r 353)]
def o322 (P : Params) : Obj := cO [(vs "Cursive" 639), (vs "Cursive" 640), (vs "/claim/cut.py" 641), (j 194), (j 0), (j 0), (j 0), (j 0), (r 320), (.bool false), (j 181), (r 321), .none, .none, .none, .none, (j 642), (j 194), (vs "/claim/cut.py" 643)]
def o323 (P : Params) : Obj := fO [(some (r 322)), (some (r 3)), (some (r 319)), none, (some (vs "joinedhand.cursive" 633)), none, (some (r 0))]
def o326 (P : Params) : Obj := tu [(vs "self" 652), (vs "ends" 653)]
def o328 (P : Params) : Obj := fG (mtAt 38 0) "__init__" "Cursive.__init__"
def o329 (P : Params) : Obj := cO [(vs "__init__" 649), (vs "Cursive.__init__" 650), (vs "/claim/cut.py" 651), (j 196), (j 2), (j 0), (j 0), (j 3), (r 324), (.bool true), (j 181), (r 325), .none, (r 326), (r 327), (r 328), (j 654), (j 196), (vs "/claim/cut.py" 655)]
def o330 (P : Params) : Obj := fF (mtAt 38 0) "__init__" "Cursive.__init__" 3 .none (vs "joinedhand.cursive" 633) (r 329)
def o333 (P : Params) : Obj := tu [(vs "self" 660), (vs "glyph" 661)]
def o335 (P : Params) : Obj := fG (mtAt 38 1) "entry" "Cursive.entry"
def o336 (P : Params) : Obj := cO [(vs "entry" 657), (vs "Cursive.entry" 658), (vs "/claim/cut.py" 659), (j 199), (j 2), (j 0), (j 0), (j 3), (r 331), (.bool true), (j 181), (r 332), .none, (r 333), (r 334), (r 335), (j 662), (j 199), (vs "/claim/cut.py" 663)]
def o337 (P : Params) : Obj := fF (mtAt 38 1) "entry" "Cursive.entry" 3 .none (vs "joinedhand.cursive" 633) (r 336)
def o340 (P : Params) : Obj := tu [(vs "self" 668), (vs "glyph" 669)]
def o342 (P : Params) : Obj := fG (mtAt 38 2) "exit" "Cursive.exit"
def o343 (P : Params) : Obj := cO [(vs "exit" 665), (vs "Cursive.exit" 666), (vs "/claim/cut.py" 667), (j 202), (j 2), (j 0), (j 0), (j 3), (r 338), (.bool true), (j 181), (r 339), .none, (r 340), (r 341), (r 342), (j 670), (j 202), (vs "/claim/cut.py" 671)]
def o344 (P : Params) : Obj := fF (mtAt 38 2) "exit" "Cursive.exit" 3 .none (vs "joinedhand.cursive" 633) (r 343)
def o347 (P : Params) : Obj := fG (mtAt 38 3) "glyphs" "Cursive.glyphs"
def o348 (P : Params) : Obj := cO [(vs "glyphs" 673), (vs "Cursive.glyphs" 674), (vs "/claim/cut.py" 675), (j 205), (j 1), (j 0), (j 0), (j 3), (r 345), (.bool true), (j 181), (r 346), .none, .none, .none, (r 347), (j 676), (j 205), (vs "/claim/cut.py" 677)]
def o349 (P : Params) : Obj := fF (mtAt 38 3) "glyphs" "Cursive.glyphs" 3 .none (vs "joinedhand.cursive" 633) (r 348)
def o352 (P : Params) : Obj := fG (mtAt 38 4) "told" "Cursive.told"
def o353 (P : Params) : Obj := cO [(vs "told" 679), (vs "Cursive.told" 680), (vs "/claim/cut.py" 681), (j 208), (j 1), (j 0), (j 0), (j 3), (r 350), (.bool true), (j 181), (r 351), .none, .none, .none, (r 352), (j 682), (j 208), (vs "/claim/cut.py" 683)]
def o354 (P : Params) : Obj := fF (mtAt 38 4) "told" "Cursive.told" 3 .none (vs "joinedhand.cursive" 633) (r 353)
def o355 (P : Params) : Obj := tu [(vs "ends" 685)]
def o356 (P : Params) : Obj := ⟨(.type "dict"), none, .dict (Z [en P "__module__" 644 (vs "joinedhand.cursive" 633), en P "__firstlineno__" 648 (.int 194 647), en P "__init__" 656 (r 330), en P "entry" 664 (r 337), en P "exit" 672 (r 344), en P "glyphs" 678 (r 349), en P "told" 684 (r 354), en P "__static_attributes__" 686 (r 355), en P "__dict__" 688 (r 358), en P "__weakref__" 690 (r 359), en P "__doc__" 691 .none]) 4, Z []⟩
def o357 (P : Params) : Obj := ⟨(.type "type"), none, .cls (clD (S "Cursive") [(.type "object")] [(r 357), (.type "object")] 356 (S "Cursive") true [] [] false none false), Z [none, none, (some (vs "Cursive" 637)), (some (vs "Cursive" 645)), (some (.builtin "object.__new__")), (some (.bool true))]⟩
def o358 (P : Params) : Obj := ⟨(.type "getset_descriptor"), none, .fields (Z [(vs "__dict__" 687), (r 357), (.builtin "function.__dict__"), (.builtin "function.__dict__#set")]), Z []⟩
def o359 (P : Params) : Obj := ⟨(.type "getset_descriptor"), none, .fields (Z [(vs "__weakref__" 689), (r 357), (.builtin "ExceptionGroup.__weakref__"), .none]), Z []⟩
def o360 (P : Params) : Obj := ⟨(.type "super"), none, .fields (Z [(r 357), (r 357), (r 357)]), Z []⟩
def o361 (P : Params) : Obj := ⟨(.type "builtin_function_or_method"), none, .fields (Z [(.builtin "object.__init_subclass__"), (r 357)]), Z []⟩
def o364 (P : Params) : Obj := tu [(vs "first" 697), (vs "second" 698), (vs "leave" 699), (vs "enter" 700), (vs "gap" 701)]
def o366 (P : Params) : Obj := fG (fnAt 39) "join_forward" "join_forward"
def o367 (P : Params) : Obj := cO [(vs "join_forward" 694), (vs "join_forward" 695), (vs "/claim/cut.py" 696), (j 210), (j 4), (j 0), (j 0), (j 3), (r 362), (.bool true), (j 181), (r 363), .none, (r 364), (r 365), (r 366), (j 702), (j 210), (vs "/claim/cut.py" 703)]
def o368 (P : Params) : Obj := fF (fnAt 39) "join_forward" "join_forward" 3 .none (vs "joinedhand.cursive" 633) (r 367)
def o371 (P : Params) : Obj := tu [(vs "first" 708), (vs "second" 709), (vs "leave" 710), (vs "enter" 711), (vs "gap" 712)]
def o373 (P : Params) : Obj := fG (fnAt 40) "join_backward" "join_backward"
def o374 (P : Params) : Obj := cO [(vs "join_backward" 705), (vs "join_backward" 706), (vs "/claim/cut.py" 707), (j 215), (j 4), (j 0), (j 0), (j 3), (r 369), (.bool true), (j 181), (r 370), .none, (r 371), (r 372), (r 373), (j 713), (j 215), (vs "/claim/cut.py" 714)]
def o375 (P : Params) : Obj := fF (fnAt 40) "join_backward" "join_backward" 3 .none (vs "joinedhand.cursive" 633) (r 374)
def o378 (P : Params) : Obj := tu [(vs "info" 719)]
def o380 (P : Params) : Obj := fG (fnAt 41) "loosen" "loosen"
def o381 (P : Params) : Obj := cO [(vs "loosen" 716), (vs "loosen" 717), (vs "/claim/cut.py" 718), (j 220), (j 1), (j 0), (j 0), (j 3), (r 376), (.bool true), (j 181), (r 377), .none, (r 378), (r 379), (r 380), (j 720), (j 220), (vs "/claim/cut.py" 721)]
def o382 (P : Params) : Obj := fF (fnAt 41) "loosen" "loosen" 3 .none (vs "joinedhand.cursive" 633) (r 381)
def o385 (P : Params) : Obj := tu [(vs "row" 726), (vs "child" 727), (vs "parent" 728), (vs "links" 729), (vs "here" 730), (vs "step" 731), (vs "place" 732), (vs "offset" 733)]
def o387 (P : Params) : Obj := fG (fnAt 42) "turn_chain" "turn_chain"
def o388 (P : Params) : Obj := cO [(vs "turn_chain" 723), (vs "turn_chain" 724), (vs "/claim/cut.py" 725), (j 223), (j 3), (j 0), (j 0), (j 3), (r 383), (.bool true), (j 181), (r 384), .none, (r 385), (r 386), (r 387), (j 734), (j 223), (vs "/claim/cut.py" 735)]
def o389 (P : Params) : Obj := fF (fnAt 42) "turn_chain" "turn_chain" 3 .none (vs "joinedhand.cursive" 633) (r 388)
def o392 (P : Params) : Obj := tu [(vs "row" 740), (vs "child" 741), (vs "parent" 742), (vs "here" 743), (vs "turn" 744)]
def o394 (P : Params) : Obj := fG (fnAt 43) "break_ring" "break_ring"
def o395 (P : Params) : Obj := cO [(vs "break_ring" 737), (vs "break_ring" 738), (vs "/claim/cut.py" 739), (j 237), (j 3), (j 0), (j 0), (j 3), (r 390), (.bool true), (j 181), (r 391), .none, (r 392), (r 393), (r 394), (j 745), (j 237), (vs "/claim/cut.py" 746)]
def o396 (P : Params) : Obj := fF (fnAt 43) "break_ring" "break_ring" 3 .none (vs "joinedhand.cursive" 633) (r 395)
def o399 (P : Params) : Obj := tu [(vs "row" 751), (vs "child" 752), (vs "parent" 753), (vs "offset" 754)]
def o401 (P : Params) : Obj := fG (fnAt 44) "tie" "tie"
def o402 (P : Params) : Obj := cO [(vs "tie" 748), (vs "tie" 749), (vs "/claim/cut.py" 750), (j 247), (j 4), (j 0), (j 0), (j 3), (r 397), (.bool true), (j 181), (r 398), .none, (r 399), (r 400), (r 401), (j 755), (j 247), (vs "/claim/cut.py" 756)]
def o403 (P : Params) : Obj := fF (fnAt 44) "tie" "tie" 3 .none (vs "joinedhand.cursive" 633) (r 402)
def o406 (P : Params) : Obj := tu [(vs "scene" 761), (vs "table" 762), (vs "at" 763), (vs "row" 764), (vs "enter" 765), (vs "before" 766), (vs "leave" 767)]
def o408 (P : Params) : Obj := fG (fnAt 45) "apply_cursive" "apply_cursive"
def o409 (P : Params) : Obj := cO [(vs "apply_cursive" 758), (vs "apply_cursive" 759), (vs "/claim/cut.py" 760), (j 253), (j 3), (j 0), (j 0), (j 3), (r 404), (.bool true), (j 181), (r 405), .none, (r 406), (r 407), (r 408), (j 768), (j 253), (vs "/claim/cut.py" 769)]
def o410 (P : Params) : Obj := fF (fnAt 45) "apply_cursive" "apply_cursive" 3 .none (vs "joinedhand.cursive" 633) (r 409)
def o413 (P : Params) : Obj := fG (fnAt 48) "classes_of" "classes_of"
def o414 (P : Params) : Obj := cO [(vs "classes_of" 775), (vs "classes_of" 776), (vs "/claim/cut.py" 777), (j 274), (j 1), (j 0), (j 0), (j 3), (r 411), (.bool true), (j 181), (r 412), .none, .none, .none, (r 413), (j 778), (j 274), (vs "/claim/cut.py" 779)]
def o415 (P : Params) : Obj := fF (fnAt 48) "classes_of" "classes_of" 3 .none (vs "joinedhand.marks" 771) (r 414)
def o3v407 (P : Params) : Obj := ⟨(.type "dict"), none, .dict (Z [en P "__name__" 165 (vs "joinedhand.nested" 1234), en P "__doc__" 166 .none, en P "__package__" 167 .none, en P "__loader__" 168 (.builtin "__main__.__loader__#opaque"), en P "__spec__" 169 .none, en P "__annotations__" 170 (r 6), en P "__builtins__" 171 (r 4), en P "__file__" 173 (vs "/claim/cut.py" 172), en P "__cached__" 174 .none, en P "_wall" 193 (r 21), en P "RIGHT_TO_LEFT" 197 (.int 1 196), en P "IGNORE_BASES" 199 (.int 2 198), en P "IGNORE_LIGATURES" 201 (.int 4 200), en P "IGNORE_MARKS" 203 (.int 8 202), en P "USE_SET" 205 (.int 16 204), en P "Lookup" 246 (r 43), en P "Scene" 287 (r 65), en P "attach_wanted" 294 (r 76), en P "class_bit" 301 (r 83), en P "is_ignored" 312 (r 90), en P "passes" 320 (r 97), en P "nested_scene" 329 (r 104), en P "Info" 392 (r 135), en P "Buffer" 458 (r 188), en P "hang" 464 (r 197), en P "KINDS_IN_INPUT" 469 (r 198), en P "KINDS_AROUND" 473 (r 199), en P "fits" 481 (r 206), en P "neighbour" 491 (r 213), en P "next_at" 499 (r 220), en P "before_at" 507 (r 227), en P "is_borne" 515 (r 234), en P "found_at" 529 (r 241), en P "input_at" 541 (r 248), en P "last_at" 553 (r 255), en P "ahead_at" 562 (r 262), en P "back_at" 571 (r 269), en P "Anchor" 611 (r 293), en P "told_anchor" 618 (r 304), en P "difference" 626 (r 311), en P "told_marks" 632 (r 316), en P "BOND" 636 (vs "cursive" 635), en P "Cursive" 693 (r 357), en P "join_forward" 704 (r 368), en P "join_backward" 715 (r 375), en P "loosen" 722 (r 382), en P "turn_chain" 736 (r 389), en P "break_ring" 747 (r 396), en P "tie" 757 (r 403), en P "apply_cursive" 770 (r 410), en P "MARK_GLYPH" 774 (.int 3 773), en P "classes_of" 780 (r 415), en P "told_row" 786 (r 714), en P "told_row_marks" 787 (r 420), en P "has_anchor" 793 (r 425), en P "told_by_glyph" 804 (r 432), en P "MarkBase" 842 (r 456), en P "MarkComponent" 879 (r 482), en P "MarkMark" 917 (r 510), en P "scene_with" 927 (r 521), en P "is_mark_at" 935 (r 528), en P "is_later_part" 945 (r 535), en P "base_ahead" 955 (r 542), en P "set_on" 970 (r 549), en P "apply_base" 980 (r 556), en P "component_of" 989 (r 563), en P "apply_component" 1001 (r 570), en P "are_of_one" 1009 (r 577), en P "apply_mark" 1021 (r 584), en P "Coverage" 1078 (r 622), en P "coverage_of" 1087 (r 633), en P "BY_GLYPHS" 1091 (.int 1 1090), en P "BY_CLASSES" 1093 (.int 2 1092), en P "Rule" 1142 (r 664), en P "Contexts" 1202 (r 705), en P "told_row_contexts" 1209 (r 714), en P "tests_of" 1215 (r 719), en P "rule_tests" 1227 (r 726), en P "rules_at" 1233 (r 731), en P "MOST_DEPTH" 1237 (.int 6 1236), en P "MOST_PLACES" 1239 (.int 64 1238), en P "MOST_ACTIONS" 1241 (.int 256 1240), en P "Places" 1272 (r 748), en P "match_rule" 1288 (r 759), en P "inner_scene" 1296 (r 766), en P "grow" 1302 (r 771), en P "shrink" 1308 (r 776), en P "move" 1317 (r 783), en P "do_action" 1332 (r 790), en P "do_actions" 1343 (r 797)]) 90, Z []⟩
def o12v408 (P : Params) : Obj := nO [(j 1), (j 0), (r 20), (j 10), (j 0), (r 27), (j 21), (j 0), (r 53), (j 31), (j 0), (r 75), (j 33), (j 0), (r 82), (j 35), (j 0), (r 89), (j 45), (j 0), (r 96), (j 47), (j 0), (r 103), (j 54), (j 0), (r 110), (j 93), (j 0), (r 145), (j 115), (j 0), (r 196), (j 126), (j 0), (r 205), (j 132), (j 0), (r 212), (j 139), (j 0), (r 219), (j 141), (j 0), (r 226), (j 143), (j 0), (r 233), (j 145), (j 0), (r 240), (j 156), (j 0), (r 247), (j 166), (j 0), (r 254), (j 173), (j 0), (r 261), (j 175), (j 0), (r 268), (j 178), (j 0), (r 275), (j 186), (j 0), (r 303), (j 188), (j 0), (r 310), (j 190), (j 0), (r 315), (j 194), (j 0), (r 322), (j 210), (j 0), (r 367), (j 215), (j 0), (r 374), (j 220), (j 0), (r 381), (j 223), (j 0), (r 388), (j 237), (j 0), (r 395), (j 247), (j 0), (r 402), (j 253), (j 0), (r 409), (j 274), (j 0), (r 414), (j 276), (j 0), (r 419), (j 279), (j 0), (r 424), (j 281), (j 0), (r 431), (j 288), (j 0), (r 438), (j 296), (j 0), (r 466), (j 310), (j 0), (r 492), (j 318), (j 0), (r 520), (j 321), (j 0), (r 527), (j 323), (j 0), (r 534), (j 329), (j 0), (r 541), (j 335), (j 0), (r 548), (j 347), (j 0), (r 555), (j 354), (j 0), (r 562), (j 358), (j 0), (r 569), (j 369), (j 0), (r 576), (j 373), (j 0), (r 583), (j 385), (j 0), (r 590), (j 408), (j 0), (r 632), (j 416), (j 0), (r 639), (j 429), (j 0), (r 674), (j 453), (j 0), (r 713), (j 456), (j 0), (r 718), (j 460), (j 0), (r 725), (j 464), (j 0), (r 730), (j 476), (j 0), (r 737), (j 481), (j 0), (r 758), (j 491), (j 0), (r 765), (j 493), (j 0), (r 770), (j 496), (j 0), (r 775), (j 498), (j 0), (r 782), (j 507), (j 0), (r 789), (j 525), (j 0), (r 796)]
def o418 (P : Params) : Obj := fG (fnAt 49) "told_row" "told_row"
def o419 (P : Params) : Obj := cO [(vs "told_row" 781), (vs "told_row" 782), (vs "/claim/cut.py" 783), (j 276), (j 2), (j 0), (j 0), (j 3), (r 416), (.bool true), (j 181), (r 417), .none, .none, .none, (r 418), (j 784), (j 276), (vs "/claim/cut.py" 785)]
def o420 (P : Params) : Obj := fF (fnAt 49) "told_row" "told_row" 3 .none (vs "joinedhand.marks" 771) (r 419)
def o423 (P : Params) : Obj := fG (fnAt 51) "has_anchor" "has_anchor"
def o424 (P : Params) : Obj := cO [(vs "has_anchor" 788), (vs "has_anchor" 789), (vs "/claim/cut.py" 790), (j 279), (j 1), (j 0), (j 0), (j 3), (r 421), (.bool true), (j 181), (r 422), .none, .none, .none, (r 423), (j 791), (j 279), (vs "/claim/cut.py" 792)]
def o425 (P : Params) : Obj := fF (fnAt 51) "has_anchor" "has_anchor" 3 .none (vs "joinedhand.marks" 771) (r 424)
def o428 (P : Params) : Obj := tu [(vs "rows" 797), (vs "classes" 798), (vs "found" 799), (vs "glyph" 800), (vs "places" 801)]
def o430 (P : Params) : Obj := fG (fnAt 52) "told_by_glyph" "told_by_glyph"
def o431 (P : Params) : Obj := cO [(vs "told_by_glyph" 794), (vs "told_by_glyph" 795), (vs "/claim/cut.py" 796), (j 281), (j 2), (j 0), (j 0), (j 3), (r 426), (.bool true), (j 181), (r 427), .none, (r 428), (r 429), (r 430), (j 802), (j 281), (vs "/claim/cut.py" 803)]
def o432 (P : Params) : Obj := fF (fnAt 52) "told_by_glyph" "told_by_glyph" 3 .none (vs "joinedhand.marks" 771) (r 431)
def o435 (P : Params) : Obj := ⟨(.type "dict"), none, .dict (Z [en P "__module__" 812 (vs "joinedhand.marks" 771), en P "__qualname__" 814 (vs "MarkBase" 813), en P "__firstlineno__" 816 (.int 288 815), en P "__init__" 825 (r 446), en P "told" 832 (r 453), en P "__static_attributes__" 835 (r 454)]) 6, Z []⟩
def o437 (P : Params) : Obj := nO [(j 290), (j 4), (r 445), (j 294), (j 4), (r 452)]
def o438 (P : Params) : Obj := cO [(vs "MarkBase" 807), (vs "MarkBase" 808), (vs "/claim/cut.py" 809), (j 288), (j 0), (j 0), (j 0), (j 0), (r 436), (.bool false), (j 181), (r 437), .none, .none, .none, .none, (j 810), (j 288), (vs "/claim/cut.py" 811)]
def o439 (P : Params) : Obj := fO [(some (r 438)), (some (r 3)), (some (r 435)), none, (some (vs "joinedhand.marks" 771)), none, (some (r 0))]
def o442 (P : Params) : Obj := tu [(vs "self" 820), (vs "marks" 821), (vs "bases" 822)]
def o444 (P : Params) : Obj := fG (mtAt 53 0) "__init__" "MarkBase.__init__"
def o445 (P : Params) : Obj := cO [(vs "__init__" 817), (vs "MarkBase.__init__" 818), (vs "/claim/cut.py" 819), (j 290), (j 3), (j 0), (j 0), (j 3), (r 440), (.bool true), (j 181), (r 441), .none, (r 442), (r 443), (r 444), (j 823), (j 290), (vs "/claim/cut.py" 824)]
def o446 (P : Params) : Obj := fF (mtAt 53 0) "__init__" "MarkBase.__init__" 3 .none (vs "joinedhand.marks" 771) (r 445)
def o449 (P : Params) : Obj := tu [(vs "self" 829)]
def o451 (P : Params) : Obj := fG (mtAt 53 1) "told" "MarkBase.told"
def o452 (P : Params) : Obj := cO [(vs "told" 826), (vs "MarkBase.told" 827), (vs "/claim/cut.py" 828), (j 294), (j 1), (j 0), (j 0), (j 3), (r 447), (.bool true), (j 181), (r 448), .none, (r 449), (r 450), (r 451), (j 830), (j 294), (vs "/claim/cut.py" 831)]
def o453 (P : Params) : Obj := fF (mtAt 53 1) "told" "MarkBase.told" 3 .none (vs "joinedhand.marks" 771) (r 452)
def o454 (P : Params) : Obj := tu [(vs "bases" 833), (vs "marks" 834)]
def o455 (P : Params) : Obj := ⟨(.type "dict"), none, .dict (Z [en P "__module__" 812 (vs "joinedhand.marks" 771), en P "__firstlineno__" 816 (.int 288 815), en P "__init__" 825 (r 446), en P "told" 832 (r 453), en P "__static_attributes__" 835 (r 454), en P "__dict__" 837 (r 457), en P "__weakref__" 839 (r 458), en P "__doc__" 840 .none]) 4, Z []⟩
def o456 (P : Params) : Obj := ⟨(.type "type"), none, .cls (clD (S "MarkBase") [(.type "object")] [(r 456), (.type "object")] 455 (S "MarkBase") true [] [] false none false), Z [none, none, (some (vs "MarkBase" 805)), (some (vs "MarkBase" 813)), (some (.builtin "object.__new__")), (some (.bool true))]⟩
def o457 (P : Params) : Obj := ⟨(.type "getset_descriptor"), none, .fields (Z [(vs "__dict__" 836), (r 456), (.builtin "function.__dict__"), (.builtin "function.__dict__#set")]), Z []⟩
def o458 (P : Params) : Obj := ⟨(.type "getset_descriptor"), none, .fields (Z [(vs "__weakref__" 838), (r 456), (.builtin "ExceptionGroup.__weakref__"), .none]), Z []⟩
def o459 (P : Params) : Obj := ⟨(.type "super"), none, .fields (Z [(r 456), (r 456), (r 456)]), Z []⟩
def o460 (P : Params) : Obj := ⟨(.type "builtin_function_or_method"), none, .fields (Z [(.builtin "object.__init_subclass__"), (r 456)]), Z []⟩
def o463 (P : Params) : Obj := ⟨(.type "dict"), none, .dict (Z [en P "__module__" 850 (vs "joinedhand.marks" 771), en P "__qualname__" 852 (vs "MarkComponent" 851), en P "__firstlineno__" 854 (.int 296 853), en P "__init__" 863 (r 474), en P "told" 869 (r 479), en P "__static_attributes__" 872 (r 480)]) 6, Z []⟩
def o465 (P : Params) : Obj := nO [(j 298), (j 4), (r 473), (j 302), (j 4), (r 478)]
def o466 (P : Params) : Obj := cO [(vs "MarkComponent" 845), (vs "MarkComponent" 846), (vs "/claim/cut.py" 847), (j 296), (j 0), (j 0), (j 0), (j 0), (r 464), (.bool false), (j 181), (r 465), .none, .none, .none, .none, (j 848), (j 296), (vs "/claim/cut.py" 849)]
def o467 (P : Params) : Obj := fO [(some (r 466)), (some (r 3)), (some (r 463)), none, (some (vs "joinedhand.marks" 771)), none, (some (r 0))]
def o470 (P : Params) : Obj := tu [(vs "self" 858), (vs "marks" 859), (vs "ligatures" 860)]
def o472 (P : Params) : Obj := fG (mtAt 54 0) "__init__" "MarkComponent.__init__"
def o473 (P : Params) : Obj := cO [(vs "__init__" 855), (vs "MarkComponent.__init__" 856), (vs "/claim/cut.py" 857), (j 298), (j 3), (j 0), (j 0), (j 3), (r 468), (.bool true), (j 181), (r 469), .none, (r 470), (r 471), (r 472), (j 861), (j 298), (vs "/claim/cut.py" 862)]
def o474 (P : Params) : Obj := fF (mtAt 54 0) "__init__" "MarkComponent.__init__" 3 .none (vs "joinedhand.marks" 771) (r 473)
def o477 (P : Params) : Obj := fG (mtAt 54 1) "told" "MarkComponent.told"
def o478 (P : Params) : Obj := cO [(vs "told" 864), (vs "MarkComponent.told" 865), (vs "/claim/cut.py" 866), (j 302), (j 1), (j 0), (j 0), (j 3), (r 475), (.bool true), (j 181), (r 476), .none, .none, .none, (r 477), (j 867), (j 302), (vs "/claim/cut.py" 868)]
def o479 (P : Params) : Obj := fF (mtAt 54 1) "told" "MarkComponent.told" 3 .none (vs "joinedhand.marks" 771) (r 478)
def o480 (P : Params) : Obj := tu [(vs "ligatures" 870), (vs "marks" 871)]
def o481 (P : Params) : Obj := ⟨(.type "dict"), none, .dict (Z [en P "__module__" 850 (vs "joinedhand.marks" 771), en P "__firstlineno__" 854 (.int 296 853), en P "__init__" 863 (r 474), en P "told" 869 (r 479), en P "__static_attributes__" 872 (r 480), en P "__dict__" 874 (r 483), en P "__weakref__" 876 (r 484), en P "__doc__" 877 .none]) 4, Z []⟩
def o482 (P : Params) : Obj := ⟨(.type "type"), none, .cls (clD (S "MarkComponent") [(.type "object")] [(r 482), (.type "object")] 481 (S "MarkComponent") true [] [] false none false), Z [none, none, (some (vs "MarkComponent" 843)), (some (vs "MarkComponent" 851)), (some (.builtin "object.__new__")), (some (.bool true))]⟩
def o483 (P : Params) : Obj := ⟨(.type "getset_descriptor"), none, .fields (Z [(vs "__dict__" 873), (r 482), (.builtin "function.__dict__"), (.builtin "function.__dict__#set")]), Z []⟩
def o484 (P : Params) : Obj := ⟨(.type "getset_descriptor"), none, .fields (Z [(vs "__weakref__" 875), (r 482), (.builtin "ExceptionGroup.__weakref__"), .none]), Z []⟩
def o485 (P : Params) : Obj := ⟨(.type "super"), none, .fields (Z [(r 482), (r 482), (r 482)]), Z []⟩
def o486 (P : Params) : Obj := ⟨(.type "builtin_function_or_method"), none, .fields (Z [(.builtin "object.__init_subclass__"), (r 482)]), Z []⟩
def o489 (P : Params) : Obj := ⟨(.type "dict"), none, .dict (Z [en P "__module__" 887 (vs "joinedhand.marks" 771), en P "__qualname__" 889 (vs "MarkMark" 888), en P "__firstlineno__" 891 (.int 310 890), en P "__init__" 900 (r 500), en P "told" 907 (r 507), en P "__static_attributes__" 910 (r 508)]) 6, Z []⟩
def o491 (P : Params) : Obj := nO [(j 312), (j 4), (r 499), (j 316), (j 4), (r 506)]
def o492 (P : Params) : Obj := cO [(vs "MarkMark" 882), (vs "MarkMark" 883), (vs "/claim/cut.py" 884), (j 310), (j 0), (j 0), (j 0), (j 0), (r 490), (.bool false), (j 181), (r 491), .none, .none, .none, .none, (j 885), (j 310), (vs "/claim/cut.py" 886)]
def o493 (P : Params) : Obj := fO [(some (r 492)), (some (r 3)), (some (r 489)), none, (some (vs "joinedhand.marks" 771)), none, (some (r 0))]
def o496 (P : Params) : Obj := tu [(vs "self" 895), (vs "marks" 896), (vs "others" 897)]
def o498 (P : Params) : Obj := fG (mtAt 55 0) "__init__" "MarkMark.__init__"
def o499 (P : Params) : Obj := cO [(vs "__init__" 892), (vs "MarkMark.__init__" 893), (vs "/claim/cut.py" 894), (j 312), (j 3), (j 0), (j 0), (j 3), (r 494), (.bool true), (j 181), (r 495), .none, (r 496), (r 497), (r 498), (j 898), (j 312), (vs "/claim/cut.py" 899)]
def o500 (P : Params) : Obj := fF (mtAt 55 0) "__init__" "MarkMark.__init__" 3 .none (vs "joinedhand.marks" 771) (r 499)
def o503 (P : Params) : Obj := tu [(vs "self" 904)]
def o505 (P : Params) : Obj := fG (mtAt 55 1) "told" "MarkMark.told"
def o506 (P : Params) : Obj := cO [(vs "told" 901), (vs "MarkMark.told" 902), (vs "/claim/cut.py" 903), (j 316), (j 1), (j 0), (j 0), (j 3), (r 501), (.bool true), (j 181), (r 502), .none, (r 503), (r 504), (r 505), (j 905), (j 316), (vs "/claim/cut.py" 906)]
def o507 (P : Params) : Obj := fF (mtAt 55 1) "told" "MarkMark.told" 3 .none (vs "joinedhand.marks" 771) (r 506)
def o508 (P : Params) : Obj := tu [(vs "marks" 908), (vs "others" 909)]
def o509 (P : Params) : Obj := ⟨(.type "dict"), none, .dict (Z [en P "__module__" 887 (vs "joinedhand.marks" 771), en P "__firstlineno__" 891 (.int 310 890), en P "__init__" 900 (r 500), en P "told" 907 (r 507), en P "__static_attributes__" 910 (r 508), en P "__dict__" 912 (r 511), en P "__weakref__" 914 (r 512), en P "__doc__" 915 .none]) 4, Z []⟩
def o510 (P : Params) : Obj := ⟨(.type "type"), none, .cls (clD (S "MarkMark") [(.type "object")] [(r 510), (.type "object")] 509 (S "MarkMark") true [] [] false none false), Z [none, none, (some (vs "MarkMark" 880)), (some (vs "MarkMark" 888)), (some (.builtin "object.__new__")), (some (.bool true))]⟩
def o511 (P : Params) : Obj := ⟨(.type "getset_descriptor"), none, .fields (Z [(vs "__dict__" 911), (r 510), (.builtin "function.__dict__"), (.builtin "function.__dict__#set")]), Z []⟩
def o512 (P : Params) : Obj := ⟨(.type "getset_descriptor"), none, .fields (Z [(vs "__weakref__" 913), (r 510), (.builtin "ExceptionGroup.__weakref__"), .none]), Z []⟩
def o513 (P : Params) : Obj := ⟨(.type "super"), none, .fields (Z [(r 510), (r 510), (r 510)]), Z []⟩
def o514 (P : Params) : Obj := ⟨(.type "builtin_function_or_method"), none, .fields (Z [(.builtin "object.__init_subclass__"), (r 510)]), Z []⟩
def o517 (P : Params) : Obj := tu [(vs "scene" 921), (vs "flag" 922), (vs "mark_set" 923), (vs "lookup" 924)]
def o519 (P : Params) : Obj := fG (fnAt 56) "scene_with" "scene_with"
def o520 (P : Params) : Obj := cO [(vs "scene_with" 918), (vs "scene_with" 919), (vs "/claim/cut.py" 920), (j 318), (j 3), (j 0), (j 0), (j 3), (r 515), (.bool true), (j 181), (r 516), .none, (r 517), (r 518), (r 519), (j 925), (j 318), (vs "/claim/cut.py" 926)]
def o521 (P : Params) : Obj := fF (fnAt 56) "scene_with" "scene_with" 3 .none (vs "joinedhand.marks" 771) (r 520)
def o524 (P : Params) : Obj := tu [(vs "scene" 931), (vs "at" 932)]
def o526 (P : Params) : Obj := fG (fnAt 57) "is_mark_at" "is_mark_at"
def o527 (P : Params) : Obj := cO [(vs "is_mark_at" 928), (vs "is_mark_at" 929), (vs "/claim/cut.py" 930), (j 321), (j 2), (j 0), (j 0), (j 3), (r 522), (.bool true), (j 181), (r 523), .none, (r 524), (r 525), (r 526), (j 933), (j 321), (vs "/claim/cut.py" 934)]
def o528 (P : Params) : Obj := fF (fnAt 57) "is_mark_at" "is_mark_at" 3 .none (vs "joinedhand.marks" 771) (r 527)
def o531 (P : Params) : Obj := tu [(vs "scene" 939), (vs "at" 940), (vs "info" 941), (vs "ahead" 942)]
def o533 (P : Params) : Obj := fG (fnAt 58) "is_later_part" "is_later_part"
def o534 (P : Params) : Obj := cO [(vs "is_later_part" 936), (vs "is_later_part" 937), (vs "/claim/cut.py" 938), (j 323), (j 2), (j 0), (j 0), (j 3), (r 529), (.bool true), (j 181), (r 530), .none, (r 531), (r 532), (r 533), (j 943), (j 323), (vs "/claim/cut.py" 944)]
def o535 (P : Params) : Obj := fF (fnAt 58) "is_later_part" "is_later_part" 3 .none (vs "joinedhand.marks" 771) (r 534)
def o538 (P : Params) : Obj := tu [(vs "scene" 949), (vs "at" 950), (vs "looking" 951), (vs "here" 952)]
def o540 (P : Params) : Obj := fG (fnAt 59) "base_ahead" "base_ahead"
def o541 (P : Params) : Obj := cO [(vs "base_ahead" 946), (vs "base_ahead" 947), (vs "/claim/cut.py" 948), (j 329), (j 2), (j 0), (j 0), (j 3), (r 536), (.bool true), (j 181), (r 537), .none, (r 538), (r 539), (r 540), (j 953), (j 329), (vs "/claim/cut.py" 954)]
def o542 (P : Params) : Obj := fF (fnAt 59) "base_ahead" "base_ahead" 3 .none (vs "joinedhand.marks" 771) (r 541)
def o545 (P : Params) : Obj := tu [(vs "scene" 959), (vs "marks" 960), (vs "row" 961), (vs "at" 962), (vs "place" 963), (vs "info" 964), (vs "number" 965), (vs "own" 966), (vs "anchor" 967)]
def o547 (P : Params) : Obj := fG (fnAt 60) "set_on" "set_on"
def o548 (P : Params) : Obj := cO [(vs "set_on" 956), (vs "set_on" 957), (vs "/claim/cut.py" 958), (j 335), (j 5), (j 0), (j 0), (j 3), (r 543), (.bool true), (j 181), (r 544), .none, (r 545), (r 546), (r 547), (j 968), (j 335), (vs "/claim/cut.py" 969)]
def o549 (P : Params) : Obj := fF (fnAt 60) "set_on" "set_on" 3 .none (vs "joinedhand.marks" 771) (r 548)
def o552 (P : Params) : Obj := tu [(vs "scene" 974), (vs "table" 975), (vs "at" 976), (vs "place" 977)]
def o554 (P : Params) : Obj := fG (fnAt 61) "apply_base" "apply_base"
def o555 (P : Params) : Obj := cO [(vs "apply_base" 971), (vs "apply_base" 972), (vs "/claim/cut.py" 973), (j 347), (j 3), (j 0), (j 0), (j 3), (r 550), (.bool true), (j 181), (r 551), .none, (r 552), (r 553), (r 554), (j 978), (j 347), (vs "/claim/cut.py" 979)]
def o556 (P : Params) : Obj := fF (fnAt 61) "apply_base" "apply_base" 3 .none (vs "joinedhand.marks" 771) (r 555)
def o559 (P : Params) : Obj := tu [(vs "mark" 984), (vs "ligature" 985), (vs "count" 986)]
def o561 (P : Params) : Obj := fG (fnAt 62) "component_of" "component_of"
def o562 (P : Params) : Obj := cO [(vs "component_of" 981), (vs "component_of" 982), (vs "/claim/cut.py" 983), (j 354), (j 3), (j 0), (j 0), (j 3), (r 557), (.bool true), (j 181), (r 558), .none, (r 559), (r 560), (r 561), (j 987), (j 354), (vs "/claim/cut.py" 988)]
def o563 (P : Params) : Obj := fF (fnAt 62) "component_of" "component_of" 3 .none (vs "joinedhand.marks" 771) (r 562)
def o566 (P : Params) : Obj := tu [(vs "scene" 993), (vs "table" 994), (vs "at" 995), (vs "row" 996), (vs "place" 997), (vs "parts" 998)]
def o568 (P : Params) : Obj := fG (fnAt 63) "apply_component" "apply_component"
def o569 (P : Params) : Obj := cO [(vs "apply_component" 990), (vs "apply_component" 991), (vs "/claim/cut.py" 992), (j 358), (j 3), (j 0), (j 0), (j 3), (r 564), (.bool true), (j 181), (r 565), .none, (r 566), (r 567), (r 568), (j 999), (j 358), (vs "/claim/cut.py" 1000)]
def o570 (P : Params) : Obj := fF (fnAt 63) "apply_component" "apply_component" 3 .none (vs "joinedhand.marks" 771) (r 569)
def o573 (P : Params) : Obj := tu [(vs "mark" 1005), (vs "other" 1006)]
def o575 (P : Params) : Obj := fG (fnAt 64) "are_of_one" "are_of_one"
def o576 (P : Params) : Obj := cO [(vs "are_of_one" 1002), (vs "are_of_one" 1003), (vs "/claim/cut.py" 1004), (j 369), (j 2), (j 0), (j 0), (j 3), (r 571), (.bool true), (j 181), (r 572), .none, (r 573), (r 574), (r 575), (j 1007), (j 369), (vs "/claim/cut.py" 1008)]
def o577 (P : Params) : Obj := fF (fnAt 64) "are_of_one" "are_of_one" 3 .none (vs "joinedhand.marks" 771) (r 576)
def o580 (P : Params) : Obj := tu [(vs "scene" 1013), (vs "table" 1014), (vs "at" 1015), (vs "row" 1016), (vs "passed" 1017), (vs "place" 1018)]
def o582 (P : Params) : Obj := fG (fnAt 65) "apply_mark" "apply_mark"
def o583 (P : Params) : Obj := cO [(vs "apply_mark" 1010), (vs "apply_mark" 1011), (vs "/claim/cut.py" 1012), (j 373), (j 3), (j 0), (j 0), (j 3), (r 578), (.bool true), (j 181), (r 579), .none, (r 580), (r 581), (r 582), (j 1019), (j 373), (vs "/claim/cut.py" 1020)]
def o584 (P : Params) : Obj := fF (fnAt 65) "apply_mark" "apply_mark" 3 .none (vs "joinedhand.marks" 771) (r 583)
def o587 (P : Params) : Obj := ⟨(.type "dict"), none, .dict (Z [en P "__module__" 1031 (vs "joinedhand.coverage" 1022), en P "__qualname__" 1033 (vs "Coverage" 1032), en P "__firstlineno__" 1035 (.int 385 1034), en P "__init__" 1043 (r 598), en P "index" 1054 (r 605), en P "has" 1062 (r 612), en P "told" 1069 (r 619), en P "__static_attributes__" 1071 (r 620)]) 8, Z []⟩
def o589 (P : Params) : Obj := nO [(j 387), (j 4), (r 597), (j 390), (j 4), (r 604), (j 403), (j 4), (r 611), (j 406), (j 4), (r 618)]
def o590 (P : Params) : Obj := cO [(vs "Coverage" 1026), (vs "Coverage" 1027), (vs "/claim/cut.py" 1028), (j 385), (j 0), (j 0), (j 0), (j 0), (r 588), (.bool false), (j 181), (r 589), .none, .none, .none, .none, (j 1029), (j 385), (vs "/claim/cut.py" 1030)]
def o591 (P : Params) : Obj := fO [(some (r 590)), (some (r 3)), (some (r 587)), none, (some (vs "joinedhand.coverage" 1022)), none, (some (r 0))]
def o594 (P : Params) : Obj := tu [(vs "self" 1039), (vs "glyphs" 1040)]
def o596 (P : Params) : Obj := fG (mtAt 67 0) "__init__" "Coverage.__init__"
def o597 (P : Params) : Obj := cO [(vs "__init__" 1036), (vs "Coverage.__init__" 1037), (vs "/claim/cut.py" 1038), (j 387), (j 2), (j 0), (j 0), (j 3), (r 592), (.bool true), (j 181), (r 593), .none, (r 594), (r 595), (r 596), (j 1041), (j 387), (vs "/claim/cut.py" 1042)]
def o598 (P : Params) : Obj := fF (mtAt 67 0) "__init__" "Coverage.__init__" 3 .none (vs "joinedhand.coverage" 1022) (r 597)
def o601 (P : Params) : Obj := tu [(vs "self" 1047), (vs "glyph" 1048), (vs "low" 1049), (vs "high" 1050), (vs "middle" 1051)]
def o603 (P : Params) : Obj := fG (mtAt 67 1) "index" "Coverage.index"
def o604 (P : Params) : Obj := cO [(vs "index" 1044), (vs "Coverage.index" 1045), (vs "/claim/cut.py" 1046), (j 390), (j 2), (j 0), (j 0), (j 3), (r 599), (.bool true), (j 181), (r 600), .none, (r 601), (r 602), (r 603), (j 1052), (j 390), (vs "/claim/cut.py" 1053)]
def o605 (P : Params) : Obj := fF (mtAt 67 1) "index" "Coverage.index" 3 .none (vs "joinedhand.coverage" 1022) (r 604)
def o608 (P : Params) : Obj := tu [(vs "self" 1058), (vs "glyph" 1059)]
def o610 (P : Params) : Obj := fG (mtAt 67 2) "has" "Coverage.has"
def o611 (P : Params) : Obj := cO [(vs "has" 1055), (vs "Coverage.has" 1056), (vs "/claim/cut.py" 1057), (j 403), (j 2), (j 0), (j 0), (j 3), (r 606), (.bool true), (j 181), (r 607), .none, (r 608), (r 609), (r 610), (j 1060), (j 403), (vs "/claim/cut.py" 1061)]
def o612 (P : Params) : Obj := fF (mtAt 67 2) "has" "Coverage.has" 3 .none (vs "joinedhand.coverage" 1022) (r 611)
def o615 (P : Params) : Obj := tu [(vs "self" 1066)]
def o617 (P : Params) : Obj := fG (mtAt 67 3) "told" "Coverage.told"
def o618 (P : Params) : Obj := cO [(vs "told" 1063), (vs "Coverage.told" 1064), (vs "/claim/cut.py" 1065), (j 406), (j 1), (j 0), (j 0), (j 3), (r 613), (.bool true), (j 181), (r 614), .none, (r 615), (r 616), (r 617), (j 1067), (j 406), (vs "/claim/cut.py" 1068)]
def o619 (P : Params) : Obj := fF (mtAt 67 3) "told" "Coverage.told" 3 .none (vs "joinedhand.coverage" 1022) (r 618)
def o620 (P : Params) : Obj := tu [(vs "glyphs" 1070)]
def o621 (P : Params) : Obj := ⟨(.type "dict"), none, .dict (Z [en P "__module__" 1031 (vs "joinedhand.coverage" 1022), en P "__firstlineno__" 1035 (.int 385 1034), en P "__init__" 1043 (r 598), en P "index" 1054 (r 605), en P "has" 1062 (r 612), en P "told" 1069 (r 619), en P "__static_attributes__" 1071 (r 620), en P "__dict__" 1073 (r 623), en P "__weakref__" 1075 (r 624), en P "__doc__" 1076 .none]) 4, Z []⟩
def o622 (P : Params) : Obj := ⟨(.type "type"), none, .cls (clD (S "Coverage") [(.type "object")] [(r 622), (.type "object")] 621 (S "Coverage") true [] [] false none false), Z [none, none, (some (vs "Coverage" 1024)), (some (vs "Coverage" 1032)), (some (.builtin "object.__new__")), (some (.bool true))]⟩
def o623 (P : Params) : Obj := ⟨(.type "getset_descriptor"), none, .fields (Z [(vs "__dict__" 1072), (r 622), (.builtin "function.__dict__"), (.builtin "function.__dict__#set")]), Z []⟩
def o624 (P : Params) : Obj := ⟨(.type "getset_descriptor"), none, .fields (Z [(vs "__weakref__" 1074), (r 622), (.builtin "ExceptionGroup.__weakref__"), .none]), Z []⟩
def o625 (P : Params) : Obj := ⟨(.type "super"), none, .fields (Z [(r 622), (r 622), (r 622)]), Z []⟩
def o626 (P : Params) : Obj := ⟨(.type "builtin_function_or_method"), none, .fields (Z [(.builtin "object.__init_subclass__"), (r 622)]), Z []⟩
def o629 (P : Params) : Obj := tu [(vs "glyphs" 1082), (vs "found" 1083), (vs "glyph" 1084)]
def o631 (P : Params) : Obj := fG (fnAt 68) "coverage_of" "coverage_of"
def o632 (P : Params) : Obj := cO [(vs "coverage_of" 1079), (vs "coverage_of" 1080), (vs "/claim/cut.py" 1081), (j 408), (j 1), (j 0), (j 0), (j 3), (r 627), (.bool true), (j 181), (r 628), .none, (r 629), (r 630), (r 631), (j 1085), (j 408), (vs "/claim/cut.py" 1086)]
def o633 (P : Params) : Obj := fF (fnAt 68) "coverage_of" "coverage_of" 3 .none (vs "joinedhand.coverage" 1022) (r 632)
def o636 (P : Params) : Obj := ⟨(.type "dict"), none, .dict (Z [en P "__module__" 1101 (vs "joinedhand.contexts" 1088), en P "__qualname__" 1103 (vs "Rule" 1102), en P "__firstlineno__" 1105 (.int 416 1104), en P "__init__" 1116 (r 647), en P "told" 1123 (r 654), en P "reach" 1130 (r 661), en P "__static_attributes__" 1135 (r 662)]) 7, Z []⟩
def o638 (P : Params) : Obj := nO [(j 418), (j 4), (r 646), (j 424), (j 4), (r 653), (j 427), (j 4), (r 660)]
def o639 (P : Params) : Obj := cO [(vs "Rule" 1096), (vs "Rule" 1097), (vs "/claim/cut.py" 1098), (j 416), (j 0), (j 0), (j 0), (j 0), (r 637), (.bool false), (j 181), (r 638), .none, .none, .none, .none, (j 1099), (j 416), (vs "/claim/cut.py" 1100)]
def o640 (P : Params) : Obj := fO [(some (r 639)), (some (r 3)), (some (r 636)), none, (some (vs "joinedhand.contexts" 1088)), none, (some (r 0))]
def o643 (P : Params) : Obj := tu [(vs "self" 1109), (vs "back" 1110), (vs "inside" 1111), (vs "ahead" 1112), (vs "actions" 1113)]
def o645 (P : Params) : Obj := fG (mtAt 72 0) "__init__" "Rule.__init__"
def o646 (P : Params) : Obj := cO [(vs "__init__" 1106), (vs "Rule.__init__" 1107), (vs "/claim/cut.py" 1108), (j 418), (j 5), (j 0), (j 0), (j 3), (r 641), (.bool true), (j 181), (r 642), .none, (r 643), (r 644), (r 645), (j 1114), (j 418), (vs "/claim/cut.py" 1115)]
def o647 (P : Params) : Obj := fF (mtAt 72 0) "__init__" "Rule.__init__" 3 .none (vs "joinedhand.contexts" 1088) (r 646)
def o650 (P : Params) : Obj := tu [(vs "self" 1120)]
def o652 (P : Params) : Obj := fG (mtAt 72 1) "told" "Rule.told"
def o653 (P : Params) : Obj := cO [(vs "told" 1117), (vs "Rule.told" 1118), (vs "/claim/cut.py" 1119), (j 424), (j 1), (j 0), (j 0), (j 3), (r 648), (.bool true), (j 181), (r 649), .none, (r 650), (r 651), (r 652), (j 1121), (j 424), (vs "/claim/cut.py" 1122)]
def o654 (P : Params) : Obj := fF (mtAt 72 1) "told" "Rule.told" 3 .none (vs "joinedhand.contexts" 1088) (r 653)
def o657 (P : Params) : Obj := tu [(vs "self" 1127)]
def o659 (P : Params) : Obj := fG (mtAt 72 2) "reach" "Rule.reach"
def o660 (P : Params) : Obj := cO [(vs "reach" 1124), (vs "Rule.reach" 1125), (vs "/claim/cut.py" 1126), (j 427), (j 1), (j 0), (j 0), (j 3), (r 655), (.bool true), (j 181), (r 656), .none, (r 657), (r 658), (r 659), (j 1128), (j 427), (vs "/claim/cut.py" 1129)]
def o661 (P : Params) : Obj := fF (mtAt 72 2) "reach" "Rule.reach" 3 .none (vs "joinedhand.contexts" 1088) (r 660)
def o662 (P : Params) : Obj := tu [(vs "actions" 1131), (vs "ahead" 1132), (vs "back" 1133), (vs "inside" 1134)]
def o663 (P : Params) : Obj := ⟨(.type "dict"), none, .dict (Z [en P "__module__" 1101 (vs "joinedhand.contexts" 1088), en P "__firstlineno__" 1105 (.int 416 1104), en P "__init__" 1116 (r 647), en P "told" 1123 (r 654), en P "reach" 1130 (r 661), en P "__static_attributes__" 1135 (r 662), en P "__dict__" 1137 (r 665), en P "__weakref__" 1139 (r 666), en P "__doc__" 1140 .none]) 4, Z []⟩
def o664 (P : Params) : Obj := ⟨(.type "type"), none, .cls (clD (S "Rule") [(.type "object")] [(r 664), (.type "object")] 663 (S "Rule") true [] [] false none false), Z [none, none, (some (vs "Rule" 1094)), (some (vs "Rule" 1102)), (some (.builtin "object.__new__")), (some (.bool true))]⟩
def o665 (P : Params) : Obj := ⟨(.type "getset_descriptor"), none, .fields (Z [(vs "__dict__" 1136), (r 664), (.builtin "function.__dict__"), (.builtin "function.__dict__#set")]), Z []⟩
def o666 (P : Params) : Obj := ⟨(.type "getset_descriptor"), none, .fields (Z [(vs "__weakref__" 1138), (r 664), (.builtin "ExceptionGroup.__weakref__"), .none]), Z []⟩
def o667 (P : Params) : Obj := ⟨(.type "super"), none, .fields (Z [(r 664), (r 664), (r 664)]), Z []⟩
def o668 (P : Params) : Obj := ⟨(.type "builtin_function_or_method"), none, .fields (Z [(.builtin "object.__init_subclass__"), (r 664)]), Z []⟩
def o671 (P : Params) : Obj := ⟨(.type "dict"), none, .dict (Z [en P "__module__" 1150 (vs "joinedhand.contexts" 1088), en P "__qualname__" 1152 (vs "Contexts" 1151), en P "__firstlineno__" 1154 (.int 429 1153), en P "__init__" 1166 (r 683), en P "told" 1172 (r 688), en P "used_classes" 1179 (r 695), en P "rules" 1189 (r 702), en P "__static_attributes__" 1195 (r 703)]) 8, Z []⟩
def o673 (P : Params) : Obj := nO [(j 431), (j 4), (r 682), (j 438), (j 4), (r 687), (j 444), (j 4), (r 694), (j 447), (j 4), (r 701)]
def o674 (P : Params) : Obj := cO [(vs "Contexts" 1145), (vs "Contexts" 1146), (vs "/claim/cut.py" 1147), (j 429), (j 0), (j 0), (j 0), (j 0), (r 672), (.bool false), (j 181), (r 673), .none, .none, .none, .none, (j 1148), (j 429), (vs "/claim/cut.py" 1149)]
def o675 (P : Params) : Obj := fO [(some (r 674)), (some (r 3)), (some (r 671)), none, (some (vs "joinedhand.contexts" 1088)), none, (some (r 0))]
def o676 (P : Params) : Obj := tu [.none, .none]
def o679 (P : Params) : Obj := tu [(vs "self" 1158), (vs "form" 1159), (vs "is_chained" 1160), (vs "sets" 1161), (vs "coverage" 1162), (vs "classes" 1163)]
def o681 (P : Params) : Obj := fG (mtAt 73 0) "__init__" "Contexts.__init__"
def o682 (P : Params) : Obj := cO [(vs "__init__" 1155), (vs "Contexts.__init__" 1156), (vs "/claim/cut.py" 1157), (j 431), (j 6), (j 0), (j 0), (j 3), (r 677), (.bool true), (j 181), (r 678), .none, (r 679), (r 680), (r 681), (j 1164), (j 431), (vs "/claim/cut.py" 1165)]
def o683 (P : Params) : Obj := ⟨(.type "function"), none, .func (fnD (mtAt 73 0) (S "__init__") (S "Contexts.__init__") (mtAt 73 0).scope 3 [] (r 676) .none .none (vs "joinedhand.contexts" 1088) none (r 682) .none 0), Z []⟩
def o686 (P : Params) : Obj := fG (mtAt 73 1) "told" "Contexts.told"
def o687 (P : Params) : Obj := cO [(vs "told" 1167), (vs "Contexts.told" 1168), (vs "/claim/cut.py" 1169), (j 438), (j 1), (j 0), (j 0), (j 3), (r 684), (.bool true), (j 181), (r 685), .none, .none, .none, (r 686), (j 1170), (j 438), (vs "/claim/cut.py" 1171)]
def o688 (P : Params) : Obj := fF (mtAt 73 1) "told" "Contexts.told" 3 .none (vs "joinedhand.contexts" 1088) (r 687)
def o691 (P : Params) : Obj := tu [(vs "self" 1176)]
def o693 (P : Params) : Obj := fG (mtAt 73 2) "used_classes" "Contexts.used_classes"
def o694 (P : Params) : Obj := cO [(vs "used_classes" 1173), (vs "Contexts.used_classes" 1174), (vs "/claim/cut.py" 1175), (j 444), (j 1), (j 0), (j 0), (j 3), (r 689), (.bool true), (j 181), (r 690), .none, (r 691), (r 692), (r 693), (j 1177), (j 444), (vs "/claim/cut.py" 1178)]
def o695 (P : Params) : Obj := fF (mtAt 73 2) "used_classes" "Contexts.used_classes" 3 .none (vs "joinedhand.contexts" 1088) (r 694)
def o698 (P : Params) : Obj := tu [(vs "self" 1183), (vs "found" 1184), (vs "key" 1185), (vs "rule" 1186)]
def o700 (P : Params) : Obj := fG (mtAt 73 3) "rules" "Contexts.rules"
def o701 (P : Params) : Obj := cO [(vs "rules" 1180), (vs "Contexts.rules" 1181), (vs "/claim/cut.py" 1182), (j 447), (j 1), (j 0), (j 0), (j 3), (r 696), (.bool true), (j 181), (r 697), .none, (r 698), (r 699), (r 700), (j 1187), (j 447), (vs "/claim/cut.py" 1188)]
def o702 (P : Params) : Obj := fF (mtAt 73 3) "rules" "Contexts.rules" 3 .none (vs "joinedhand.contexts" 1088) (r 701)
def o703 (P : Params) : Obj := tu [(vs "classes" 1190), (vs "coverage" 1191), (vs "form" 1192), (vs "is_chained" 1193), (vs "sets" 1194)]
def o704 (P : Params) : Obj := ⟨(.type "dict"), none, .dict (Z [en P "__module__" 1150 (vs "joinedhand.contexts" 1088), en P "__firstlineno__" 1154 (.int 429 1153), en P "__init__" 1166 (r 683), en P "told" 1172 (r 688), en P "used_classes" 1179 (r 695), en P "rules" 1189 (r 702), en P "__static_attributes__" 1195 (r 703), en P "__dict__" 1197 (r 706), en P "__weakref__" 1199 (r 707), en P "__doc__" 1200 .none]) 4, Z []⟩
def o705 (P : Params) : Obj := ⟨(.type "type"), none, .cls (clD (S "Contexts") [(.type "object")] [(r 705), (.type "object")] 704 (S "Contexts") true [] [] false none false), Z [none, none, (some (vs "Contexts" 1143)), (some (vs "Contexts" 1151)), (some (.builtin "object.__new__")), (some (.bool true))]⟩
def o706 (P : Params) : Obj := ⟨(.type "getset_descriptor"), none, .fields (Z [(vs "__dict__" 1196), (r 705), (.builtin "function.__dict__"), (.builtin "function.__dict__#set")]), Z []⟩
def o707 (P : Params) : Obj := ⟨(.type "getset_descriptor"), none, .fields (Z [(vs "__weakref__" 1198), (r 705), (.builtin "ExceptionGroup.__weakref__"), .none]), Z []⟩
def o708 (P : Params) : Obj := ⟨(.type "super"), none, .fields (Z [(r 705), (r 705), (r 705)]), Z []⟩
def o709 (P : Params) : Obj := ⟨(.type "builtin_function_or_method"), none, .fields (Z [(.builtin "object.__init_subclass__"), (r 705)]), Z []⟩
def o712 (P : Params) : Obj := fG (fnAt 74) "told_row" "told_row"
def o713 (P : Params) : Obj := cO [(vs "told_row" 1203), (vs "told_row" 1204), (vs "/claim/cut.py" 1205), (j 453), (j 1), (j 0), (j 0), (j 3), (r 710), (.bool true), (j 181), (r 711), .none, .none, .none, (r 712), (j 1206), (j 453), (vs "/claim/cut.py" 1207)]
def o714 (P : Params) : Obj := fF (fnAt 74) "told_row" "told_row" 3 .none (vs "joinedhand.contexts" 1088) (r 713)
def o717 (P : Params) : Obj := fG (fnAt 76) "tests_of" "tests_of"
def o718 (P : Params) : Obj := cO [(vs "tests_of" 1210), (vs "tests_of" 1211), (vs "/claim/cut.py" 1212), (j 456), (j 3), (j 0), (j 0), (j 3), (r 715), (.bool true), (j 181), (r 716), .none, .none, .none, (r 717), (j 1213), (j 456), (vs "/claim/cut.py" 1214)]
def o719 (P : Params) : Obj := fF (fnAt 76) "tests_of" "tests_of" 3 .none (vs "joinedhand.contexts" 1088) (r 718)
def o722 (P : Params) : Obj := tu [(vs "table" 1219), (vs "rule" 1220), (vs "word" 1221), (vs "back" 1222), (vs "inside" 1223), (vs "ahead" 1224)]
def o724 (P : Params) : Obj := fG (fnAt 77) "rule_tests" "rule_tests"
def o725 (P : Params) : Obj := cO [(vs "rule_tests" 1216), (vs "rule_tests" 1217), (vs "/claim/cut.py" 1218), (j 460), (j 2), (j 0), (j 0), (j 3), (r 720), (.bool true), (j 181), (r 721), .none, (r 722), (r 723), (r 724), (j 1225), (j 460), (vs "/claim/cut.py" 1226)]
def o726 (P : Params) : Obj := fF (fnAt 77) "rule_tests" "rule_tests" 3 .none (vs "joinedhand.contexts" 1088) (r 725)
def o729 (P : Params) : Obj := fG (fnAt 78) "rules_at" "rules_at"
def o730 (P : Params) : Obj := cO [(vs "rules_at" 1228), (vs "rules_at" 1229), (vs "/claim/cut.py" 1230), (j 464), (j 2), (j 0), (j 0), (j 3), (r 727), (.bool true), (j 181), (r 728), .none, .none, .none, (r 729), (j 1231), (j 464), (vs "/claim/cut.py" 1232)]
def o731 (P : Params) : Obj := fF (fnAt 78) "rules_at" "rules_at" 3 .none (vs "joinedhand.contexts" 1088) (r 730)
def o734 (P : Params) : Obj := ⟨(.type "dict"), none, .dict (Z [en P "__module__" 1249 (vs "joinedhand.nested" 1234), en P "__qualname__" 1251 (vs "Places" 1250), en P "__firstlineno__" 1253 (.int 476 1252), en P "__init__" 1262 (r 745), en P "__static_attributes__" 1265 (r 746)]) 5, Z []⟩
def o736 (P : Params) : Obj := nO [(j 478), (j 4), (r 744)]
def o737 (P : Params) : Obj := cO [(vs "Places" 1244), (vs "Places" 1245), (vs "/claim/cut.py" 1246), (j 476), (j 0), (j 0), (j 0), (j 0), (r 735), (.bool false), (j 181), (r 736), .none, .none, .none, .none, (j 1247), (j 476), (vs "/claim/cut.py" 1248)]
def o738 (P : Params) : Obj := fO [(some (r 737)), (some (r 3)), (some (r 734)), none, (some (vs "joinedhand.nested" 1234)), none, (some (r 0))]
def o741 (P : Params) : Obj := tu [(vs "self" 1257), (vs "row" 1258), (vs "end" 1259)]
def o743 (P : Params) : Obj := fG (mtAt 83 0) "__init__" "Places.__init__"
def o744 (P : Params) : Obj := cO [(vs "__init__" 1254), (vs "Places.__init__" 1255), (vs "/claim/cut.py" 1256), (j 478), (j 3), (j 0), (j 0), (j 3), (r 739), (.bool true), (j 181), (r 740), .none, (r 741), (r 742), (r 743), (j 1260), (j 478), (vs "/claim/cut.py" 1261)]
def o745 (P : Params) : Obj := fF (mtAt 83 0) "__init__" "Places.__init__" 3 .none (vs "joinedhand.nested" 1234) (r 744)
def o746 (P : Params) : Obj := tu [(vs "end" 1263), (vs "row" 1264)]
def o747 (P : Params) : Obj := ⟨(.type "dict"), none, .dict (Z [en P "__module__" 1249 (vs "joinedhand.nested" 1234), en P "__firstlineno__" 1253 (.int 476 1252), en P "__init__" 1262 (r 745), en P "__static_attributes__" 1265 (r 746), en P "__dict__" 1267 (r 749), en P "__weakref__" 1269 (r 750), en P "__doc__" 1270 .none]) 4, Z []⟩
def o748 (P : Params) : Obj := ⟨(.type "type"), none, .cls (clD (S "Places") [(.type "object")] [(r 748), (.type "object")] 747 (S "Places") true [] [] false none false), Z [none, none, (some (vs "Places" 1242)), (some (vs "Places" 1250)), (some (.builtin "object.__new__")), (some (.bool true))]⟩
def o749 (P : Params) : Obj := ⟨(.type "getset_descriptor"), none, .fields (Z [(vs "__dict__" 1266), (r 748), (.builtin "function.__dict__"), (.builtin "function.__dict__#set")]), Z []⟩
def o750 (P : Params) : Obj := ⟨(.type "getset_descriptor"), none, .fields (Z [(vs "__weakref__" 1268), (r 748), (.builtin "ExceptionGroup.__weakref__"), .none]), Z []⟩
def o751 (P : Params) : Obj := ⟨(.type "super"), none, .fields (Z [(r 748), (r 748), (r 748)]), Z []⟩
def o752 (P : Params) : Obj := ⟨(.type "builtin_function_or_method"), none, .fields (Z [(.builtin "object.__init_subclass__"), (r 748)]), Z []⟩
def o755 (P : Params) : Obj := tu [(vs "scene" 1276), (vs "at" 1277), (vs "tests" 1278), (vs "back" 1279), (vs "inside" 1280), (vs "ahead" 1281), (vs "actions" 1282), (vs "places" 1283), (vs "begin" 1284), (vs "end" 1285)]
def o757 (P : Params) : Obj := fG (fnAt 84) "match_rule" "match_rule"
def o758 (P : Params) : Obj := cO [(vs "match_rule" 1273), (vs "match_rule" 1274), (vs "/claim/cut.py" 1275), (j 481), (j 3), (j 0), (j 0), (j 3), (r 753), (.bool true), (j 181), (r 754), .none, (r 755), (r 756), (r 757), (j 1286), (j 481), (vs "/claim/cut.py" 1287)]
def o759 (P : Params) : Obj := fF (fnAt 84) "match_rule" "match_rule" 3 .none (vs "joinedhand.nested" 1234) (r 758)
def o762 (P : Params) : Obj := tu [(vs "scene" 1292), (vs "number" 1293)]
def o764 (P : Params) : Obj := fG (fnAt 85) "inner_scene" "inner_scene"
def o765 (P : Params) : Obj := cO [(vs "inner_scene" 1289), (vs "inner_scene" 1290), (vs "/claim/cut.py" 1291), (j 491), (j 2), (j 0), (j 0), (j 3), (r 760), (.bool true), (j 181), (r 761), .none, (r 762), (r 763), (r 764), (j 1294), (j 491), (vs "/claim/cut.py" 1295)]
def o766 (P : Params) : Obj := fF (fnAt 85) "inner_scene" "inner_scene" 3 .none (vs "joinedhand.nested" 1234) (r 765)
def o769 (P : Params) : Obj := fG (fnAt 86) "grow" "grow"
def o770 (P : Params) : Obj := cO [(vs "grow" 1297), (vs "grow" 1298), (vs "/claim/cut.py" 1299), (j 493), (j 3), (j 0), (j 0), (j 3), (r 767), (.bool true), (j 181), (r 768), .none, .none, .none, (r 769), (j 1300), (j 493), (vs "/claim/cut.py" 1301)]
def o771 (P : Params) : Obj := fF (fnAt 86) "grow" "grow" 3 .none (vs "joinedhand.nested" 1234) (r 770)
def o774 (P : Params) : Obj := fG (fnAt 87) "shrink" "shrink"
def o775 (P : Params) : Obj := cO [(vs "shrink" 1303), (vs "shrink" 1304), (vs "/claim/cut.py" 1305), (j 496), (j 3), (j 0), (j 0), (j 3), (r 772), (.bool true), (j 181), (r 773), .none, .none, .none, (r 774), (j 1306), (j 496), (vs "/claim/cut.py" 1307)]
def o776 (P : Params) : Obj := fF (fnAt 87) "shrink" "shrink" 3 .none (vs "joinedhand.nested" 1234) (r 775)
def o779 (P : Params) : Obj := tu [(vs "places" 1312), (vs "index" 1313), (vs "change" 1314)]
def o781 (P : Params) : Obj := fG (fnAt 88) "move" "move"
def o782 (P : Params) : Obj := cO [(vs "move" 1309), (vs "move" 1310), (vs "/claim/cut.py" 1311), (j 498), (j 3), (j 0), (j 0), (j 3), (r 777), (.bool true), (j 181), (r 778), .none, (r 779), (r 780), (r 781), (j 1315), (j 498), (vs "/claim/cut.py" 1316)]
def o783 (P : Params) : Obj := fF (fnAt 88) "move" "move" 3 .none (vs "joinedhand.nested" 1234) (r 782)
def o786 (P : Params) : Obj := tu [(vs "scene" 1321), (vs "places" 1322), (vs "action" 1323), (vs "apply_at" 1324), (vs "index" 1325), (vs "number" 1326), (vs "inner" 1327), (vs "size" 1328), (vs "change" 1329)]
def o788 (P : Params) : Obj := fG (fnAt 89) "do_action" "do_action"
def o789 (P : Params) : Obj := cO [(vs "do_action" 1318), (vs "do_action" 1319), (vs "/claim/cut.py" 1320), (j 507), (j 4), (j 0), (j 0), (j 3), (r 784), (.bool true), (j 181), (r 785), .none, (r 786), (r 787), (r 788), (j 1330), (j 507), (vs "/claim/cut.py" 1331)]
def o790 (P : Params) : Obj := fF (fnAt 89) "do_action" "do_action" 3 .none (vs "joinedhand.nested" 1234) (r 789)
def o793 (P : Params) : Obj := tu [(vs "scene" 1336), (vs "places" 1337), (vs "actions" 1338), (vs "apply_at" 1339), (vs "action" 1340)]
def o795 (P : Params) : Obj := fG (fnAt 90) "do_actions" "do_actions"
def o796 (P : Params) : Obj := cO [(vs "do_actions" 1333), (vs "do_actions" 1334), (vs "/claim/cut.py" 1335), (j 525), (j 4), (j 0), (j 0), (j 3), (r 791), (.bool true), (j 181), (r 792), .none, (r 793), (r 794), (r 795), (j 1341), (j 525), (vs "/claim/cut.py" 1342)]
def o797 (P : Params) : Obj := fF (fnAt 90) "do_actions" "do_actions" 3 .none (vs "joinedhand.nested" 1234) (r 796)
def o3v791 (P : Params) : Obj := ⟨(.type "dict"), none, .dict (Z [en P "__name__" 165 (vs "law_pb0209_01" 1794), en P "__doc__" 166 .none, en P "__package__" 167 .none, en P "__loader__" 168 (.builtin "__main__.__loader__#opaque"), en P "__spec__" 169 .none, en P "__annotations__" 170 (r 6), en P "__builtins__" 171 (r 4), en P "__file__" 173 (vs "/claim/cut.py" 172), en P "__cached__" 174 .none, en P "_wall" 193 (r 21), en P "RIGHT_TO_LEFT" 197 (.int 1 196), en P "IGNORE_BASES" 199 (.int 2 198), en P "IGNORE_LIGATURES" 201 (.int 4 200), en P "IGNORE_MARKS" 203 (.int 8 202), en P "USE_SET" 205 (.int 16 204), en P "Lookup" 246 (r 43), en P "Scene" 287 (r 65), en P "attach_wanted" 294 (r 76), en P "class_bit" 301 (r 83), en P "is_ignored" 312 (r 90), en P "passes" 320 (r 97), en P "nested_scene" 329 (r 104), en P "Info" 392 (r 135), en P "Buffer" 458 (r 188), en P "hang" 464 (r 197), en P "KINDS_IN_INPUT" 469 (r 198), en P "KINDS_AROUND" 473 (r 199), en P "fits" 481 (r 206), en P "neighbour" 491 (r 213), en P "next_at" 499 (r 220), en P "before_at" 507 (r 227), en P "is_borne" 515 (r 234), en P "found_at" 529 (r 241), en P "input_at" 541 (r 248), en P "last_at" 553 (r 255), en P "ahead_at" 562 (r 262), en P "back_at" 571 (r 269), en P "Anchor" 611 (r 293), en P "told_anchor" 618 (r 304), en P "difference" 626 (r 311), en P "told_marks" 632 (r 316), en P "BOND" 636 (vs "cursive" 635), en P "Cursive" 693 (r 357), en P "join_forward" 704 (r 368), en P "join_backward" 715 (r 375), en P "loosen" 722 (r 382), en P "turn_chain" 736 (r 389), en P "break_ring" 747 (r 396), en P "tie" 757 (r 403), en P "apply_cursive" 770 (r 410), en P "MARK_GLYPH" 774 (.int 3 773), en P "classes_of" 780 (r 415), en P "told_row" 786 (r 714), en P "told_row_marks" 787 (r 420), en P "has_anchor" 793 (r 425), en P "told_by_glyph" 804 (r 432), en P "MarkBase" 842 (r 456), en P "MarkComponent" 879 (r 482), en P "MarkMark" 917 (r 510), en P "scene_with" 927 (r 521), en P "is_mark_at" 935 (r 528), en P "is_later_part" 945 (r 535), en P "base_ahead" 955 (r 542), en P "set_on" 970 (r 549), en P "apply_base" 980 (r 556), en P "component_of" 989 (r 563), en P "apply_component" 1001 (r 570), en P "are_of_one" 1009 (r 577), en P "apply_mark" 1021 (r 584), en P "Coverage" 1078 (r 622), en P "coverage_of" 1087 (r 633), en P "BY_GLYPHS" 1091 (.int 1 1090), en P "BY_CLASSES" 1093 (.int 2 1092), en P "Rule" 1142 (r 664), en P "Contexts" 1202 (r 705), en P "told_row_contexts" 1209 (r 714), en P "tests_of" 1215 (r 719), en P "rule_tests" 1227 (r 726), en P "rules_at" 1233 (r 731), en P "MOST_DEPTH" 1237 (.int 6 1236), en P "MOST_PLACES" 1239 (.int 64 1238), en P "MOST_ACTIONS" 1241 (.int 256 1240), en P "Places" 1272 (r 748), en P "match_rule" 1288 (r 759), en P "inner_scene" 1296 (r 766), en P "grow" 1302 (r 771), en P "shrink" 1308 (r 776), en P "move" 1317 (r 783), en P "do_action" 1332 (r 790), en P "do_actions" 1343 (r 797), en P "apply_context" 1355 (r 804), en P "Value" 1406 (r 835), en P "add_value" 1415 (r 846), en P "Adjust" 1450 (r 868), en P "apply_adjust" 1461 (r 879), en P "pair_told" 1470 (r 886), en P "moves_second" 1476 (r 891), en P "PairGlyphs" 1522 (r 921), en P "PairClasses" 1570 (r 953), en P "has_second" 1577 (r 964), en P "apply_pair" 1589 (r 971), en P "apply_position" 1601 (r 978), en P "position_at" 1611 (r 985), en P "beginnings_of_context" 1620 (r 992), en P "beginnings_of_pair" 1626 (r 997), en P "beginnings" 1635 (r 1004), en P "run_position" 1654 (r 1011), en P "ClassDef" 1716 (r 1054), en P "NO_CLASS" 1720 (.int 0 1719), en P "BASE" 1722 (.int 1 1721), en P "COMPONENT" 1724 (.int 4 1723), en P "Gdef" 1793 (r 1102), en P "_law_pen" 1801 (r 1111), en P "_law_draw" 1814 (r 1118), en P "_law_pick" 1822 (r 1125), en P "_law_some" 1828 (r 1130), en P "_law_row" 1835 (r 1137), en P "_law_marks" 1841 (r 1142), en P "_law_table" 1847 (r 1147), en P "_law_told" 1853 (r 1152), en P "law" 1859 (r 1157)]) 121, Z []⟩
def o12v792 (P : Params) : Obj := nO [(j 1), (j 0), (r 20), (j 10), (j 0), (r 27), (j 21), (j 0), (r 53), (j 31), (j 0), (r 75), (j 33), (j 0), (r 82), (j 35), (j 0), (r 89), (j 45), (j 0), (r 96), (j 47), (j 0), (r 103), (j 54), (j 0), (r 110), (j 93), (j 0), (r 145), (j 115), (j 0), (r 196), (j 126), (j 0), (r 205), (j 132), (j 0), (r 212), (j 139), (j 0), (r 219), (j 141), (j 0), (r 226), (j 143), (j 0), (r 233), (j 145), (j 0), (r 240), (j 156), (j 0), (r 247), (j 166), (j 0), (r 254), (j 173), (j 0), (r 261), (j 175), (j 0), (r 268), (j 178), (j 0), (r 275), (j 186), (j 0), (r 303), (j 188), (j 0), (r 310), (j 190), (j 0), (r 315), (j 194), (j 0), (r 322), (j 210), (j 0), (r 367), (j 215), (j 0), (r 374), (j 220), (j 0), (r 381), (j 223), (j 0), (r 388), (j 237), (j 0), (r 395), (j 247), (j 0), (r 402), (j 253), (j 0), (r 409), (j 274), (j 0), (r 414), (j 276), (j 0), (r 419), (j 279), (j 0), (r 424), (j 281), (j 0), (r 431), (j 288), (j 0), (r 438), (j 296), (j 0), (r 466), (j 310), (j 0), (r 492), (j 318), (j 0), (r 520), (j 321), (j 0), (r 527), (j 323), (j 0), (r 534), (j 329), (j 0), (r 541), (j 335), (j 0), (r 548), (j 347), (j 0), (r 555), (j 354), (j 0), (r 562), (j 358), (j 0), (r 569), (j 369), (j 0), (r 576), (j 373), (j 0), (r 583), (j 385), (j 0), (r 590), (j 408), (j 0), (r 632), (j 416), (j 0), (r 639), (j 429), (j 0), (r 674), (j 453), (j 0), (r 713), (j 456), (j 0), (r 718), (j 460), (j 0), (r 725), (j 464), (j 0), (r 730), (j 476), (j 0), (r 737), (j 481), (j 0), (r 758), (j 491), (j 0), (r 765), (j 493), (j 0), (r 770), (j 496), (j 0), (r 775), (j 498), (j 0), (r 782), (j 507), (j 0), (r 789), (j 525), (j 0), (r 796), (j 530), (j 0), (r 803), (j 540), (j 0), (r 810), (j 553), (j 0), (r 845), (j 557), (j 0), (r 852), (j 564), (j 0), (r 878), (j 572), (j 0), (r 885), (j 574), (j 0), (r 890), (j 576), (j 0), (r 897), (j 588), (j 0), (r 931), (j 609), (j 0), (r 963), (j 611), (j 0), (r 970), (j 624), (j 0), (r 977), (j 638), (j 0), (r 984), (j 644), (j 0), (r 991), (j 653), (j 0), (r 996), (j 657), (j 0), (r 1003), (j 669), (j 0), (r 1010), (j 684), (j 0), (r 1017), (j 707), (j 0), (r 1064), (j 731), (j 0), (r 1110), (j 733), (j 0), (r 1117), (j 750), (j 0), (r 1124), (j 752), (j 0), (r 1129), (j 755), (j 0), (r 1136), (j 757), (j 0), (r 1141), (j 759), (j 0), (r 1146), (j 781), (j 0), (r 1151), (j 783), (j 0), (r 1156)]
def o800 (P : Params) : Obj := tu [(vs "scene" 1347), (vs "table" 1348), (vs "at" 1349), (vs "apply_at" 1350), (vs "tests" 1351), (vs "found" 1352)]
def o802 (P : Params) : Obj := fG (fnAt 91) "apply_context" "apply_context"
def o803 (P : Params) : Obj := cO [(vs "apply_context" 1344), (vs "apply_context" 1345), (vs "/claim/cut.py" 1346), (j 530), (j 4), (j 0), (j 0), (j 3), (r 798), (.bool true), (j 181), (r 799), .none, (r 800), (r 801), (r 802), (j 1353), (j 530), (vs "/claim/cut.py" 1354)]
def o804 (P : Params) : Obj := fF (fnAt 91) "apply_context" "apply_context" 3 .none (vs "joinedhand.nested" 1234) (r 803)
def o807 (P : Params) : Obj := ⟨(.type "dict"), none, .dict (Z [en P "__module__" 1365 (vs "joinedhand.values" 1356), en P "__qualname__" 1367 (vs "Value" 1366), en P "__firstlineno__" 1369 (.int 540 1368), en P "__init__" 1380 (r 818), en P "told" 1387 (r 825), en P "is_nothing" 1394 (r 832), en P "__static_attributes__" 1399 (r 833)]) 7, Z []⟩
def o809 (P : Params) : Obj := nO [(j 542), (j 4), (r 817), (j 548), (j 4), (r 824), (j 551), (j 4), (r 831)]
def o810 (P : Params) : Obj := cO [(vs "Value" 1360), (vs "Value" 1361), (vs "/claim/cut.py" 1362), (j 540), (j 0), (j 0), (j 0), (j 0), (r 808), (.bool false), (j 181), (r 809), .none, .none, .none, .none, (j 1363), (j 540), (vs "/claim/cut.py" 1364)]
def o811 (P : Params) : Obj := fO [(some (r 810)), (some (r 3)), (some (r 807)), none, (some (vs "joinedhand.values" 1356)), none, (some (r 0))]
def o814 (P : Params) : Obj := tu [(vs "self" 1373), (vs "x_offset" 1374), (vs "y_offset" 1375), (vs "x_advance" 1376), (vs "y_advance" 1377)]
def o816 (P : Params) : Obj := fG (mtAt 93 0) "__init__" "Value.__init__"
def o817 (P : Params) : Obj := cO [(vs "__init__" 1370), (vs "Value.__init__" 1371), (vs "/claim/cut.py" 1372), (j 542), (j 5), (j 0), (j 0), (j 3), (r 812), (.bool true), (j 181), (r 813), .none, (r 814), (r 815), (r 816), (j 1378), (j 542), (vs "/claim/cut.py" 1379)]
def o818 (P : Params) : Obj := fF (mtAt 93 0) "__init__" "Value.__init__" 3 .none (vs "joinedhand.values" 1356) (r 817)
def o821 (P : Params) : Obj := tu [(vs "self" 1384)]
def o823 (P : Params) : Obj := fG (mtAt 93 1) "told" "Value.told"
def o824 (P : Params) : Obj := cO [(vs "told" 1381), (vs "Value.told" 1382), (vs "/claim/cut.py" 1383), (j 548), (j 1), (j 0), (j 0), (j 3), (r 819), (.bool true), (j 181), (r 820), .none, (r 821), (r 822), (r 823), (j 1385), (j 548), (vs "/claim/cut.py" 1386)]
def o825 (P : Params) : Obj := fF (mtAt 93 1) "told" "Value.told" 3 .none (vs "joinedhand.values" 1356) (r 824)
def o828 (P : Params) : Obj := tu [(vs "self" 1391)]
def o830 (P : Params) : Obj := fG (mtAt 93 2) "is_nothing" "Value.is_nothing"
def o831 (P : Params) : Obj := cO [(vs "is_nothing" 1388), (vs "Value.is_nothing" 1389), (vs "/claim/cut.py" 1390), (j 551), (j 1), (j 0), (j 0), (j 3), (r 826), (.bool true), (j 181), (r 827), .none, (r 828), (r 829), (r 830), (j 1392), (j 551), (vs "/claim/cut.py" 1393)]
def o832 (P : Params) : Obj := fF (mtAt 93 2) "is_nothing" "Value.is_nothing" 3 .none (vs "joinedhand.values" 1356) (r 831)
def o833 (P : Params) : Obj := tu [(vs "x_advance" 1395), (vs "x_offset" 1396), (vs "y_advance" 1397), (vs "y_offset" 1398)]
def o834 (P : Params) : Obj := ⟨(.type "dict"), none, .dict (Z [en P "__module__" 1365 (vs "joinedhand.values" 1356), en P "__firstlineno__" 1369 (.int 540 1368), en P "__init__" 1380 (r 818), en P "told" 1387 (r 825), en P "is_nothing" 1394 (r 832), en P "__static_attributes__" 1399 (r 833), en P "__dict__" 1401 (r 836), en P "__weakref__" 1403 (r 837), en P "__doc__" 1404 .none]) 4, Z []⟩
def o835 (P : Params) : Obj := ⟨(.type "type"), none, .cls (clD (S "Value") [(.type "object")] [(r 835), (.type "object")] 834 (S "Value") true [] [] false none false), Z [none, none, (some (vs "Value" 1358)), (some (vs "Value" 1366)), (some (.builtin "object.__new__")), (some (.bool true))]⟩
def o836 (P : Params) : Obj := ⟨(.type "getset_descriptor"), none, .fields (Z [(vs "__dict__" 1400), (r 835), (.builtin "function.__dict__"), (.builtin "function.__dict__#set")]), Z []⟩
def o837 (P : Params) : Obj := ⟨(.type "getset_descriptor"), none, .fields (Z [(vs "__weakref__" 1402), (r 835), (.builtin "ExceptionGroup.__weakref__"), .none]), Z []⟩
def o838 (P : Params) : Obj := ⟨(.type "super"), none, .fields (Z [(r 835), (r 835), (r 835)]), Z []⟩
def o839 (P : Params) : Obj := ⟨(.type "builtin_function_or_method"), none, .fields (Z [(.builtin "object.__init_subclass__"), (r 835)]), Z []⟩
def o842 (P : Params) : Obj := tu [(vs "info" 1410), (vs "value" 1411), (vs "is_backward" 1412)]
def o844 (P : Params) : Obj := fG (fnAt 94) "add_value" "add_value"
def o845 (P : Params) : Obj := cO [(vs "add_value" 1407), (vs "add_value" 1408), (vs "/claim/cut.py" 1409), (j 553), (j 3), (j 0), (j 0), (j 3), (r 840), (.bool true), (j 181), (r 841), .none, (r 842), (r 843), (r 844), (j 1413), (j 553), (vs "/claim/cut.py" 1414)]
def o846 (P : Params) : Obj := fF (fnAt 94) "add_value" "add_value" 3 .none (vs "joinedhand.values" 1356) (r 845)
def o849 (P : Params) : Obj := ⟨(.type "dict"), none, .dict (Z [en P "__module__" 1423 (vs "joinedhand.values" 1356), en P "__qualname__" 1425 (vs "Adjust" 1424), en P "__firstlineno__" 1427 (.int 557 1426), en P "__init__" 1435 (r 860), en P "told" 1441 (r 865), en P "__static_attributes__" 1443 (r 866)]) 6, Z []⟩
def o851 (P : Params) : Obj := nO [(j 559), (j 4), (r 859), (j 562), (j 4), (r 864)]
def o852 (P : Params) : Obj := cO [(vs "Adjust" 1418), (vs "Adjust" 1419), (vs "/claim/cut.py" 1420), (j 557), (j 0), (j 0), (j 0), (j 0), (r 850), (.bool false), (j 181), (r 851), .none, .none, .none, .none, (j 1421), (j 557), (vs "/claim/cut.py" 1422)]
def o853 (P : Params) : Obj := fO [(some (r 852)), (some (r 3)), (some (r 849)), none, (some (vs "joinedhand.values" 1356)), none, (some (r 0))]
def o856 (P : Params) : Obj := tu [(vs "self" 1431), (vs "values" 1432)]
def o858 (P : Params) : Obj := fG (mtAt 95 0) "__init__" "Adjust.__init__"
def o859 (P : Params) : Obj := cO [(vs "__init__" 1428), (vs "Adjust.__init__" 1429), (vs "/claim/cut.py" 1430), (j 559), (j 2), (j 0), (j 0), (j 3), (r 854), (.bool true), (j 181), (r 855), .none, (r 856), (r 857), (r 858), (j 1433), (j 559), (vs "/claim/cut.py" 1434)]
def o860 (P : Params) : Obj := fF (mtAt 95 0) "__init__" "Adjust.__init__" 3 .none (vs "joinedhand.values" 1356) (r 859)
def o863 (P : Params) : Obj := fG (mtAt 95 1) "told" "Adjust.told"
def o864 (P : Params) : Obj := cO [(vs "told" 1436), (vs "Adjust.told" 1437), (vs "/claim/cut.py" 1438), (j 562), (j 1), (j 0), (j 0), (j 3), (r 861), (.bool true), (j 181), (r 862), .none, .none, .none, (r 863), (j 1439), (j 562), (vs "/claim/cut.py" 1440)]
def o865 (P : Params) : Obj := fF (mtAt 95 1) "told" "Adjust.told" 3 .none (vs "joinedhand.values" 1356) (r 864)
def o866 (P : Params) : Obj := tu [(vs "values" 1442)]
def o867 (P : Params) : Obj := ⟨(.type "dict"), none, .dict (Z [en P "__module__" 1423 (vs "joinedhand.values" 1356), en P "__firstlineno__" 1427 (.int 557 1426), en P "__init__" 1435 (r 860), en P "told" 1441 (r 865), en P "__static_attributes__" 1443 (r 866), en P "__dict__" 1445 (r 869), en P "__weakref__" 1447 (r 870), en P "__doc__" 1448 .none]) 4, Z []⟩
def o868 (P : Params) : Obj := ⟨(.type "type"), none, .cls (clD (S "Adjust") [(.type "object")] [(r 868), (.type "object")] 867 (S "Adjust") true [] [] false none false), Z [none, none, (some (vs "Adjust" 1416)), (some (vs "Adjust" 1424)), (some (.builtin "object.__new__")), (some (.bool true))]⟩
def o869 (P : Params) : Obj := ⟨(.type "getset_descriptor"), none, .fields (Z [(vs "__dict__" 1444), (r 868), (.builtin "function.__dict__"), (.builtin "function.__dict__#set")]), Z []⟩
def o870 (P : Params) : Obj := ⟨(.type "getset_descriptor"), none, .fields (Z [(vs "__weakref__" 1446), (r 868), (.builtin "ExceptionGroup.__weakref__"), .none]), Z []⟩
def o871 (P : Params) : Obj := ⟨(.type "super"), none, .fields (Z [(r 868), (r 868), (r 868)]), Z []⟩
def o872 (P : Params) : Obj := ⟨(.type "builtin_function_or_method"), none, .fields (Z [(.builtin "object.__init_subclass__"), (r 868)]), Z []⟩
def o875 (P : Params) : Obj := tu [(vs "scene" 1454), (vs "table" 1455), (vs "at" 1456), (vs "info" 1457), (vs "value" 1458)]
def o877 (P : Params) : Obj := fG (fnAt 96) "apply_adjust" "apply_adjust"
def o878 (P : Params) : Obj := cO [(vs "apply_adjust" 1451), (vs "apply_adjust" 1452), (vs "/claim/cut.py" 1453), (j 564), (j 3), (j 0), (j 0), (j 3), (r 873), (.bool true), (j 181), (r 874), .none, (r 875), (r 876), (r 877), (j 1459), (j 564), (vs "/claim/cut.py" 1460)]
def o879 (P : Params) : Obj := fF (fnAt 96) "apply_adjust" "apply_adjust" 3 .none (vs "joinedhand.values" 1356) (r 878)
def o882 (P : Params) : Obj := tu [(vs "pair" 1467)]
def o884 (P : Params) : Obj := fG (fnAt 98) "pair_told" "pair_told"
def o885 (P : Params) : Obj := cO [(vs "pair_told" 1464), (vs "pair_told" 1465), (vs "/claim/cut.py" 1466), (j 572), (j 1), (j 0), (j 0), (j 3), (r 880), (.bool true), (j 181), (r 881), .none, (r 882), (r 883), (r 884), (j 1468), (j 572), (vs "/claim/cut.py" 1469)]
def o886 (P : Params) : Obj := fF (fnAt 98) "pair_told" "pair_told" 3 .none (vs "joinedhand.pair" 1462) (r 885)
def o889 (P : Params) : Obj := fG (fnAt 99) "moves_second" "moves_second"
def o890 (P : Params) : Obj := cO [(vs "moves_second" 1471), (vs "moves_second" 1472), (vs "/claim/cut.py" 1473), (j 574), (j 1), (j 0), (j 0), (j 3), (r 887), (.bool true), (j 181), (r 888), .none, .none, .none, (r 889), (j 1474), (j 574), (vs "/claim/cut.py" 1475)]
def o891 (P : Params) : Obj := fF (fnAt 99) "moves_second" "moves_second" 3 .none (vs "joinedhand.pair" 1462) (r 890)
def o894 (P : Params) : Obj := ⟨(.type "dict"), none, .dict (Z [en P "__module__" 1484 (vs "joinedhand.pair" 1462), en P "__qualname__" 1486 (vs "PairGlyphs" 1485), en P "__firstlineno__" 1488 (.int 576 1487), en P "__init__" 1497 (r 906), en P "find" 1506 (r 913), en P "told" 1512 (r 918), en P "__static_attributes__" 1515 (r 919)]) 7, Z []⟩
def o896 (P : Params) : Obj := nO [(j 578), (j 4), (r 905), (j 582), (j 4), (r 912), (j 585), (j 4), (r 917)]
def o897 (P : Params) : Obj := cO [(vs "PairGlyphs" 1479), (vs "PairGlyphs" 1480), (vs "/claim/cut.py" 1481), (j 576), (j 0), (j 0), (j 0), (j 0), (r 895), (.bool false), (j 181), (r 896), .none, .none, .none, .none, (j 1482), (j 576), (vs "/claim/cut.py" 1483)]
def o898 (P : Params) : Obj := fO [(some (r 897)), (some (r 3)), (some (r 894)), none, (some (vs "joinedhand.pair" 1462)), none, (some (r 0))]
def o902 (P : Params) : Obj := tu [(vs "self" 1492), (vs "pairs" 1493), (vs "is_second" 1494)]
def o904 (P : Params) : Obj := fG (mtAt 100 0) "__init__" "PairGlyphs.__init__"
def o905 (P : Params) : Obj := cO [(vs "__init__" 1489), (vs "PairGlyphs.__init__" 1490), (vs "/claim/cut.py" 1491), (j 578), (j 3), (j 0), (j 0), (j 3), (r 900), (.bool true), (j 181), (r 901), .none, (r 902), (r 903), (r 904), (j 1495), (j 578), (vs "/claim/cut.py" 1496)]
def o906 (P : Params) : Obj := ⟨(.type "function"), none, .func (fnD (mtAt 100 0) (S "__init__") (S "PairGlyphs.__init__") (mtAt 100 0).scope 3 [] (r 899) .none .none (vs "joinedhand.pair" 1462) none (r 905) .none 0), Z []⟩
def o909 (P : Params) : Obj := tu [(vs "self" 1501), (vs "first" 1502), (vs "second" 1503)]
def o911 (P : Params) : Obj := fG (mtAt 100 1) "find" "PairGlyphs.find"
def o912 (P : Params) : Obj := cO [(vs "find" 1498), (vs "PairGlyphs.find" 1499), (vs "/claim/cut.py" 1500), (j 582), (j 3), (j 0), (j 0), (j 3), (r 907), (.bool true), (j 181), (r 908), .none, (r 909), (r 910), (r 911), (j 1504), (j 582), (vs "/claim/cut.py" 1505)]
def o913 (P : Params) : Obj := fF (mtAt 100 1) "find" "PairGlyphs.find" 3 .none (vs "joinedhand.pair" 1462) (r 912)
def o916 (P : Params) : Obj := fG (mtAt 100 2) "told" "PairGlyphs.told"
def o917 (P : Params) : Obj := cO [(vs "told" 1507), (vs "PairGlyphs.told" 1508), (vs "/claim/cut.py" 1509), (j 585), (j 1), (j 0), (j 0), (j 3), (r 914), (.bool true), (j 181), (r 915), .none, .none, .none, (r 916), (j 1510), (j 585), (vs "/claim/cut.py" 1511)]
def o918 (P : Params) : Obj := fF (mtAt 100 2) "told" "PairGlyphs.told" 3 .none (vs "joinedhand.pair" 1462) (r 917)
def o919 (P : Params) : Obj := tu [(vs "is_second" 1513), (vs "pairs" 1514)]
def o920 (P : Params) : Obj := ⟨(.type "dict"), none, .dict (Z [en P "__module__" 1484 (vs "joinedhand.pair" 1462), en P "__firstlineno__" 1488 (.int 576 1487), en P "__init__" 1497 (r 906), en P "find" 1506 (r 913), en P "told" 1512 (r 918), en P "__static_attributes__" 1515 (r 919), en P "__dict__" 1517 (r 922), en P "__weakref__" 1519 (r 923), en P "__doc__" 1520 .none]) 4, Z []⟩
def o921 (P : Params) : Obj := ⟨(.type "type"), none, .cls (clD (S "PairGlyphs") [(.type "object")] [(r 921), (.type "object")] 920 (S "PairGlyphs") true [] [] false none false), Z [none, none, (some (vs "PairGlyphs" 1477)), (some (vs "PairGlyphs" 1485)), (some (.builtin "object.__new__")), (some (.bool true))]⟩
def o922 (P : Params) : Obj := ⟨(.type "getset_descriptor"), none, .fields (Z [(vs "__dict__" 1516), (r 921), (.builtin "function.__dict__"), (.builtin "function.__dict__#set")]), Z []⟩
def o923 (P : Params) : Obj := ⟨(.type "getset_descriptor"), none, .fields (Z [(vs "__weakref__" 1518), (r 921), (.builtin "ExceptionGroup.__weakref__"), .none]), Z []⟩
def o924 (P : Params) : Obj := ⟨(.type "super"), none, .fields (Z [(r 921), (r 921), (r 921)]), Z []⟩
def o925 (P : Params) : Obj := ⟨(.type "builtin_function_or_method"), none, .fields (Z [(.builtin "object.__init_subclass__"), (r 921)]), Z []⟩
def o928 (P : Params) : Obj := ⟨(.type "dict"), none, .dict (Z [en P "__module__" 1530 (vs "joinedhand.pair" 1462), en P "__qualname__" 1532 (vs "PairClasses" 1531), en P "__firstlineno__" 1534 (.int 588 1533), en P "__init__" 1540 (r 938), en P "find" 1551 (r 945), en P "told" 1557 (r 950), en P "__static_attributes__" 1563 (r 951)]) 7, Z []⟩
def o930 (P : Params) : Obj := nO [(j 590), (j 4), (r 937), (j 597), (j 4), (r 944), (j 606), (j 4), (r 949)]
def o931 (P : Params) : Obj := cO [(vs "PairClasses" 1525), (vs "PairClasses" 1526), (vs "/claim/cut.py" 1527), (j 588), (j 0), (j 0), (j 0), (j 0), (r 929), (.bool false), (j 181), (r 930), .none, .none, .none, .none, (j 1528), (j 588), (vs "/claim/cut.py" 1529)]
def o932 (P : Params) : Obj := fO [(some (r 931)), (some (r 3)), (some (r 928)), none, (some (vs "joinedhand.pair" 1462)), none, (some (r 0))]
def o936 (P : Params) : Obj := fG (mtAt 101 0) "__init__" "PairClasses.__init__"
def o937 (P : Params) : Obj := cO [(vs "__init__" 1535), (vs "PairClasses.__init__" 1536), (vs "/claim/cut.py" 1537), (j 590), (j 6), (j 0), (j 0), (j 3), (r 934), (.bool true), (j 181), (r 935), .none, .none, .none, (r 936), (j 1538), (j 590), (vs "/claim/cut.py" 1539)]
def o938 (P : Params) : Obj := ⟨(.type "function"), none, .func (fnD (mtAt 101 0) (S "__init__") (S "PairClasses.__init__") (mtAt 101 0).scope 3 [] (r 933) .none .none (vs "joinedhand.pair" 1462) none (r 937) .none 0), Z []⟩
def o941 (P : Params) : Obj := tu [(vs "self" 1544), (vs "first" 1545), (vs "second" 1546), (vs "one" 1547), (vs "other" 1548)]
def o943 (P : Params) : Obj := fG (mtAt 101 1) "find" "PairClasses.find"
def o944 (P : Params) : Obj := cO [(vs "find" 1541), (vs "PairClasses.find" 1542), (vs "/claim/cut.py" 1543), (j 597), (j 3), (j 0), (j 0), (j 3), (r 939), (.bool true), (j 181), (r 940), .none, (r 941), (r 942), (r 943), (j 1549), (j 597), (vs "/claim/cut.py" 1550)]
def o945 (P : Params) : Obj := fF (mtAt 101 1) "find" "PairClasses.find" 3 .none (vs "joinedhand.pair" 1462) (r 944)
def o948 (P : Params) : Obj := fG (mtAt 101 2) "told" "PairClasses.told"
def o949 (P : Params) : Obj := cO [(vs "told" 1552), (vs "PairClasses.told" 1553), (vs "/claim/cut.py" 1554), (j 606), (j 1), (j 0), (j 0), (j 3), (r 946), (.bool true), (j 181), (r 947), .none, .none, .none, (r 948), (j 1555), (j 606), (vs "/claim/cut.py" 1556)]
def o950 (P : Params) : Obj := fF (mtAt 101 2) "told" "PairClasses.told" 3 .none (vs "joinedhand.pair" 1462) (r 949)
def o951 (P : Params) : Obj := tu [(vs "coverage" 1558), (vs "firsts" 1559), (vs "is_second" 1560), (vs "rows" 1561), (vs "seconds" 1562)]
def o952 (P : Params) : Obj := ⟨(.type "dict"), none, .dict (Z [en P "__module__" 1530 (vs "joinedhand.pair" 1462), en P "__firstlineno__" 1534 (.int 588 1533), en P "__init__" 1540 (r 938), en P "find" 1551 (r 945), en P "told" 1557 (r 950), en P "__static_attributes__" 1563 (r 951), en P "__dict__" 1565 (r 954), en P "__weakref__" 1567 (r 955), en P "__doc__" 1568 .none]) 4, Z []⟩
def o953 (P : Params) : Obj := ⟨(.type "type"), none, .cls (clD (S "PairClasses") [(.type "object")] [(r 953), (.type "object")] 952 (S "PairClasses") true [] [] false none false), Z [none, none, (some (vs "PairClasses" 1523)), (some (vs "PairClasses" 1531)), (some (.builtin "object.__new__")), (some (.bool true))]⟩
def o954 (P : Params) : Obj := ⟨(.type "getset_descriptor"), none, .fields (Z [(vs "__dict__" 1564), (r 953), (.builtin "function.__dict__"), (.builtin "function.__dict__#set")]), Z []⟩
def o955 (P : Params) : Obj := ⟨(.type "getset_descriptor"), none, .fields (Z [(vs "__weakref__" 1566), (r 953), (.builtin "ExceptionGroup.__weakref__"), .none]), Z []⟩
def o956 (P : Params) : Obj := ⟨(.type "super"), none, .fields (Z [(r 953), (r 953), (r 953)]), Z []⟩
def o957 (P : Params) : Obj := ⟨(.type "builtin_function_or_method"), none, .fields (Z [(.builtin "object.__init_subclass__"), (r 953)]), Z []⟩
def o960 (P : Params) : Obj := tu [(vs "table" 1574)]
def o962 (P : Params) : Obj := fG (fnAt 102) "has_second" "has_second"
def o963 (P : Params) : Obj := cO [(vs "has_second" 1571), (vs "has_second" 1572), (vs "/claim/cut.py" 1573), (j 609), (j 1), (j 0), (j 0), (j 3), (r 958), (.bool true), (j 181), (r 959), .none, (r 960), (r 961), (r 962), (j 1575), (j 609), (vs "/claim/cut.py" 1576)]
def o964 (P : Params) : Obj := fF (fnAt 102) "has_second" "has_second" 3 .none (vs "joinedhand.pair" 1462) (r 963)
def o967 (P : Params) : Obj := tu [(vs "scene" 1581), (vs "table" 1582), (vs "at" 1583), (vs "later" 1584), (vs "row" 1585), (vs "pair" 1586)]
def o969 (P : Params) : Obj := fG (fnAt 103) "apply_pair" "apply_pair"
def o970 (P : Params) : Obj := cO [(vs "apply_pair" 1578), (vs "apply_pair" 1579), (vs "/claim/cut.py" 1580), (j 611), (j 3), (j 0), (j 0), (j 3), (r 965), (.bool true), (j 181), (r 966), .none, (r 967), (r 968), (r 969), (j 1587), (j 611), (vs "/claim/cut.py" 1588)]
def o971 (P : Params) : Obj := fF (fnAt 103) "apply_pair" "apply_pair" 3 .none (vs "joinedhand.pair" 1462) (r 970)
def o974 (P : Params) : Obj := tu [(vs "kind" 1595), (vs "scene" 1596), (vs "table" 1597), (vs "at" 1598)]
def o976 (P : Params) : Obj := fG (fnAt 105) "apply_position" "apply_position"
def o977 (P : Params) : Obj := cO [(vs "apply_position" 1592), (vs "apply_position" 1593), (vs "/claim/cut.py" 1594), (j 624), (j 4), (j 0), (j 0), (j 3), (r 972), (.bool true), (j 181), (r 973), .none, (r 974), (r 975), (r 976), (j 1599), (j 624), (vs "/claim/cut.py" 1600)]
def o978 (P : Params) : Obj := fF (fnAt 105) "apply_position" "apply_position" 3 .none (vs "joinedhand.gpos" 1590) (r 977)
def o981 (P : Params) : Obj := tu [(vs "scene" 1605), (vs "at" 1606), (vs "table" 1607), (vs "found" 1608)]
def o983 (P : Params) : Obj := fG (fnAt 106) "position_at" "position_at"
def o984 (P : Params) : Obj := cO [(vs "position_at" 1602), (vs "position_at" 1603), (vs "/claim/cut.py" 1604), (j 638), (j 2), (j 0), (j 0), (j 3), (r 979), (.bool true), (j 181), (r 980), .none, (r 981), (r 982), (r 983), (j 1609), (j 638), (vs "/claim/cut.py" 1610)]
def o985 (P : Params) : Obj := fF (fnAt 106) "position_at" "position_at" 3 .none (vs "joinedhand.gpos" 1590) (r 984)
def o988 (P : Params) : Obj := tu [(vs "table" 1615), (vs "found" 1616), (vs "rule" 1617)]
def o990 (P : Params) : Obj := fG (fnAt 107) "beginnings_of_context" "beginnings_of_context"
def o991 (P : Params) : Obj := cO [(vs "beginnings_of_context" 1612), (vs "beginnings_of_context" 1613), (vs "/claim/cut.py" 1614), (j 644), (j 1), (j 0), (j 0), (j 3), (r 986), (.bool true), (j 181), (r 987), .none, (r 988), (r 989), (r 990), (j 1618), (j 644), (vs "/claim/cut.py" 1619)]
def o992 (P : Params) : Obj := fF (fnAt 107) "beginnings_of_context" "beginnings_of_context" 3 .none (vs "joinedhand.gpos" 1590) (r 991)
def o995 (P : Params) : Obj := fG (fnAt 108) "beginnings_of_pair" "beginnings_of_pair"
def o996 (P : Params) : Obj := cO [(vs "beginnings_of_pair" 1621), (vs "beginnings_of_pair" 1622), (vs "/claim/cut.py" 1623), (j 653), (j 1), (j 0), (j 0), (j 3), (r 993), (.bool true), (j 181), (r 994), .none, .none, .none, (r 995), (j 1624), (j 653), (vs "/claim/cut.py" 1625)]
def o997 (P : Params) : Obj := fF (fnAt 108) "beginnings_of_pair" "beginnings_of_pair" 3 .none (vs "joinedhand.gpos" 1590) (r 996)
def o1000 (P : Params) : Obj := tu [(vs "kind" 1630), (vs "table" 1631), (vs "found" 1632)]
def o1002 (P : Params) : Obj := fG (fnAt 109) "beginnings" "beginnings"
def o1003 (P : Params) : Obj := cO [(vs "beginnings" 1627), (vs "beginnings" 1628), (vs "/claim/cut.py" 1629), (j 657), (j 2), (j 0), (j 0), (j 3), (r 998), (.bool true), (j 181), (r 999), .none, (r 1000), (r 1001), (r 1002), (j 1633), (j 657), (vs "/claim/cut.py" 1634)]
def o1004 (P : Params) : Obj := fF (fnAt 109) "beginnings" "beginnings" 3 .none (vs "joinedhand.gpos" 1590) (r 1003)
def o1007 (P : Params) : Obj := tu [(vs "buffer" 1639), (vs "gdef" 1640), (vs "lookups" 1641), (vs "number" 1642), (vs "mask" 1643), (vs "lookup" 1644), (vs "known" 1645), (vs "table" 1646), (vs "glyph" 1647), (vs "scene" 1648), (vs "at" 1649), (vs "found" 1650), (vs "info" 1651)]
def o1009 (P : Params) : Obj := fG (fnAt 110) "run_position" "run_position"
def o1010 (P : Params) : Obj := cO [(vs "run_position" 1636), (vs "run_position" 1637), (vs "/claim/cut.py" 1638), (j 669), (j 5), (j 0), (j 0), (j 3), (r 1005), (.bool true), (j 181), (r 1006), .none, (r 1007), (r 1008), (r 1009), (j 1652), (j 669), (vs "/claim/cut.py" 1653)]
def o1011 (P : Params) : Obj := fF (fnAt 110) "run_position" "run_position" 3 .none (vs "joinedhand.gpos" 1590) (r 1010)
def o1014 (P : Params) : Obj := ⟨(.type "dict"), none, .dict (Z [en P "__module__" 1664 (vs "joinedhand.classdefs" 1655), en P "__qualname__" 1666 (vs "ClassDef" 1665), en P "__firstlineno__" 1668 (.int 684 1667), en P "__init__" 1676 (r 1025), en P "class_of" 1684 (r 1032), en P "glyphs_of" 1692 (r 1039), en P "count" 1701 (r 1046), en P "told" 1707 (r 1051), en P "__static_attributes__" 1709 (r 1052)]) 9, Z []⟩
def o1016 (P : Params) : Obj := nO [(j 686), (j 4), (r 1024), (j 689), (j 4), (r 1031), (j 692), (j 4), (r 1038), (j 695), (j 4), (r 1045), (j 701), (j 4), (r 1050)]
def o1017 (P : Params) : Obj := cO [(vs "ClassDef" 1659), (vs "ClassDef" 1660), (vs "/claim/cut.py" 1661), (j 684), (j 0), (j 0), (j 0), (j 0), (r 1015), (.bool false), (j 181), (r 1016), .none, .none, .none, .none, (j 1662), (j 684), (vs "/claim/cut.py" 1663)]
def o1018 (P : Params) : Obj := fO [(some (r 1017)), (some (r 3)), (some (r 1014)), none, (some (vs "joinedhand.classdefs" 1655)), none, (some (r 0))]
def o1021 (P : Params) : Obj := tu [(vs "self" 1672), (vs "classes" 1673)]
def o1023 (P : Params) : Obj := fG (mtAt 112 0) "__init__" "ClassDef.__init__"
def o1024 (P : Params) : Obj := cO [(vs "__init__" 1669), (vs "ClassDef.__init__" 1670), (vs "/claim/cut.py" 1671), (j 686), (j 2), (j 0), (j 0), (j 3), (r 1019), (.bool true), (j 181), (r 1020), .none, (r 1021), (r 1022), (r 1023), (j 1674), (j 686), (vs "/claim/cut.py" 1675)]
def o1025 (P : Params) : Obj := fF (mtAt 112 0) "__init__" "ClassDef.__init__" 3 .none (vs "joinedhand.classdefs" 1655) (r 1024)
def o1028 (P : Params) : Obj := tu [(vs "self" 1680), (vs "glyph" 1681)]
def o1030 (P : Params) : Obj := fG (mtAt 112 1) "class_of" "ClassDef.class_of"
def o1031 (P : Params) : Obj := cO [(vs "class_of" 1677), (vs "ClassDef.class_of" 1678), (vs "/claim/cut.py" 1679), (j 689), (j 2), (j 0), (j 0), (j 3), (r 1026), (.bool true), (j 181), (r 1027), .none, (r 1028), (r 1029), (r 1030), (j 1682), (j 689), (vs "/claim/cut.py" 1683)]
def o1032 (P : Params) : Obj := fF (mtAt 112 1) "class_of" "ClassDef.class_of" 3 .none (vs "joinedhand.classdefs" 1655) (r 1031)
def o1035 (P : Params) : Obj := tu [(vs "self" 1688), (vs "number" 1689)]
def o1037 (P : Params) : Obj := fG (mtAt 112 2) "glyphs_of" "ClassDef.glyphs_of"
def o1038 (P : Params) : Obj := cO [(vs "glyphs_of" 1685), (vs "ClassDef.glyphs_of" 1686), (vs "/claim/cut.py" 1687), (j 692), (j 2), (j 0), (j 0), (j 3), (r 1033), (.bool true), (j 181), (r 1034), .none, (r 1035), (r 1036), (r 1037), (j 1690), (j 692), (vs "/claim/cut.py" 1691)]
def o1039 (P : Params) : Obj := fF (mtAt 112 2) "glyphs_of" "ClassDef.glyphs_of" 3 .none (vs "joinedhand.classdefs" 1655) (r 1038)
def o1042 (P : Params) : Obj := tu [(vs "self" 1696), (vs "most" 1697), (vs "glyph" 1698)]
def o1044 (P : Params) : Obj := fG (mtAt 112 3) "count" "ClassDef.count"
def o1045 (P : Params) : Obj := cO [(vs "count" 1693), (vs "ClassDef.count" 1694), (vs "/claim/cut.py" 1695), (j 695), (j 1), (j 0), (j 0), (j 3), (r 1040), (.bool true), (j 181), (r 1041), .none, (r 1042), (r 1043), (r 1044), (j 1699), (j 695), (vs "/claim/cut.py" 1700)]
def o1046 (P : Params) : Obj := fF (mtAt 112 3) "count" "ClassDef.count" 3 .none (vs "joinedhand.classdefs" 1655) (r 1045)
def o1049 (P : Params) : Obj := fG (mtAt 112 4) "told" "ClassDef.told"
def o1050 (P : Params) : Obj := cO [(vs "told" 1702), (vs "ClassDef.told" 1703), (vs "/claim/cut.py" 1704), (j 701), (j 1), (j 0), (j 0), (j 3), (r 1047), (.bool true), (j 181), (r 1048), .none, .none, .none, (r 1049), (j 1705), (j 701), (vs "/claim/cut.py" 1706)]
def o1051 (P : Params) : Obj := fF (mtAt 112 4) "told" "ClassDef.told" 3 .none (vs "joinedhand.classdefs" 1655) (r 1050)
def o1052 (P : Params) : Obj := tu [(vs "classes" 1708)]
def o1053 (P : Params) : Obj := ⟨(.type "dict"), none, .dict (Z [en P "__module__" 1664 (vs "joinedhand.classdefs" 1655), en P "__firstlineno__" 1668 (.int 684 1667), en P "__init__" 1676 (r 1025), en P "class_of" 1684 (r 1032), en P "glyphs_of" 1692 (r 1039), en P "count" 1701 (r 1046), en P "told" 1707 (r 1051), en P "__static_attributes__" 1709 (r 1052), en P "__dict__" 1711 (r 1055), en P "__weakref__" 1713 (r 1056), en P "__doc__" 1714 .none]) 4, Z []⟩
def o1054 (P : Params) : Obj := ⟨(.type "type"), none, .cls (clD (S "ClassDef") [(.type "object")] [(r 1054), (.type "object")] 1053 (S "ClassDef") true [] [] false none false), Z [none, none, (some (vs "ClassDef" 1657)), (some (vs "ClassDef" 1665)), (some (.builtin "object.__new__")), (some (.bool true))]⟩
def o1055 (P : Params) : Obj := ⟨(.type "getset_descriptor"), none, .fields (Z [(vs "__dict__" 1710), (r 1054), (.builtin "function.__dict__"), (.builtin "function.__dict__#set")]), Z []⟩
def o1056 (P : Params) : Obj := ⟨(.type "getset_descriptor"), none, .fields (Z [(vs "__weakref__" 1712), (r 1054), (.builtin "ExceptionGroup.__weakref__"), .none]), Z []⟩
def o1057 (P : Params) : Obj := ⟨(.type "super"), none, .fields (Z [(r 1054), (r 1054), (r 1054)]), Z []⟩
def o1058 (P : Params) : Obj := ⟨(.type "builtin_function_or_method"), none, .fields (Z [(.builtin "object.__init_subclass__"), (r 1054)]), Z []⟩
def o1061 (P : Params) : Obj := ⟨(.type "dict"), none, .dict (Z [en P "__module__" 1732 (vs "joinedhand.gdef" 1717), en P "__qualname__" 1734 (vs "Gdef" 1733), en P "__firstlineno__" 1736 (.int 707 1735), en P "__init__" 1748 (r 1073), en P "glyph_class" 1757 (r 1080), en P "attach_class" 1765 (r 1087), en P "is_in_set" 1774 (r 1094), en P "told" 1780 (r 1099), en P "__static_attributes__" 1786 (r 1100)]) 9, Z []⟩
def o1063 (P : Params) : Obj := nO [(j 709), (j 4), (r 1072), (j 716), (j 4), (r 1079), (j 720), (j 4), (r 1086), (j 723), (j 4), (r 1093), (j 726), (j 4), (r 1098)]
def o1064 (P : Params) : Obj := cO [(vs "Gdef" 1727), (vs "Gdef" 1728), (vs "/claim/cut.py" 1729), (j 707), (j 0), (j 0), (j 0), (j 0), (r 1062), (.bool false), (j 181), (r 1063), .none, .none, .none, .none, (j 1730), (j 707), (vs "/claim/cut.py" 1731)]
def o1065 (P : Params) : Obj := fO [(some (r 1064)), (some (r 3)), (some (r 1061)), none, (some (vs "joinedhand.gdef" 1717)), none, (some (r 0))]
def o1069 (P : Params) : Obj := tu [(vs "self" 1740), (vs "classes" 1741), (vs "attach" 1742), (vs "sets" 1743), (vs "points" 1744), (vs "carets" 1745)]
def o1071 (P : Params) : Obj := fG (mtAt 117 0) "__init__" "Gdef.__init__"
def o1072 (P : Params) : Obj := cO [(vs "__init__" 1737), (vs "Gdef.__init__" 1738), (vs "/claim/cut.py" 1739), (j 709), (j 6), (j 0), (j 0), (j 3), (r 1067), (.bool true), (j 181), (r 1068), .none, (r 1069), (r 1070), (r 1071), (j 1746), (j 709), (vs "/claim/cut.py" 1747)]
def o1073 (P : Params) : Obj := ⟨(.type "function"), none, .func (fnD (mtAt 117 0) (S "__init__") (S "Gdef.__init__") (mtAt 117 0).scope 3 [] (r 1066) .none .none (vs "joinedhand.gdef" 1717) none (r 1072) .none 0), Z []⟩
def o1076 (P : Params) : Obj := tu [(vs "self" 1752), (vs "glyph" 1753), (vs "number" 1754)]
def o1078 (P : Params) : Obj := fG (mtAt 117 1) "glyph_class" "Gdef.glyph_class"
def o1079 (P : Params) : Obj := cO [(vs "glyph_class" 1749), (vs "Gdef.glyph_class" 1750), (vs "/claim/cut.py" 1751), (j 716), (j 2), (j 0), (j 0), (j 3), (r 1074), (.bool true), (j 181), (r 1075), .none, (r 1076), (r 1077), (r 1078), (j 1755), (j 716), (vs "/claim/cut.py" 1756)]
def o1080 (P : Params) : Obj := fF (mtAt 117 1) "glyph_class" "Gdef.glyph_class" 3 .none (vs "joinedhand.gdef" 1717) (r 1079)
def o1083 (P : Params) : Obj := tu [(vs "self" 1761), (vs "glyph" 1762)]
def o1085 (P : Params) : Obj := fG (mtAt 117 2) "attach_class" "Gdef.attach_class"
def o1086 (P : Params) : Obj := cO [(vs "attach_class" 1758), (vs "Gdef.attach_class" 1759), (vs "/claim/cut.py" 1760), (j 720), (j 2), (j 0), (j 0), (j 3), (r 1081), (.bool true), (j 181), (r 1082), .none, (r 1083), (r 1084), (r 1085), (j 1763), (j 720), (vs "/claim/cut.py" 1764)]
def o1087 (P : Params) : Obj := fF (mtAt 117 2) "attach_class" "Gdef.attach_class" 3 .none (vs "joinedhand.gdef" 1717) (r 1086)
def o1090 (P : Params) : Obj := tu [(vs "self" 1769), (vs "number" 1770), (vs "glyph" 1771)]
def o1092 (P : Params) : Obj := fG (mtAt 117 3) "is_in_set" "Gdef.is_in_set"
def o1093 (P : Params) : Obj := cO [(vs "is_in_set" 1766), (vs "Gdef.is_in_set" 1767), (vs "/claim/cut.py" 1768), (j 723), (j 3), (j 0), (j 0), (j 3), (r 1088), (.bool true), (j 181), (r 1089), .none, (r 1090), (r 1091), (r 1092), (j 1772), (j 723), (vs "/claim/cut.py" 1773)]
def o1094 (P : Params) : Obj := fF (mtAt 117 3) "is_in_set" "Gdef.is_in_set" 3 .none (vs "joinedhand.gdef" 1717) (r 1093)
def o1097 (P : Params) : Obj := fG (mtAt 117 4) "told" "Gdef.told"
def o1098 (P : Params) : Obj := cO [(vs "told" 1775), (vs "Gdef.told" 1776), (vs "/claim/cut.py" 1777), (j 726), (j 1), (j 0), (j 0), (j 3), (r 1095), (.bool true), (j 181), (r 1096), .none, .none, .none, (r 1097), (j 1778), (j 726), (vs "/claim/cut.py" 1779)]
def o1099 (P : Params) : Obj := fF (mtAt 117 4) "told" "Gdef.told" 3 .none (vs "joinedhand.gdef" 1717) (r 1098)
def o1100 (P : Params) : Obj := tu [(vs "attach" 1781), (vs "carets" 1782), (vs "classes" 1783), (vs "points" 1784), (vs "sets" 1785)]
def o1101 (P : Params) : Obj := ⟨(.type "dict"), none, .dict (Z [en P "__module__" 1732 (vs "joinedhand.gdef" 1717), en P "__firstlineno__" 1736 (.int 707 1735), en P "__init__" 1748 (r 1073), en P "glyph_class" 1757 (r 1080), en P "attach_class" 1765 (r 1087), en P "is_in_set" 1774 (r 1094), en P "told" 1780 (r 1099), en P "__static_attributes__" 1786 (r 1100), en P "__dict__" 1788 (r 1103), en P "__weakref__" 1790 (r 1104), en P "__doc__" 1791 .none]) 4, Z []⟩
def o1102 (P : Params) : Obj := ⟨(.type "type"), none, .cls (clD (S "Gdef") [(.type "object")] [(r 1102), (.type "object")] 1101 (S "Gdef") true [] [] false none false), Z [none, none, (some (vs "Gdef" 1725)), (some (vs "Gdef" 1733)), (some (.builtin "object.__new__")), (some (.bool true))]⟩
def o1103 (P : Params) : Obj := ⟨(.type "getset_descriptor"), none, .fields (Z [(vs "__dict__" 1787), (r 1102), (.builtin "function.__dict__"), (.builtin "function.__dict__#set")]), Z []⟩
def o1104 (P : Params) : Obj := ⟨(.type "getset_descriptor"), none, .fields (Z [(vs "__weakref__" 1789), (r 1102), (.builtin "ExceptionGroup.__weakref__"), .none]), Z []⟩
def o1105 (P : Params) : Obj := ⟨(.type "super"), none, .fields (Z [(r 1102), (r 1102), (r 1102)]), Z []⟩
def o1106 (P : Params) : Obj := ⟨(.type "builtin_function_or_method"), none, .fields (Z [(.builtin "object.__init_subclass__"), (r 1102)]), Z []⟩
def o1109 (P : Params) : Obj := fG (fnAt 119) "_law_pen" "_law_pen"
def o1110 (P : Params) : Obj := cO [(vs "_law_pen" 1796), (vs "_law_pen" 1797), (vs "/claim/cut.py" 1798), (j 731), (j 1), (j 0), (j 0), (j 3), (r 1107), (.bool true), (j 181), (r 1108), .none, .none, .none, (r 1109), (j 1799), (j 731), (vs "/claim/cut.py" 1800)]
def o1111 (P : Params) : Obj := fF (fnAt 119) "_law_pen" "_law_pen" 3 .none (vs "law_pb0209_01" 1794) (r 1110)
def o1114 (P : Params) : Obj := tu [(vs "pen" 1805), (vs "many" 1806), (vs "digit" 1807), (vs "spot" 1808), (vs "cell" 1809), (vs "great" 1810), (vs "stirred" 1811)]
def o1116 (P : Params) : Obj := fG (fnAt 120) "_law_draw" "_law_draw"
def o1117 (P : Params) : Obj := cO [(vs "_law_draw" 1802), (vs "_law_draw" 1803), (vs "/claim/cut.py" 1804), (j 733), (j 2), (j 0), (j 0), (j 3), (r 1112), (.bool true), (j 181), (r 1113), .none, (r 1114), (r 1115), (r 1116), (j 1812), (j 733), (vs "/claim/cut.py" 1813)]
def o1118 (P : Params) : Obj := fF (fnAt 120) "_law_draw" "_law_draw" 3 .none (vs "law_pb0209_01" 1794) (r 1117)
def o1121 (P : Params) : Obj := tu [(vs "pen" 1818), (vs "some" 1819)]
def o1123 (P : Params) : Obj := fG (fnAt 121) "_law_pick" "_law_pick"
def o1124 (P : Params) : Obj := cO [(vs "_law_pick" 1815), (vs "_law_pick" 1816), (vs "/claim/cut.py" 1817), (j 750), (j 2), (j 0), (j 0), (j 3), (r 1119), (.bool true), (j 181), (r 1120), .none, (r 1121), (r 1122), (r 1123), (j 1820), (j 750), (vs "/claim/cut.py" 1821)]
def o1125 (P : Params) : Obj := fF (fnAt 121) "_law_pick" "_law_pick" 3 .none (vs "law_pb0209_01" 1794) (r 1124)
def o1128 (P : Params) : Obj := fG (fnAt 122) "_law_some" "_law_some"
def o1129 (P : Params) : Obj := cO [(vs "_law_some" 1823), (vs "_law_some" 1824), (vs "/claim/cut.py" 1825), (j 752), (j 1), (j 0), (j 0), (j 3), (r 1126), (.bool true), (j 181), (r 1127), .none, .none, .none, (r 1128), (j 1826), (j 752), (vs "/claim/cut.py" 1827)]
def o1130 (P : Params) : Obj := fF (fnAt 122) "_law_some" "_law_some" 3 .none (vs "law_pb0209_01" 1794) (r 1129)
def o1133 (P : Params) : Obj := tu [(vs "pen" 1832)]
def o1135 (P : Params) : Obj := fG (fnAt 123) "_law_row" "_law_row"
def o1136 (P : Params) : Obj := cO [(vs "_law_row" 1829), (vs "_law_row" 1830), (vs "/claim/cut.py" 1831), (j 755), (j 1), (j 0), (j 0), (j 3), (r 1131), (.bool true), (j 181), (r 1132), .none, (r 1133), (r 1134), (r 1135), (j 1833), (j 755), (vs "/claim/cut.py" 1834)]
def o1137 (P : Params) : Obj := fF (fnAt 123) "_law_row" "_law_row" 3 .none (vs "law_pb0209_01" 1794) (r 1136)
def o1140 (P : Params) : Obj := fG (fnAt 124) "_law_marks" "_law_marks"
def o1141 (P : Params) : Obj := cO [(vs "_law_marks" 1836), (vs "_law_marks" 1837), (vs "/claim/cut.py" 1838), (j 757), (j 1), (j 0), (j 0), (j 3), (r 1138), (.bool true), (j 181), (r 1139), .none, .none, .none, (r 1140), (j 1839), (j 757), (vs "/claim/cut.py" 1840)]
def o1142 (P : Params) : Obj := fF (fnAt 124) "_law_marks" "_law_marks" 3 .none (vs "law_pb0209_01" 1794) (r 1141)
def o1145 (P : Params) : Obj := fG (fnAt 125) "_law_table" "_law_table"
def o1146 (P : Params) : Obj := cO [(vs "_law_table" 1842), (vs "_law_table" 1843), (vs "/claim/cut.py" 1844), (j 759), (j 2), (j 0), (j 0), (j 3), (r 1143), (.bool true), (j 181), (r 1144), .none, .none, .none, (r 1145), (j 1845), (j 759), (vs "/claim/cut.py" 1846)]
def o1147 (P : Params) : Obj := fF (fnAt 125) "_law_table" "_law_table" 3 .none (vs "law_pb0209_01" 1794) (r 1146)
def o1150 (P : Params) : Obj := fG (fnAt 126) "_law_told" "_law_told"
def o1151 (P : Params) : Obj := cO [(vs "_law_told" 1848), (vs "_law_told" 1849), (vs "/claim/cut.py" 1850), (j 781), (j 1), (j 0), (j 0), (j 3), (r 1148), (.bool true), (j 181), (r 1149), .none, .none, .none, (r 1150), (j 1851), (j 781), (vs "/claim/cut.py" 1852)]
def o1152 (P : Params) : Obj := fF (fnAt 126) "_law_told" "_law_told" 3 .none (vs "law_pb0209_01" 1794) (r 1151)
def o1155 (P : Params) : Obj := fG (fnAt 127) "law" "law"
def o1156 (P : Params) : Obj := cO [(vs "law" 1854), (vs "law" 1855), (vs "/claim/cut.py" 1856), (j 783), (j 1), (j 0), (j 0), (j 3), (r 1153), (.bool true), (j 181), (r 1154), .none, .none, .none, (r 1155), (j 1857), (j 783), (vs "/claim/cut.py" 1858)]
def o1157 (P : Params) : Obj := fF (fnAt 127) "law" "law" 3 .none (vs "law_pb0209_01" 1794) (r 1156)
noncomputable def hpA (P : Params) : Heap := ⟨Z [boot_o_0 P, boot_o_1 P, boot_o_2 P, boot_o_3 P, boot_o_4 P, boot_o_5 P, boot_o_6 P, boot_o_7 P, boot_o_8 P, boot_o_9 P, boot_o_10 P, o11 P, o12 P, o13 P, o14 P], {}⟩
noncomputable def tB (P : Params) : BT := (N (boot_o_0 P) (N (boot_o_1 P) (N (boot_o_3 P) (N (boot_o_7 P) E E) (N (o11 P) E E)) (N (boot_o_5 P) (N (boot_o_9 P) E E) (N (o13 P) E E))) (N (boot_o_2 P) (N (boot_o_4 P) (N (boot_o_8 P) E E) (N (o12 P) E E)) (N (boot_o_6 P) (N (boot_o_10 P) E E) (N (o14 P) E E))))
noncomputable def tS1 (P : Params) : BT := (N (boot_o_0 P) (N (boot_o_1 P) (N (o3v4 P) (N (boot_o_7 P) (N (o11 P) (N (o31 P) (N (o63 P) (N (o12 P) (N (o255 P) E E) (N (o11 P) E E)) (N (o191 P) (N (o319 P) E E) E)) (N (o95 P) (N (o159 P) (N (o11 P) E E) (N (o415 P) E E)) (N (o223 P) (N (o12 P) E E) E))) (N (o47 P) (N (o79 P) (N (o11 P) (N (o23 P) E E) (N (o399 P) E E)) (N (o11 P) (N (o335 P) E E) E)) (N (o111 P) (N (o11 P) (N (o303 P) E E) E) (N (o239 P) (N (o367 P) E E) E)))) (N (o23 P) (N (o39 P) (N (o12 P) (N (o135 P) (N (o11 P) E E) (N (o12 P) E E)) (N (o199 P) (N (o11 P) E E) E)) (N (o103 P) (N (o11 P) (N (o295 P) E E) E) (N (o11 P) (N (o359 P) E E) E))) (N (o55 P) (N (o11 P) (N (o11 P) (N (o279 P) E E) (N (o11 P) E E)) (N (o12 P) (N (o343 P) E E) E)) (N (o11 P) (N (o183 P) (N (o311 P) E E) E) (N (o247 P) (N (o375 P) E E) E))))) (N (o11 P) (N (o19 P) (N (o35 P) (N (o67 P) (N (o131 P) (N (o11 P) E E) (N (o387 P) E E)) (N (o195 P) (N (o323 P) E E) E)) (N (o12 P) (N (o11 P) (N (o291 P) E E) E) (N (o227 P) (N (o355 P) E E) E))) (N (o11 P) (N (o83 P) (N (o147 P) (N (o275 P) E E) (N (o403 P) E E)) (N (o211 P) (N (o12 P) E E) E)) (N (o11 P) (N (o11 P) (N (o307 P) E E) E) (N (o12 P) (N (o371 P) E E) E)))) (N (o27 P) (N (o43 P) (N (o75 P) (N (o139 P) (N (o267 P) E E) (N (o395 P) E E)) (N (o11 P) (N (o11 P) E E) E)) (N (o107 P) (N (o171 P) (N (o12 P) E E) E) (N (o11 P) (N (o12 P) E E) E))) (N (o11 P) (N (o11 P) (N (o11 P) (N (o283 P) E E) (N (o11 P) E E)) (N (o219 P) (N (o347 P) E E) E)) (N (o123 P) (N (o187 P) (N (o315 P) E E) E) (N (o251 P) (N (o11 P) E E) E)))))) (N (boot_o_5 P) (N (boot_o_9 P) (N (o17 P) (N (o33 P) (N (o65 P) (N (o11 P) (N (o12 P) E E) (N (o385 P) E E)) (N (o11 P) (N (o321 P) E E) E)) (N (o97 P) (N (o12 P) (N (o289 P) E E) E) (N (o225 P) (N (o353 P) E E) E))) (N (o23 P) (N (o81 P) (N (o145 P) (N (o11 P) E E) (N (o401 P) E E)) (N (o209 P) (N (o337 P) E E) E)) (N (o12 P) (N (o177 P) (N (o11 P) E E) E) (N (o241 P) (N (o11 P) E E) E)))) (N (o11 P) (N (o41 P) (N (o11 P) (N (o137 P) (N (o265 P) E E) (N (o11 P) E E)) (N (o12 P) (N (o329 P) E E) E)) (N (o11 P) (N (o169 P) (N (o297 P) E E) E) (N (o233 P) (N (o361 P) E E) E))) (N (o12 P) (N (o89 P) (N (o153 P) (N (o281 P) E E) (N (o409 P) E E)) (N (o11 P) (N (o11 P) E E) E)) (N (o121 P) (N (o185 P) (N (o12 P) E E) E) (N (o11 P) (N (o12 P) E E) E))))) (N (o13 P) (N (o21 P) (N (o12 P) (N (o69 P) (N (o133 P) (N (o261 P) E E) (N (o389 P) E E)) (N (o197 P) (N (o12 P) E E) E)) (N (o11 P) (N (o165 P) (N (o293 P) E E) E) (N (o12 P) (N (o357 P) E E) E))) (N (o53 P) (N (o12 P) (N (o12 P) (N (o11 P) E E) (N (o12 P) E E)) (N (o213 P) (N (o11 P) E E) E)) (N (o117 P) (N (o181 P) (N (o309 P) E E) E) (N (o11 P) (N (o373 P) E E) E)))) (N (o11 P) (N (o45 P) (N (o11 P) (N (o23 P) (N (o269 P) E E) (N (o11 P) E E)) (N (o205 P) (N (o333 P) E E) E)) (N (o109 P) (N (o12 P) (N (o11 P) E E) E) (N (o237 P) (N (o11 P) E E) E))) (N (o61 P) (N (o93 P) (N (o157 P) (N (o12 P) E E) (N (o413 P) E E)) (N (o11 P) (N (o349 P) E E) E)) (N (o125 P) (N (o189 P) (N (o11 P) E E) E) (N (o253 P) (N (o381 P) E E) E))))))) (N (boot_o_2 P) (N (boot_o_4 P) (N (boot_o_8 P) (N (o12 P) (N (o11 P) (N (o64 P) (N (o128 P) (N (o11 P) E E) (N (o12 P) E E)) (N (o192 P) (N (o11 P) E E) E)) (N (o96 P) (N (o11 P) (N (o288 P) E E) E) (N (o11 P) (N (o352 P) E E) E))) (N (o11 P) (N (o11 P) (N (o144 P) (N (o272 P) E E) (N (o11 P) E E)) (N (o12 P) (N (o336 P) E E) E)) (N (o11 P) (N (o176 P) (N (o304 P) E E) E) (N (o240 P) (N (o368 P) E E) E)))) (N (o24 P) (N (o40 P) (N (o72 P) (N (o136 P) (N (o12 P) E E) (N (o392 P) E E)) (N (o11 P) (N (o328 P) E E) E)) (N (o104 P) (N (o12 P) (N (o296 P) E E) E) (N (o232 P) (N (o360 P) E E) E))) (N (o11 P) (N (o88 P) (N (o152 P) (N (o11 P) E E) (N (o408 P) E E)) (N (o216 P) (N (o344 P) E E) E)) (N (o12 P) (N (o184 P) (N (o11 P) E E) E) (N (o248 P) (N (o11 P) E E) E))))) (N (o12v5 P) (N (o20 P) (N (o11 P) (N (o68 P) (N (o132 P) (N (o260 P) E E) (N (o388 P) E E)) (N (o196 P) (N (o11 P) E E) E)) (N (o100 P) (N (o164 P) (N (o292 P) E E) E) (N (o11 P) (N (o356 P) E E) E))) (N (o52 P) (N (o11 P) (N (o11 P) (N (o276 P) E E) (N (o11 P) E E)) (N (o212 P) (N (o340 P) E E) E)) (N (o116 P) (N (o12 P) (N (o11 P) E E) E) (N (o244 P) (N (o11 P) E E) E)))) (N (o28 P) (N (o44 P) (N (o76 P) (N (o11 P) (N (o268 P) E E) (N (o396 P) E E)) (N (o204 P) (N (o12 P) E E) E)) (N (o11 P) (N (o11 P) (N (o300 P) E E) E) (N (o12 P) (N (o364 P) E E) E))) (N (o60 P) (N (o12 P) (N (o12 P) (N (o11 P) E E) (N (o12 P) E E)) (N (o220 P) (N (o348 P) E E) E)) (N (o124 P) (N (o188 P) (N (o316 P) E E) E) (N (o11 P) (N (o380 P) E E) E)))))) (N (boot_o_6 P) (N (boot_o_10 P) (N (o11 P) (N (o34 P) (N (o66 P) (N (o130 P) (N (o258 P) E E) (N (o11 P) E E)) (N (o12 P) (N (o322 P) E E) E)) (N (o11 P) (N (o162 P) (N (o290 P) E E) E) (N (o226 P) (N (o354 P) E E) E))) (N (o50 P) (N (o82 P) (N (o146 P) (N (o274 P) E E) (N (o402 P) E E)) (N (o11 P) (N (o11 P) E E) E)) (N (o114 P) (N (o178 P) (N (o12 P) E E) E) (N (o11 P) (N (o12 P) E E) E)))) (N (o26 P) (N (o42 P) (N (o74 P) (N (o138 P) (N (o11 P) E E) (N (o394 P) E E)) (N (o202 P) (N (o330 P) E E) E)) (N (o23 P) (N (o170 P) (N (o11 P) E E) E) (N (o234 P) (N (o11 P) E E) E))) (N (o58 P) (N (o90 P) (N (o154 P) (N (o282 P) E E) (N (o410 P) E E)) (N (o218 P) (N (o12 P) E E) E)) (N (o11 P) (N (o186 P) (N (o314 P) E E) E) (N (o12 P) (N (o378 P) E E) E))))) (N (o14 P) (N (o11 P) (N (o38 P) (N (o11 P) (N (o134 P) (N (o262 P) E E) (N (o11 P) E E)) (N (o198 P) (N (o326 P) E E) E)) (N (o102 P) (N (o166 P) (N (o294 P) E E) E) (N (o230 P) (N (o358 P) E E) E))) (N (o54 P) (N (o86 P) (N (o150 P) (N (o12 P) E E) (N (o406 P) E E)) (N (o11 P) (N (o342 P) E E) E)) (N (o118 P) (N (o11 P) (N (o310 P) E E) E) (N (o246 P) (N (o374 P) E E) E)))) (N (o12 P) (N (o46 P) (N (o12 P) (N (o142 P) (N (o11 P) E E) (N (o12 P) E E)) (N (o206 P) (N (o11 P) E E) E)) (N (o110 P) (N (o174 P) (N (o302 P) E E) E) (N (o11 P) (N (o366 P) E E) E))) (N (o62 P) (N (o11 P) (N (o158 P) (N (o286 P) E E) (N (o414 P) E E)) (N (o12 P) (N (o11 P) E E) E)) (N (o11 P) (N (o190 P) (N (o23 P) E E) E) (N (o254 P) (N (o382 P) E E) E))))))))
noncomputable def tS2 (P : Params) : BT := (N (boot_o_0 P) (N (boot_o_1 P) (N (o3v407 P) (N (boot_o_7 P) (N (o11 P) (N (o31 P) (N (o63 P) (N (o12 P) (N (o255 P) (N (o511 P) E E) (N (o11 P) E E)) (N (o11 P) (N (o639 P) E E) E)) (N (o191 P) (N (o319 P) (N (o575 P) E E) E) (N (o11 P) (N (o703 P) E E) E))) (N (o95 P) (N (o159 P) (N (o11 P) (N (o11 P) E E) E) (N (o415 P) (N (o671 P) E E) E)) (N (o223 P) (N (o12 P) (N (o12 P) E E) E) (N (o479 P) (N (o11 P) E E) E)))) (N (o47 P) (N (o79 P) (N (o11 P) (N (o23 P) (N (o527 P) E E) (N (o783 P) E E)) (N (o399 P) (N (o11 P) E E) E)) (N (o11 P) (N (o335 P) (N (o591 P) E E) E) (N (o463 P) (N (o719 P) E E) E))) (N (o111 P) (N (o11 P) (N (o303 P) (N (o559 P) E E) E) (N (o431 P) (N (o687 P) E E) E)) (N (o239 P) (N (o367 P) (N (o623 P) E E) E) (N (o12 P) (N (o751 P) E E) E))))) (N (o23 P) (N (o39 P) (N (o12 P) (N (o135 P) (N (o11 P) (N (o519 P) E E) (N (o775 P) E E)) (N (o12 P) (N (o647 P) E E) E)) (N (o199 P) (N (o11 P) (N (o583 P) E E) E) (N (o455 P) (N (o12 P) E E) E))) (N (o103 P) (N (o11 P) (N (o295 P) (N (o12 P) E E) E) (N (o423 P) (N (o679 P) E E) E)) (N (o11 P) (N (o359 P) (N (o615 P) E E) E) (N (o11 P) (N (o743 P) E E) E)))) (N (o55 P) (N (o11 P) (N (o11 P) (N (o279 P) (N (o535 P) E E) (N (o11 P) E E)) (N (o11 P) (N (o663 P) E E) E)) (N (o12 P) (N (o343 P) (N (o11 P) E E) E) (N (o11 P) (N (o11 P) E E) E))) (N (o11 P) (N (o183 P) (N (o311 P) (N (o11 P) E E) E) (N (o439 P) (N (o695 P) E E) E)) (N (o247 P) (N (o375 P) (N (o631 P) E E) E) (N (o503 P) (N (o759 P) E E) E)))))) (N (o11 P) (N (o19 P) (N (o35 P) (N (o67 P) (N (o131 P) (N (o11 P) (N (o11 P) E E) (N (o771 P) E E)) (N (o387 P) (N (o643 P) E E) E)) (N (o195 P) (N (o323 P) (N (o12 P) E E) E) (N (o451 P) (N (o707 P) E E) E))) (N (o12 P) (N (o11 P) (N (o291 P) (N (o547 P) E E) E) (N (o419 P) (N (o675 P) E E) E)) (N (o227 P) (N (o355 P) (N (o611 P) E E) E) (N (o483 P) (N (o11 P) E E) E)))) (N (o11 P) (N (o83 P) (N (o147 P) (N (o275 P) (N (o531 P) E E) (N (o11 P) E E)) (N (o403 P) (N (o659 P) E E) E)) (N (o211 P) (N (o12 P) (N (o11 P) E E) E) (N (o467 P) (N (o11 P) E E) E))) (N (o11 P) (N (o11 P) (N (o307 P) (N (o563 P) E E) E) (N (o435 P) (N (o691 P) E E) E)) (N (o12 P) (N (o371 P) (N (o11 P) E E) E) (N (o499 P) (N (o755 P) E E) E))))) (N (o27 P) (N (o43 P) (N (o75 P) (N (o139 P) (N (o267 P) (N (o12 P) E E) (N (o779 P) E E)) (N (o395 P) (N (o11 P) E E) E)) (N (o11 P) (N (o11 P) (N (o587 P) E E) E) (N (o459 P) (N (o11 P) E E) E))) (N (o107 P) (N (o171 P) (N (o12 P) (N (o555 P) E E) E) (N (o12 P) (N (o683 P) E E) E)) (N (o11 P) (N (o12 P) (N (o619 P) E E) E) (N (o491 P) (N (o747 P) E E) E)))) (N (o11 P) (N (o11 P) (N (o11 P) (N (o283 P) (N (o11 P) E E) (N (o795 P) E E)) (N (o11 P) (N (o667 P) E E) E)) (N (o219 P) (N (o347 P) (N (o603 P) E E) E) (N (o11 P) (N (o731 P) E E) E))) (N (o123 P) (N (o187 P) (N (o315 P) (N (o11 P) E E) E) (N (o11 P) (N (o11 P) E E) E)) (N (o251 P) (N (o11 P) (N (o23 P) E E) E) (N (o507 P) (N (o11 P) E E) E))))))) (N (boot_o_5 P) (N (boot_o_9 P) (N (o17 P) (N (o33 P) (N (o65 P) (N (o11 P) (N (o12 P) (N (o513 P) E E) (N (o769 P) E E)) (N (o385 P) (N (o11 P) E E) E)) (N (o11 P) (N (o321 P) (N (o577 P) E E) E) (N (o449 P) (N (o705 P) E E) E))) (N (o97 P) (N (o12 P) (N (o289 P) (N (o545 P) E E) E) (N (o12 P) (N (o673 P) E E) E)) (N (o225 P) (N (o353 P) (N (o11 P) E E) E) (N (o481 P) (N (o737 P) E E) E)))) (N (o23 P) (N (o81 P) (N (o145 P) (N (o11 P) (N (o11 P) E E) (N (o12 P) E E)) (N (o401 P) (N (o657 P) E E) E)) (N (o209 P) (N (o337 P) (N (o12 P) E E) E) (N (o465 P) (N (o12 P) E E) E))) (N (o12 P) (N (o177 P) (N (o11 P) (N (o561 P) E E) E) (N (o11 P) (N (o11 P) E E) E)) (N (o241 P) (N (o11 P) (N (o625 P) E E) E) (N (o11 P) (N (o11 P) E E) E))))) (N (o11 P) (N (o41 P) (N (o11 P) (N (o137 P) (N (o265 P) (N (o521 P) E E) (N (o11 P) E E)) (N (o11 P) (N (o12 P) E E) E)) (N (o12 P) (N (o329 P) (N (o11 P) E E) E) (N (o457 P) (N (o713 P) E E) E))) (N (o11 P) (N (o169 P) (N (o297 P) (N (o11 P) E E) E) (N (o425 P) (N (o681 P) E E) E)) (N (o233 P) (N (o361 P) (N (o617 P) E E) E) (N (o489 P) (N (o745 P) E E) E)))) (N (o12 P) (N (o89 P) (N (o153 P) (N (o281 P) (N (o12 P) E E) (N (o793 P) E E)) (N (o409 P) (N (o665 P) E E) E)) (N (o11 P) (N (o11 P) (N (o601 P) E E) E) (N (o473 P) (N (o729 P) E E) E))) (N (o121 P) (N (o185 P) (N (o12 P) (N (o569 P) E E) E) (N (o12 P) (N (o12 P) E E) E)) (N (o11 P) (N (o12 P) (N (o633 P) E E) E) (N (o505 P) (N (o12 P) E E) E)))))) (N (o13 P) (N (o21 P) (N (o12 P) (N (o69 P) (N (o133 P) (N (o261 P) (N (o517 P) E E) (N (o12 P) E E)) (N (o389 P) (N (o645 P) E E) E)) (N (o197 P) (N (o12 P) (N (o11 P) E E) E) (N (o453 P) (N (o709 P) E E) E))) (N (o11 P) (N (o165 P) (N (o293 P) (N (o549 P) E E) E) (N (o11 P) (N (o11 P) E E) E)) (N (o12 P) (N (o357 P) (N (o11 P) E E) E) (N (o485 P) (N (o741 P) E E) E)))) (N (o53 P) (N (o12 P) (N (o12 P) (N (o11 P) (N (o533 P) E E) (N (o789 P) E E)) (N (o12 P) (N (o661 P) E E) E)) (N (o213 P) (N (o11 P) (N (o597 P) E E) E) (N (o12 P) (N (o725 P) E E) E))) (N (o117 P) (N (o181 P) (N (o309 P) (N (o12 P) E E) E) (N (o437 P) (N (o693 P) E E) E)) (N (o11 P) (N (o373 P) (N (o629 P) E E) E) (N (o11 P) (N (o757 P) E E) E))))) (N (o11 P) (N (o45 P) (N (o11 P) (N (o23 P) (N (o269 P) (N (o11 P) E E) (N (o781 P) E E)) (N (o11 P) (N (o653 P) E E) E)) (N (o205 P) (N (o333 P) (N (o589 P) E E) E) (N (o11 P) (N (o717 P) E E) E))) (N (o109 P) (N (o12 P) (N (o11 P) (N (o11 P) E E) E) (N (o11 P) (N (o12 P) E E) E)) (N (o237 P) (N (o11 P) (N (o621 P) E E) E) (N (o493 P) (N (o749 P) E E) E)))) (N (o61 P) (N (o93 P) (N (o157 P) (N (o12 P) (N (o541 P) E E) (N (o797 P) E E)) (N (o413 P) (N (o11 P) E E) E)) (N (o11 P) (N (o349 P) (N (o605 P) E E) E) (N (o477 P) (N (o23 P) E E) E))) (N (o125 P) (N (o189 P) (N (o11 P) (N (o573 P) E E) E) (N (o445 P) (N (o701 P) E E) E)) (N (o253 P) (N (o381 P) (N (o11 P) E E) E) (N (o509 P) (N (o765 P) E E) E)))))))) (N (boot_o_2 P) (N (boot_o_4 P) (N (boot_o_8 P) (N (o12 P) (N (o11 P) (N (o64 P) (N (o128 P) (N (o11 P) (N (o512 P) E E) (N (o12 P) E E)) (N (o12 P) (N (o640 P) E E) E)) (N (o192 P) (N (o11 P) (N (o576 P) E E) E) (N (o12 P) (N (o704 P) E E) E))) (N (o96 P) (N (o11 P) (N (o288 P) (N (o12 P) E E) E) (N (o11 P) (N (o11 P) E E) E)) (N (o11 P) (N (o352 P) (N (o608 P) E E) E) (N (o480 P) (N (o736 P) E E) E)))) (N (o11 P) (N (o11 P) (N (o144 P) (N (o272 P) (N (o528 P) E E) (N (o11 P) E E)) (N (o11 P) (N (o12 P) E E) E)) (N (o12 P) (N (o336 P) (N (o11 P) E E) E) (N (o11 P) (N (o11 P) E E) E))) (N (o11 P) (N (o176 P) (N (o304 P) (N (o11 P) E E) E) (N (o432 P) (N (o688 P) E E) E)) (N (o240 P) (N (o368 P) (N (o624 P) E E) E) (N (o496 P) (N (o752 P) E E) E))))) (N (o24 P) (N (o40 P) (N (o72 P) (N (o136 P) (N (o12 P) (N (o520 P) E E) (N (o776 P) E E)) (N (o392 P) (N (o11 P) E E) E)) (N (o11 P) (N (o328 P) (N (o584 P) E E) E) (N (o456 P) (N (o712 P) E E) E))) (N (o104 P) (N (o12 P) (N (o296 P) (N (o552 P) E E) E) (N (o424 P) (N (o11 P) E E) E)) (N (o232 P) (N (o360 P) (N (o11 P) E E) E) (N (o23 P) (N (o744 P) E E) E)))) (N (o11 P) (N (o88 P) (N (o152 P) (N (o11 P) (N (o11 P) E E) (N (o12 P) E E)) (N (o408 P) (N (o664 P) E E) E)) (N (o216 P) (N (o344 P) (N (o12 P) E E) E) (N (o472 P) (N (o12 P) E E) E))) (N (o12 P) (N (o184 P) (N (o11 P) (N (o568 P) E E) E) (N (o11 P) (N (o11 P) E E) E)) (N (o248 P) (N (o11 P) (N (o632 P) E E) E) (N (o11 P) (N (o11 P) E E) E)))))) (N (o12v408 P) (N (o20 P) (N (o11 P) (N (o68 P) (N (o132 P) (N (o260 P) (N (o12 P) E E) (N (o11 P) E E)) (N (o388 P) (N (o11 P) E E) E)) (N (o196 P) (N (o11 P) (N (o580 P) E E) E) (N (o452 P) (N (o708 P) E E) E))) (N (o100 P) (N (o164 P) (N (o292 P) (N (o548 P) E E) E) (N (o420 P) (N (o676 P) E E) E)) (N (o11 P) (N (o356 P) (N (o612 P) E E) E) (N (o484 P) (N (o12 P) E E) E)))) (N (o52 P) (N (o11 P) (N (o11 P) (N (o276 P) (N (o11 P) E E) (N (o788 P) E E)) (N (o11 P) (N (o660 P) E E) E)) (N (o212 P) (N (o340 P) (N (o596 P) E E) E) (N (o11 P) (N (o724 P) E E) E))) (N (o116 P) (N (o12 P) (N (o11 P) (N (o11 P) E E) E) (N (o11 P) (N (o11 P) E E) E)) (N (o244 P) (N (o11 P) (N (o12 P) E E) E) (N (o500 P) (N (o11 P) E E) E))))) (N (o28 P) (N (o44 P) (N (o76 P) (N (o11 P) (N (o268 P) (N (o524 P) E E) (N (o11 P) E E)) (N (o396 P) (N (o652 P) E E) E)) (N (o204 P) (N (o12 P) (N (o11 P) E E) E) (N (o460 P) (N (o12 P) E E) E))) (N (o11 P) (N (o11 P) (N (o300 P) (N (o556 P) E E) E) (N (o428 P) (N (o11 P) E E) E)) (N (o12 P) (N (o364 P) (N (o620 P) E E) E) (N (o492 P) (N (o748 P) E E) E)))) (N (o60 P) (N (o12 P) (N (o12 P) (N (o11 P) (N (o540 P) E E) (N (o796 P) E E)) (N (o12 P) (N (o668 P) E E) E)) (N (o220 P) (N (o348 P) (N (o604 P) E E) E) (N (o12 P) (N (o11 P) E E) E))) (N (o124 P) (N (o188 P) (N (o316 P) (N (o12 P) E E) E) (N (o444 P) (N (o700 P) E E) E)) (N (o11 P) (N (o380 P) (N (o636 P) E E) E) (N (o508 P) (N (o764 P) E E) E))))))) (N (boot_o_6 P) (N (boot_o_10 P) (N (o11 P) (N (o34 P) (N (o66 P) (N (o130 P) (N (o258 P) (N (o514 P) E E) (N (o770 P) E E)) (N (o11 P) (N (o12 P) E E) E)) (N (o12 P) (N (o322 P) (N (o11 P) E E) E) (N (o11 P) (N (o706 P) E E) E))) (N (o11 P) (N (o162 P) (N (o290 P) (N (o11 P) E E) E) (N (o418 P) (N (o674 P) E E) E)) (N (o226 P) (N (o354 P) (N (o610 P) E E) E) (N (o482 P) (N (o738 P) E E) E)))) (N (o50 P) (N (o82 P) (N (o146 P) (N (o274 P) (N (o12 P) E E) (N (o786 P) E E)) (N (o402 P) (N (o11 P) E E) E)) (N (o11 P) (N (o11 P) (N (o594 P) E E) E) (N (o466 P) (N (o722 P) E E) E))) (N (o114 P) (N (o178 P) (N (o12 P) (N (o562 P) E E) E) (N (o23 P) (N (o12 P) E E) E)) (N (o11 P) (N (o12 P) (N (o626 P) E E) E) (N (o498 P) (N (o12 P) E E) E))))) (N (o26 P) (N (o42 P) (N (o74 P) (N (o138 P) (N (o11 P) (N (o11 P) E E) (N (o12 P) E E)) (N (o394 P) (N (o650 P) E E) E)) (N (o202 P) (N (o330 P) (N (o23 P) E E) E) (N (o458 P) (N (o714 P) E E) E))) (N (o23 P) (N (o170 P) (N (o11 P) (N (o554 P) E E) E) (N (o11 P) (N (o682 P) E E) E)) (N (o234 P) (N (o11 P) (N (o618 P) E E) E) (N (o11 P) (N (o746 P) E E) E)))) (N (o58 P) (N (o90 P) (N (o154 P) (N (o282 P) (N (o538 P) E E) (N (o11 P) E E)) (N (o410 P) (N (o666 P) E E) E)) (N (o218 P) (N (o12 P) (N (o11 P) E E) E) (N (o474 P) (N (o730 P) E E) E))) (N (o11 P) (N (o186 P) (N (o314 P) (N (o570 P) E E) E) (N (o442 P) (N (o698 P) E E) E)) (N (o12 P) (N (o378 P) (N (o11 P) E E) E) (N (o506 P) (N (o762 P) E E) E)))))) (N (o14 P) (N (o11 P) (N (o38 P) (N (o11 P) (N (o134 P) (N (o262 P) (N (o11 P) E E) (N (o774 P) E E)) (N (o11 P) (N (o646 P) E E) E)) (N (o198 P) (N (o326 P) (N (o582 P) E E) E) (N (o454 P) (N (o11 P) E E) E))) (N (o102 P) (N (o166 P) (N (o294 P) (N (o11 P) E E) E) (N (o12 P) (N (o12 P) E E) E)) (N (o230 P) (N (o358 P) (N (o12 P) E E) E) (N (o486 P) (N (o11 P) E E) E)))) (N (o54 P) (N (o86 P) (N (o150 P) (N (o12 P) (N (o534 P) E E) (N (o790 P) E E)) (N (o406 P) (N (o662 P) E E) E)) (N (o11 P) (N (o342 P) (N (o598 P) E E) E) (N (o470 P) (N (o726 P) E E) E))) (N (o118 P) (N (o11 P) (N (o310 P) (N (o566 P) E E) E) (N (o438 P) (N (o694 P) E E) E)) (N (o246 P) (N (o374 P) (N (o11 P) E E) E) (N (o12 P) (N (o758 P) E E) E))))) (N (o12 P) (N (o46 P) (N (o12 P) (N (o142 P) (N (o11 P) (N (o526 P) E E) (N (o782 P) E E)) (N (o12 P) (N (o654 P) E E) E)) (N (o206 P) (N (o11 P) (N (o590 P) E E) E) (N (o23 P) (N (o718 P) E E) E))) (N (o110 P) (N (o174 P) (N (o302 P) (N (o12 P) E E) E) (N (o430 P) (N (o686 P) E E) E)) (N (o11 P) (N (o366 P) (N (o622 P) E E) E) (N (o11 P) (N (o750 P) E E) E)))) (N (o62 P) (N (o11 P) (N (o158 P) (N (o286 P) (N (o542 P) E E) E) (N (o414 P) (N (o23 P) E E) E)) (N (o12 P) (N (o11 P) (N (o11 P) E E) E) (N (o478 P) (N (o734 P) E E) E))) (N (o11 P) (N (o190 P) (N (o23 P) (N (o11 P) E E) E) (N (o446 P) (N (o702 P) E E) E)) (N (o254 P) (N (o382 P) (N (o638 P) E E) E) (N (o510 P) (N (o766 P) E E) E)))))))))
noncomputable def tS3 (P : Params) : BT := (N (boot_o_0 P) (N (boot_o_1 P) (N (o3v791 P) (N (boot_o_7 P) (N (o11 P) (N (o31 P) (N (o63 P) (N (o12 P) (N (o255 P) (N (o511 P) (N (o1023 P) E E) E) (N (o11 P) E E)) (N (o11 P) (N (o639 P) (N (o1151 P) E E) E) (N (o11 P) E E))) (N (o191 P) (N (o319 P) (N (o575 P) (N (o1087 P) E E) E) (N (o831 P) E E)) (N (o11 P) (N (o703 P) E E) (N (o12 P) E E)))) (N (o95 P) (N (o159 P) (N (o11 P) (N (o11 P) (N (o1055 P) E E) E) (N (o12 P) E E)) (N (o415 P) (N (o671 P) E E) (N (o23 P) E E))) (N (o223 P) (N (o12 P) (N (o12 P) (N (o11 P) E E) E) (N (o863 P) E E)) (N (o479 P) (N (o11 P) E E) (N (o991 P) E E))))) (N (o47 P) (N (o79 P) (N (o11 P) (N (o23 P) (N (o527 P) (N (o1039 P) E E) E) (N (o783 P) E E)) (N (o399 P) (N (o11 P) E E) (N (o911 P) E E))) (N (o11 P) (N (o335 P) (N (o591 P) (N (o1103 P) E E) E) (N (o11 P) E E)) (N (o463 P) (N (o719 P) E E) (N (o11 P) E E)))) (N (o111 P) (N (o11 P) (N (o303 P) (N (o559 P) (N (o1071 P) E E) E) (N (o11 P) E E)) (N (o431 P) (N (o687 P) E E) (N (o943 P) E E))) (N (o239 P) (N (o367 P) (N (o623 P) (N (o1135 P) E E) E) (N (o879 P) E E)) (N (o12 P) (N (o751 P) E E) (N (o1007 P) E E)))))) (N (o23 P) (N (o39 P) (N (o12 P) (N (o135 P) (N (o11 P) (N (o519 P) (N (o1031 P) E E) E) (N (o775 P) E E)) (N (o12 P) (N (o647 P) E E) (N (o11 P) E E))) (N (o199 P) (N (o11 P) (N (o583 P) (N (o11 P) E E) E) (N (o839 P) E E)) (N (o455 P) (N (o12 P) E E) (N (o967 P) E E)))) (N (o103 P) (N (o11 P) (N (o295 P) (N (o12 P) (N (o1063 P) E E) E) (N (o807 P) E E)) (N (o423 P) (N (o679 P) E E) (N (o12 P) E E))) (N (o11 P) (N (o359 P) (N (o615 P) (N (o12 P) E E) E) (N (o871 P) E E)) (N (o11 P) (N (o743 P) E E) (N (o12 P) E E))))) (N (o55 P) (N (o11 P) (N (o11 P) (N (o279 P) (N (o535 P) (N (o11 P) E E) E) (N (o11 P) E E)) (N (o11 P) (N (o663 P) E E) (N (o919 P) E E))) (N (o12 P) (N (o343 P) (N (o11 P) (N (o1111 P) E E) E) (N (o12 P) E E)) (N (o11 P) (N (o11 P) E E) (N (o983 P) E E)))) (N (o11 P) (N (o183 P) (N (o311 P) (N (o11 P) (N (o1079 P) E E) E) (N (o823 P) E E)) (N (o439 P) (N (o695 P) E E) (N (o951 P) E E))) (N (o247 P) (N (o375 P) (N (o631 P) (N (o11 P) E E) E) (N (o11 P) E E)) (N (o503 P) (N (o759 P) E E) (N (o11 P) E E))))))) (N (o11 P) (N (o19 P) (N (o35 P) (N (o67 P) (N (o131 P) (N (o11 P) (N (o11 P) (N (o12 P) E E) E) (N (o771 P) E E)) (N (o387 P) (N (o643 P) (N (o1155 P) E E) E) (N (o147 P) E E))) (N (o195 P) (N (o323 P) (N (o12 P) (N (o11 P) E E) E) (N (o835 P) E E)) (N (o451 P) (N (o707 P) E E) (N (o963 P) E E)))) (N (o12 P) (N (o11 P) (N (o291 P) (N (o547 P) (N (o11 P) E E) E) (N (o803 P) E E)) (N (o419 P) (N (o675 P) E E) (N (o931 P) E E))) (N (o227 P) (N (o355 P) (N (o611 P) (N (o1123 P) E E) E) (N (o867 P) E E)) (N (o483 P) (N (o11 P) E E) (N (o995 P) E E))))) (N (o11 P) (N (o83 P) (N (o147 P) (N (o275 P) (N (o531 P) (N (o11 P) E E) E) (N (o11 P) E E)) (N (o403 P) (N (o659 P) E E) (N (o12 P) E E))) (N (o211 P) (N (o12 P) (N (o11 P) (N (o11 P) E E) E) (N (o851 P) E E)) (N (o467 P) (N (o11 P) E E) (N (o11 P) E E)))) (N (o11 P) (N (o11 P) (N (o307 P) (N (o563 P) (N (o12 P) E E) E) (N (o11 P) E E)) (N (o435 P) (N (o691 P) E E) (N (o12 P) E E))) (N (o12 P) (N (o371 P) (N (o11 P) (N (o12 P) E E) E) (N (o11 P) E E)) (N (o499 P) (N (o755 P) E E) (N (o1011 P) E E)))))) (N (o27 P) (N (o43 P) (N (o75 P) (N (o139 P) (N (o267 P) (N (o12 P) (N (o1035 P) E E) E) (N (o779 P) E E)) (N (o395 P) (N (o11 P) E E) (N (o11 P) E E))) (N (o11 P) (N (o11 P) (N (o587 P) (N (o1099 P) E E) E) (N (o11 P) E E)) (N (o459 P) (N (o11 P) E E) (N (o971 P) E E)))) (N (o107 P) (N (o171 P) (N (o12 P) (N (o555 P) (N (o11 P) E E) E) (N (o811 P) E E)) (N (o12 P) (N (o683 P) E E) (N (o11 P) E E))) (N (o11 P) (N (o12 P) (N (o619 P) (N (o11 P) E E) E) (N (o875 P) E E)) (N (o491 P) (N (o747 P) E E) (N (o1003 P) E E))))) (N (o11 P) (N (o11 P) (N (o11 P) (N (o283 P) (N (o11 P) (N (o1051 P) E E) E) (N (o795 P) E E)) (N (o11 P) (N (o667 P) E E) (N (o923 P) E E))) (N (o219 P) (N (o347 P) (N (o603 P) (N (o11 P) E E) E) (N (o859 P) E E)) (N (o11 P) (N (o731 P) E E) (N (o12 P) E E)))) (N (o123 P) (N (o187 P) (N (o315 P) (N (o11 P) (N (o1083 P) E E) E) (N (o12 P) E E)) (N (o11 P) (N (o11 P) E E) (N (o955 P) E E))) (N (o251 P) (N (o11 P) (N (o23 P) (N (o1147 P) E E) E) (N (o891 P) E E)) (N (o507 P) (N (o11 P) E E) (N (o11 P) E E)))))))) (N (boot_o_5 P) (N (boot_o_9 P) (N (o17 P) (N (o33 P) (N (o65 P) (N (o11 P) (N (o12 P) (N (o513 P) (N (o1025 P) E E) E) (N (o769 P) E E)) (N (o385 P) (N (o11 P) (N (o11 P) E E) E) (N (o897 P) E E))) (N (o11 P) (N (o321 P) (N (o577 P) (N (o12 P) E E) E) (N (o833 P) E E)) (N (o449 P) (N (o705 P) E E) (N (o11 P) E E)))) (N (o97 P) (N (o12 P) (N (o289 P) (N (o545 P) (N (o1057 P) E E) E) (N (o11 P) E E)) (N (o12 P) (N (o673 P) E E) (N (o11 P) E E))) (N (o225 P) (N (o353 P) (N (o11 P) (N (o1121 P) E E) E) (N (o865 P) E E)) (N (o481 P) (N (o737 P) E E) (N (o11 P) E E))))) (N (o23 P) (N (o81 P) (N (o145 P) (N (o11 P) (N (o11 P) (N (o12 P) E E) E) (N (o12 P) E E)) (N (o401 P) (N (o657 P) E E) (N (o913 P) E E))) (N (o209 P) (N (o337 P) (N (o12 P) (N (o1105 P) E E) E) (N (o849 P) E E)) (N (o465 P) (N (o12 P) E E) (N (o977 P) E E)))) (N (o12 P) (N (o177 P) (N (o11 P) (N (o561 P) (N (o1073 P) E E) E) (N (o817 P) E E)) (N (o11 P) (N (o11 P) E E) (N (o945 P) E E))) (N (o241 P) (N (o11 P) (N (o625 P) (N (o1137 P) E E) E) (N (o12 P) E E)) (N (o11 P) (N (o11 P) E E) (N (o1009 P) E E)))))) (N (o11 P) (N (o41 P) (N (o11 P) (N (o137 P) (N (o265 P) (N (o521 P) (N (o11 P) E E) E) (N (o11 P) E E)) (N (o11 P) (N (o12 P) E E) (N (o905 P) E E))) (N (o12 P) (N (o329 P) (N (o11 P) (N (o1097 P) E E) E) (N (o12 P) E E)) (N (o457 P) (N (o713 P) E E) (N (o969 P) E E)))) (N (o11 P) (N (o169 P) (N (o297 P) (N (o11 P) (N (o1065 P) E E) E) (N (o809 P) E E)) (N (o425 P) (N (o681 P) E E) (N (o937 P) E E))) (N (o233 P) (N (o361 P) (N (o617 P) (N (o1129 P) E E) E) (N (o11 P) E E)) (N (o489 P) (N (o745 P) E E) (N (o11 P) E E))))) (N (o12 P) (N (o89 P) (N (o153 P) (N (o281 P) (N (o12 P) (N (o1049 P) E E) E) (N (o793 P) E E)) (N (o409 P) (N (o665 P) E E) (N (o921 P) E E))) (N (o11 P) (N (o11 P) (N (o601 P) (N (o12 P) E E) E) (N (o11 P) E E)) (N (o473 P) (N (o729 P) E E) (N (o985 P) E E)))) (N (o121 P) (N (o185 P) (N (o12 P) (N (o569 P) (N (o11 P) E E) E) (N (o825 P) E E)) (N (o12 P) (N (o12 P) E E) (N (o953 P) E E))) (N (o11 P) (N (o12 P) (N (o633 P) (N (o1145 P) E E) E) (N (o889 P) E E)) (N (o505 P) (N (o12 P) E E) (N (o1017 P) E E))))))) (N (o13 P) (N (o21 P) (N (o12 P) (N (o69 P) (N (o133 P) (N (o261 P) (N (o517 P) (N (o11 P) E E) E) (N (o12 P) E E)) (N (o389 P) (N (o645 P) (N (o1157 P) E E) E) (N (o12 P) E E))) (N (o197 P) (N (o12 P) (N (o11 P) (N (o1093 P) E E) E) (N (o837 P) E E)) (N (o453 P) (N (o709 P) E E) (N (o11 P) E E)))) (N (o11 P) (N (o165 P) (N (o293 P) (N (o549 P) (N (o1061 P) E E) E) (N (o11 P) E E)) (N (o11 P) (N (o11 P) E E) (N (o147 P) E E))) (N (o12 P) (N (o357 P) (N (o11 P) (N (o1125 P) E E) E) (N (o869 P) E E)) (N (o485 P) (N (o741 P) E E) (N (o997 P) E E))))) (N (o53 P) (N (o12 P) (N (o12 P) (N (o11 P) (N (o533 P) (N (o1045 P) E E) E) (N (o789 P) E E)) (N (o12 P) (N (o661 P) E E) (N (o917 P) E E))) (N (o213 P) (N (o11 P) (N (o597 P) (N (o1109 P) E E) E) (N (o853 P) E E)) (N (o12 P) (N (o725 P) E E) (N (o981 P) E E)))) (N (o117 P) (N (o181 P) (N (o309 P) (N (o12 P) (N (o11 P) E E) E) (N (o821 P) E E)) (N (o437 P) (N (o693 P) E E) (N (o949 P) E E))) (N (o11 P) (N (o373 P) (N (o629 P) (N (o1141 P) E E) E) (N (o885 P) E E)) (N (o11 P) (N (o757 P) E E) (N (o23 P) E E)))))) (N (o11 P) (N (o45 P) (N (o11 P) (N (o23 P) (N (o269 P) (N (o11 P) (N (o1037 P) E E) E) (N (o781 P) E E)) (N (o11 P) (N (o653 P) E E) (N (o909 P) E E))) (N (o205 P) (N (o333 P) (N (o589 P) (N (o1101 P) E E) E) (N (o845 P) E E)) (N (o11 P) (N (o717 P) E E) (N (o12 P) E E)))) (N (o109 P) (N (o12 P) (N (o11 P) (N (o11 P) (N (o1069 P) E E) E) (N (o12 P) E E)) (N (o11 P) (N (o12 P) E E) (N (o941 P) E E))) (N (o237 P) (N (o11 P) (N (o621 P) (N (o1133 P) E E) E) (N (o877 P) E E)) (N (o493 P) (N (o749 P) E E) (N (o11 P) E E))))) (N (o61 P) (N (o93 P) (N (o157 P) (N (o12 P) (N (o541 P) (N (o1053 P) E E) E) (N (o797 P) E E)) (N (o413 P) (N (o11 P) E E) (N (o925 P) E E))) (N (o11 P) (N (o349 P) (N (o605 P) (N (o1117 P) E E) E) (N (o11 P) E E)) (N (o477 P) (N (o23 P) E E) (N (o11 P) E E)))) (N (o125 P) (N (o189 P) (N (o11 P) (N (o573 P) (N (o1085 P) E E) E) (N (o11 P) E E)) (N (o445 P) (N (o701 P) E E) (N (o957 P) E E))) (N (o253 P) (N (o381 P) (N (o11 P) (N (o12 P) E E) E) (N (o23 P) E E)) (N (o509 P) (N (o765 P) E E) (N (o1021 P) E E))))))))) (N (boot_o_2 P) (N (boot_o_4 P) (N (boot_o_8 P) (N (o12 P) (N (o11 P) (N (o64 P) (N (o128 P) (N (o11 P) (N (o512 P) (N (o1024 P) E E) E) (N (o12 P) E E)) (N (o12 P) (N (o640 P) (N (o1152 P) E E) E) (N (o896 P) E E))) (N (o192 P) (N (o11 P) (N (o576 P) (N (o11 P) E E) E) (N (o832 P) E E)) (N (o12 P) (N (o704 P) E E) (N (o960 P) E E)))) (N (o96 P) (N (o11 P) (N (o288 P) (N (o12 P) (N (o1056 P) E E) E) (N (o800 P) E E)) (N (o11 P) (N (o11 P) E E) (N (o928 P) E E))) (N (o11 P) (N (o352 P) (N (o608 P) (N (o12 P) E E) E) (N (o864 P) E E)) (N (o480 P) (N (o736 P) E E) (N (o992 P) E E))))) (N (o11 P) (N (o11 P) (N (o144 P) (N (o272 P) (N (o528 P) (N (o11 P) E E) E) (N (o11 P) E E)) (N (o11 P) (N (o12 P) E E) (N (o912 P) E E))) (N (o12 P) (N (o336 P) (N (o11 P) (N (o1104 P) E E) E) (N (o23 P) E E)) (N (o11 P) (N (o11 P) E E) (N (o976 P) E E)))) (N (o11 P) (N (o176 P) (N (o304 P) (N (o11 P) (N (o1072 P) E E) E) (N (o816 P) E E)) (N (o432 P) (N (o688 P) E E) (N (o944 P) E E))) (N (o240 P) (N (o368 P) (N (o624 P) (N (o1136 P) E E) E) (N (o11 P) E E)) (N (o496 P) (N (o752 P) E E) (N (o11 P) E E)))))) (N (o24 P) (N (o40 P) (N (o72 P) (N (o136 P) (N (o12 P) (N (o520 P) (N (o1032 P) E E) E) (N (o776 P) E E)) (N (o392 P) (N (o11 P) E E) (N (o904 P) E E))) (N (o11 P) (N (o328 P) (N (o584 P) (N (o12 P) E E) E) (N (o11 P) E E)) (N (o456 P) (N (o712 P) E E) (N (o11 P) E E)))) (N (o104 P) (N (o12 P) (N (o296 P) (N (o552 P) (N (o1064 P) E E) E) (N (o11 P) E E)) (N (o424 P) (N (o11 P) E E) (N (o936 P) E E))) (N (o232 P) (N (o360 P) (N (o11 P) (N (o1128 P) E E) E) (N (o872 P) E E)) (N (o23 P) (N (o744 P) E E) (N (o1000 P) E E))))) (N (o11 P) (N (o88 P) (N (o152 P) (N (o11 P) (N (o11 P) (N (o12 P) E E) E) (N (o12 P) E E)) (N (o408 P) (N (o664 P) E E) (N (o920 P) E E))) (N (o216 P) (N (o344 P) (N (o12 P) (N (o11 P) E E) E) (N (o856 P) E E)) (N (o472 P) (N (o12 P) E E) (N (o984 P) E E)))) (N (o12 P) (N (o184 P) (N (o11 P) (N (o568 P) (N (o1080 P) E E) E) (N (o824 P) E E)) (N (o11 P) (N (o11 P) E E) (N (o952 P) E E))) (N (o248 P) (N (o11 P) (N (o632 P) (N (o12 P) E E) E) (N (o12 P) E E)) (N (o11 P) (N (o11 P) E E) (N (o1016 P) E E))))))) (N (o12v792 P) (N (o20 P) (N (o11 P) (N (o68 P) (N (o132 P) (N (o260 P) (N (o12 P) (N (o1028 P) E E) E) (N (o11 P) E E)) (N (o388 P) (N (o11 P) (N (o1156 P) E E) E) (N (o11 P) E E))) (N (o196 P) (N (o11 P) (N (o580 P) (N (o1092 P) E E) E) (N (o836 P) E E)) (N (o452 P) (N (o708 P) E E) (N (o964 P) E E)))) (N (o100 P) (N (o164 P) (N (o292 P) (N (o548 P) (N (o23 P) E E) E) (N (o804 P) E E)) (N (o420 P) (N (o676 P) E E) (N (o932 P) E E))) (N (o11 P) (N (o356 P) (N (o612 P) (N (o1124 P) E E) E) (N (o868 P) E E)) (N (o484 P) (N (o12 P) E E) (N (o996 P) E E))))) (N (o52 P) (N (o11 P) (N (o11 P) (N (o276 P) (N (o11 P) (N (o1044 P) E E) E) (N (o788 P) E E)) (N (o11 P) (N (o660 P) E E) (N (o916 P) E E))) (N (o212 P) (N (o340 P) (N (o596 P) (N (o12 P) E E) E) (N (o852 P) E E)) (N (o11 P) (N (o724 P) E E) (N (o12 P) E E)))) (N (o116 P) (N (o12 P) (N (o11 P) (N (o11 P) (N (o1076 P) E E) E) (N (o12 P) E E)) (N (o11 P) (N (o11 P) E E) (N (o948 P) E E))) (N (o244 P) (N (o11 P) (N (o12 P) (N (o1140 P) E E) E) (N (o884 P) E E)) (N (o500 P) (N (o11 P) E E) (N (o11 P) E E)))))) (N (o28 P) (N (o44 P) (N (o76 P) (N (o11 P) (N (o268 P) (N (o524 P) (N (o11 P) E E) E) (N (o11 P) E E)) (N (o396 P) (N (o652 P) E E) (N (o12 P) E E))) (N (o204 P) (N (o12 P) (N (o11 P) (N (o1100 P) E E) E) (N (o844 P) E E)) (N (o460 P) (N (o12 P) E E) (N (o11 P) E E)))) (N (o11 P) (N (o11 P) (N (o300 P) (N (o556 P) (N (o12 P) E E) E) (N (o11 P) E E)) (N (o428 P) (N (o11 P) E E) (N (o12 P) E E))) (N (o12 P) (N (o364 P) (N (o620 P) (N (o12 P) E E) E) (N (o11 P) E E)) (N (o492 P) (N (o748 P) E E) (N (o1004 P) E E))))) (N (o60 P) (N (o12 P) (N (o12 P) (N (o11 P) (N (o540 P) (N (o1052 P) E E) E) (N (o796 P) E E)) (N (o12 P) (N (o668 P) E E) (N (o924 P) E E))) (N (o220 P) (N (o348 P) (N (o604 P) (N (o1116 P) E E) E) (N (o860 P) E E)) (N (o12 P) (N (o11 P) E E) (N (o988 P) E E)))) (N (o124 P) (N (o188 P) (N (o316 P) (N (o12 P) (N (o11 P) E E) E) (N (o828 P) E E)) (N (o444 P) (N (o700 P) E E) (N (o956 P) E E))) (N (o11 P) (N (o380 P) (N (o636 P) (N (o11 P) E E) E) (N (o11 P) E E)) (N (o508 P) (N (o764 P) E E) (N (o12 P) E E)))))))) (N (boot_o_6 P) (N (boot_o_10 P) (N (o11 P) (N (o34 P) (N (o66 P) (N (o130 P) (N (o258 P) (N (o514 P) (N (o11 P) E E) E) (N (o770 P) E E)) (N (o11 P) (N (o12 P) (N (o12 P) E E) E) (N (o898 P) E E))) (N (o12 P) (N (o322 P) (N (o11 P) (N (o1090 P) E E) E) (N (o834 P) E E)) (N (o11 P) (N (o706 P) E E) (N (o962 P) E E)))) (N (o11 P) (N (o162 P) (N (o290 P) (N (o11 P) (N (o1058 P) E E) E) (N (o802 P) E E)) (N (o418 P) (N (o674 P) E E) (N (o930 P) E E))) (N (o226 P) (N (o354 P) (N (o610 P) (N (o11 P) E E) E) (N (o866 P) E E)) (N (o482 P) (N (o738 P) E E) (N (o12 P) E E))))) (N (o50 P) (N (o82 P) (N (o146 P) (N (o274 P) (N (o12 P) (N (o1042 P) E E) E) (N (o786 P) E E)) (N (o402 P) (N (o11 P) E E) (N (o11 P) E E))) (N (o11 P) (N (o11 P) (N (o594 P) (N (o1106 P) E E) E) (N (o11 P) E E)) (N (o466 P) (N (o722 P) E E) (N (o978 P) E E)))) (N (o114 P) (N (o178 P) (N (o12 P) (N (o562 P) (N (o11 P) E E) E) (N (o818 P) E E)) (N (o23 P) (N (o12 P) E E) (N (o11 P) E E))) (N (o11 P) (N (o12 P) (N (o626 P) (N (o11 P) E E) E) (N (o882 P) E E)) (N (o498 P) (N (o12 P) E E) (N (o1010 P) E E)))))) (N (o26 P) (N (o42 P) (N (o74 P) (N (o138 P) (N (o11 P) (N (o11 P) (N (o12 P) E E) E) (N (o12 P) E E)) (N (o394 P) (N (o650 P) E E) (N (o906 P) E E))) (N (o202 P) (N (o330 P) (N (o23 P) (N (o1098 P) E E) E) (N (o842 P) E E)) (N (o458 P) (N (o714 P) E E) (N (o970 P) E E)))) (N (o23 P) (N (o170 P) (N (o11 P) (N (o554 P) (N (o676 P) E E) E) (N (o810 P) E E)) (N (o11 P) (N (o682 P) E E) (N (o938 P) E E))) (N (o234 P) (N (o11 P) (N (o618 P) (N (o1130 P) E E) E) (N (o12 P) E E)) (N (o11 P) (N (o746 P) E E) (N (o1002 P) E E))))) (N (o58 P) (N (o90 P) (N (o154 P) (N (o282 P) (N (o538 P) (N (o1050 P) E E) E) (N (o11 P) E E)) (N (o410 P) (N (o666 P) E E) (N (o922 P) E E))) (N (o218 P) (N (o12 P) (N (o11 P) (N (o1114 P) E E) E) (N (o858 P) E E)) (N (o474 P) (N (o730 P) E E) (N (o11 P) E E)))) (N (o11 P) (N (o186 P) (N (o314 P) (N (o570 P) (N (o12 P) E E) E) (N (o11 P) E E)) (N (o442 P) (N (o698 P) E E) (N (o954 P) E E))) (N (o12 P) (N (o378 P) (N (o11 P) (N (o1146 P) E E) E) (N (o890 P) E E)) (N (o506 P) (N (o762 P) E E) (N (o1018 P) E E))))))) (N (o14 P) (N (o11 P) (N (o38 P) (N (o11 P) (N (o134 P) (N (o262 P) (N (o11 P) (N (o1030 P) E E) E) (N (o774 P) E E)) (N (o11 P) (N (o646 P) E E) (N (o902 P) E E))) (N (o198 P) (N (o326 P) (N (o582 P) (N (o1094 P) E E) E) (N (o838 P) E E)) (N (o454 P) (N (o11 P) E E) (N (o12 P) E E)))) (N (o102 P) (N (o166 P) (N (o294 P) (N (o11 P) (N (o11 P) E E) E) (N (o23 P) E E)) (N (o12 P) (N (o12 P) E E) (N (o11 P) E E))) (N (o230 P) (N (o358 P) (N (o12 P) (N (o11 P) E E) E) (N (o870 P) E E)) (N (o486 P) (N (o11 P) E E) (N (o11 P) E E))))) (N (o54 P) (N (o86 P) (N (o150 P) (N (o12 P) (N (o534 P) (N (o1046 P) E E) E) (N (o790 P) E E)) (N (o406 P) (N (o662 P) E E) (N (o918 P) E E))) (N (o11 P) (N (o342 P) (N (o598 P) (N (o1110 P) E E) E) (N (o11 P) E E)) (N (o470 P) (N (o726 P) E E) (N (o11 P) E E)))) (N (o118 P) (N (o11 P) (N (o310 P) (N (o566 P) (N (o1078 P) E E) E) (N (o11 P) E E)) (N (o438 P) (N (o694 P) E E) (N (o950 P) E E))) (N (o246 P) (N (o374 P) (N (o11 P) (N (o1142 P) E E) E) (N (o886 P) E E)) (N (o12 P) (N (o758 P) E E) (N (o1014 P) E E)))))) (N (o12 P) (N (o46 P) (N (o12 P) (N (o142 P) (N (o11 P) (N (o526 P) (N (o1038 P) E E) E) (N (o782 P) E E)) (N (o12 P) (N (o654 P) E E) (N (o11 P) E E))) (N (o206 P) (N (o11 P) (N (o590 P) (N (o1102 P) E E) E) (N (o846 P) E E)) (N (o23 P) (N (o718 P) E E) (N (o974 P) E E)))) (N (o110 P) (N (o174 P) (N (o302 P) (N (o12 P) (N (o11 P) E E) E) (N (o814 P) E E)) (N (o430 P) (N (o686 P) E E) (N (o11 P) E E))) (N (o11 P) (N (o366 P) (N (o622 P) (N (o11 P) E E) E) (N (o878 P) E E)) (N (o11 P) (N (o750 P) E E) (N (o12 P) E E))))) (N (o62 P) (N (o11 P) (N (o158 P) (N (o286 P) (N (o542 P) (N (o1054 P) E E) E) (N (o11 P) E E)) (N (o414 P) (N (o23 P) E E) (N (o11 P) E E))) (N (o12 P) (N (o11 P) (N (o11 P) (N (o1118 P) E E) E) (N (o12 P) E E)) (N (o478 P) (N (o734 P) E E) (N (o990 P) E E)))) (N (o11 P) (N (o190 P) (N (o23 P) (N (o11 P) (N (o1086 P) E E) E) (N (o830 P) E E)) (N (o446 P) (N (o702 P) E E) (N (o11 P) E E))) (N (o254 P) (N (o382 P) (N (o638 P) (N (o1150 P) E E) E) (N (o894 P) E E)) (N (o510 P) (N (o766 P) E E) (N (o11 P) E E))))))))))
noncomputable def hpF (P : Params) : Heap := ⟨Z [boot_o_0 P, boot_o_1 P, boot_o_2 P, o3v791 P, boot_o_4 P, boot_o_5 P, boot_o_6 P, boot_o_7 P, boot_o_8 P, boot_o_9 P, boot_o_10 P, o11 P, o12v792 P, o13 P, o14 P, o11 P, o12 P, o17 P, o11 P, o19 P, o20 P, o21 P, o11 P, o23 P, o24 P, o11 P, o26 P, o27 P, o28 P, o11 P, o12 P, o31 P, o11 P, o33 P, o34 P, o35 P, o11 P, o12 P, o38 P, o39 P, o40 P, o41 P, o42 P, o43 P, o44 P, o45 P, o46 P, o47 P, o11 P, o23 P, o50 P, o11 P, o52 P, o53 P, o54 P, o55 P, o11 P, o12 P, o58 P, o11 P, o60 P, o61 P, o62 P, o63 P, o64 P, o65 P, o66 P, o67 P, o68 P, o69 P, o11 P, o12 P, o72 P, o11 P, o74 P, o75 P, o76 P, o11 P, o12 P, o79 P, o11 P, o81 P, o82 P, o83 P, o11 P, o12 P, o86 P, o11 P, o88 P, o89 P, o90 P, o11 P, o12 P, o93 P, o11 P, o95 P, o96 P, o97 P, o11 P, o12 P, o100 P, o11 P, o102 P, o103 P, o104 P, o11 P, o23 P, o107 P, o11 P, o109 P, o110 P, o111 P, o11 P, o12 P, o114 P, o11 P, o116 P, o117 P, o118 P, o11 P, o12 P, o121 P, o11 P, o123 P, o124 P, o125 P, o11 P, o12 P, o128 P, o11 P, o130 P, o131 P, o132 P, o133 P, o134 P, o135 P, o136 P, o137 P, o138 P, o139 P, o11 P, o23 P, o142 P, o11 P, o144 P, o145 P, o146 P, o147 P, o11 P, o12 P, o150 P, o11 P, o152 P, o153 P, o154 P, o11 P, o12 P, o157 P, o158 P, o159 P, o11 P, o12 P, o162 P, o11 P, o164 P, o165 P, o166 P, o11 P, o12 P, o169 P, o170 P, o171 P, o11 P, o12 P, o174 P, o11 P, o176 P, o177 P, o178 P, o11 P, o12 P, o181 P, o11 P, o183 P, o184 P, o185 P, o186 P, o187 P, o188 P, o189 P, o190 P, o191 P, o192 P, o11 P, o12 P, o195 P, o196 P, o197 P, o198 P, o199 P, o11 P, o12 P, o202 P, o11 P, o204 P, o205 P, o206 P, o11 P, o12 P, o209 P, o11 P, o211 P, o212 P, o213 P, o11 P, o12 P, o216 P, o11 P, o218 P, o219 P, o220 P, o11 P, o12 P, o223 P, o11 P, o225 P, o226 P, o227 P, o11 P, o12 P, o230 P, o11 P, o232 P, o233 P, o234 P, o11 P, o12 P, o237 P, o11 P, o239 P, o240 P, o241 P, o11 P, o12 P, o244 P, o11 P, o246 P, o247 P, o248 P, o11 P, o12 P, o251 P, o11 P, o253 P, o254 P, o255 P, o11 P, o12 P, o258 P, o11 P, o260 P, o261 P, o262 P, o11 P, o12 P, o265 P, o11 P, o267 P, o268 P, o269 P, o11 P, o23 P, o272 P, o11 P, o274 P, o275 P, o276 P, o11 P, o12 P, o279 P, o11 P, o281 P, o282 P, o283 P, o11 P, o12 P, o286 P, o11 P, o288 P, o289 P, o290 P, o291 P, o292 P, o293 P, o294 P, o295 P, o296 P, o297 P, o11 P, o12 P, o300 P, o11 P, o302 P, o303 P, o304 P, o11 P, o12 P, o307 P, o11 P, o309 P, o310 P, o311 P, o11 P, o12 P, o314 P, o315 P, o316 P, o11 P, o23 P, o319 P, o11 P, o321 P, o322 P, o323 P, o11 P, o12 P, o326 P, o11 P, o328 P, o329 P, o330 P, o11 P, o12 P, o333 P, o11 P, o335 P, o336 P, o337 P, o11 P, o12 P, o340 P, o11 P, o342 P, o343 P, o344 P, o11 P, o12 P, o347 P, o348 P, o349 P, o11 P, o12 P, o352 P, o353 P, o354 P, o355 P, o356 P, o357 P, o358 P, o359 P, o360 P, o361 P, o11 P, o12 P, o364 P, o11 P, o366 P, o367 P, o368 P, o11 P, o12 P, o371 P, o11 P, o373 P, o374 P, o375 P, o11 P, o12 P, o378 P, o11 P, o380 P, o381 P, o382 P, o11 P, o12 P, o385 P, o11 P, o387 P, o388 P, o389 P, o11 P, o12 P, o392 P, o11 P, o394 P, o395 P, o396 P, o11 P, o12 P, o399 P, o11 P, o401 P, o402 P, o403 P, o11 P, o12 P, o406 P, o11 P, o408 P, o409 P, o410 P, o11 P, o12 P, o413 P, o414 P, o415 P, o11 P, o12 P, o418 P, o419 P, o420 P, o11 P, o12 P, o423 P, o424 P, o425 P, o11 P, o12 P, o428 P, o11 P, o430 P, o431 P, o432 P, o11 P, o23 P, o435 P, o11 P, o437 P, o438 P, o439 P, o11 P, o12 P, o442 P, o11 P, o444 P, o445 P, o446 P, o11 P, o12 P, o449 P, o11 P, o451 P, o452 P, o453 P, o454 P, o455 P, o456 P, o457 P, o458 P, o459 P, o460 P, o11 P, o23 P, o463 P, o11 P, o465 P, o466 P, o467 P, o11 P, o12 P, o470 P, o11 P, o472 P, o473 P, o474 P, o11 P, o12 P, o477 P, o478 P, o479 P, o480 P, o481 P, o482 P, o483 P, o484 P, o485 P, o486 P, o11 P, o23 P, o489 P, o11 P, o491 P, o492 P, o493 P, o11 P, o12 P, o496 P, o11 P, o498 P, o499 P, o500 P, o11 P, o12 P, o503 P, o11 P, o505 P, o506 P, o507 P, o508 P, o509 P, o510 P, o511 P, o512 P, o513 P, o514 P, o11 P, o12 P, o517 P, o11 P, o519 P, o520 P, o521 P, o11 P, o12 P, o524 P, o11 P, o526 P, o527 P, o528 P, o11 P, o12 P, o531 P, o11 P, o533 P, o534 P, o535 P, o11 P, o12 P, o538 P, o11 P, o540 P, o541 P, o542 P, o11 P, o12 P, o545 P, o11 P, o547 P, o548 P, o549 P, o11 P, o12 P, o552 P, o11 P, o554 P, o555 P, o556 P, o11 P, o12 P, o559 P, o11 P, o561 P, o562 P, o563 P, o11 P, o12 P, o566 P, o11 P, o568 P, o569 P, o570 P, o11 P, o12 P, o573 P, o11 P, o575 P, o576 P, o577 P, o11 P, o12 P, o580 P, o11 P, o582 P, o583 P, o584 P, o11 P, o23 P, o587 P, o11 P, o589 P, o590 P, o591 P, o11 P, o12 P, o594 P, o11 P, o596 P, o597 P, o598 P, o11 P, o12 P, o601 P, o11 P, o603 P, o604 P, o605 P, o11 P, o12 P, o608 P, o11 P, o610 P, o611 P, o612 P, o11 P, o12 P, o615 P, o11 P, o617 P, o618 P, o619 P, o620 P, o621 P, o622 P, o623 P, o624 P, o625 P, o626 P, o11 P, o12 P, o629 P, o11 P, o631 P, o632 P, o633 P, o11 P, o23 P, o636 P, o11 P, o638 P, o639 P, o640 P, o11 P, o12 P, o643 P, o11 P, o645 P, o646 P, o647 P, o11 P, o12 P, o650 P, o11 P, o652 P, o653 P, o654 P, o11 P, o12 P, o657 P, o11 P, o659 P, o660 P, o661 P, o662 P, o663 P, o664 P, o665 P, o666 P, o667 P, o668 P, o11 P, o23 P, o671 P, o11 P, o673 P, o674 P, o675 P, o676 P, o11 P, o12 P, o679 P, o11 P, o681 P, o682 P, o683 P, o11 P, o12 P, o686 P, o687 P, o688 P, o11 P, o12 P, o691 P, o11 P, o693 P, o694 P, o695 P, o11 P, o12 P, o698 P, o11 P, o700 P, o701 P, o702 P, o703 P, o704 P, o705 P, o706 P, o707 P, o708 P, o709 P, o11 P, o12 P, o712 P, o713 P, o714 P, o11 P, o12 P, o717 P, o718 P, o719 P, o11 P, o12 P, o722 P, o11 P, o724 P, o725 P, o726 P, o11 P, o12 P, o729 P, o730 P, o731 P, o11 P, o23 P, o734 P, o11 P, o736 P, o737 P, o738 P, o11 P, o12 P, o741 P, o11 P, o743 P, o744 P, o745 P, o746 P, o747 P, o748 P, o749 P, o750 P, o751 P, o752 P, o11 P, o12 P, o755 P, o11 P, o757 P, o758 P, o759 P, o11 P, o12 P, o762 P, o11 P, o764 P, o765 P, o766 P, o11 P, o12 P, o769 P, o770 P, o771 P, o11 P, o12 P, o774 P, o775 P, o776 P, o11 P, o12 P, o779 P, o11 P, o781 P, o782 P, o783 P, o11 P, o12 P, o786 P, o11 P, o788 P, o789 P, o790 P, o11 P, o12 P, o793 P, o11 P, o795 P, o796 P, o797 P, o11 P, o12 P, o800 P, o11 P, o802 P, o803 P, o804 P, o11 P, o23 P, o807 P, o11 P, o809 P, o810 P, o811 P, o11 P, o12 P, o814 P, o11 P, o816 P, o817 P, o818 P, o11 P, o12 P, o821 P, o11 P, o823 P, o824 P, o825 P, o11 P, o12 P, o828 P, o11 P, o830 P, o831 P, o832 P, o833 P, o834 P, o835 P, o836 P, o837 P, o838 P, o839 P, o11 P, o12 P, o842 P, o11 P, o844 P, o845 P, o846 P, o11 P, o23 P, o849 P, o11 P, o851 P, o852 P, o853 P, o11 P, o12 P, o856 P, o11 P, o858 P, o859 P, o860 P, o11 P, o12 P, o863 P, o864 P, o865 P, o866 P, o867 P, o868 P, o869 P, o870 P, o871 P, o872 P, o11 P, o12 P, o875 P, o11 P, o877 P, o878 P, o879 P, o11 P, o12 P, o882 P, o11 P, o884 P, o885 P, o886 P, o11 P, o12 P, o889 P, o890 P, o891 P, o11 P, o23 P, o894 P, o11 P, o896 P, o897 P, o898 P, o147 P, o11 P, o12 P, o902 P, o11 P, o904 P, o905 P, o906 P, o11 P, o12 P, o909 P, o11 P, o911 P, o912 P, o913 P, o11 P, o12 P, o916 P, o917 P, o918 P, o919 P, o920 P, o921 P, o922 P, o923 P, o924 P, o925 P, o11 P, o23 P, o928 P, o11 P, o930 P, o931 P, o932 P, o147 P, o11 P, o12 P, o936 P, o937 P, o938 P, o11 P, o12 P, o941 P, o11 P, o943 P, o944 P, o945 P, o11 P, o12 P, o948 P, o949 P, o950 P, o951 P, o952 P, o953 P, o954 P, o955 P, o956 P, o957 P, o11 P, o12 P, o960 P, o11 P, o962 P, o963 P, o964 P, o11 P, o12 P, o967 P, o11 P, o969 P, o970 P, o971 P, o11 P, o12 P, o974 P, o11 P, o976 P, o977 P, o978 P, o11 P, o12 P, o981 P, o11 P, o983 P, o984 P, o985 P, o11 P, o12 P, o988 P, o11 P, o990 P, o991 P, o992 P, o11 P, o12 P, o995 P, o996 P, o997 P, o11 P, o12 P, o1000 P, o11 P, o1002 P, o1003 P, o1004 P, o11 P, o12 P, o1007 P, o11 P, o1009 P, o1010 P, o1011 P, o11 P, o23 P, o1014 P, o11 P, o1016 P, o1017 P, o1018 P, o11 P, o12 P, o1021 P, o11 P, o1023 P, o1024 P, o1025 P, o11 P, o12 P, o1028 P, o11 P, o1030 P, o1031 P, o1032 P, o11 P, o12 P, o1035 P, o11 P, o1037 P, o1038 P, o1039 P, o11 P, o12 P, o1042 P, o11 P, o1044 P, o1045 P, o1046 P, o11 P, o12 P, o1049 P, o1050 P, o1051 P, o1052 P, o1053 P, o1054 P, o1055 P, o1056 P, o1057 P, o1058 P, o11 P, o23 P, o1061 P, o11 P, o1063 P, o1064 P, o1065 P, o676 P, o11 P, o12 P, o1069 P, o11 P, o1071 P, o1072 P, o1073 P, o11 P, o12 P, o1076 P, o11 P, o1078 P, o1079 P, o1080 P, o11 P, o12 P, o1083 P, o11 P, o1085 P, o1086 P, o1087 P, o11 P, o12 P, o1090 P, o11 P, o1092 P, o1093 P, o1094 P, o11 P, o12 P, o1097 P, o1098 P, o1099 P, o1100 P, o1101 P, o1102 P, o1103 P, o1104 P, o1105 P, o1106 P, o11 P, o12 P, o1109 P, o1110 P, o1111 P, o11 P, o12 P, o1114 P, o11 P, o1116 P, o1117 P, o1118 P, o11 P, o12 P, o1121 P, o11 P, o1123 P, o1124 P, o1125 P, o11 P, o12 P, o1128 P, o1129 P, o1130 P, o11 P, o12 P, o1133 P, o11 P, o1135 P, o1136 P, o1137 P, o11 P, o12 P, o1140 P, o1141 P, o1142 P, o11 P, o12 P, o1145 P, o1146 P, o1147 P, o11 P, o12 P, o1150 P, o1151 P, o1152 P, o11 P, o12 P, o1155 P, o1156 P, o1157 P], {}⟩
end
end Mine
end
section
namespace Mine
noncomputable abbrev q0 : Pos := ⟨0, 0, 0, 0⟩
noncomputable def env0 : Env := { scope := pw.main.scope, locals := mainNs, globals := mainNs, cells := [], code := .ref 13, frame := some 14 }
noncomputable abbrev cd0 : Code := .body (behindTheImports pw) env0
noncomputable abbrev fr0 : List Frame := [topFrame q0]
noncomputable abbrev runT := PySem.W.Fast.tw10110043849684766642 PySem.W.Fast.tw14364793385576792824 pw
theorem runT_eq : segRunT treeTable pw = runT := by
  unfold runT
  rw [PySem.W.Fast.te10110043849684766642, PySem.W.Fast.te14364793385576792824]
noncomputable def sT (t : Params → BT) (n k : Nat) (w : World) (os : OsState) : SharedT := ⟨t w.params, n, {}, #[], {}, k, os⟩
noncomputable def sH (h : Params → Heap) (k : Nat) (w : World) (os : OsState) : Shared := ⟨h w.params, #[], {}, k, os⟩
noncomputable def stS1 : List Stmt := (pw.main.body.drop 0).take 49
theorem pS1 (w : World) (os : OsState) : runT w 11 (some (.ref 6)) 1 2776 (sT tB 15 187 w os) (piecesOf stS1 env0 cd0 ⟨0, 0, 0, 0⟩ fr0) = some (.next, sT tS1 416 781 w os, cd0, ⟨274, 0, 275, 60⟩) := by kernel_rfl
noncomputable def stS2 : List Stmt := (pw.main.body.drop 49).take 42
theorem pS2 (w : World) (os : OsState) : runT w 11 (some (.ref 6)) 1 2786 (sT tS1 416 781 w os) (piecesOf stS2 env0 cd0 ⟨274, 0, 275, 60⟩ fr0) = some (.next, sT tS2 798 1344 w os, cd0, ⟨525, 0, 529, 21⟩) := by kernel_rfl
noncomputable def stS3 : List Stmt := (pw.main.body.drop 91).take 37
theorem pS3 (w : World) (os : OsState) : runT w 11 (some (.ref 6)) 1 2557 (sT tS2 798 1344 w os) (piecesOf stS3 env0 cd0 ⟨525, 0, 529, 21⟩ fr0) = some (.next, sT tS3 1158 1860 w os, cd0, ⟨783, 0, 809, 48⟩) := by kernel_rfl
end Mine
end
section
namespace Mine
noncomputable abbrev S0 (w : World) (os : OsState) : Shared := ⟨boot_heap w.params, #[], boot_drawn, boot_toks, os⟩
theorem pPre (w : World) (os : OsState) : topGo treeTable pw w 11 (some (.ref 6)) 12 (S0 w os) (topStub pw) = some (sH hpA 187 w os, ⟨denote treeTable cd0, cd0, q0, fr0⟩) := by
  rw [PySem.W.Fast.te15667345088766844465, PySem.W.Fast.te11892475500146522536]
  kernel_rfl
theorem pBlock (w : World) (os : OsState) : segRun treeTable pw w 11 (some (.ref 6)) 1 1 (sH hpA 187 w os) (blockOf (behindTheImports pw) env0 cd0 q0 fr0) = some (.next, (sT tB 15 187 w os).abs, cd0, q0) := by
  kernel_rfl
theorem pFin (w : World) (os : OsState) : topRun treeTable pw w 11 (some (.ref 6)) 2 (sT tS3 1158 1860 w os).abs (restOf [] env0 cd0 ⟨783, 0, 809, 48⟩ fr0) = some (sH hpF 1860 w os) := by
  kernel_rfl
theorem body_split : behindTheImports pw = stS1 ++ (stS2 ++ (stS3 ++ [])) := by kernel_rfl
theorem hS1 (w : World) (os : OsState) : segRun treeTable pw w 11 (some (.ref 6)) 1 2776 (sT tB 15 187 w os).abs (piecesOf stS1 env0 cd0 ⟨0, 0, 0, 0⟩ fr0) = some (.next, (sT tS1 416 781 w os).abs, cd0, ⟨274, 0, 275, 60⟩) := segRun_of (by rw [show segRunT treeTable pw w 11 (some (.ref 6)) 1 = runT w 11 (some (.ref 6)) 1 from by rw [runT_eq]]; exact pS1 w os)
theorem hS2 (w : World) (os : OsState) : segRun treeTable pw w 11 (some (.ref 6)) 1 2786 (sT tS1 416 781 w os).abs (piecesOf stS2 env0 cd0 ⟨274, 0, 275, 60⟩ fr0) = some (.next, (sT tS2 798 1344 w os).abs, cd0, ⟨525, 0, 529, 21⟩) := segRun_of (by rw [show segRunT treeTable pw w 11 (some (.ref 6)) 1 = runT w 11 (some (.ref 6)) 1 from by rw [runT_eq]]; exact pS2 w os)
theorem hS3 (w : World) (os : OsState) : segRun treeTable pw w 11 (some (.ref 6)) 1 2557 (sT tS2 798 1344 w os).abs (piecesOf stS3 env0 cd0 ⟨525, 0, 529, 21⟩ fr0) = some (.next, (sT tS3 1158 1860 w os).abs, cd0, ⟨783, 0, 809, 48⟩) := segRun_of (by rw [show segRunT treeTable pw w 11 (some (.ref 6)) 1 = runT w 11 (some (.ref 6)) 1 from by rw [runT_eq]]; exact pS3 w os)
theorem topRuns (w : World) (os : OsState) : topRun treeTable pw w 11 (some (.ref 6)) (12 + (1 + (2776 + (2786 + (2557 + 2))))) (S0 w os) (topStub pw) = some (sH hpF 1860 w os) := by
  refine go_top (pPre w os) ?_
  refine piece_block (q := q0) (pBlock w os) ?_
  have k := (piece_app (q := q0) (hS1 w os) (piece_app (q := q0) (hS2 w os) (piece_app (q := q0) (hS3 w os) (pFin w os))))
  rw [← body_split] at k
  exact k
noncomputable def looseN : List Str := [Str.ofString "_wall", Str.ofString "RIGHT_TO_LEFT", Str.ofString "IGNORE_BASES", Str.ofString "IGNORE_LIGATURES", Str.ofString "IGNORE_MARKS", Str.ofString "USE_SET", Str.ofString "Lookup", Str.ofString "Scene", Str.ofString "attach_wanted", Str.ofString "class_bit", Str.ofString "is_ignored", Str.ofString "passes", Str.ofString "nested_scene", Str.ofString "Info", Str.ofString "Buffer", Str.ofString "hang", Str.ofString "KINDS_IN_INPUT", Str.ofString "KINDS_AROUND", Str.ofString "fits", Str.ofString "neighbour", Str.ofString "next_at", Str.ofString "before_at", Str.ofString "is_borne", Str.ofString "found_at", Str.ofString "input_at", Str.ofString "last_at", Str.ofString "ahead_at", Str.ofString "back_at", Str.ofString "Anchor", Str.ofString "told_anchor", Str.ofString "difference", Str.ofString "told_marks", Str.ofString "BOND", Str.ofString "Cursive", Str.ofString "join_forward", Str.ofString "join_backward", Str.ofString "loosen", Str.ofString "turn_chain", Str.ofString "break_ring", Str.ofString "tie", Str.ofString "apply_cursive", Str.ofString "MARK_GLYPH", Str.ofString "classes_of", Str.ofString "told_row", Str.ofString "told_row_marks", Str.ofString "has_anchor", Str.ofString "told_by_glyph", Str.ofString "MarkBase", Str.ofString "MarkComponent", Str.ofString "MarkMark", Str.ofString "scene_with", Str.ofString "is_mark_at", Str.ofString "is_later_part", Str.ofString "base_ahead", Str.ofString "set_on", Str.ofString "apply_base", Str.ofString "component_of", Str.ofString "apply_component", Str.ofString "are_of_one", Str.ofString "apply_mark", Str.ofString "Coverage", Str.ofString "coverage_of", Str.ofString "BY_GLYPHS", Str.ofString "BY_CLASSES", Str.ofString "Rule", Str.ofString "Contexts", Str.ofString "told_row_contexts", Str.ofString "tests_of", Str.ofString "rule_tests", Str.ofString "rules_at", Str.ofString "MOST_DEPTH", Str.ofString "MOST_PLACES", Str.ofString "MOST_ACTIONS", Str.ofString "Places", Str.ofString "match_rule", Str.ofString "inner_scene", Str.ofString "grow", Str.ofString "shrink", Str.ofString "move", Str.ofString "do_action", Str.ofString "do_actions", Str.ofString "apply_context", Str.ofString "Value", Str.ofString "add_value", Str.ofString "Adjust", Str.ofString "apply_adjust", Str.ofString "pair_told", Str.ofString "moves_second", Str.ofString "PairGlyphs", Str.ofString "PairClasses", Str.ofString "has_second", Str.ofString "apply_pair", Str.ofString "apply_position", Str.ofString "position_at", Str.ofString "beginnings_of_context", Str.ofString "beginnings_of_pair", Str.ofString "beginnings", Str.ofString "run_position", Str.ofString "ClassDef", Str.ofString "NO_CLASS", Str.ofString "BASE", Str.ofString "COMPONENT", Str.ofString "Gdef", Str.ofString "_law_pen", Str.ofString "_law_draw", Str.ofString "_law_pick", Str.ofString "_law_some", Str.ofString "_law_row", Str.ofString "_law_marks", Str.ofString "_law_table", Str.ofString "_law_told"]
noncomputable def myK (P : Params) : Frag := [(3, o3v791 P), (21, o21 P), (20, o20 P), (43, o43 P), (42, o42 P), (35, o35 P), (34, o34 P), (40, o40 P), (39, o39 P), (65, o65 P), (64, o64 P), (62, o62 P), (61, o61 P), (55, o55 P), (76, o76 P), (75, o75 P), (83, o83 P), (82, o82 P), (90, o90 P), (89, o89 P), (97, o97 P), (96, o96 P), (104, o104 P), (103, o103 P), (135, o135 P), (134, o134 P), (118, o118 P), (117, o117 P), (125, o125 P), (124, o124 P), (132, o132 P), (131, o131 P), (188, o188 P), (187, o187 P), (154, o154 P), (153, o153 P), (147, o147 P), (159, o159 P), (158, o158 P), (166, o166 P), (165, o165 P), (171, o171 P), (170, o170 P), (178, o178 P), (177, o177 P), (185, o185 P), (184, o184 P), (197, o197 P), (196, o196 P), (198, o198 P), (199, o199 P), (206, o206 P), (205, o205 P), (213, o213 P), (212, o212 P), (220, o220 P), (219, o219 P), (227, o227 P), (226, o226 P), (234, o234 P), (233, o233 P), (241, o241 P), (240, o240 P), (248, o248 P), (247, o247 P), (255, o255 P), (254, o254 P), (262, o262 P), (261, o261 P), (269, o269 P), (268, o268 P), (293, o293 P), (292, o292 P), (283, o283 P), (282, o282 P), (290, o290 P), (289, o289 P), (304, o304 P), (303, o303 P), (311, o311 P), (310, o310 P), (316, o316 P), (315, o315 P), (357, o357 P), (356, o356 P), (330, o330 P), (329, o329 P), (337, o337 P), (336, o336 P), (344, o344 P), (343, o343 P), (349, o349 P), (348, o348 P), (354, o354 P), (353, o353 P), (368, o368 P), (367, o367 P), (375, o375 P), (374, o374 P), (382, o382 P), (381, o381 P), (389, o389 P), (388, o388 P), (396, o396 P), (395, o395 P), (403, o403 P), (402, o402 P), (410, o410 P), (409, o409 P), (415, o415 P), (414, o414 P), (714, o714 P), (713, o713 P), (420, o420 P), (419, o419 P), (425, o425 P), (424, o424 P), (432, o432 P), (431, o431 P), (456, o456 P), (455, o455 P), (446, o446 P), (445, o445 P), (453, o453 P), (452, o452 P), (482, o482 P), (481, o481 P), (474, o474 P), (473, o473 P), (479, o479 P), (478, o478 P), (510, o510 P), (509, o509 P), (500, o500 P), (499, o499 P), (507, o507 P), (506, o506 P), (521, o521 P), (520, o520 P), (528, o528 P), (527, o527 P), (535, o535 P), (534, o534 P), (542, o542 P), (541, o541 P), (549, o549 P), (548, o548 P), (556, o556 P), (555, o555 P), (563, o563 P), (562, o562 P), (570, o570 P), (569, o569 P), (577, o577 P), (576, o576 P), (584, o584 P), (583, o583 P), (622, o622 P), (621, o621 P), (598, o598 P), (597, o597 P), (605, o605 P), (604, o604 P), (612, o612 P), (611, o611 P), (619, o619 P), (618, o618 P), (633, o633 P), (632, o632 P), (664, o664 P), (663, o663 P), (647, o647 P), (646, o646 P), (654, o654 P), (653, o653 P), (661, o661 P), (660, o660 P), (705, o705 P), (704, o704 P), (683, o683 P), (682, o682 P), (676, o676 P), (688, o688 P), (687, o687 P), (695, o695 P), (694, o694 P), (702, o702 P), (701, o701 P), (719, o719 P), (718, o718 P), (726, o726 P), (725, o725 P), (731, o731 P), (730, o730 P), (748, o748 P), (747, o747 P), (745, o745 P), (744, o744 P), (759, o759 P), (758, o758 P), (766, o766 P), (765, o765 P), (771, o771 P), (770, o770 P), (776, o776 P), (775, o775 P), (783, o783 P), (782, o782 P), (790, o790 P), (789, o789 P), (797, o797 P), (796, o796 P), (804, o804 P), (803, o803 P), (835, o835 P), (834, o834 P), (818, o818 P), (817, o817 P), (825, o825 P), (824, o824 P), (832, o832 P), (831, o831 P), (846, o846 P), (845, o845 P), (868, o868 P), (867, o867 P), (860, o860 P), (859, o859 P), (865, o865 P), (864, o864 P), (879, o879 P), (878, o878 P), (886, o886 P), (885, o885 P), (891, o891 P), (890, o890 P), (921, o921 P), (920, o920 P), (906, o906 P), (905, o905 P), (899, o147 P), (913, o913 P), (912, o912 P), (918, o918 P), (917, o917 P), (953, o953 P), (952, o952 P), (938, o938 P), (937, o937 P), (933, o147 P), (945, o945 P), (944, o944 P), (950, o950 P), (949, o949 P), (964, o964 P), (963, o963 P), (971, o971 P), (970, o970 P), (978, o978 P), (977, o977 P), (985, o985 P), (984, o984 P), (992, o992 P), (991, o991 P), (997, o997 P), (996, o996 P), (1004, o1004 P), (1003, o1003 P), (1011, o1011 P), (1010, o1010 P), (1054, o1054 P), (1053, o1053 P), (1025, o1025 P), (1024, o1024 P), (1032, o1032 P), (1031, o1031 P), (1039, o1039 P), (1038, o1038 P), (1046, o1046 P), (1045, o1045 P), (1051, o1051 P), (1050, o1050 P), (1102, o1102 P), (1101, o1101 P), (1073, o1073 P), (1072, o1072 P), (1066, o676 P), (1080, o1080 P), (1079, o1079 P), (1087, o1087 P), (1086, o1086 P), (1094, o1094 P), (1093, o1093 P), (1099, o1099 P), (1098, o1098 P), (1111, o1111 P), (1110, o1110 P), (1118, o1118 P), (1117, o1117 P), (1125, o1125 P), (1124, o1124 P), (1130, o1130 P), (1129, o1129 P), (1137, o1137 P), (1136, o1136 P), (1142, o1142 P), (1141, o1141 P), (1147, o1147 P), (1146, o1146 P), (1152, o1152 P), (1151, o1151 P), (1157, o1157 P), (1156, o1156 P)]
noncomputable def myA : List Addr := [3, 21, 20, 43, 42, 35, 34, 40, 39, 65, 64, 62, 61, 55, 76, 75, 83, 82, 90, 89, 97, 96, 104, 103, 135, 134, 118, 117, 125, 124, 132, 131, 188, 187, 154, 153, 147, 159, 158, 166, 165, 171, 170, 178, 177, 185, 184, 197, 196, 198, 199, 206, 205, 213, 212, 220, 219, 227, 226, 234, 233, 241, 240, 248, 247, 255, 254, 262, 261, 269, 268, 293, 292, 283, 282, 290, 289, 304, 303, 311, 310, 316, 315, 357, 356, 330, 329, 337, 336, 344, 343, 349, 348, 354, 353, 368, 367, 375, 374, 382, 381, 389, 388, 396, 395, 403, 402, 410, 409, 415, 414, 714, 713, 420, 419, 425, 424, 432, 431, 456, 455, 446, 445, 453, 452, 482, 481, 474, 473, 479, 478, 510, 509, 500, 499, 507, 506, 521, 520, 528, 527, 535, 534, 542, 541, 549, 548, 556, 555, 563, 562, 570, 569, 577, 576, 584, 583, 622, 621, 598, 597, 605, 604, 612, 611, 619, 618, 633, 632, 664, 663, 647, 646, 654, 653, 661, 660, 705, 704, 683, 682, 676, 688, 687, 695, 694, 702, 701, 719, 718, 726, 725, 731, 730, 748, 747, 745, 744, 759, 758, 766, 765, 771, 770, 776, 775, 783, 782, 790, 789, 797, 796, 804, 803, 835, 834, 818, 817, 825, 824, 832, 831, 846, 845, 868, 867, 860, 859, 865, 864, 879, 878, 886, 885, 891, 890, 921, 920, 906, 905, 899, 913, 912, 918, 917, 953, 952, 938, 937, 933, 945, 944, 950, 949, 964, 963, 971, 970, 978, 977, 985, 984, 992, 991, 997, 996, 1004, 1003, 1011, 1010, 1054, 1053, 1025, 1024, 1032, 1031, 1039, 1038, 1046, 1045, 1051, 1050, 1102, 1101, 1073, 1072, 1066, 1080, 1079, 1087, 1086, 1094, 1093, 1099, 1098, 1111, 1110, 1118, 1117, 1125, 1124, 1130, 1129, 1137, 1136, 1142, 1141, 1147, 1146, 1152, 1151, 1157, 1156]
end Mine
end
section
namespace Mine
noncomputable def qv : Program := view pw [127]
noncomputable abbrev sF (w : World) (os : OsState) : Shared := sH hpF 1860 w os
theorem lk1 (w : World) (os : OsState) : staticsOk (importedModules pw.main.body) (boot_heap w.params) (hpF w.params) = true := by kernel_rfl
theorem lk2 (w : World) (os : OsState) : namesBound pw (hpF w.params) = true := by kernel_rfl
theorem lk3 (w : World) (os : OsState) : gensDone (sF w os) = true := by kernel_rfl
theorem lk4 (w : World) (os : OsState) : laidKept (boot_heap w.params) (hpF w.params) = true := by kernel_rfl
theorem sz (w : World) : ((boot_heap w.params).isNs mainGlobals && (#[] : Array GenState).size == 0, (boot_heap w.params).objs.size, (boot_heap w.params).nsMap mainGlobals "__annotations__") = (true, 11, some (.ref 6)) := by kernel_rfl
noncomputable abbrev lz := looseN
noncomputable def XtF (s : Shared) : Bool := xlAt qv [] s && recOk [] s
theorem os1 (w : World) (os : OsState) : seen ((recsOf qv).map (·.name)) (ownsOf qv) [] { sF w os with gens := #[] } = expectedOf qv := by
  rw [PySem.W.Fast.te5160383126252970620]
  kernel_rfl
theorem os2 (w : World) (os : OsState) : (sF w os).heap.bltView = bltViewBooted := by kernel_rfl
theorem os3 (w : World) (os : OsState) : (sF w os).heap.keysOk (looseW qv lz) ((recsOf qv).map (·.name)) ((litsOf qv).map (·.1)) ((clssOf qv (looseW qv lz)).map (·.name)) = true := by
  rw [PySem.W.Fast.te10880121769531294198]
  kernel_rfl
theorem os4 (w : World) (os : OsState) : ((sF w os).heap.accountedOkI (importedModules pw.main.body) && (sF w os).heap.isNs mainGlobals && (sF w os).heap.isNs builtinsNs && tablesOk qv (sF w os).heap && XtF (sF w os) && ((sF w os).gens.size == 0)) = true := by
  rw [PySem.W.Fast.te14722251495701143533]
  kernel_rfl
theorem os5 (w : World) (os : OsState) : tabsOk qv (sF w os) = true := by
  rw [PySem.W.Fast.te479339242167458305]
  kernel_rfl
theorem os6 (w : World) (os : OsState) : pinSeenD qv (drecsOf qv) (sF w os) = pinGoodD (drecsOf qv) := by
  rw [PySem.W.Fast.te16090120013241838585]
  kernel_rfl
theorem os7 (w : World) (os : OsState) : plainSeenE qv (looseW qv lz) (sF w os) = plainGoodE qv (looseW qv lz) := by
  rw [PySem.W.Fast.te2386780881361962483]
  kernel_rfl
theorem os8 (w : World) (os : OsState) : plainSeenD qv lz (sF w os) = plainGoodD qv lz := by
  rw [PySem.W.Fast.te11698064438423848299]
  kernel_rfl
theorem os9 (w : World) (os : OsState) : wideSeen qv (sF w os) = wideGood qv := by
  rw [PySem.W.Fast.te7317090234206586261]
  kernel_rfl
theorem os10 (w : World) (os : OsState) : clsSeenW qv lz (sF w os) = clsGoodW qv lz := by
  rw [PySem.W.Fast.te7369524293546568484]
  kernel_rfl
end Mine
end
section
namespace Mine
theorem myA_eq (P : Params) : myA = (myK P).map (·.1) := by kernel_rfl
noncomputable abbrev myH : Hook := kHook myK myA myA_eq
theorem kobs (w : World) (os : OsState) : myA.map (sF w os).heap.get? = (myK w.params).map fun p => some p.2 := by kernel_rfl
theorem left : LeftO pw qv lz XtF (Hook.obs myH) (Hook.val myH) 16358 := by
  refine LeftO.of_pieces (H₀ := boot_heap) (H₁ := hpF) (gs₀ := #[]) (gs₁ := #[]) (d₀ := boot_drawn) (d₁ := {}) (k₀ := boot_toks) (k₁ := 1860) (m₀ := 11) (ann := some (.ref 6)) (M := _) ?_ sz (fun w os => topRuns w os) (by kernel_rfl) ?_
  · exact boot_open (by kernel_rfl) (by kernel_rfl) (fun s => by kernel_rfl)
  · intro w
    funext os
    refine Prod.ext ?_ (Prod.ext ?_ (kobs w os))
    · show (staticsOk _ _ _ && namesBound _ _ && gensDone (sF w os) && laidKept _ _) = true
      rw [lk1 w os, lk2 w os, lk3 w os, lk4 w os]; rfl
    · show openSeen qv lz (importedModules pw.main.body) XtF true (sF w os) = openGood qv lz
      unfold openSeen openGood
      refine Prod.ext (os1 w os) (Prod.ext (os2 w os) (Prod.ext ?_ (Prod.ext (os5 w os) (Prod.ext (os6 w os) (Prod.ext (os7 w os) (Prod.ext (os8 w os) (Prod.ext (os9 w os) (os10 w os))))))))
      show ((sF w os).heap.keysOk (looseW qv lz) ((recsOf qv).map (·.name)) ((litsOf qv).map (·.1)) ((clssOf qv (looseW qv lz)).map (·.name)) && (sF w os).heap.accountedOkI (importedModules pw.main.body) && (sF w os).heap.isNs mainGlobals && (sF w os).heap.isNs builtinsNs && tablesOk qv (sF w os).heap && XtF (sF w os) && ((sF w os).gens.size == 0)) = true
      have h := os4 w os
      rw [os3 w os]
      simpa only [Bool.true_and] using h
end Mine
end
section
namespace Mine
noncomputable def dL : DefRec := { name := "law", params := (fnAt 127).args, body := (fnAt 127).body, scope := (fnAt 127).scope, pos := ⟨783, 0, 809, 48⟩ }
theorem wsaid : OpenLaw.wellSaid PySem.Challenge.rw_pb0209_01 = true := by
  rw [PySem.W.Fast.te9446332074065402090]
  kernel_rfl
theorem holds_of (h : WalkO qv lz (XL qv []) (Hook.says myH) PySem.Challenge.rw_pb0209_01.row.toRowW dL [] (fun f vs => PySem.call f vs)) : PySem.Challenge.rw_pb0209_01.Holds := by
  w_on
  refine holds_law wsaid fun said => ?_
  refine holds_open (q := qv) (loose := lz) (Xt := XtF) (XP := XL qv []) (Yf := Hook.obs myH) (Ya := Hook.val myH) (YP := Hook.says myH) (N := 16358) left (Hook.of myH) (Hook.keeps myH) (fun s e => xl_of s (Bool.and_eq_true_iff.mp e).1) XL.keeps (by kernel_rfl) (by kernel_rfl) (by kernel_rfl) (fun s e => recFacts_of (Bool.and_eq_true_iff.mp e).2) (by rfl) (by first | assumption | decide +kernel) (by decide +kernel) ⟨rfl, rfl, rfl, rfl, rfl, by decide +kernel⟩ ?hw h
  w_witness2
end Mine
end
section
namespace Mine
inductive V where
  | none
  | bool (b : Bool)
  | int (i : Int)
  | str (x : Str)
  | glob (a : Addr)
  | bi (id : String)
  | ty (n : String)
  | ref (a : Addr)
  | obj (cl x d : Addr)
  | rng (n : Int)
  | tup (l : List V)
  | lst (l : List V)
  | dcI (l : List (Int × V))
  | dcP (l : List ((Int × Int) × V))
  | dvP (l : List ((Int × Int) × V))
  | set (l : List Int)
  | inst (cl : Addr) (fs : List (Str × V))
inductive O where
  | lst (l : List V)
  | app (l : List V)
  | dcI (l : List (Int × V))
  | flds (fs : List (Str × V))
noncomputable abbrev Sto := Addr → Option O
noncomputable def Sto.set (σ : Sto) (a : Addr) (o : O) : Sto := fun b => if b = a then some o else σ b
noncomputable def Sto.del (σ : Sto) (a : Addr) : Sto := fun b => if b = a then .none else σ b
theorem Sto.set_at (σ : Sto) (a : Addr) (o : O) : σ.set a o a = some o := if_pos rfl
theorem Sto.set_ne (σ : Sto) {a b : Addr} (o : O) (h : b ≠ a) : σ.set a o b = σ b := if_neg h
theorem Sto.del_at (σ : Sto) (a : Addr) : σ.del a a = .none := if_pos rfl
theorem Sto.del_ne (σ : Sto) {a b : Addr} (h : b ≠ a) : σ.del a b = σ b := if_neg h
theorem Sto.del_set (σ : Sto) (a : Addr) (o : O) (h : σ a = .none) : (σ.set a o).del a = σ := by
  funext b
  by_cases e : b = a
  · subst e; rw [Sto.del_at, h]
  · rw [Sto.del_ne _ e, Sto.set_ne _ _ e]
theorem Sto.set_set (σ : Sto) (a : Addr) (o o' : O) : (σ.set a o).set a o' = σ.set a o' := by
  funext b
  by_cases e : b = a
  · subst e; rw [Sto.set_at, Sto.set_at]
  · rw [Sto.set_ne _ _ e, Sto.set_ne _ _ e, Sto.set_ne _ _ e]
structure Cx where
  prog : Program
  w : World
  B : Heap
  K : Frag
noncomputable abbrev kI (c : Cx) := intKind c.prog c.w
noncomputable abbrev kP (c : Cx) : HeapKind c.prog c.w (List Int) := tupleKind (intKind c.prog c.w)
noncomputable def gl (es : List DictEntry) (n : Str) : Option Value := (es.find? fun e => e.key.isStr n).map (·.val)
structure FD (fs : List (Str × V)) (es : List DictEntry) : Prop where
  keys : ∀ e ∈ es, ∃ n t, e.key = .str n t
  len : es.length ≤ fs.length
  nodup : (fs.map (·.1)).Nodup
  names : ∀ n, fs.lookup n = .none → gl es n = .none
noncomputable def setTab (byText : Bool) (S : List Int) : SetTable := { mask := if S.length < 5 then 7 else 31, place := (S.map Int.toNat).toArray, dummies := #[], finger := 0, led := !byText, moves := if S.length < 5 then 0 else 1, plain := true }
structure SetIs (c : Cx) (h : Heap) (a : Addr) (S : List Int) : Prop where
  at_ : ∃ es ep, h.get? a = some { cls := .type "set", dict := none, data := .set es ep (setTab (c.w.params.followText "set-order") S), slots := #[] } ∧ es.toList.map (·.1) = S ∧ IntsAre (es.toList.map (·.2)) S
  up : S.Pairwise (· < ·)
  small : ∀ i ∈ S, 0 ≤ i ∧ i < 8
mutual
noncomputable def VR (c : Cx) (z : Heap) : V → Value → Prop
  | .none, v => v = .none
  | .bool b, v => v = .bool b
  | .int i, v => ∃ t, v = .int i t
  | .str x, v => ∃ t, v = .str x t
  | .glob a, v => v = .ref a
  | .bi id, v => v = .builtin id
  | .ty n, v => v = .type n
  | .ref a, v => v = .ref a
  | .obj cl x d, v => v = .ref x ∧ z.get? x = some (instObj cl d)
  | .rng n, v => ∃ a t₁ t₂ t₃, v = .ref a ∧ z.get? a = some { cls := .type "range", dict := none, data := .fields #[.int 0 t₁, .int n t₂, .int 1 t₃], slots := #[] }
  | .tup l, v => ∃ a vs, v = .ref a ∧ IsTup z a vs ∧ VRs c z l vs.toList
  | .lst l, v => ∃ a vs, v = .ref a ∧ z.PlainList a vs ∧ VRs c z l vs.toList
  | .dcI l, v => ∃ a kvs, v = .ref a ∧ (a == sysModules) = false ∧ z.DictOf (kI c) a kvs ∧ VRi c z l kvs
  | .dcP l, v => ∃ a xs, v = .ref a ∧ (a == sysModules) = false ∧ z.DictOfH (kP c) a xs ∧ VRp c z l xs
  | .dvP l, v => ∃ a d xs, v = .ref a ∧ z.get? a = some { cls := .type "dict_values", dict := none, data := .fields #[.ref d], slots := #[] } ∧ z.DictOfH (kP c) d xs ∧ VRp c z l xs
  | .set l, v => ∃ a, v = .ref a ∧ SetIs c z a l
  | .inst cl fs, v => ∃ x d es n, v = .ref x ∧ z.get? x = some (instObj cl d) ∧ z.get? d = some (dictOf es n) ∧ FD fs es ∧ VRf c z fs (gl es)
noncomputable def VRs (c : Cx) (z : Heap) : List V → List Value → Prop
  | [], vs => vs = []
  | x :: r, vs => ∃ v vr, vs = v :: vr ∧ VR c z x v ∧ VRs c z r vr
noncomputable def VRf (c : Cx) (z : Heap) : List (Str × V) → (Str → Option Value) → Prop
  | [], _ => True
  | (n, x) :: r, m => (∃ v, m n = some v ∧ VR c z x v) ∧ VRf c z r m
noncomputable def VRi (c : Cx) (z : Heap) : List (Int × V) → List (Int × Value) → Prop
  | [], es => es = []
  | (k, x) :: r, es => ∃ v er, es = (k, v) :: er ∧ VR c z x v ∧ VRi c z r er
noncomputable def VRp (c : Cx) (z : Heap) : List ((Int × Int) × V) → List (List Int × Addr × Value) → Prop
  | [], es => es = []
  | (k, x) :: r, es => ∃ a v er, es = ([k.1, k.2], a, v) :: er ∧ VR c z x v ∧ VRp c z r er
end
noncomputable def Sub (z z' : Heap) : Prop := ∀ b o, z.get? b = some o → z'.get? b = some o
theorem Sub.refl (z : Heap) : Sub z z := fun _ _ e => e
theorem Sub.trans {a b d : Heap} (h : Sub a b) (g : Sub b d) : Sub a d := fun x o e => g x o (h x o e)
theorem dictOf_sub {c : Cx} {z z' : Heap} (s : Sub z z') {a : Addr} {kvs : List (Int × Value)} (h : z.DictOf (kI c) a kvs) : z'.DictOf (kI c) a kvs := by
  obtain ⟨o, es, ep, ho, r⟩ := h
  exact ⟨o, es, ep, s _ _ ho, r⟩
theorem tupleKey_sub {c : Cx} {z z' : Heap} (s : Sub z z') {a : Addr} {ks : List Int} (h : IsTupleKey (kI c) z ks a) : IsTupleKey (kI c) z' ks a := by
  obtain ⟨o, it, n, ho, r⟩ := h
  exact ⟨o, it, n, s _ _ ho, r⟩
theorem dictOfH_sub {c : Cx} {z z' : Heap} (s : Sub z z') {a : Addr} {xs : List (List Int × Addr × Value)} (h : z.DictOfH (kP c) a xs) : z'.DictOfH (kP c) a xs := by
  obtain ⟨o, es, ep, ho, h1, h2, h3, h4, h5⟩ := h
  exact ⟨o, es, ep, s _ _ ho, h1, h2, h3, fun x hx => tupleKey_sub s (h4 x hx), h5⟩
theorem plain_sub {z z' : Heap} (s : Sub z z') {a : Addr} {vs : Array Value} (h : z.PlainList a vs) : z'.PlainList a vs := let ⟨n, ho⟩ := h; ⟨n, s _ _ ho⟩
theorem isList_sub {z z' : Heap} (s : Sub z z') {a : Addr} {vs : Array Value} (h : z.PlainList a vs) : z'.IsList a vs := (plain_sub s h).isList
theorem isTup_sub {z z' : Heap} (s : Sub z z') {a : Addr} {vs : Array Value} (h : IsTup z a vs) : IsTup z' a vs := h.keeps s
theorem VR_none {c : Cx} {z : Heap} {v : Value} : VR c z .none v ↔ v = .none := Iff.rfl
theorem VR_bool {c : Cx} {z : Heap} {b : Bool} {v : Value} : VR c z (.bool b) v ↔ v = .bool b := Iff.rfl
theorem VR_int {c : Cx} {z : Heap} {i : Int} {v : Value} : VR c z (.int i) v ↔ ∃ t, v = .int i t := Iff.rfl
theorem VR_str {c : Cx} {z : Heap} {x : Str} {v : Value} : VR c z (.str x) v ↔ ∃ t, v = .str x t := Iff.rfl
theorem VR_glob {c : Cx} {z : Heap} {a : Addr} {v : Value} : VR c z (.glob a) v ↔ v = .ref a := Iff.rfl
theorem VR_bi {c : Cx} {z : Heap} {a : String} {v : Value} : VR c z (.bi a) v ↔ v = .builtin a := Iff.rfl
theorem VR_ty {c : Cx} {z : Heap} {a : String} {v : Value} : VR c z (.ty a) v ↔ v = .type a := Iff.rfl
theorem VR_ref {c : Cx} {z : Heap} {a : Addr} {v : Value} : VR c z (.ref a) v ↔ v = .ref a := Iff.rfl
theorem VR_obj {c : Cx} {z : Heap} {cl x d : Addr} {v : Value} : VR c z (.obj cl x d) v ↔ v = .ref x ∧ z.get? x = some (instObj cl d) := Iff.rfl
theorem VR_tup {c : Cx} {z : Heap} {l : List V} {v : Value} : VR c z (.tup l) v ↔ ∃ a vs, v = .ref a ∧ IsTup z a vs ∧ VRs c z l vs.toList := Iff.rfl
theorem VR_lst {c : Cx} {z : Heap} {l : List V} {v : Value} : VR c z (.lst l) v ↔ ∃ a vs, v = .ref a ∧ z.PlainList a vs ∧ VRs c z l vs.toList := Iff.rfl
theorem VR_dcI {c : Cx} {z : Heap} {l : List (Int × V)} {v : Value} : VR c z (.dcI l) v ↔ ∃ a kvs, v = .ref a ∧ (a == sysModules) = false ∧ z.DictOf (kI c) a kvs ∧ VRi c z l kvs := Iff.rfl
theorem VR_dcP {c : Cx} {z : Heap} {l : List ((Int × Int) × V)} {v : Value} : VR c z (.dcP l) v ↔ ∃ a xs, v = .ref a ∧ (a == sysModules) = false ∧ z.DictOfH (kP c) a xs ∧ VRp c z l xs := Iff.rfl
theorem VR_inst {c : Cx} {z : Heap} {cl : Addr} {fs : List (Str × V)} {v : Value} : VR c z (.inst cl fs) v ↔ ∃ x d es n, v = .ref x ∧ z.get? x = some (instObj cl d) ∧ z.get? d = some (dictOf es n) ∧ FD fs es ∧ VRf c z fs (gl es) := Iff.rfl
theorem VRs_nil {c : Cx} {z : Heap} {vs : List Value} : VRs c z [] vs ↔ vs = [] := Iff.rfl
theorem VRs_cons {c : Cx} {z : Heap} {x : V} {r : List V} {vs : List Value} : VRs c z (x :: r) vs ↔ ∃ v vr, vs = v :: vr ∧ VR c z x v ∧ VRs c z r vr := Iff.rfl
theorem VR_rng {c : Cx} {z : Heap} {n : Int} {v : Value} : VR c z (.rng n) v ↔ ∃ a t₁ t₂ t₃, v = .ref a ∧ z.get? a = some { cls := .type "range", dict := none, data := .fields #[.int 0 t₁, .int n t₂, .int 1 t₃], slots := #[] } := Iff.rfl
theorem VR_dvP {c : Cx} {z : Heap} {l : List ((Int × Int) × V)} {v : Value} : VR c z (.dvP l) v ↔ ∃ a d xs, v = .ref a ∧ z.get? a = some { cls := .type "dict_values", dict := none, data := .fields #[.ref d], slots := #[] } ∧ z.DictOfH (kP c) d xs ∧ VRp c z l xs := Iff.rfl
theorem VR_set {c : Cx} {z : Heap} {l : List Int} {v : Value} : VR c z (.set l) v ↔ ∃ a, v = .ref a ∧ SetIs c z a l := Iff.rfl
theorem VRf_cons {c : Cx} {z : Heap} {n : Str} {x : V} {r : List (Str × V)} {m : Str → Option Value} : VRf c z ((n, x) :: r) m ↔ (∃ v, m n = some v ∧ VR c z x v) ∧ VRf c z r m := Iff.rfl
theorem VRi_nil {c : Cx} {z : Heap} {es : List (Int × Value)} : VRi c z [] es ↔ es = [] := Iff.rfl
theorem VRi_cons {c : Cx} {z : Heap} {k : Int} {x : V} {r : List (Int × V)} {es : List (Int × Value)} : VRi c z ((k, x) :: r) es ↔ ∃ v er, es = (k, v) :: er ∧ VR c z x v ∧ VRi c z r er := Iff.rfl
theorem VRp_nil {c : Cx} {z : Heap} {es : List (List Int × Addr × Value)} : VRp c z [] es ↔ es = [] := Iff.rfl
theorem VRp_cons {c : Cx} {z : Heap} {k : Int × Int} {x : V} {r : List ((Int × Int) × V)} {es : List (List Int × Addr × Value)} : VRp c z ((k, x) :: r) es ↔ ∃ a v er, es = ([k.1, k.2], a, v) :: er ∧ VR c z x v ∧ VRp c z r er := Iff.rfl
mutual
theorem VR.sub {c : Cx} {z z' : Heap} (s : Sub z z') : ∀ (x : V) {v : Value}, VR c z x v → VR c z' x v
  | .none, _, h => h
  | .bool _, _, h => h
  | .int _, _, h => h
  | .str _, _, h => h
  | .glob _, _, h => h
  | .bi _, _, h => h
  | .ty _, _, h => h
  | .ref _, _, h => h
  | .obj _ _ _, _, h => VR_obj.mpr ((VR_obj.mp h).imp id (s _ _))
  | .rng _, _, h => VR_rng.mpr ((VR_rng.mp h).imp fun _ h => h.imp fun _ h => h.imp fun _ h => h.imp fun _ h => h.imp id (s _ _))
  | .tup l, _, h => VR_tup.mpr ((VR_tup.mp h).imp fun _ h => h.imp fun _ h => h.imp id (And.imp (isTup_sub s) (VRs.sub s l)))
  | .lst l, _, h => VR_lst.mpr ((VR_lst.mp h).imp fun _ h => h.imp fun _ h => h.imp id (And.imp (plain_sub s) (VRs.sub s l)))
  | .dcI l, _, h => VR_dcI.mpr ((VR_dcI.mp h).imp fun _ h => h.imp fun _ h => h.imp id (And.imp id (And.imp (dictOf_sub s) (VRi.sub s l))))
  | .dcP l, _, h => VR_dcP.mpr ((VR_dcP.mp h).imp fun _ h => h.imp fun _ h => h.imp id (And.imp id (And.imp (dictOfH_sub s) (VRp.sub s l))))
  | .dvP l, _, h => VR_dvP.mpr ((VR_dvP.mp h).imp fun _ h => h.imp fun _ h => h.imp fun _ h => h.imp id (And.imp (s _ _) (And.imp (dictOfH_sub s) (VRp.sub s l))))
  | .set _, _, h => VR_set.mpr ((VR_set.mp h).imp fun _ h => h.imp id fun h => ⟨h.at_.imp fun _ h => h.imp fun _ h => h.imp (s _ _) id, h.up, h.small⟩)
  | .inst _ fs, _, h => VR_inst.mpr ((VR_inst.mp h).imp fun _ h => h.imp fun _ h => h.imp fun _ h => h.imp fun _ h => h.imp id (And.imp (s _ _) (And.imp (s _ _) (And.imp id (VRf.sub s fs)))))
theorem VRs.sub {c : Cx} {z z' : Heap} (s : Sub z z') : ∀ (l : List V) {vs : List Value}, VRs c z l vs → VRs c z' l vs
  | [], _, h => h
  | x :: r, _, h => VRs_cons.mpr ((VRs_cons.mp h).imp fun _ h => h.imp fun _ h => h.imp id (And.imp (VR.sub s x) (VRs.sub s r)))
theorem VRf.sub {c : Cx} {z z' : Heap} (s : Sub z z') : ∀ (l : List (Str × V)) {m : Str → Option Value}, VRf c z l m → VRf c z' l m
  | [], _, h => h
  | (_, x) :: r, _, h => VRf_cons.mpr ((VRf_cons.mp h).imp (fun h => h.imp fun _ h => h.imp id (VR.sub s x)) (VRf.sub s r))
theorem VRi.sub {c : Cx} {z z' : Heap} (s : Sub z z') : ∀ (l : List (Int × V)) {es : List (Int × Value)}, VRi c z l es → VRi c z' l es
  | [], _, h => h
  | (_, x) :: r, _, h => VRi_cons.mpr ((VRi_cons.mp h).imp fun _ h => h.imp fun _ h => h.imp id (And.imp (VR.sub s x) (VRi.sub s r)))
theorem VRp.sub {c : Cx} {z z' : Heap} (s : Sub z z') : ∀ (l : List ((Int × Int) × V)) {es : List (List Int × Addr × Value)}, VRp c z l es → VRp c z' l es
  | [], _, h => h
  | (_, x) :: r, _, h => VRp_cons.mpr ((VRp_cons.mp h).imp fun _ h => h.imp fun _ h => h.imp fun _ h => h.imp id (And.imp (VR.sub s x) (VRp.sub s r)))
end
noncomputable def OR (c : Cx) (z : Heap) : O → Obj → Prop
  | .lst l, ob => ob.cls = .type "list" ∧ ∃ vs n, ob.data = .seq vs n ∧ VRs c z l vs.toList
  | .app l, ob => ∃ vs n, ob = { cls := .type "list", dict := none, data := .seq vs n, slots := #[] } ∧ VRs c z l vs.toList
  | .dcI l, ob => ∃ kvs, ob.IsDictOf (kI c) kvs ∧ VRi c z l kvs
  | .flds fs, ob => ∃ es n, ob = dictOf es n ∧ FD fs es ∧ VRf c z fs (gl es)
theorem OR.sub {c : Cx} {z z' : Heap} (s : Sub z z') : ∀ {o : O} {ob : Obj}, OR c z o ob → OR c z' o ob
  | .lst l, _, ⟨h, vs, n, e, r⟩ => ⟨h, vs, n, e, VRs.sub s l r⟩
  | .app l, _, ⟨vs, n, e, r⟩ => ⟨vs, n, e, VRs.sub s l r⟩
  | .dcI l, _, ⟨kvs, h, r⟩ => ⟨kvs, h, VRi.sub s l r⟩
  | .flds fs, _, ⟨es, n, e, h1, r⟩ => ⟨es, n, e, h1, VRf.sub s fs r⟩
structure Cx.Good (c : Cx) : Prop where
  X : c.K.In c.B
  T : ∃ p loose mg mb, TopRead p loose mg mb c.B
structure Inv (c : Cx) (z : Heap) (σ : Sto) (s : Shared) : Prop where
  base : Sub c.B z
  keep : Sub z s.heap
  mt : ∀ a o, σ a = some o → z.get? a = .none ∧ (a == sysModules) = false ∧ ∃ ob, s.heap.get? a = some ob ∧ OR c z o ob
structure Ext (c : Cx) (P : Addr → Prop) (z : Heap) (σ : Sto) (s : Shared) (z' : Heap) (σ' : Sto) (s' : Shared) : Prop where
  inv : Inv c z' σ' s'
  zz : Sub z z'
  out : ∀ b o, s.heap.get? b = some o → σ b = .none → ¬ P b → s'.heap.get? b = some o
  own : ∀ b, (z'.get? b ≠ .none ∨ σ' b ≠ .none) → z.get? b ≠ .none ∨ σ b ≠ .none ∨ s.heap.get? b = .none
  live : ∀ b, s'.heap.get? b = .none → s.heap.get? b = .none
  gens : s'.gens = s.gens
  drawn : s'.drawn = s.drawn
  os : s'.os = s.os
theorem Ext.refl {c : Cx} {P : Addr → Prop} {z : Heap} {σ : Sto} {s : Shared} (I : Inv c z σ s) : Ext c P z σ s z σ s :=
  ⟨I, .refl z, fun _ _ e _ _ => e, fun _ h => h.elim .inl fun q => .inr (.inl q), fun _ e => e, rfl, rfl, rfl⟩
theorem Ext.toks {c : Cx} {P : Addr → Prop} {z : Heap} {σ : Sto} {s : Shared} (I : Inv c z σ s) (t : Nat) : Ext c P z σ s z σ { s with toks := t } :=
  ⟨⟨I.base, I.keep, I.mt⟩, .refl z, fun _ _ e _ _ => e, fun _ h => h.elim .inl fun q => .inr (.inl q), fun _ e => e, rfl, rfl, rfl⟩
theorem Ext.weaken {c : Cx} {P P' : Addr → Prop} {z z' : Heap} {σ σ' : Sto} {s s' : Shared} (x : Ext c P z σ s z' σ' s') (h : ∀ b, P b → P' b) : Ext c P' z σ s z' σ' s' :=
  ⟨x.inv, x.zz, fun b o e e' n => x.out b o e e' fun q => n (h b q), x.own, x.live, x.gens, x.drawn, x.os⟩
theorem Ext.none {c : Cx} {P' : Addr → Prop} {z z' : Heap} {σ σ' : Sto} {s s' : Shared} (x : Ext c (fun _ => False) z σ s z' σ' s') : Ext c P' z σ s z' σ' s' := x.weaken fun _ => False.elim
theorem Ext.trans {c : Cx} {P : Addr → Prop} {z z₁ z₂ : Heap} {σ σ₁ σ₂ : Sto} {s s₁ s₂ : Shared} (x : Ext c P z σ s z₁ σ₁ s₁) (y : Ext c P z₁ σ₁ s₁ z₂ σ₂ s₂) : Ext c P z σ s z₂ σ₂ s₂ := by
  have key : ∀ b o, s.heap.get? b = some o → σ b = .none → ¬ P b → σ₁ b = .none := by
    intro b o e e' n
    cases q : σ₁ b with
    | none => rfl
    | some o' =>
      have hz := (x.inv.mt b o' q).1
      rcases x.own b (.inr (by rw [q]; exact fun h => nomatch h)) with h | h | h
      · cases hq : z.get? b with
        | none => exact absurd hq h
        | some o'' => rw [x.zz b o'' hq] at hz; cases hz
      · exact absurd e' h
      · rw [e] at h; cases h
  refine ⟨y.inv, x.zz.trans y.zz, fun b o e e' n => y.out b o (x.out b o e e' n) (key b o e e' n) n, fun b h => ?_, fun b e => x.live b (y.live b e), y.gens.trans x.gens, y.drawn.trans x.drawn, y.os.trans x.os⟩
  rcases y.own b h with h | h | h
  · exact x.own b (.inl h)
  · exact x.own b (.inr h)
  · exact .inr (.inr (x.live b h))
inductive Post (c : Cx) (P : Addr → Prop) (z : Heap) (σ : Sto) (s : Shared) (Q : V → Sto → Prop) (v : Value) (s' : Shared) : Prop
  | mk (z' : Heap) (σ' : Sto) (x : V) : Ext c P z σ s z' σ' s' → VR c z' x v → Q x σ' → Post c P z σ s Q v s'
inductive PostL (c : Cx) (P : Addr → Prop) (z : Heap) (σ : Sto) (s : Shared) (Q : List V → Sto → Prop) (vs : List Value) (s' : Shared) : Prop
  | mk (z' : Heap) (σ' : Sto) (xs : List V) : Ext c P z σ s z' σ' s' → VRs c z' xs vs → Q xs σ' → PostL c P z σ s Q vs s'
theorem Post.elim {c : Cx} {P : Addr → Prop} {z : Heap} {σ : Sto} {s s' : Shared} {Q : V → Sto → Prop} {v : Value} {R : Prop} (h : Post c P z σ s Q v s') (f : ∀ z' σ' x, Ext c P z σ s z' σ' s' → VR c z' x v → Q x σ' → R) : R :=
  let ⟨z', σ', x, e, r, q⟩ := h; f z' σ' x e r q
theorem PostL.elim {c : Cx} {P : Addr → Prop} {z : Heap} {σ : Sto} {s s' : Shared} {Q : List V → Sto → Prop} {v : List Value} {R : Prop} (h : PostL c P z σ s Q v s') (f : ∀ z' σ' x, Ext c P z σ s z' σ' s' → VRs c z' x v → Q x σ' → R) : R :=
  let ⟨z', σ', x, e, r, q⟩ := h; f z' σ' x e r q
inductive PostT (c : Cx) (z : Heap) (σ : Sto) (s : Shared) (Q : Bool → Sto → Prop) (b : Bool) (s' : Shared) : Prop
  | mk (z' : Heap) (σ' : Sto) : Ext c (fun _ => False) z σ s z' σ' s' → Q b σ' → PostT c z σ s Q b s'
theorem PostT.elim {c : Cx} {z : Heap} {σ : Sto} {s s' : Shared} {Q : Bool → Sto → Prop} {b : Bool} {R : Prop} (h : PostT c z σ s Q b s') (f : ∀ z' σ', Ext c (fun _ => False) z σ s z' σ' s' → Q b σ' → R) : R :=
  let ⟨z', σ', e, q⟩ := h; f z' σ' e q
inductive PostB (c : Cx) (z : Heap) (σ : Sto) (s : Shared) (K : Bool → Prop) (b : Bool) (s' : Shared) : Prop
  | mk (z' : Heap) : Ext c (fun _ => False) z σ s z' σ s' → K b → PostB c z σ s K b s'
theorem PostB.elim {c : Cx} {z : Heap} {σ : Sto} {s s' : Shared} {K : Bool → Prop} {b : Bool} {R : Prop} (h : PostB c z σ s K b s') (f : ∀ z', Ext c (fun _ => False) z σ s z' σ s' → K b → R) : R :=
  let ⟨z', e, q⟩ := h; f z' e q
inductive PostC (c : Cx) (z : Heap) (σ : Sto) (s : Shared) (K : Bool → Prop) (v : Value) (s' : Shared) : Prop
  | mk (z' : Heap) (r : Bool) : Ext c (fun _ => False) z σ s z' σ s' → v = .bool r → K r → PostC c z σ s K v s'
theorem PostC.elim {c : Cx} {z : Heap} {σ : Sto} {s s' : Shared} {K : Bool → Prop} {v : Value} {R : Prop} (h : PostC c z σ s K v s') (f : ∀ z' r, Ext c (fun _ => False) z σ s z' σ s' → v = .bool r → K r → R) : R :=
  let ⟨z', r, e, hv, q⟩ := h; f z' r e hv q
structure AOk (k : Nat) (A : Around) : Prop where
  hand : A.handled = none
  depth : A.depth + 2 * k < 900
  units : A.units + 16 * k < 9000
structure EnvOk (sc : Scope) (env : Env) : Prop where
  scope : env.scope = sc
  kind : sc.kind = .function
  globals : env.globals = mainGlobals
  builtins : env.builtins = builtinsNs
noncomputable abbrev Loc := List (Str × V)
structure Frm (c : Cx) (z : Heap) (σ : Sto) (env : Env) (ρ : Loc) (h : Heap) : Prop where
  ns : ∃ m, h.Ns env.locals m ∧ ∀ x V, ρ.lookup x = some V → env.kindOf x = some .local → ∃ v, m x = some v ∧ VR c z V v
  cl : ∀ x V, ρ.lookup x = some V → (env.kindOf x = some .cell ∨ env.kindOf x = some .free) → ∃ a v, env.cells.lookup x = some a ∧ h.IsCell a (some v) ∧ VR c z V v
  own : z.get? env.locals = .none ∧ σ env.locals = .none
  cells : ∀ x a, env.cells.lookup x = some a → z.get? a = .none ∧ σ a = .none ∧ a ≠ env.locals ∧ ∃ v, h.IsCell a v
  apart : ∀ x y a, env.cells.lookup x = some a → env.cells.lookup y = some a → x = y
  has : ∀ x, env.kindOf x = some .cell → (env.cells.lookup x).isSome = true
noncomputable def Fw (env : Env) (b : Addr) : Prop := b = env.locals ∨ ∃ x, env.cells.lookup x = some b
theorem Frm.ext {c : Cx} {z z' : Heap} {σ σ' : Sto} {s s' : Shared} {env : Env} {ρ : Loc} (F : Frm c z σ env ρ s.heap) (x : Ext c (fun _ => False) z σ s z' σ' s') : Frm c z' σ' env ρ s'.heap := by
  have nown : ∀ b o, z.get? b = .none → σ b = .none → s.heap.get? b = some o → z'.get? b = .none ∧ σ' b = .none := by
    intro b o h1 h2 h3
    have := x.own b
    constructor
    · cases q : z'.get? b with
      | none => rfl
      | some o' =>
        rcases this (.inl (by rw [q]; exact fun h => nomatch h)) with h | h | h
        · exact absurd h1 h
        · exact absurd h2 h
        · rw [h3] at h; cases h
    · cases q : σ' b with
      | none => rfl
      | some o' =>
        rcases this (.inr (by rw [q]; exact fun h => nomatch h)) with h | h | h
        · exact absurd h1 h
        · exact absurd h2 h
        · rw [h3] at h; cases h
  obtain ⟨m, ⟨o, es, ep, ho, r⟩, hm⟩ := F.ns
  refine ⟨⟨m, ⟨o, es, ep, x.out _ _ ho F.own.2 id, r⟩, fun y V e k => ?_⟩, fun y V e k => ?_, nown _ o F.own.1 F.own.2 ho, fun y a e => ?_, F.apart, F.has⟩
  · obtain ⟨v, h1, h2⟩ := hm y V e k
    exact ⟨v, h1, h2.sub x.zz⟩
  · obtain ⟨a, v, h1, ⟨oc, hc, hd⟩, h3⟩ := F.cl y V e k
    exact ⟨a, v, h1, ⟨oc, x.out _ _ hc (F.cells y a h1).2.1 id, hd⟩, h3.sub x.zz⟩
  · obtain ⟨h1, h2, h3, v, oc, hc, hd⟩ := F.cells y a e
    exact ⟨(nown a oc h1 h2 hc).1, (nown a oc h1 h2 hc).2, h3, v, oc, x.out _ _ hc h2 id, hd⟩
noncomputable abbrev noE : Value → Shared → Prop := fun _ _ => False
structure WE (c : Cx) (k : Nat) (sc : Scope) (ρ : Loc) (e : Expr) (σ : Sto) (Q : V → Sto → Prop) : Prop where
  run : c.Good → ∀ A z s env, AOk k A → EnvOk sc env → Inv c z σ s → Frm c z σ env ρ s.heap → wpAny (model c.prog c.w) A (eval e env) (Post c (fun _ => False) z σ s Q) noE s
structure WEs (c : Cx) (k : Nat) (sc : Scope) (ρ : Loc) (es : List Expr) (σ : Sto) (Q : List V → Sto → Prop) : Prop where
  run : c.Good → ∀ A z s env pos, AOk k A → EnvOk sc env → Inv c z σ s → Frm c z σ env ρ s.heap → wpAny (model c.prog c.w) A (spliced (backTo pos (starEach es env))) (PostL c (fun _ => False) z σ s Q) noE s
structure WT (c : Cx) (k : Nat) (sc : Scope) (ρ : Loc) (e : Expr) (σ : Sto) (Q : Bool → Sto → Prop) : Prop where
  run : c.Good → ∀ A z s env, AOk k A → EnvOk sc env → Inv c z σ s → Frm c z σ env ρ s.heap →
    wpAny (model c.prog c.w) A (isTrue e env (eval e env)) (PostT c z σ s Q) noE s
structure WC (c : Cx) (k : Nat) (f : V) (args : List V) (σ : Sto) (Q : V → Sto → Prop) : Prop where
  run : c.Good → ∀ A z s vf vs, AOk k A → Inv c z σ s → VR c z f vf → VRs c z args vs → wpAny (model c.prog c.w) A (call vf vs) (Post c (fun _ => False) z σ s Q) noE s
structure WCc (c : Cx) (k : Nat) (f : V) (args : List V) (σ : Sto) (Q : V → Sto → Prop) : Prop where
  run : c.Good → ∀ A z s vf vs, AOk k A → Inv c z σ s → VR c z f vf → VRs c z args vs → codeAny (model c.prog c.w) A (.call vf ⟨vs, []⟩) (wants (Post c (fun _ => False) z σ s Q) noE) s
inductive Fl where
  | next
  | brk
  | cont
  | ret (x : V)
noncomputable def FR (c : Cx) (z : Heap) : Fl → Flow → Prop
  | .next, f => f = .next
  | .brk, f => f = .brk
  | .cont, f => f = .cont
  | .ret x, f => ∃ v, f = .ret v ∧ VR c z x v
inductive PostS (c : Cx) (env : Env) (z : Heap) (σ : Sto) (s : Shared) (Q : Fl → Loc → Sto → Prop) (f : Flow) (s' : Shared) : Prop
  | mk (z' : Heap) (σ' : Sto) (ρ' : Loc) (fl : Fl) : Ext c (Fw env) z σ s z' σ' s' → Frm c z' σ' env ρ' s'.heap → FR c z' fl f → Q fl ρ' σ' → PostS c env z σ s Q f s'
theorem PostS.elim {c : Cx} {env : Env} {z : Heap} {σ : Sto} {s s' : Shared} {Q : Fl → Loc → Sto → Prop} {v : Flow} {R : Prop} (h : PostS c env z σ s Q v s') (f : ∀ z' σ' ρ' fl, Ext c (Fw env) z σ s z' σ' s' → Frm c z' σ' env ρ' s'.heap → FR c z' fl v → Q fl ρ' σ' → R) : R :=
  let ⟨z', σ', ρ', fl, e, F, r, q⟩ := h; f z' σ' ρ' fl e F r q
inductive PostA (c : Cx) (env : Env) (z : Heap) (σ : Sto) (s : Shared) (Q : Loc → Sto → Prop) (s' : Shared) : Prop
  | mk (z' : Heap) (σ' : Sto) (ρ' : Loc) : Ext c (Fw env) z σ s z' σ' s' → Frm c z' σ' env ρ' s'.heap → Q ρ' σ' → PostA c env z σ s Q s'
theorem PostA.elim {c : Cx} {env : Env} {z : Heap} {σ : Sto} {s s' : Shared} {Q : Loc → Sto → Prop} {R : Prop} (h : PostA c env z σ s Q s') (f : ∀ z' σ' ρ', Ext c (Fw env) z σ s z' σ' s' → Frm c z' σ' env ρ' s'.heap → Q ρ' σ' → R) : R :=
  let ⟨z', σ', ρ', e, F, q⟩ := h; f z' σ' ρ' e F q
structure WS (c : Cx) (k : Nat) (sc : Scope) (ρ : Loc) (st : Stmt) (σ : Sto) (Q : Fl → Loc → Sto → Prop) : Prop where
  run : c.Good → ∀ A z s env, AOk k A → EnvOk sc env → Inv c z σ s → Frm c z σ env ρ s.heap → wpAny (model c.prog c.w) A (exec st env) (PostS c env z σ s Q) noE s
structure WB (c : Cx) (k : Nat) (sc : Scope) (ρ : Loc) (sts : List Stmt) (σ : Sto) (Q : Fl → Loc → Sto → Prop) : Prop where
  run : c.Good → ∀ A z s env, AOk k A → EnvOk sc env → Inv c z σ s → Frm c z σ env ρ s.heap → wpAny (model c.prog c.w) A (execs sts env) (PostS c env z σ s Q) noE s
end Mine
end
section
namespace Mine
variable {c : Cx} {k : Nat} {sc : Scope} {ρ : Loc} {σ : Sto} {pos : Pos} {Q : V → Sto → Prop}
theorem Post.ext {P : Addr → Prop} {z z₁ : Heap} {σ₁ : Sto} {s s₁ : Shared} {v : Value} {s' : Shared} (x : Ext c P z σ s z₁ σ₁ s₁) (h : Post c P z₁ σ₁ s₁ Q v s') : Post c P z σ s Q v s' := by
  obtain ⟨z', σ', y, x', hv, hq⟩ := h
  exact ⟨z', σ', y, x.trans x', hv, hq⟩
theorem Post.here {z : Heap} {s : Shared} {P : Addr → Prop} (I : Inv c z σ s) {x : V} {v : Value} (hv : VR c z x v) (hq : Q x σ) (t : Nat) : Post c P z σ s Q v { s with toks := t } :=
  ⟨z, σ, x, Ext.toks I t, hv, hq⟩
theorem Post.now {z : Heap} {s : Shared} {P : Addr → Prop} (I : Inv c z σ s) {x : V} {v : Value} (hv : VR c z x v) (hq : Q x σ) : Post c P z σ s Q v s :=
  ⟨z, σ, x, Ext.refl I, hv, hq⟩
theorem Ext.kin {P : Addr → Prop} {z z₁ : Heap} {σ₁ : Sto} {s s₁ : Shared} (x : Ext c P z σ s z₁ σ₁ s₁) (G : c.Good) : c.K.In s₁.heap := G.X.keeps (x.inv.base.trans x.inv.keep)
theorem Inv.kin {z : Heap} {s : Shared} (I : Inv c z σ s) (G : c.Good) : c.K.In s.heap := G.X.keeps (I.base.trans I.keep)
theorem WE.mono {e : Expr} {Q' : V → Sto → Prop} (h : WE c k sc ρ e σ Q) (q : ∀ x σ', Q x σ' → Q' x σ') : WE c k sc ρ e σ Q' := .mk fun G A z s env a b d f =>
  wpAny_mono (h.run G A z s env a b d f) (fun _ _ q1_ => q1_.elim fun z' σ' x e v hq => ⟨z', σ', x, e, v, q _ _ hq⟩) fun _ _ y => y
theorem WC.mono {f : V} {as : List V} {Q' : V → Sto → Prop} (h : WC c k f as σ Q) (q : ∀ x σ', Q x σ' → Q' x σ') : WC c k f as σ Q' := .mk fun G A z s vf vs a b d f =>
  wpAny_mono (h.run G A z s vf vs a b d f) (fun _ _ q2_ => q2_.elim fun z' σ' x e v hq => ⟨z', σ', x, e, v, q _ _ hq⟩) fun _ _ y => y
theorem AOk.less {k k' : Nat} {A : Around} (h : AOk k A) (l : k' ≤ k) : AOk k' A := ⟨h.hand, by have := h.depth; lia, by have := h.units; lia⟩
theorem WC.more {k' : Nat} {f : V} {as : List V} (h : WC c k f as σ Q) (l : k ≤ k') : WC c k' f as σ Q := .mk fun G A z s vf vs a b d f => h.run G A z s vf vs (a.less l) b d f
theorem WE_int {i : Int} {n : Nat} (h : Q (.int i) σ) : WE c k sc ρ (.Constant (.int i) n pos) σ Q := .mk fun _ _ _ _ _ _ _ I _ =>
  wpAny_Constant_int (Post.here I (VR_int.mpr ⟨_, rfl⟩) h _)
theorem WE_str {x : Str} {n : Nat} (h : Q (.str x) σ) : WE c k sc ρ (.Constant (.str x) n pos) σ Q := .mk fun _ _ _ _ _ _ _ I _ =>
  Constant_str (Post.here I (VR_str.mpr ⟨_, rfl⟩) h _)
theorem WE_bool {b : Bool} {n : Nat} (h : Q (.bool b) σ) : WE c k sc ρ (.Constant (.bool b) n pos) σ Q := .mk fun _ _ _ _ _ _ _ I _ =>
  wpAny_Constant_bool (Post.now I (VR_bool.mpr rfl) h)
theorem WE_none {n : Nat} (h : Q .none σ) : WE c k sc ρ (.Constant .none n pos) σ Q := .mk fun _ _ _ _ _ _ _ I _ =>
  wpAny_Constant_none (Post.now I (VR_none.mpr rfl) h)
theorem WE_local {x : Str} {v : V} (hk : sc.names.lookup x = some .local) (hv : ρ.lookup x = some v) (h : Q v σ) (hd : (x == ("__debug__" : Str)) = false := by decide) :
    WE c k sc ρ (.Name x pos) σ Q := .mk fun _ _ _ _ env _ b I F => by
  obtain ⟨m, hn, hm⟩ := F.ns
  have hk' : env.kindOf x = some .local := by unfold Env.kindOf; rw [b.scope]; exact hk
  obtain ⟨w, h1, h2⟩ := hm x v hv hk'
  exact wpAny_Name (wpAny_loadName_local (b.scope ▸ b.kind) hk' hn h1 (Post.now I h2 h)) hd
theorem WE_cell {x : Str} {v : V} (hk : sc.names.lookup x = some .cell) (hv : ρ.lookup x = some v) (h : Q v σ) (hd : (x == ("__debug__" : Str)) = false := by decide) :
    WE c k sc ρ (.Name x pos) σ Q := .mk fun _ _ _ _ env _ b I F => by
  have hk' : env.kindOf x = some .cell := by unfold Env.kindOf; rw [b.scope]; exact hk
  obtain ⟨a, w, h1, h2, h3⟩ := F.cl x v hv (.inl hk')
  exact wpAny_Name (wpAny_loadName_cell (b.scope ▸ b.kind) hk' h1 h2 (Post.now I h3 h)) hd
theorem WE_free {x : Str} {v : V} (hk : sc.names.lookup x = some .free) (hv : ρ.lookup x = some v) (h : Q v σ) (hd : (x == ("__debug__" : Str)) = false := by decide)
    (hn : (x == ("__classdict__" : Str)) = false := by decide) : WE c k sc ρ (.Name x pos) σ Q := .mk fun _ _ _ _ env _ b I F => by
  have hk' : env.kindOf x = some .free := by unfold Env.kindOf; rw [b.scope]; exact hk
  obtain ⟨a, w, h1, h2, h3⟩ := F.cl x v hv (.inr hk')
  exact wpAny_Name (wpAny_loadName_free (b.scope ▸ b.kind) hk' h1 h2 (Post.now I h3 h) hn) hd
theorem WE_globV {x : Str} {v : Value} {y : V} (hk : sc.names.lookup x = some .globalImplicit) (e : nsIn c.K mainGlobals x = some (some v)) (hv : ∀ z, c.K.In z → VR c z y v) (h : Q y σ)
    (hd : (x == ("__debug__" : Str)) = false := by decide) : WE c k sc ρ (.Name x pos) σ Q := .mk fun G _ z s env _ b I _ => by
  have hk' : env.kindOf x = some .globalImplicit := by unfold Env.kindOf; rw [b.scope]; exact hk
  obtain ⟨p, lo, mg, mb, T⟩ := G.T
  have g : s.heap.Ns env.globals mg := b.globals ▸ T.g.keeps (I.base.trans I.keep)
  exact Name_function_global (b.scope ▸ b.kind) hk' (loadGlobal_global g (mg_of G.X T.g e) (Post.now I (hv z (G.X.keeps I.base)) h)) hd
theorem WE_glob {x : Str} {a : Addr} (hk : sc.names.lookup x = some .globalImplicit) (e : nsIn c.K mainGlobals x = some (some (.ref a))) (h : Q (.glob a) σ)
    (hd : (x == ("__debug__" : Str)) = false := by decide) : WE c k sc ρ (.Name x pos) σ Q := WE_globV hk e (fun _ _ => VR_glob.mpr rfl) h hd
theorem WE_builtin {x : Str} {v : Value} {y : V} (hk : sc.names.lookup x = some .globalImplicit) (e : nsIn c.K mainGlobals x = some none) (hb : bootBuiltins x = some v) (hv : ∀ z, VR c z y v) (h : Q y σ)
    (hn : x ≠ "__name__" := by decide) (hd : (x == ("__debug__" : Str)) = false := by decide) : WE c k sc ρ (.Name x pos) σ Q := .mk fun G _ z s env _ b I _ => by
  have hk' : env.kindOf x = some .globalImplicit := by unfold Env.kindOf; rw [b.scope]; exact hk
  obtain ⟨p, lo, mg, mb, T⟩ := G.T
  have g : s.heap.Ns env.globals mg := b.globals ▸ T.g.keeps (I.base.trans I.keep)
  have gb : s.heap.Ns env.builtins mb := b.builtins ▸ T.b.keeps (I.base.trans I.keep)
  exact Name_function_global (b.scope ▸ b.kind) hk' (loadGlobal_builtin g (mg_none_of G.X T.g e) gb ((T.builtins x hn).trans hb) (Post.now I (hv z) h)) hd
noncomputable def PowOk (a b : Int) : Prop := 0 < b ∧ 0 ≤ a ∧ ¬ Builtin.Int.intTooBig (((Builtin.Int.intBits a : Nat) : Int) * b) = true
noncomputable def binI (a b : Int) (K : V → Prop) : Operator → Prop
  | .Add => K (.int (a + b))
  | .Sub => K (.int (a - b))
  | .Mult => IntMulOk a b ∧ K (.int (a * b))
  | .FloorDiv => b ≠ 0 ∧ Builtin.divisionGoesByPylong a b = false ∧ K (.int (a.fdiv b))
  | .Mod => b ≠ 0 ∧ K (.int (a.fmod b))
  | .Pow => PowOk a b ∧ K (.int (a ^ b.toNat))
  | .BitAnd => K (.int (Builtin.bitAnd a b))
  | .BitOr => K (.int (Builtin.bitOr a b))
  | _ => False
noncomputable def BinS (op : Operator) (a b : V) (K : V → Prop) : Prop :=
  match a with
  | .int i => match b with
    | .int j => binI i j K op
    | _ => False
  | _ => False
theorem pow_all {A : Around} {a b : Int} {t u : Tok} {s : Shared} {Q : Value → Shared → Prop} {E : Value → Shared → Prop} {prog : Program} {w : World} (h : PowOk a b) (hq : Q (.int (a ^ b.toNat) s.toks) { s with toks := s.toks + 1 }) :
    wpAny (model prog w) A (binaryOp .Pow (.int a t) (.int b u)) Q E s := by
  obtain ⟨h1, h2, h3⟩ := h
  have hb : ¬ (b == 0) = true := by simp only [beq_iff_eq]; lia
  have hn : b.toNat ≠ 0 := by lia
  by_cases q : (a == 0 || a == 1) = true
  · refine AutoIntOps.pow_1 (by lia) hb q ?_
    have e : a ^ b.toNat = a := by
      simp only [Bool.or_eq_true, beq_iff_eq] at q
      rcases q with rfl | rfl
      · exact Int.zero_pow hn
      · exact Int.one_pow
    rw [e] at hq
    exact hq
  · exact AutoIntOps.pow_4 (by lia) hb q (by simp only [beq_iff_eq]; lia) h3 hq
theorem binS_sound {op : Operator} {a b : V} {K : V → Prop} (h : BinS op a b K) {z : Heap} {A : Around} {va vb : Value} {s : Shared} {Q : Value → Shared → Prop} {E : Value → Shared → Prop}
    (ha : VR c z a va) (hb : VR c z b vb) (hq : ∀ x v t, VR c z x v → K x → Q v { s with toks := t }) : wpAny (model c.prog c.w) A (binaryOp op va vb) Q E s := by
  cases a with
  | int a => ?_
  | _ => exact False.elim h
  cases b with
  | int b => ?_
  | _ => exact False.elim h
  obtain ⟨t, rfl⟩ := VR_int.mp ha
  obtain ⟨u, rfl⟩ := VR_int.mp hb
  cases op with
  | Add => exact PySem.P.add_int (hq _ _ _ (VR_int.mpr ⟨_, rfl⟩) h)
  | Sub => exact PySem.P.sub_int (hq _ _ _ (VR_int.mpr ⟨_, rfl⟩) h)
  | Mult => exact PySem.P.mul_int (hq _ _ _ (VR_int.mpr ⟨_, rfl⟩) h.2) h.1
  | FloorDiv => exact floordiv_int h.1 (hq _ _ _ (VR_int.mpr ⟨_, rfl⟩) h.2.2) (.inl h.2.1)
  | Mod => exact mod_int' h.1 (hq _ _ _ (VR_int.mpr ⟨_, rfl⟩) h.2)
  | Pow => exact pow_all h.1 (hq _ _ _ (VR_int.mpr ⟨_, rfl⟩) h.2)
  | BitAnd => exact and_int (hq _ _ _ (VR_int.mpr ⟨_, rfl⟩) h)
  | BitOr => exact or_int (hq _ _ _ (VR_int.mpr ⟨_, rfl⟩) h)
  | _ => exact False.elim h
theorem WE_bin {l r : Expr} {op : Operator} (h : WE c k sc ρ l σ fun a σ₁ => WE c k sc ρ r σ₁ fun b σ₂ => BinS op a b fun x => Q x σ₂) : WE c k sc ρ (.BinOp l op r pos) σ Q := .mk fun G A z s env a b I F =>
  wpAny_BinOp (wpAny_mono (h.run G A z s env a b I F) (fun v₁ s₁ q3_ => q3_.elim fun z₁ σ₁ x₁ e₁ r₁ q₁ => 
    wpAny_mono (q₁.run G A z₁ s₁ env a b e₁.inv (F.ext e₁)) (fun v₂ s₂ q4_ => q4_.elim fun z₂ σ₂ x₂ e₂ r₂ q₂ => 
      binS_sound q₂ (r₁.sub e₂.zz) r₂ fun x v t hv hq => Post.ext (e₁.trans e₂) (Post.here e₂.inv hv hq t)) fun _ _ y => y) fun _ _ y => y)
noncomputable def unI (a : Int) (K : V → Prop) : UnaryOp → Prop
  | .USub => K (.int (-a))
  | .Invert => K (.int (Builtin.bitNot a))
  | _ => False
noncomputable def UnS (op : UnaryOp) (a : V) (K : V → Prop) : Prop :=
  match a with
  | .int i => unI i K op
  | _ => False
theorem unS_sound {op : UnaryOp} {a : V} {K : V → Prop} (h : UnS op a K) {z : Heap} {A : Around} {va : Value} {s : Shared} {Q : Value → Shared → Prop} {E : Value → Shared → Prop}
    (ha : VR c z a va) (hq : ∀ x v t, VR c z x v → K x → Q v { s with toks := t }) : wpAny (model c.prog c.w) A (unaryOp op va) Q E s := by
  cases a with
  | int a => ?_
  | _ => exact False.elim h
  obtain ⟨t, rfl⟩ := VR_int.mp ha
  cases op with
  | USub => exact PySem.P.neg_int (hq _ _ _ (VR_int.mpr ⟨_, rfl⟩) h)
  | Invert => exact invert_int (hq _ _ _ (VR_int.mpr ⟨_, rfl⟩) h)
  | _ => exact False.elim h
theorem WE_un {e : Expr} {op : UnaryOp} (h : WE c k sc ρ e σ fun a σ₁ => UnS op a fun x => Q x σ₁) : WE c k sc ρ (.UnaryOp op e pos) σ Q := .mk fun G A z s env a b I F => by
  show wpAny _ _ (do let v ← eval e env; standAt pos; holding [v] (unaryOp op v)) _ _ _
  exact wpAny_bind (wpAny_mono (h.run G A z s env a b I F) (fun v₁ s₁ q5_ => q5_.elim fun z₁ σ₁ x₁ e₁ r₁ q₁ => wpAny_bind (wpAny_standAt (wpAny_holding
    (unS_sound q₁ r₁ fun x v t hv hq => Post.ext e₁ (Post.here e₁.inv hv hq t))))) fun _ _ y => y)
structure TruP (c : Cx) (v : V) (σ : Sto) (K : Bool → Prop) : Prop where
  run : c.Good → ∀ A z s va, AOk 0 A → Inv c z σ s → VR c z v va → wpAny (model c.prog c.w) A (truthy va) (PostB c z σ s K) noE s
theorem TruP_none {K : Bool → Prop} (h : K false) : TruP c .none σ K := .mk fun _ _ z _ _ _ I r => by
  rw [VR_none.mp r]; exact truthy_none ⟨z, Ext.refl I, h⟩
theorem TruP_bool {K : Bool → Prop} {b : Bool} (h : K b) : TruP c (.bool b) σ K := .mk fun _ _ z _ _ _ I r => by
  rw [VR_bool.mp r]; exact wpAny_truthy_bool ⟨z, Ext.refl I, h⟩
theorem TruP_int {K : Bool → Prop} {i : Int} (h : K (i != 0)) : TruP c (.int i) σ K := .mk fun _ _ z _ _ _ I r => by
  obtain ⟨t, rfl⟩ := VR_int.mp r; exact PySem.P.truthy_int ⟨z, Ext.refl I, h⟩
structure CmpP (c : Cx) (op : CmpOp) (a b : V) (σ : Sto) (K : Bool → Prop) : Prop where
  run : c.Good → ∀ A z s va vb, AOk 0 A → Inv c z σ s → VR c z a va → VR c z b vb →
    wpAny (model c.prog c.w) A (compareOp op va vb) (PostC c z σ s K) noE s
section
variable {K : Bool → Prop} {i j : Int}
theorem CmpP_eq (h : K (i == j)) : CmpP c .Eq (.int i) (.int j) σ K := .mk fun _ _ z _ _ _ _ I r q => by
  obtain ⟨t, rfl⟩ := VR_int.mp r; obtain ⟨u, rfl⟩ := VR_int.mp q; exact PySem.P.eq_int ⟨z, _, Ext.refl I, rfl, h⟩
theorem CmpP_ne (h : K (i != j)) : CmpP c .NotEq (.int i) (.int j) σ K := .mk fun _ _ z _ _ _ _ I r q => by
  obtain ⟨t, rfl⟩ := VR_int.mp r; obtain ⟨u, rfl⟩ := VR_int.mp q; exact PySem.P.ne_int ⟨z, _, Ext.refl I, rfl, h⟩
theorem CmpP_lt (h : K (decide (i < j))) : CmpP c .Lt (.int i) (.int j) σ K := .mk fun _ _ z _ _ _ _ I r q => by
  obtain ⟨t, rfl⟩ := VR_int.mp r; obtain ⟨u, rfl⟩ := VR_int.mp q; exact PySem.P.lt_int ⟨z, _, Ext.refl I, rfl, h⟩
theorem CmpP_le (h : K (decide (i ≤ j))) : CmpP c .LtE (.int i) (.int j) σ K := .mk fun _ _ z _ _ _ _ I r q => by
  obtain ⟨t, rfl⟩ := VR_int.mp r; obtain ⟨u, rfl⟩ := VR_int.mp q; exact PySem.P.le_int ⟨z, _, Ext.refl I, rfl, h⟩
theorem CmpP_gt (h : K (decide (i > j))) : CmpP c .Gt (.int i) (.int j) σ K := .mk fun _ _ z _ _ _ _ I r q => by
  obtain ⟨t, rfl⟩ := VR_int.mp r; obtain ⟨u, rfl⟩ := VR_int.mp q; exact PySem.P.gt_int ⟨z, _, Ext.refl I, rfl, h⟩
theorem CmpP_ge (h : K (decide (i ≥ j))) : CmpP c .GtE (.int i) (.int j) σ K := .mk fun _ _ z _ _ _ _ I r q => by
  obtain ⟨t, rfl⟩ := VR_int.mp r; obtain ⟨u, rfl⟩ := VR_int.mp q; exact PySem.P.ge_int ⟨z, _, Ext.refl I, rfl, h⟩
theorem CmpP_seq {x y : Str} (h : K (x.cps.toList == y.cps.toList)) : CmpP c .Eq (.str x) (.str y) σ K := .mk fun _ _ z _ _ _ _ I r q => by
  obtain ⟨t, rfl⟩ := VR_str.mp r; obtain ⟨u, rfl⟩ := VR_str.mp q; exact PySem.P.eq_str ⟨z, _, Ext.refl I, rfl, h⟩
noncomputable def isNone : V → Bool
  | .none => true
  | _ => false
theorem isNone_sound {z : Heap} {x : V} {v : Value} (h : VR c z x v) : (v == .none) = isNone x := by
  cases x with
  | none => rw [VR_none.mp h]; rfl
  | bool b => rw [VR_bool.mp h]; rfl
  | int i => obtain ⟨t, rfl⟩ := VR_int.mp h; rfl
  | str x => obtain ⟨t, rfl⟩ := VR_str.mp h; rfl
  | glob a => rw [VR_glob.mp h]; rfl
  | bi a => rw [VR_bi.mp h]; rfl
  | ty a => rw [VR_ty.mp h]; rfl
  | ref a => rw [VR_ref.mp h]; rfl
  | obj cl x d => rw [(VR_obj.mp h).1]; rfl
  | rng n => replace h := VR_rng.mp h; obtain ⟨a, t₁, t₂, t₃, rfl, r⟩ := h; rfl
  | tup l => obtain ⟨a, vs, rfl, r⟩ := VR_tup.mp h; rfl
  | lst l => obtain ⟨a, vs, rfl, r⟩ := VR_lst.mp h; rfl
  | dcI l => obtain ⟨a, vs, rfl, r⟩ := VR_dcI.mp h; rfl
  | dcP l => obtain ⟨a, vs, rfl, r⟩ := VR_dcP.mp h; rfl
  | dvP l => replace h := VR_dvP.mp h; obtain ⟨a, d, xs, rfl, r⟩ := h; rfl
  | set l => replace h := VR_set.mp h; obtain ⟨a, rfl, r⟩ := h; rfl
  | inst cl fs => obtain ⟨a, d, es, n, rfl, r⟩ := VR_inst.mp h; rfl
noncomputable def canIs : V → Bool
  | .bi _ => false
  | _ => true
theorem plainIs_none {z : Heap} {x : V} {v : Value} (h : VR c z x v) (k : canIs x = true) : plainIs v .none = true := by
  cases x with
  | none => rw [VR_none.mp h]; rfl
  | bool b => rw [VR_bool.mp h]; rfl
  | int i => obtain ⟨t, rfl⟩ := VR_int.mp h; rfl
  | str x => obtain ⟨t, rfl⟩ := VR_str.mp h; rfl
  | glob a => rw [VR_glob.mp h]; rfl
  | bi a => cases k
  | ty a => rw [VR_ty.mp h]; rfl
  | ref a => rw [VR_ref.mp h]; rfl
  | obj cl x d => rw [(VR_obj.mp h).1]; rfl
  | rng n => replace h := VR_rng.mp h; obtain ⟨a, t₁, t₂, t₃, rfl, r⟩ := h; rfl
  | tup l => obtain ⟨a, vs, rfl, r⟩ := VR_tup.mp h; rfl
  | lst l => obtain ⟨a, vs, rfl, r⟩ := VR_lst.mp h; rfl
  | dcI l => obtain ⟨a, vs, rfl, r⟩ := VR_dcI.mp h; rfl
  | dcP l => obtain ⟨a, vs, rfl, r⟩ := VR_dcP.mp h; rfl
  | dvP l => replace h := VR_dvP.mp h; obtain ⟨a, d, xs, rfl, r⟩ := h; rfl
  | set l => replace h := VR_set.mp h; obtain ⟨a, rfl, r⟩ := h; rfl
  | inst cl fs => obtain ⟨a, d, es, n, rfl, r⟩ := VR_inst.mp h; rfl
theorem CmpP_is {x : V} (h : K (isNone x)) (hb : canIs x = true := by rfl) : CmpP c .Is x .none σ K := .mk fun _ _ z _ va vb _ I r q => by
  rw [VR_none.mp q]
  exact wpAny_is_plain (plainIs_none r hb) ⟨z, _, Ext.refl I, rfl, (isNone_sound r) ▸ h⟩
theorem CmpP_isnot {x : V} (h : K (!isNone x)) (hb : canIs x = true := by rfl) : CmpP c .IsNot x .none σ K := .mk fun _ _ z _ va vb _ I r q => by
  rw [VR_none.mp q]
  exact wpAny_isNot_plain (plainIs_none r hb) ⟨z, _, Ext.refl I, rfl, (isNone_sound r) ▸ h⟩
end
theorem AOk.zero {A : Around} (h : AOk k A) : AOk 0 A := h.less (Nat.zero_le k)
theorem WE_cmp {l r : Expr} {op : CmpOp} (h : WE c k sc ρ l σ fun a σ₁ => WE c k sc ρ r σ₁ fun b σ₂ => CmpP c op a b σ₂ fun t => Q (.bool t) σ₂) (hm : behindInMarks op r = false := by with_unfolding_all rfl) :
    WE c k sc ρ (.Compare l [op] [r] pos) σ Q := .mk fun G A z s env a b I F =>
  wpAny_Compare1 (wpAny_mono (h.run G A z s env a b I F) (fun v₁ s₁ q6_ => q6_.elim fun z₁ σ₁ x₁ e₁ r₁ q₁ => 
    wpAny_mono (q₁.run G A z₁ s₁ env a b e₁.inv (F.ext e₁)) (fun v₂ s₂ q7_ => q7_.elim fun z₂ σ₂ x₂ e₂ r₂ q₂ => 
      wpAny_mono (q₂.run G A z₂ s₂ _ _ a.zero e₂.inv (r₁.sub e₂.zz) r₂) (fun v₃ s₃ q8_ => q8_.elim fun z₃ t e₃ ht hk => 
        ⟨z₃, _, _, (e₁.trans e₂).trans e₃, VR_bool.mpr ht, hk⟩) fun _ _ y => y) fun _ _ y => y) fun _ _ y => y) hm
theorem WT_cmp {QB : Bool → Sto → Prop} {l r : Expr} {op : CmpOp} (h : WE c k sc ρ l σ fun a σ₁ => WE c k sc ρ r σ₁ fun b σ₂ => CmpP c op a b σ₂ fun t => QB t σ₂) (hm : behindInMarks op r = false := by with_unfolding_all rfl) :
    WT c k sc ρ (.Compare l [op] [r] pos) σ QB := .mk fun G A z s env a b I F =>
  wpAny_isTrue_Compare1 (wpAny_mono (h.run G A z s env a b I F) (fun v₁ s₁ q9_ => q9_.elim fun z₁ σ₁ x₁ e₁ r₁ q₁ => 
    wpAny_mono (q₁.run G A z₁ s₁ env a b e₁.inv (F.ext e₁)) (fun v₂ s₂ q10_ => q10_.elim fun z₂ σ₂ x₂ e₂ r₂ q₂ => 
      wpAny_mono (q₂.run G A z₂ s₂ _ _ a.zero e₂.inv (r₁.sub e₂.zz) r₂) (fun v₃ s₃ q11_ => q11_.elim fun z₃ t e₃ ht hk => by
        rw [ht]
        exact wpAny_truthy_bool ⟨z₃, _, (e₁.trans e₂).trans e₃, hk⟩) fun _ _ y => y) fun _ _ y => y) fun _ _ y => y) hm
theorem WT_chain {QB : Bool → Sto → Prop} {l r₁ r₂ : Expr} {op₁ op₂ : CmpOp} (h : WE c k sc ρ l σ fun a σ₁ => WE c k sc ρ r₁ σ₁ fun b σ₂ => CmpP c op₁ a b σ₂ fun t =>
      (t = false → QB false σ₂) ∧ (t = true → WE c k sc ρ r₂ σ₂ fun d σ₃ => CmpP c op₂ b d σ₃ fun t => QB t σ₃))
    (hm : lastMarks [op₁, op₂] [r₁, r₂] = false := by with_unfolding_all rfl) :
    WT c k sc ρ (.Compare l [op₁, op₂] [r₁, r₂] pos) σ QB := .mk fun G A z s env a b I F => by
  refine isTrue_chain (wpAny_mono (h.run G A z s env a b I F) (fun v₁ s₁ q17_ => q17_.elim fun z₁ σ₁ x₁ e₁ r₁ q₁ => ?_) fun _ _ y => y) hm
  refine test_link (wpAny_mono (q₁.run G A z₁ s₁ env a b e₁.inv (F.ext e₁)) (fun v₂ s₂ q18_ => q18_.elim fun z₂ σ₂ x₂ e₂ r₂ q₂ => ?_) fun _ _ y => y)
  refine wpAny_mono (q₂.run G A z₂ s₂ _ _ a.zero e₂.inv (r₁.sub e₂.zz) r₂) (fun v₃ s₃ q19_ => q19_.elim fun z₃ t e₃ ht hk => ?_) fun _ _ y => y
  subst ht
  have ee := (e₁.trans e₂).trans e₃
  cases t with
  | false => exact wpAny_truthy_bool ⟨z₃, _, ee, hk.1 rfl⟩
  | true =>
    refine wpAny_truthy_bool (test_last (wpAny_mono ((hk.2 rfl).run G A z₃ s₃ env a b e₃.inv (F.ext ee)) (fun v₄ s₄ q20_ => q20_.elim fun z₄ σ₄ x₄ e₄ r₄ q₄ => ?_) fun _ _ y => y))
    refine wpAny_mono (q₄.run G A z₄ s₄ _ _ a.zero e₄.inv (r₂.sub (e₃.zz.trans e₄.zz)) r₄) (fun v₅ s₅ q21_ => q21_.elim fun z₅ t e₅ ht hk => ?_) fun _ _ y => y
    rw [ht]
    exact wpAny_truthy_bool ⟨z₅, _, (ee.trans e₄).trans e₅, hk⟩
end Mine
end
section
namespace Mine
variable {c : Cx} {k : Nat} {sc : Scope} {ρ : Loc} {σ : Sto} {pos : Pos} {Q : V → Sto → Prop}
open Classical in
noncomputable def maskH (h : Heap) (p : Addr → Prop) : Heap := ⟨h.objs.mapIdx fun i o => if p i then o else { o with data := .freed }, h.life⟩
theorem maskH_at (h : Heap) (p : Addr → Prop) {a : Addr} (hp : p a) : (maskH h p).get? a = h.get? a := by
  unfold maskH Heap.get?
  simp only [Array.getElem?_mapIdx]
  cases h.objs[a]? with
  | none => rfl
  | some o => simp only [Option.map_some, if_pos hp]
theorem maskH_off (h : Heap) (p : Addr → Prop) {a : Addr} (hp : ¬ p a) : (maskH h p).get? a = none := by
  unfold maskH Heap.get?
  simp only [Array.getElem?_mapIdx]
  cases h.objs[a]? with
  | none => rfl
  | some o => simp only [Option.map_some, if_neg hp]
theorem maskH_some {h : Heap} {p : Addr → Prop} {a : Addr} {o : Obj} (e : (maskH h p).get? a = some o) : p a ∧ h.get? a = some o := by
  by_cases hp : p a
  · exact ⟨hp, by rwa [maskH_at h p hp] at e⟩
  · rw [maskH_off h p hp] at e; cases e
theorem Inv.fresh {z : Heap} {s : Shared} (I : Inv c z σ s) : σ s.heap.objs.size = .none ∧ z.get? s.heap.objs.size = .none ∧ s.heap.get? s.heap.objs.size = .none := by
  have hn : s.heap.get? s.heap.objs.size = .none := by
    cases q : s.heap.get? s.heap.objs.size with
    | none => rfl
    | some o => exact absurd (Heap.lt_size q) (Nat.lt_irrefl _)
  refine ⟨?_, ?_, hn⟩
  · cases q : σ s.heap.objs.size with
    | none => rfl
    | some o => obtain ⟨_, _, ob, h, _⟩ := I.mt _ _ q; rw [hn] at h; cases h
  · cases q : z.get? s.heap.objs.size with
    | none => rfl
    | some o => have := I.keep _ _ q; rw [hn] at this; cases this
theorem sysLow {z : Heap} {s : Shared} (G : c.Good) (I : Inv c z σ s) {a : Addr} (h : s.heap.objs.size ≤ a) : (a == sysModules) = false := by
  obtain ⟨p, lo, mg, mb, T⟩ := G.T
  have := modules_low (T.nolimit.keeps (I.base.trans I.keep))
  rw [beq_eq_false_iff_ne]
  intro e; subst e
  exact absurd h (Nat.not_le.mpr this)
theorem push_frozen {P : Addr → Prop} {z : Heap} {s : Shared} (I : Inv c z σ s) (o : Obj) (ho : o.isFreed = false := by rfl) (t : Nat := s.toks) :
    ∃ z', Ext c P z σ s z' σ { s with heap := s.heap.push o, toks := t } ∧ z'.get? s.heap.objs.size = some o := by
  obtain ⟨f1, f2, f3⟩ := I.fresh
  refine ⟨maskH (s.heap.push o) (fun a => z.get? a ≠ none ∨ a = s.heap.objs.size), ⟨⟨?_, ?_, ?_⟩, ?_, ?_, ?_, ?_, rfl, rfl, rfl⟩, ?_⟩
  · intro b ob e
    have := I.base _ _ e
    rw [maskH_at _ _ (.inl (by rw [this]; exact fun h => nomatch h))]
    exact Heap.get?_push_of_some o (I.keep _ _ this)
  · intro b ob e
    exact (maskH_some e).2
  · intro a x e
    obtain ⟨h1, h2, ob, h3, h4⟩ := I.mt a x e
    refine ⟨maskH_off _ _ ?_, h2, ob, Heap.get?_push_of_some o h3, h4.sub ?_⟩
    · rintro (h | rfl)
      · exact h h1
      · rw [f1] at e; cases e
    · intro b ob e
      rw [maskH_at _ _ (.inl (by rw [e]; exact fun h => nomatch h))]
      exact Heap.get?_push_of_some o (I.keep _ _ e)
  · intro b ob e
    rw [maskH_at _ _ (.inl (by rw [e]; exact fun h => nomatch h))]
    exact Heap.get?_push_of_some o (I.keep _ _ e)
  · intro b ob e _ _
    exact Heap.get?_push_of_some o e
  · rintro b (h | h)
    · cases q : (maskH (s.heap.push o) (fun a => z.get? a ≠ none ∨ a = s.heap.objs.size)).get? b with
      | none => exact absurd q h
      | some ob =>
        rcases (maskH_some q).1 with h | rfl
        · exact .inl h
        · exact .inr (.inr f3)
    · exact .inr (.inl h)
  · intro b e
    cases q : s.heap.get? b with
    | none => rfl
    | some ob => rw [show (s.heap.push o).get? b = some ob from Heap.get?_push_of_some o q] at e; cases e
  · rw [maskH_at _ _ (.inr rfl)]
    exact Heap.get?_push_size _ ho
theorem push_mut {P : Addr → Prop} {z : Heap} {s : Shared} (G : c.Good) (I : Inv c z σ s) {x : O} {o : Obj} (hx : OR c z x o) (ho : o.isFreed = false := by rfl) (t : Nat := s.toks) :
    σ s.heap.objs.size = .none ∧ Ext c P z σ s z (σ.set s.heap.objs.size x) { s with heap := s.heap.push o, toks := t } := by
  obtain ⟨f1, f2, f3⟩ := I.fresh
  refine ⟨f1, ⟨I.base, fun b ob e => Heap.get?_push_of_some o (I.keep _ _ e), ?_⟩, .refl z, fun b ob e _ _ => Heap.get?_push_of_some o e, ?_, ?_, rfl, rfl, rfl⟩
  · intro a y e
    by_cases ha : a = s.heap.objs.size
    · subst ha
      rw [Sto.set_at] at e; cases e
      exact ⟨f2, sysLow G I (Nat.le_refl _), o, Heap.get?_push_size _ ho, hx⟩
    · rw [Sto.set_ne _ _ ha] at e
      obtain ⟨h1, h2, ob, h3, h4⟩ := I.mt a y e
      exact ⟨h1, h2, ob, Heap.get?_push_of_some o h3, h4⟩
  · rintro b (h | h)
    · exact .inl h
    · by_cases ha : b = s.heap.objs.size
      · subst ha; exact .inr (.inr f3)
      · rw [Sto.set_ne _ _ ha] at h; exact .inr (.inl h)
  · intro b e
    cases q : s.heap.get? b with
    | none => rfl
    | some ob => rw [show (s.heap.push o).get? b = some ob from Heap.get?_push_of_some o q] at e; cases e
theorem freeze {P : Addr → Prop} {z : Heap} {s : Shared} (I : Inv c z σ s) {a : Addr} {x : O} (e : σ a = some x) :
    ∃ z' ob, Ext c P z σ s z' (σ.del a) s ∧ z'.get? a = some ob ∧ OR c z' x ob ∧ (a == sysModules) = false := by
  obtain ⟨h1, h2, ob, h3, h4⟩ := I.mt a x e
  have sub : Sub z (maskH s.heap (fun b => z.get? b ≠ none ∨ b = a)) := fun b o q => by
    rw [maskH_at _ _ (.inl (by rw [q]; exact fun h => nomatch h))]; exact I.keep _ _ q
  refine ⟨maskH s.heap (fun b => z.get? b ≠ none ∨ b = a), ob, ⟨⟨I.base.trans sub, fun b o q => (maskH_some q).2, ?_⟩, sub, fun b o q _ _ => q, ?_, fun _ q => q, rfl, rfl, rfl⟩, ?_, h4.sub sub, h2⟩
  · intro b y q
    by_cases hb : b = a
    · subst hb; rw [Sto.del_at] at q; cases q
    · rw [Sto.del_ne _ hb] at q
      obtain ⟨g1, g2, ob', g3, g4⟩ := I.mt b y q
      refine ⟨maskH_off _ _ ?_, g2, ob', g3, g4.sub sub⟩
      rintro (h | h)
      · exact h g1
      · exact hb h
  · rintro b (h | h)
    · cases q : (maskH s.heap (fun b => z.get? b ≠ none ∨ b = a)).get? b with
      | none => exact absurd q h
      | some ob =>
        rcases (maskH_some q).1 with h | rfl
        · exact .inl h
        · exact .inr (.inl (by rw [e]; exact fun h => nomatch h))
    · by_cases hb : b = a
      · subst hb; exact .inr (.inl (by rw [e]; exact fun h => nomatch h))
      · rw [Sto.del_ne _ hb] at h; exact .inr (.inl h)
  · rw [maskH_at _ _ (.inr rfl)]; exact h3
theorem upd_mut {P : Addr → Prop} {z : Heap} {s : Shared} (I : Inv c z σ s) {a : Addr} {x y : O} {h' : Heap} {ob : Obj} {t : Nat} (e : σ a = some x) (hs : Heap.SameBut a s.heap h') (ho : h'.get? a = some ob) (hy : OR c z y ob) :
    Ext c P z σ s z (σ.set a y) { s with heap := h', toks := t } := by
  obtain ⟨h1, h2, ob₀, h3, h4⟩ := I.mt a x e
  refine ⟨⟨I.base, fun b o q => ?_, ?_⟩, .refl z, fun b o q n _ => ?_, ?_, fun b q => ?_, rfl, rfl, rfl⟩
  · rw [hs.2 b (by rintro rfl; rw [h1] at q; cases q)]; exact I.keep _ _ q
  · intro b w q
    by_cases hb : b = a
    · subst hb; rw [Sto.set_at] at q; cases q; exact ⟨h1, h2, ob, ho, hy⟩
    · rw [Sto.set_ne _ _ hb] at q
      obtain ⟨g1, g2, ob', g3, g4⟩ := I.mt b w q
      exact ⟨g1, g2, ob', (hs.2 b hb).trans g3, g4⟩
  · rw [hs.2 b (by rintro rfl; rw [e] at n; cases n)]; exact q
  · rintro b (h | h)
    · exact .inl h
    · by_cases hb : b = a
      · subst hb; exact .inr (.inl (by rw [e]; exact fun h => nomatch h))
      · rw [Sto.set_ne _ _ hb] at h; exact .inr (.inl h)
  · by_cases hb : b = a
    · subst hb; rw [ho] at q; cases q
    · exact (hs.2 b hb).symm.trans q
section
variable {QB : Bool → Sto → Prop} {e e₁ e₂ : Expr} {rest : List Expr}
theorem WT_of (h : WE c k sc ρ e σ fun v σ₁ => TruP c v σ₁ fun b => QB b σ₁) (he : ∀ env whole, isTrue e env whole = (do let v ← whole; standAt e.pos; holding [v] (truthy v)) := by exact fun _ _ => rfl) : WT c k sc ρ e σ QB := .mk fun G A z s env a b I F => by
  rw [he]
  exact wpAny_bind (wpAny_mono (h.run G A z s env a b I F) (fun v₁ s₁ q1_ => q1_.elim fun z₁ σ₁ x₁ x r₁ q₁ => wpAny_bind (wpAny_standAt (wpAny_holding
    (wpAny_mono (q₁.run G A z₁ s₁ v₁ a.zero x.inv r₁) (fun t s₂ q2_ => q2_.elim fun z₂ y hk => ⟨z₂, σ₁, x.trans y, hk⟩) fun _ _ y => y)))) fun _ _ y => y)
theorem WT_not (h : WT c k sc ρ e σ fun b σ₁ => QB (!b) σ₁) : WT c k sc ρ (.UnaryOp .Not e pos) σ QB := .mk fun G A z s env a b I F =>
  isTrue_not (wpAny_mono (h.run G A z s env a b I F) (fun _ _ q3_ => q3_.elim fun z' σ' x q => ⟨z', σ', x, q⟩) fun _ _ y => y)
theorem WT_and_nil (h : QB true σ) : WT c k sc ρ (.BoolOp .And [] pos) σ QB := .mk fun G A z s env a b I F => isTrue_and_nil ⟨z, σ, Ext.refl I, h⟩
theorem WT_or_nil (h : QB false σ) : WT c k sc ρ (.BoolOp .Or [] pos) σ QB := .mk fun G A z s env a b I F => isTrue_or_nil ⟨z, σ, Ext.refl I, h⟩
theorem WT_and (h : WT c k sc ρ e σ fun b σ₁ => (b = true → WT c k sc ρ (.BoolOp .And rest pos) σ₁ QB) ∧ (b = false → QB false σ₁)) : WT c k sc ρ (.BoolOp .And (e :: rest) pos) σ QB := .mk fun G A z s env a b I F =>
  isTrue_and (wpAny_mono (h.run G A z s env a b I F) (fun t s₁ q4_ => q4_.elim fun z₁ σ₁ x q => by
    cases t with
    | false => exact ⟨z₁, σ₁, x, q.2 rfl⟩
    | true => exact wpAny_mono ((q.1 rfl).run G A z₁ s₁ env a b x.inv (F.ext x)) (fun _ _ q5_ => q5_.elim fun z₂ σ₂ y q₂ => ⟨z₂, σ₂, x.trans y, q₂⟩) fun _ _ y => y) fun _ _ y => y)
theorem WT_or (h : WT c k sc ρ e σ fun b σ₁ => (b = false → WT c k sc ρ (.BoolOp .Or rest pos) σ₁ QB) ∧ (b = true → QB true σ₁)) : WT c k sc ρ (.BoolOp .Or (e :: rest) pos) σ QB := .mk fun G A z s env a b I F =>
  isTrue_or (wpAny_mono (h.run G A z s env a b I F) (fun t s₁ q6_ => q6_.elim fun z₁ σ₁ x q => by
    cases t with
    | true => exact ⟨z₁, σ₁, x, q.2 rfl⟩
    | false => exact wpAny_mono ((q.1 rfl).run G A z₁ s₁ env a b x.inv (F.ext x)) (fun _ _ q7_ => q7_.elim fun z₂ σ₂ y q₂ => ⟨z₂, σ₂, x.trans y, q₂⟩) fun _ _ y => y) fun _ _ y => y)
end
section
variable {e e₁ e₂ e₃ : Expr} {rest : List Expr}
theorem WE_not (h : WE c k sc ρ e σ fun v σ₁ => TruP c v σ₁ fun b => Q (.bool (!b)) σ₁) : WE c k sc ρ (.UnaryOp .Not e pos) σ Q := .mk fun G A z s env a b I F =>
  UnaryOp_ (wpAny_mono (h.run G A z s env a b I F) (fun v₁ s₁ q8_ => q8_.elim fun z₁ σ₁ x₁ x r₁ q₁ => not_of
    (wpAny_mono (q₁.run G A z₁ s₁ v₁ a.zero x.inv r₁) (fun t s₂ q9_ => q9_.elim fun z₂ y hk => ⟨z₂, σ₁, _, x.trans y, VR_bool.mpr rfl, hk⟩) fun _ _ y => y)) fun _ _ y => y)
theorem WE_ifexp (h : WT c k sc ρ e σ fun b σ₁ => (b = true → WE c k sc ρ e₁ σ₁ Q) ∧ (b = false → WE c k sc ρ e₂ σ₁ Q)) : WE c k sc ρ (.IfExp e e₁ e₂ pos) σ Q := .mk fun G A z s env a b I F =>
  IfExp_ (wpAny_mono (h.run G A z s env a b I F) (fun t s₁ q10_ => q10_.elim fun z₁ σ₁ x q => by
    cases t with
    | false => exact wpAny_mono ((q.2 rfl).run G A z₁ s₁ env a b x.inv (F.ext x)) (fun _ _ h => Post.ext x h) fun _ _ y => y
    | true => exact wpAny_mono ((q.1 rfl).run G A z₁ s₁ env a b x.inv (F.ext x)) (fun _ _ h => Post.ext x h) fun _ _ y => y) fun _ _ y => y)
theorem WE_bone {op : BoolOp} (h : WE c k sc ρ e σ Q) : WE c k sc ρ (.BoolOp op [e] pos) σ Q := .mk fun G A z s env a b I F => BoolOp_one (h.run G A z s env a b I F)
theorem WE_and (h : WE c k sc ρ e σ fun v σ₁ => TruP c v σ₁ fun b => (b = true → WE c k sc ρ (.BoolOp .And (e₁ :: rest) pos) σ₁ Q) ∧ (b = false → Q v σ₁)) : WE c k sc ρ (.BoolOp .And (e :: e₁ :: rest) pos) σ Q := .mk fun G A z s env a b I F =>
  BoolOp_and (wpAny_mono (h.run G A z s env a b I F) (fun v₁ s₁ q11_ => q11_.elim fun z₁ σ₁ x₁ x r₁ q₁ => 
    wpAny_mono (q₁.run G A z₁ s₁ v₁ a.zero x.inv r₁) (fun t s₂ q12_ => q12_.elim fun z₂ y hk => by
      cases t with
      | false => exact ⟨z₂, σ₁, _, x.trans y, r₁.sub y.zz, hk.2 rfl⟩
      | true => exact wpAny_mono ((hk.1 rfl).run G A z₂ s₂ env a b y.inv (F.ext (x.trans y))) (fun _ _ h => Post.ext (x.trans y) h) fun _ _ y => y) fun _ _ y => y) fun _ _ y => y)
theorem WE_or (h : WE c k sc ρ e σ fun v σ₁ => TruP c v σ₁ fun b => (b = false → WE c k sc ρ (.BoolOp .Or (e₁ :: rest) pos) σ₁ Q) ∧ (b = true → Q v σ₁)) : WE c k sc ρ (.BoolOp .Or (e :: e₁ :: rest) pos) σ Q := .mk fun G A z s env a b I F =>
  BoolOp_or (wpAny_mono (h.run G A z s env a b I F) (fun v₁ s₁ q13_ => q13_.elim fun z₁ σ₁ x₁ x r₁ q₁ => 
    wpAny_mono (q₁.run G A z₁ s₁ v₁ a.zero x.inv r₁) (fun t s₂ q14_ => q14_.elim fun z₂ y hk => by
      cases t with
      | true => exact ⟨z₂, σ₁, _, x.trans y, r₁.sub y.zz, hk.2 rfl⟩
      | false => exact wpAny_mono ((hk.1 rfl).run G A z₂ s₂ env a b y.inv (F.ext (x.trans y))) (fun _ _ h => Post.ext (x.trans y) h) fun _ _ y => y) fun _ _ y => y) fun _ _ y => y)
end
end Mine
end
section
namespace Mine
variable {c : Cx} {k : Nat} {sc : Scope} {ρ : Loc} {σ : Sto} {pos : Pos} {Q : V → Sto → Prop}
noncomputable def putF (n : Str) (x : V) : List (Str × V) → List (Str × V)
  | [] => [(n, x)]
  | (m, y) :: r => if m == n then (m, x) :: r else (m, y) :: putF n x r
theorem putF_cons {n m : Str} {x y : V} {r : List (Str × V)} : putF n x ((m, y) :: r) = if m == n then (m, x) :: r else (m, y) :: putF n x r := rfl
theorem gl_nil (n : Str) : gl [] n = none := rfl
theorem gl_cons (e : DictEntry) (es : List DictEntry) (n : Str) : gl (e :: es) n = if e.key.isStr n then some e.val else gl es n := by
  unfold gl
  rw [List.find?_cons]
  cases e.key.isStr n <;> rfl
theorem isStr_str (m n : Str) (t : Tok) : (Value.str m t).isStr n = (m == n) := rfl
theorem gl_put (nm : Str) (hs : Int) (key v : Value) (hk : ∃ t, key = .str nm t) : ∀ (es : List DictEntry), (∀ e ∈ es, ∃ n t, e.key = .str n t) → ∀ n, gl (putL nm hs key v es) n = if n = nm then some v else gl es n
  | [], _, n => by
    obtain ⟨t, rfl⟩ := hk
    show gl [⟨hs, .str nm t, v⟩] n = _
    rw [gl_cons, isStr_str]
    by_cases h : n = nm
    · subst h; simp
    · have : (nm == n) = false := beq_eq_false_iff_ne.mpr (Ne.symm h)
      simp [this, h, gl_nil]
  | e :: es, ks, n => by
    obtain ⟨m, t, em⟩ := ks e (.head _)
    have ih := gl_put nm hs key v hk es (fun e' h' => ks e' (.tail _ h')) n
    unfold putL
    rw [em, isStr_str]
    by_cases h : m = nm
    · subst h
      rw [if_pos (by simp), gl_cons, gl_cons, em, isStr_str]
      by_cases q : n = m
      · subst q; simp
      · have : (m == n) = false := beq_eq_false_iff_ne.mpr (Ne.symm q)
        rw [this]
        simp [q]
    · have hb : (m == nm) = false := beq_eq_false_iff_ne.mpr h
      rw [hb, if_neg Bool.false_ne_true, gl_cons, gl_cons, em, isStr_str, ih]
      by_cases q : n = nm
      · subst q
        rw [if_pos rfl, if_pos rfl, hb, if_neg Bool.false_ne_true]
      · rw [if_neg q, if_neg q]
theorem put_keys (nm : Str) (hs : Int) (key v : Value) (hk : ∃ t, key = .str nm t) : ∀ (es : List DictEntry), (∀ e ∈ es, ∃ n t, e.key = .str n t) → ∀ e ∈ putL nm hs key v es, ∃ n t, e.key = .str n t
  | [], _, e, h => by
    obtain ⟨t, rfl⟩ := hk
    cases h with
    | head => exact ⟨_, _, rfl⟩
    | tail _ h => cases h
  | e :: es, ks, e', h => by
    unfold putL at h
    split at h
    · cases h with
      | head => exact ks e (.head _)
      | tail _ h => exact ks e' (.tail _ h)
    · cases h with
      | head => exact ks e (.head _)
      | tail _ h => exact put_keys nm hs key v hk es (fun e'' h' => ks e'' (.tail _ h')) e' h
theorem put_len (nm : Str) (hs : Int) (key v : Value) : ∀ (es : List DictEntry), (putL nm hs key v es).length = if (gl es nm).isSome then es.length else es.length + 1
  | [] => rfl
  | e :: es => by
    unfold putL
    rw [gl_cons]
    cases q : e.key.isStr nm with
    | true => simp
    | false =>
      simp only [Bool.false_eq_true, if_false, List.length_cons, put_len nm hs key v es]
      split <;> rfl
theorem putF_lookup (n : Str) (x : V) : ∀ (fs : List (Str × V)) (m : Str), (putF n x fs).lookup m = if m = n then some x else fs.lookup m
  | [], m => by
    show List.lookup m [(n, x)] = _
    by_cases h : m = n
    · subst h; simp
    · have : (m == n) = false := beq_eq_false_iff_ne.mpr h
      simp [List.lookup, this, h]
  | (a, y) :: r, m => by
    rw [putF_cons]
    by_cases h : a = n
    · subst h
      rw [if_pos (by simp)]
      by_cases q : m = a
      · subst q; simp
      · have : (m == a) = false := beq_eq_false_iff_ne.mpr q
        simp [List.lookup, this, q]
    · have hb : (a == n) = false := beq_eq_false_iff_ne.mpr h
      rw [hb, if_neg Bool.false_ne_true, List.lookup_cons, List.lookup_cons, putF_lookup n x r m]
      by_cases q : m = a
      · subst q; simp [h]
      · have : (m == a) = false := beq_eq_false_iff_ne.mpr q
        simp [this]
theorem putF_len (n : Str) (x : V) : ∀ (fs : List (Str × V)), (putF n x fs).length = if (fs.lookup n).isSome then fs.length else fs.length + 1
  | [] => rfl
  | (a, y) :: r => by
    rw [putF_cons]
    by_cases h : a = n
    · subst h; simp
    · have hb : (a == n) = false := beq_eq_false_iff_ne.mpr h
      have hb' : (n == a) = false := beq_eq_false_iff_ne.mpr (Ne.symm h)
      simp only [hb, Bool.false_eq_true, if_false, List.length_cons, putF_len n x r, List.lookup_cons, hb']
      split <;> rfl
theorem putF_names (n : Str) (x : V) : ∀ (fs : List (Str × V)), (putF n x fs).map (·.1) = if n ∈ fs.map (·.1) then fs.map (·.1) else fs.map (·.1) ++ [n]
  | [] => rfl
  | (a, y) :: r => by
    rw [putF_cons]
    by_cases h : a = n
    · subst h; simp
    · have hb : (a == n) = false := beq_eq_false_iff_ne.mpr h
      simp only [hb, Bool.false_eq_true, if_false, List.map_cons, putF_names n x r, List.mem_cons, Ne.symm h, false_or]
      split <;> rfl
theorem putF_nodup (n : Str) (x : V) (fs : List (Str × V)) (h : (fs.map (·.1)).Nodup) : ((putF n x fs).map (·.1)).Nodup := by
  rw [putF_names]
  split
  · exact h
  · rename_i q
    exact List.nodup_append.mpr ⟨h, by simp, fun a ha b hb => by rintro rfl; simp at hb; subst hb; exact q ha⟩
theorem VRf_congr {z : Heap} {m m' : Str → Option Value} : ∀ (fs : List (Str × V)), (∀ n ∈ fs.map (·.1), m n = m' n) → VRf c z fs m → VRf c z fs m'
  | [], _, _ => trivial
  | (a, y) :: r, e, h => by
    replace h := VRf_cons.mp h
    exact VRf_cons.mpr ⟨e a (.head _) ▸ h.1, VRf_congr r (fun n hn => e n (.tail _ hn)) h.2⟩
theorem VRf_put {z : Heap} {m m' : Str → Option Value} {n : Str} {x : V} {v : Value} (hv : VR c z x v) (hn : m' n = some v) (ho : ∀ y, y ≠ n → m' y = m y) :
    ∀ (fs : List (Str × V)), (fs.map (·.1)).Nodup → VRf c z fs m → VRf c z (putF n x fs) m'
  | [], _, _ => VRf_cons.mpr ⟨⟨v, hn, hv⟩, trivial⟩
  | (a, y) :: r, nd, h => by
    rw [List.map_cons, List.nodup_cons] at nd
    replace h := VRf_cons.mp h
    rw [putF_cons]
    by_cases q : a = n
    · subst q
      rw [if_pos (by simp)]
      exact VRf_cons.mpr ⟨⟨v, hn, hv⟩, VRf_congr r (fun b hb => (ho b (by rintro rfl; exact nd.1 hb)).symm) h.2⟩
    · have hb : (a == n) = false := beq_eq_false_iff_ne.mpr q
      rw [hb, if_neg Bool.false_ne_true]
      exact VRf_cons.mpr ⟨by rw [ho a q]; exact h.1, VRf_put hv hn ho r nd.2 h.2⟩
theorem VRf_get {z : Heap} {m : Str → Option Value} {n : Str} {x : V} : ∀ (fs : List (Str × V)), VRf c z fs m → fs.lookup n = some x → ∃ v, m n = some v ∧ VR c z x v
  | [], _, e => by cases e
  | (a, y) :: r, h, e => by
    replace h := VRf_cons.mp h
    rw [List.lookup_cons] at e
    by_cases q : n = a
    · subst q
      simp at e; subst e; exact h.1
    · have : (n == a) = false := beq_eq_false_iff_ne.mpr q
      rw [this] at e
      exact VRf_get r h.2 e
theorem FD.put {fs : List (Str × V)} {es : List DictEntry} (h : FD fs es) (nm : Str) (hs : Int) (key v : Value) (hk : ∃ t, key = .str nm t) (x : V) (hin : (fs.lookup nm).isSome = true → (gl es nm).isSome = true) : FD (putF nm x fs) (putL nm hs key v es) := by
  refine ⟨put_keys nm hs key v hk es h.keys, ?_, putF_nodup nm x fs h.nodup, fun n hn => ?_⟩
  · rw [put_len, putF_len]
    have := h.len
    by_cases q : (fs.lookup nm).isSome = true
    · rw [if_pos q, if_pos (hin q)]; exact this
    · rw [if_neg q]; split <;> lia
  · rw [putF_lookup] at hn
    rw [gl_put nm hs key v hk es h.keys]
    by_cases q : n = nm
    · rw [if_pos q] at hn; cases hn
    · rw [if_neg q] at hn ⊢; exact h.names n hn
theorem canIs_handed {z : Heap} {x : V} {v : Value} (h : VR c z x v) (k : canIs x = true) : handedIn v = true := by
  cases x with
  | none => rw [VR_none.mp h]; rfl
  | bool b => rw [VR_bool.mp h]; rfl
  | int i => obtain ⟨t, rfl⟩ := VR_int.mp h; rfl
  | str x => obtain ⟨t, rfl⟩ := VR_str.mp h; rfl
  | glob a => rw [VR_glob.mp h]; rfl
  | bi a => cases k
  | ty a => rw [VR_ty.mp h]; rfl
  | ref a => rw [VR_ref.mp h]; rfl
  | obj cl x d => rw [(VR_obj.mp h).1]; rfl
  | rng n => replace h := VR_rng.mp h; obtain ⟨a, t₁, t₂, t₃, rfl, r⟩ := h; rfl
  | tup l => obtain ⟨a, vs, rfl, r⟩ := VR_tup.mp h; rfl
  | lst l => obtain ⟨a, vs, rfl, r⟩ := VR_lst.mp h; rfl
  | dcI l => obtain ⟨a, vs, rfl, r⟩ := VR_dcI.mp h; rfl
  | dcP l => obtain ⟨a, vs, rfl, r⟩ := VR_dcP.mp h; rfl
  | dvP l => replace h := VR_dvP.mp h; obtain ⟨a, d, xs, rfl, r⟩ := h; rfl
  | set l => replace h := VR_set.mp h; obtain ⟨a, rfl, r⟩ := h; rfl
  | inst cl fs => obtain ⟨a, d, es, n, rfl, r⟩ := VR_inst.mp h; rfl
noncomputable def getOk (K : Frag) (C : Addr) (name : Str) : Bool := plainGet K C name && hasDictIn K C && (match findIn K (.ref C) name with | some a => noGet K a | none => false)
theorem lookIn_gl {es : List DictEntry} (hk : ∀ e ∈ es, ∃ n t, e.key = .str n t) (n : Nat) (name : Str) : lookIn name (dictOf es n) = some (gl es name) := by
  show (match es.find? (·.key.isStr name) with | some e => some (some e.val) | none => if es.any (·.refKey) then none else some none) = _
  unfold gl
  cases q : es.find? (fun e => e.key.isStr name) with
  | some e => rfl
  | none =>
    have : es.any (·.refKey) = false := by
      rw [List.any_eq_false]
      intro e he
      obtain ⟨m, t, em⟩ := hk e he
      simp [DictEntry.refKey, em]
    rw [this]; rfl
theorem instAt {h : Heap} {cl x d : Addr} {es : List DictEntry} {n : Nat} (h1 : h.get? x = some (instObj cl d)) (h2 : h.get? d = some (dictOf es n)) : InstAt h x (instObj cl d) cl (some (dictOf es n)) := ⟨h1, rfl, rfl, h2⟩
theorem field_get {A : Around} {E : Value → Shared → Prop} {s : Shared} {cl x d : Addr} {es : List DictEntry} {n : Nat} {name : Str} {v : Value} {Q : Value → Shared → Prop} {b : Bool} (X : c.K.In s.heap) (h1 : s.heap.get? x = some (instObj cl d)) (h2 : s.heap.get? d = some (dictOf es n))
    (hk : ∀ e ∈ es, ∃ n t, e.key = .str n t) (ok : getOk c.K cl name = true) (hv : gl es name = some v) (hh : handedIn v = true) (h : Q v { s with toks := s.toks + 1 }) : wpAny (model c.prog c.w) A (getAttr (.ref x) name b) Q E s := by
  unfold getOk at ok
  obtain ⟨ok, o3⟩ := Bool.and_eq_true_iff.mp ok
  obtain ⟨o1, o2⟩ := Bool.and_eq_true_iff.mp ok
  split at o3
  · rename_i a ha
    exact get_value X (instAt h1 h2) (plainGet_of o1).1 (findObj_own o2 ha o3 (by rw [lookIn_gl hk, hv])) hh h
  · cases o3
structure AttP (c : Cx) (ov : V) (name : Str) (σ : Sto) (x : V) : Prop where
  run : c.Good → ∀ A z s va, AOk 0 A → Inv c z σ s → VR c z ov va → ∀ (Q : Value → Shared → Prop), (∀ v t, VR c z x v → Q v { s with toks := t }) → wpAny (model c.prog c.w) A (getAttr va name true) Q noE s
theorem AttP_inst {cl : Addr} {fs : List (Str × V)} {name : Str} {x : V} (ok : getOk c.K cl name = true) (hx : fs.lookup name = some x) (hb : canIs x = true := by rfl) : AttP c (.inst cl fs) name σ x := .mk fun G A z s va a I r Q hq => by
  obtain ⟨y, d, es, n, rfl, h1, h2, h3, h4⟩ := VR_inst.mp r
  obtain ⟨v, hv, rv⟩ := VRf_get fs h4 hx
  exact field_get (I.kin G) (I.keep _ _ h1) (I.keep _ _ h2) h3.keys ok hv (canIs_handed rv hb) (hq v _ rv)
theorem AttP_obj {cl y d : Addr} {fs : List (Str × V)} {name : Str} {x : V} (ok : getOk c.K cl name = true) (hσ : σ d = some (.flds fs)) (hx : fs.lookup name = some x) (hb : canIs x = true := by rfl) : AttP c (.obj cl y d) name σ x := .mk fun G A z s va a I r Q hq => by
  obtain ⟨rfl, h1⟩ := VR_obj.mp r
  obtain ⟨g1, g2, ob, g3, es, n, rfl, h3, h4⟩ := I.mt d _ hσ
  obtain ⟨v, hv, rv⟩ := VRf_get fs h4 hx
  exact field_get (I.kin G) (I.keep _ _ h1) g3 h3.keys ok hv (canIs_handed rv hb) (hq v _ rv)
structure AtE (c : Cx) (ov : V) (name : Str) (σ : Sto) (K : V → Prop) : Prop where
  ex : ∃ x, AttP c ov name σ x ∧ K x
theorem AtE_inst {cl : Addr} {fs : List (Str × V)} {name : Str} {x : V} {K : V → Prop} (ok : getOk c.K cl name = true) (hx : fs.lookup name = some x) (h : K x) (hb : canIs x = true := by rfl) : AtE c (.inst cl fs) name σ K := ⟨x, AttP_inst ok hx hb, h⟩
theorem AtE_obj {cl y d : Addr} {fs : List (Str × V)} {name : Str} {x : V} {K : V → Prop} (ok : getOk c.K cl name = true) (hσ : σ d = some (.flds fs)) (hx : fs.lookup name = some x) (h : K x) (hb : canIs x = true := by rfl) : AtE c (.obj cl y d) name σ K := ⟨x, AttP_obj ok hσ hx hb, h⟩
theorem WE_attr {e : Expr} {name : Str} (h : WE c k sc ρ e σ fun ov σ₁ => AtE c ov name σ₁ fun x => Q x σ₁) (hb : ∀ env whole, attributeBase e name env whole = whole := by exact fun _ _ => rfl) : WE c k sc ρ (.Attribute e name pos) σ Q := .mk fun G A z s env a b I F => by
  refine Attribute_any_ (wpAny_mono (h.run G A z s env a b I F) (fun v₁ s₁ ⟨z₁, σ₁, x₁, x, r₁, ⟨y, p, q₁⟩⟩ => ?_) fun _ _ y => y) (by
    show (do let o ← attributeBase e name env (eval e env); standAt pos.atName; let r ← holding [o] (getAttr o name true); letTemporaryGo e o r; pure r) = _
    rw [hb])
  exact p.run G A z₁ s₁ v₁ a.zero x.inv r₁ _ fun v t hv => Post.ext x (Post.here x.inv hv q₁ t)
noncomputable def setOk (K : Frag) (C : Addr) (name : Str) : Bool := findIn K (.ref C) "__setattr__" == some (some (.builtin "object.__setattr__")) && plainOver K C && takerIn K C name == some none && (clsIn K C).any (·.hasDict)
theorem field_set {A : Around} {E : Value → Shared → Prop} {s : Shared} {cl x d : Addr} {es : List DictEntry} {n : Nat} {name : Str} {v : Value} {Q : Unit → Shared → Prop} (X : c.K.In s.heap) (h1 : s.heap.get? x = some (instObj cl d)) (h2 : s.heap.get? d = some (dictOf es n))
    (hk : ∀ e ∈ es, ∃ n t, e.key = .str n t) (ok : setOk c.K cl name = true) (hz : es.length ≤ 1000)
    (h : ∀ h' key t n', Heap.SameBut d s.heap h' → h'.get? d = some (dictOf (putL name (PyData.keyHash c.w.params name) key v es) n') → (∃ t, key = .str name t) → Q () { s with heap := h', toks := t }) : wpAny (model c.prog c.w) A (setAttr (.ref x) name v) Q E s := by
  unfold setOk at ok
  simp only [Bool.and_eq_true, beq_iff_eq] at ok
  obtain ⟨⟨⟨o1, o2⟩, o3⟩, o4⟩ := ok
  have I := instAt (h := s.heap) h1 h2
  refine set_plain X I o1 (osa_open (s := { s with toks := s.toks + 1 }) X I o2 o3 fun b => ?_)
  obtain ⟨cd, hc, hd⟩ := any_some o4
  dsimp only
  refine wpAny_bind (wpAny_pure (wpAny_bind (wpAny_bind (wpAny_loadPart h1 (wpAny_bind (looks_clsIn X hc _ _ _ _ (fun _ _ e => e) ?_))))))
  rw [hd]
  refine wpAny_pure (a := some d) (wpAny_bind (wpAny_pure (wpAny_bind ?_)))
  unfold nsSet
  refine wpAny_bind (wpAny_bind (wpAny_askSetting (wpAny_pure (wpAny_bind (wpAny_mkText (wpAny_bind (wpAny_loadPart h2 ?_)))))))
  have any : es.any (·.refKey) = false := by
    rw [List.any_eq_false]
    intro e he
    obtain ⟨m, t, em⟩ := hk e he
    simp [DictEntry.refKey, em]
  have hr : (!(es.toArray).any (·.key.isStr name) && (es.toArray).any (·.refKey)) = false := by
    have e : (es.toArray).any (·.refKey) = es.any (·.refKey) := by rw [← Array.any_toList]
    rw [e, any, Bool.and_false]
  dsimp only
  rw [aRefKeyMayBeTheName_at, hr]
  have D : (s.heap.update d (Obj.putName name (PyData.keyHash c.w.params name) (.str name (s.toks + 1)) v)).get? d = some (dictOf (putL name (PyData.keyHash c.w.params name) (.str name (s.toks + 1)) v es) (putN name es n)) := by
    rw [← putName_dict]
    exact Heap.get?_update_self _ h2 (by rw [putName_dict]; rfl)
  refine wpAny_updatePart h2 ?_
  refine wpAny_bind (wpAny_lookBehind D (pastItsLine_dict (by rw [List.size_toArray, put_len, sizeLine_eq]; split <;> lia)) ?_)
  exact wpAny_pure (h _ _ _ _ (Heap.SameBut.update ..) D ⟨_, rfl⟩)
theorem setF {P : Addr → Prop} {A : Around} {z : Heap} {s : Shared} {cl y d : Addr} {fs : List (Str × V)} {name : Str} {x : V} {v : Value} {Q : Unit → Shared → Prop} (G : c.Good) (I : Inv c z σ s) (h1 : z.get? y = some (instObj cl d))
    (hσ : σ d = some (.flds fs)) (ok : setOk c.K cl name = true) (hz : fs.length ≤ 1000) (hv : VR c z x v) (h : ∀ s', Ext c P z σ s z (σ.set d (.flds (putF name x fs))) s' → Q () s') :
    wpAny (model c.prog c.w) A (setAttr (.ref y) name v) Q noE s := by
  obtain ⟨g1, g2, ob, g3, es, n, rfl, h3, h4⟩ := I.mt d _ hσ
  refine field_set (I.kin G) (I.keep _ _ h1) g3 h3.keys ok (Nat.le_trans h3.len hz) fun h' key t n' hs ho hk => h _ (upd_mut I hσ hs ho ⟨_, n', rfl, ?_, ?_⟩)
  · refine h3.put _ _ _ _ hk _ fun q => ?_
    obtain ⟨x', hx⟩ := Option.isSome_iff_exists.mp q
    obtain ⟨v', hv', _⟩ := VRf_get fs h4 hx
    rw [hv']; rfl
  · exact VRf_put hv (by rw [gl_put _ _ _ _ hk _ h3.keys, if_pos rfl]) (fun b hb => by rw [gl_put _ _ _ _ hk _ h3.keys, if_neg hb]) fs h3.nodup h4
theorem WEs_nil {Q : List V → Sto → Prop} (h : Q [] σ) : WEs c k sc ρ [] σ Q := .mk fun G A z s env pos a b I F =>
  spliced_none ⟨z, σ, [], Ext.refl I, VRs_nil.mpr rfl, h⟩
theorem WEs_cons {Q : List V → Sto → Prop} {e : Expr} {rest : List Expr} (h : WE c k sc ρ e σ fun x σ₁ => WEs c k sc ρ rest σ₁ fun xs σ₂ => Q (x :: xs) σ₂)
    (he : ∀ env, starEach (e :: rest) env = (false, eval e env) :: starEach rest env := by exact fun _ => rfl) : WEs c k sc ρ (e :: rest) σ Q := .mk fun G A z s env pos a b I F =>
  spliced_more (wpAny_mono (h.run G A z s env a b I F) (fun v₁ s₁ q4_ => q4_.elim fun z₁ σ₁ x₁ e₁ r₁ q₁ => 
    wpAny_mono (q₁.run G A z₁ s₁ env pos a b e₁.inv (F.ext e₁)) (fun vs s₂ q5_ => q5_.elim fun z₂ σ₂ xs e₂ r₂ q₂ => 
      ⟨z₂, σ₂, x₁ :: xs, e₁.trans e₂, VRs_cons.mpr ⟨v₁, vs, rfl, r₁.sub e₂.zz, r₂⟩, q₂⟩) fun _ _ y => y) fun _ _ y => y) (he env)
theorem VRs_length {z : Heap} : ∀ (xs : List V) {vs : List Value}, VRs c z xs vs → vs.length = xs.length
  | [], _, h => by rw [VRs_nil.mp h]; rfl
  | x :: r, _, h => by
    obtain ⟨v, vr, rfl, _, h2⟩ := VRs_cons.mp h
    rw [List.length_cons, List.length_cons, VRs_length r h2]
theorem VRs_get {z : Heap} : ∀ (xs : List V) {vs : List Value} {i : Nat} {x : V}, VRs c z xs vs → xs[i]? = some x → ∃ v, vs[i]? = some v ∧ VR c z x v
  | [], _, i, x, h, e => by simp at e
  | y :: r, _, i, x, h, e => by
    obtain ⟨v, vr, rfl, h1, h2⟩ := VRs_cons.mp h
    cases i with
    | zero => simp at e; subst e; exact ⟨v, rfl, h1⟩
    | succ i => simp at e; simpa using VRs_get r h2 e
theorem WE_tuple {es : List Expr} {n : Nat} (h : WEs c k sc ρ es σ fun xs σ₁ => xs.length ≤ 16777216 ∧ Q (.tup xs) σ₁) : WE c k sc ρ (.Tuple es n pos) σ Q := .mk fun G A z s env a b I F => by
  show wpAny _ _ (do standAt pos; newTuple (← spliced (backTo pos (starEach es env)))) _ _ _
  refine wpAny_bind (wpAny_standAt (wpAny_bind (wpAny_mono (h.run G A z s env pos a b I F) (fun vs s₁ q6_ => q6_.elim fun z₁ σ₁ xs e₁ r₁ q7_ => q7_.elim fun hl q₁ => ?_) fun _ _ y => y)))
  refine wpAny_newTuple ?_ (by rw [VRs_length xs r₁, sizeLine_eq]; exact hl)
  obtain ⟨z₂, e₂, ho⟩ := push_frozen (P := fun _ => False) e₁.inv { cls := .type "tuple", data := .seq vs.toArray }
  exact ⟨z₂, σ₁, _, e₁.trans e₂, VR_tup.mpr ⟨_, vs.toArray, rfl, ⟨_, ho, rfl, _, rfl⟩, by rw [List.toList_toArray]; exact VRs.sub e₂.zz xs r₁⟩, q₁⟩
theorem WE_list {es : List Expr} (h : WEs c k sc ρ es σ fun xs σ₁ => xs.length ≤ 16777216 ∧ Q (.lst xs) σ₁) : WE c k sc ρ (.List es pos) σ Q := .mk fun G A z s env a b I F => by
  show wpAny _ _ (do standAt pos; newList (← spliced (backTo pos (starEach es env)))) _ _ _
  refine wpAny_bind (wpAny_standAt (wpAny_bind (wpAny_mono (h.run G A z s env pos a b I F) (fun vs s₁ q8_ => q8_.elim fun z₁ σ₁ xs e₁ r₁ q9_ => q9_.elim fun hl q₁ => ?_) fun _ _ y => y)))
  refine wpAny_newList ?_ (by rw [VRs_length xs r₁, sizeLine_eq]; exact hl)
  obtain ⟨z₂, e₂, ho⟩ := push_frozen (P := fun _ => False) e₁.inv { cls := .type "list", data := .seq vs.toArray }
  exact ⟨z₂, σ₁, _, e₁.trans e₂, VR_lst.mpr ⟨_, vs.toArray, rfl, ⟨_, ho⟩, by rw [List.toList_toArray]; exact VRs.sub e₂.zz xs r₁⟩, q₁⟩
theorem WE_listM {es : List Expr} (h : WEs c k sc ρ es σ fun xs σ₁ => xs.length ≤ 16777216 ∧ ∀ a, σ₁ a = .none → Q (.ref a) (σ₁.set a (.lst xs))) : WE c k sc ρ (.List es pos) σ Q := .mk fun G A z s env a b I F => by
  show wpAny _ _ (do standAt pos; newList (← spliced (backTo pos (starEach es env)))) _ _ _
  refine wpAny_bind (wpAny_standAt (wpAny_bind (wpAny_mono (h.run G A z s env pos a b I F) (fun vs s₁ q10_ => q10_.elim fun z₁ σ₁ xs e₁ r₁ q11_ => q11_.elim fun hl q₁ => ?_) fun _ _ y => y)))
  refine wpAny_newList ?_ (by rw [VRs_length xs r₁, sizeLine_eq]; exact hl)
  obtain ⟨hn, e₂⟩ := push_mut (P := fun _ => False) (x := .lst xs) (o := { cls := .type "list", data := .seq vs.toArray }) G e₁.inv ⟨rfl, vs.toArray, 0, rfl, by rw [List.toList_toArray]; exact r₁⟩
  exact ⟨z₁, _, _, e₁.trans e₂, VR_ref.mpr rfl, q₁ _ hn⟩
noncomputable def KeepV (c : Cx) : V → Bool
  | .bi _ | .ty _ => true
  | .glob a => keepIn c.K (.ref a)
  | _ => false
theorem keepV_sound {M : Model} {f : V} {vf : Value} (hk : KeepV c f = true) {z : Heap} (r : VR c z f vf) (h : Heap) (X : c.K.In h) : ∃ k, (k = Keeper.frame ∨ k = Keeper.machine ∨ k = Keeper.boundFrame) ∧ Looks M h (keeperOf vf) k := by
  cases f with
  | bi _ => rw [VR_bi.mp r]; exact ⟨.machine, .inr (.inl rfl), Looks.of_pure rfl⟩
  | ty _ => rw [VR_ty.mp r]; exact ⟨.machine, .inr (.inl rfl), Looks.of_pure rfl⟩
  | glob a => rw [VR_glob.mp r]; exact keeps_K (show keepIn c.K (.ref a) = true from hk) h X
  | _ => exact absurd hk Bool.false_ne_true
theorem VRs_app {z : Heap} {xs : List V} {vs : List Value} (hx : VRs c z xs vs) : ∀ (fst : List V) (vfst : List Value), VRs c z fst vfst → VRs c z (fst ++ xs) (vfst ++ vs)
  | [], _, h => by rw [VRs_nil.mp h]; exact hx
  | x :: r, _, h => by
    obtain ⟨v, vr, rfl, h1, h2⟩ := VRs_cons.mp h
    exact VRs_cons.mpr ⟨v, vr ++ vs, rfl, h1, VRs_app hx r _ h2⟩
theorem callArgs {f : V} {fst : List V} {e : Expr} {rest : List Expr} {z : Heap} {σ : Sto} {s : Shared} {A : Around} {env : Env} {vf : Value} {vfst : List Value} (G : c.Good) (a : AOk k A) (b : EnvOk sc env) (I : Inv c z σ s) (F : Frm c z σ env ρ s.heap)
    (hk : KeepV c f = true) (r : VR c z f vf) (rf : VRs c z fst vfst) (h : WEs c k sc ρ (e :: rest) σ fun xs σ₂ => WC c k f (fst ++ xs) σ₂ Q)
    (he : starEach (e :: rest) env = (false, eval e env) :: starEach rest env) (hp : (backTo pos (starEach rest env)).any (·.1) = false) :
    wpAny (model c.prog c.w) A (callWith pos vf vfst (backTo pos (starEach (e :: rest) env)) []) (Post c (fun _ => False) z σ s Q) noE s := by
  have main : wpAny (model c.prog c.w) A (spliced (backTo pos (starEach (e :: rest) env))) (fun vs s₁ => c.K.In s₁.heap ∧ wpAny (model c.prog c.w) A (call vf (vfst ++ vs)) (Post c (fun _ => False) z σ s Q) noE s₁) noE s :=
    wpAny_mono (h.run G A z s env pos a b I F) (fun vs s₁ q12_ => q12_.elim fun z₁ σ₁ xs e₁ r₁ q₁ => 
      ⟨e₁.kin G, wpAny_mono (q₁.run G A z₁ s₁ vf _ a e₁.inv (r.sub e₁.zz) (VRs_app r₁ _ _ (VRs.sub e₁.zz fst rf))) (fun _ _ h => Post.ext e₁ h) fun _ _ y => y⟩) fun _ _ y => y
  rw [he] at main ⊢
  refine callWith_of (P := c.K.In) (by show ((false || (backTo pos (starEach rest env)).any (·.1)) || false) = false; rw [hp]; rfl) (fun h X => keepV_sound hk r h X) ?_
  exact evalArgs_plain main
theorem callArgs0 {f : V} {fst : List V} {z : Heap} {σ : Sto} {s : Shared} {A : Around} {env : Env} {vf : Value} {vfst : List Value} (G : c.Good) (a : AOk k A) (I : Inv c z σ s)
    (hk : KeepV c f = true) (r : VR c z f vf) (rf : VRs c z fst vfst) (h : WC c k f fst σ Q) :
    wpAny (model c.prog c.w) A (callWith pos vf vfst (backTo pos (starEach [] env)) []) (Post c (fun _ => False) z σ s Q) noE s :=
  callWith_of (P := c.K.In) rfl (fun h X => keepV_sound hk r h X) (evalArgs_nil3 ⟨I.kin G, by
    show wpAny _ _ (call vf (vfst ++ []) []) _ _ _
    rw [List.append_nil]
    exact h.run G A z s vf vfst a I r rf⟩)
theorem WE_call {x : Str} {np : Pos} {e : Expr} {rest : List Expr} (h : WE c k sc ρ (.Name x np) σ fun f σ₁ => KeepV c f = true ∧ WEs c k sc ρ (e :: rest) σ₁ fun xs σ₂ => WC c k f xs σ₂ Q)
    (he : ∀ env, starEach (e :: rest) env = (false, eval e env) :: starEach rest env := by exact fun _ => rfl) (hp : ∀ env, (backTo pos (starEach rest env)).any (·.1) = false := by exact fun _ => rfl) :
    WE c k sc ρ (.Call (.Name x np) (e :: rest) [] pos) σ Q := .mk fun G A z s env a b I F =>
  wpAny_Call_NameR (wpAny_mono (h.run G A z s env a b I F) (fun v₁ s₁ q13_ => q13_.elim fun z₁ σ₁ f e₁ r₁ q14_ => q14_.elim fun hk q₁ => 
    wpAny_mono (callArgs (fst := []) G a b e₁.inv (F.ext e₁) hk r₁ (VRs_nil.mpr rfl) q₁ (he env) (hp env)) (fun _ _ h => Post.ext e₁ h) fun _ _ y => y) fun _ _ y => y)
structure MetP (c : Cx) (ov : V) (name : Str) (σ : Sto) (f : V) : Prop where
  run : c.Good → ∀ A z s va pl, AOk 0 A → Inv c z σ s → VR c z ov va → ∀ (Q : Value × List Value → Shared → Prop), (∀ vf t, VR c z f vf → Q (vf, [va]) { s with toks := t }) → wpAny (model c.prog c.w) A (getMethod va name pl) Q noE s
noncomputable def metOk (K : Frag) (C : Addr) (name : Str) (f : Addr) : Bool := plainGet K C name && findIn K (.ref C) name == some (some (.ref f)) && typeIn K (.ref f) == some (.type "function")
theorem MetP_inst {cl f : Addr} {fs : List (Str × V)} {name : Str} (ok : metOk c.K cl name f = true) (hn : fs.lookup name = none) : MetP c (.inst cl fs) name σ (.glob f) := .mk fun G A z s va pl a I r Q hq => by
  obtain ⟨y, d, es, n, rfl, h1, h2, h3, h4⟩ := VR_inst.mp r
  unfold metOk at ok
  simp only [Bool.and_eq_true, beq_iff_eq] at ok
  obtain ⟨⟨o1, o2⟩, o3⟩ := ok
  exact method_fn (I.kin G) (instAt (I.keep _ _ h1) (I.keep _ _ h2)) (plainGet_of o1).1 (plainGet_of o1).2 o2 o3 (by show (lookIn name (dictOf es n)).map _ = _; rw [lookIn_gl h3.keys, h3.names _ hn]; rfl) (hq _ s.toks (VR_glob.mpr rfl))
theorem MetP_obj {cl y d f : Addr} {fs : List (Str × V)} {name : Str} (ok : metOk c.K cl name f = true) (hσ : σ d = some (.flds fs)) (hn : fs.lookup name = none) : MetP c (.obj cl y d) name σ (.glob f) := .mk fun G A z s va pl a I r Q hq => by
  obtain ⟨rfl, h1⟩ := VR_obj.mp r
  obtain ⟨g1, g2, ob, g3, es, n, rfl, h3, h4⟩ := I.mt d _ hσ
  unfold metOk at ok
  simp only [Bool.and_eq_true, beq_iff_eq] at ok
  obtain ⟨⟨o1, o2⟩, o3⟩ := ok
  exact method_fn (I.kin G) (instAt (I.keep _ _ h1) g3) (plainGet_of o1).1 (plainGet_of o1).2 o2 o3 (by show (lookIn name (dictOf es n)).map _ = _; rw [lookIn_gl h3.keys, h3.names _ hn]; rfl) (hq _ s.toks (VR_glob.mpr rfl))
theorem methodCall_eq {o : Expr} {name : Str} {apos : Pos} {args : List Expr} {env : Env} (hb : ∀ env whole, attributeBase o name env whole = whole) : eval (.Call (.Attribute o name apos) args [] pos) env = (do
      let ov ← eval o env
      standAt apos.atName
      methodCall o name apos pos env ov (args.length + 0) (backTo pos (starEach args env)) []) := by
  show (do let ov ← attributeBase o name env (eval o env); standAt apos.atName; methodCall o name apos pos env ov (args.length + 0) (backTo pos (starEach args env)) []) = _
  rw [hb]
theorem methodPos {M : Model} {A : Around} {o : Expr} {apos : Pos} {env : Env} {few : Bool} {s : Shared} {Q : Pos → Shared → Prop} {E : Value → Shared → Prop} (hl : (apos.endLine == pos.line) = true) (h : Q pos s) : wpAny M A (methodCallPos few o env apos pos) Q E s := by
  unfold methodCallPos
  rw [hl, Bool.or_true]
  exact wpAny_pure h
theorem WE_meth {o : Expr} {name : Str} {apos : Pos} {e : Expr} {rest : List Expr} (h : WE c k sc ρ o σ fun ov σ₁ => ∃ f, MetP c ov name σ₁ f ∧ KeepV c f = true ∧ WEs c k sc ρ (e :: rest) σ₁ fun xs σ₂ => WC c k f (ov :: xs) σ₂ Q)
    (hb : ∀ env whole, attributeBase o name env whole = whole := by exact fun _ _ => rfl) (hl : (apos.endLine == pos.line) = true := by rfl)
    (he : ∀ env, starEach (e :: rest) env = (false, eval e env) :: starEach rest env := by exact fun _ => rfl) (hp : ∀ env, (backTo pos (starEach rest env)).any (·.1) = false := by exact fun _ => rfl)
    (hf : ∀ env, methodCallForm ((e :: rest).length + 0) (backTo pos (starEach (e :: rest) env)) [] = true := by exact fun _ => rfl) :
    WE c k sc ρ (.Call (.Attribute o name apos) (e :: rest) [] pos) σ Q := .mk fun G A z s env a b I F => by
  rw [methodCall_eq hb]
  refine wpAny_bind (wpAny_mono (h.run G A z s env a b I F) (fun ov s₁ q17_ => q17_.elim fun z₁ σ₁ x₁ e₁ r₁ q18_ => q18_.elim fun f q19_ => q19_.elim fun m q20_ => q20_.elim fun hk q₁ => wpAny_bind (wpAny_standAt ?_)) fun _ _ y => y)
  unfold methodCall
  rw [hf]
  refine wpAny_bind (wpAny_holding (m.run G A z₁ s₁ ov _ a.zero e₁.inv r₁ _ fun vf t rf => ?_))
  dsimp only
  refine wpAny_bind (methodPos hl ?_)
  have e₂ := Ext.toks (P := fun _ => False) e₁.inv t
  exact wpAny_mono (callArgs (fst := [x₁]) G a b e₂.inv (F.ext (e₁.trans e₂)) hk rf (VRs_cons.mpr ⟨ov, [], rfl, r₁, VRs_nil.mpr rfl⟩) q₁ (he env) (hp env)) (fun _ _ h => Post.ext (e₁.trans e₂) h) fun _ _ y => y
theorem WE_meth0 {o : Expr} {name : Str} {apos : Pos} (h : WE c k sc ρ o σ fun ov σ₁ => ∃ f, MetP c ov name σ₁ f ∧ KeepV c f = true ∧ WC c k f [ov] σ₁ Q)
    (hb : ∀ env whole, attributeBase o name env whole = whole := by exact fun _ _ => rfl) (hl : (apos.endLine == pos.line) = true := by rfl) :
    WE c k sc ρ (.Call (.Attribute o name apos) [] [] pos) σ Q := .mk fun G A z s env a b I F => by
  rw [methodCall_eq hb]
  refine wpAny_bind (wpAny_mono (h.run G A z s env a b I F) (fun ov s₁ q21_ => q21_.elim fun z₁ σ₁ x₁ e₁ r₁ q22_ => q22_.elim fun f q23_ => q23_.elim fun m q24_ => q24_.elim fun hk q₁ => wpAny_bind (wpAny_standAt ?_)) fun _ _ y => y)
  unfold methodCall
  rw [show methodCallForm (([] : List Expr).length + 0) (backTo pos (starEach [] env)) [] = true from rfl]
  refine wpAny_bind (wpAny_holding (m.run G A z₁ s₁ ov _ a.zero e₁.inv r₁ _ fun vf t rf => ?_))
  dsimp only
  refine wpAny_bind (methodPos hl ?_)
  have e₂ := Ext.toks (P := fun _ => False) e₁.inv t
  exact wpAny_mono (callArgs0 (fst := [x₁]) G a e₂.inv hk rf (VRs_cons.mpr ⟨ov, [], rfl, r₁, VRs_nil.mpr rfl⟩) q₁) (fun _ _ h => Post.ext (e₁.trans e₂) h) fun _ _ y => y
end Mine
end
section
namespace Mine
variable {c : Cx} {k : Nat} {sc : Scope} {ρ : Loc} {σ : Sto} {pos : Pos} {QS : Fl → Loc → Sto → Prop}
theorem PostS.ext {env : Env} {z z₁ : Heap} {σ₁ : Sto} {s s₁ : Shared} {f : Flow} {s' : Shared} (x : Ext c (Fw env) z σ s z₁ σ₁ s₁) (h : PostS c env z₁ σ₁ s₁ QS f s') : PostS c env z σ s QS f s' := by
  obtain ⟨z', σ', ρ', fl, e, F, r, q⟩ := h
  exact ⟨z', σ', ρ', fl, x.trans e, F, r, q⟩
theorem WB_nil (h : QS .next ρ σ) : WB c k sc ρ [] σ QS := .mk fun G A z s env a b I F => wpAny_execs_nil ⟨z, σ, ρ, .next, Ext.refl I, F, rfl, h⟩
theorem WB_cons {st : Stmt} {rest : List Stmt} (h : WS c k sc ρ st σ fun fl ρ₁ σ₁ => match fl with | .next => WB c k sc ρ₁ rest σ₁ QS | fl => QS fl ρ₁ σ₁) : WB c k sc ρ (st :: rest) σ QS := .mk fun G A z s env a b I F =>
  wpAny_execs_cons (wpAny_mono (h.run G A z s env a b I F) (fun f s₁ q1_ => q1_.elim fun z₁ σ₁ ρ₁ fl e₁ F₁ r₁ q₁ => by
    cases fl with
    | next =>
      cases r₁
      exact wpAny_mono (q₁.run G A z₁ s₁ env a b e₁.inv F₁) (fun _ _ h => PostS.ext e₁ h) fun _ _ y => y
    | brk => cases r₁; exact ⟨z₁, σ₁, ρ₁, .brk, e₁, F₁, rfl, q₁⟩
    | cont => cases r₁; exact ⟨z₁, σ₁, ρ₁, .cont, e₁, F₁, rfl, q₁⟩
    | ret x => obtain ⟨v, rfl, hv⟩ := r₁; exact ⟨z₁, σ₁, ρ₁, .ret x, e₁, F₁, ⟨v, rfl, hv⟩, q₁⟩) fun _ _ y => y)
theorem WS.mono {st : Stmt} {QS' : Fl → Loc → Sto → Prop} (h : WS c k sc ρ st σ QS) (q : ∀ fl ρ' σ', QS fl ρ' σ' → QS' fl ρ' σ') : WS c k sc ρ st σ QS' := .mk fun G A z s env a b I F =>
  wpAny_mono (h.run G A z s env a b I F) (fun _ _ q2_ => q2_.elim fun z' σ' ρ' fl e f r hq => ⟨z', σ', ρ', fl, e, f, r, q _ _ _ hq⟩) fun _ _ y => y
theorem WB.mono {st : List Stmt} {QS' : Fl → Loc → Sto → Prop} (h : WB c k sc ρ st σ QS) (q : ∀ fl ρ' σ', QS fl ρ' σ' → QS' fl ρ' σ') : WB c k sc ρ st σ QS' := .mk fun G A z s env a b I F =>
  wpAny_mono (h.run G A z s env a b I F) (fun _ _ q3_ => q3_.elim fun z' σ' ρ' fl e f r hq => ⟨z', σ', ρ', fl, e, f, r, q _ _ _ hq⟩) fun _ _ y => y
theorem WS_return {e : Expr} (h : WE c k sc ρ e σ fun x σ₁ => QS (.ret x) ρ σ₁) : WS c k sc ρ (.Return (some e) pos) σ QS := .mk fun G A z s env a b I F =>
  wpAny_Return_some (wpAny_mono (h.run G A z s env a b I F) (fun v s₁ q4_ => q4_.elim fun z₁ σ₁ x e₁ r₁ q₁ => ⟨z₁, σ₁, ρ, .ret x, e₁.none, F.ext e₁, ⟨v, rfl, r₁⟩, q₁⟩) fun _ _ y => y)
theorem WS_return0 (h : QS (.ret .none) ρ σ) : WS c k sc ρ (.Return none pos) σ QS := .mk fun G A z s env a b I F =>
  wpAny_Return_none ⟨z, σ, ρ, .ret .none, Ext.refl I, F, ⟨_, rfl, VR_none.mpr rfl⟩, h⟩
theorem WS_if {test : Expr} {body orelse : List Stmt} (h : WT c k sc ρ test σ fun b σ₁ => (b = true → WB c k sc ρ body σ₁ QS) ∧ (b = false → WB c k sc ρ orelse σ₁ QS)) : WS c k sc ρ (.If test body orelse pos) σ QS := .mk fun G A z s env a b I F =>
  wpAny_If (wpAny_mono (h.run G A z s env a b I F) (fun t s₁ q5_ => q5_.elim fun z₁ σ₁ e₁ q₁ => by
    cases t with
    | true => exact wpAny_mono ((q₁.1 rfl).run G A z₁ s₁ env a b e₁.inv (F.ext e₁)) (fun _ _ h => PostS.ext e₁.none h) fun _ _ y => y
    | false => exact wpAny_mono ((q₁.2 rfl).run G A z₁ s₁ env a b e₁.inv (F.ext e₁)) (fun _ _ h => PostS.ext e₁.none h) fun _ _ y => y) fun _ _ y => y)
theorem WS_expr {e : Expr} (h : WE c k sc ρ e σ fun x σ₁ => x = .none ∧ QS .next ρ σ₁) (hi : ∀ env, EnvOk sc env → interactive env = false) (hs : ∀ env n, swapsWith e none n env = pure false := by exact fun _ _ => rfl) : WS c k sc ρ (.Expr e pos) σ QS := .mk fun G A z s env a b I F =>
  wpAny_Expr (wpAny_mono (h.run G A z s env a b I F) (fun v s₁ q6_ => q6_.elim fun z₁ σ₁ x e₁ r₁ q7_ => q7_.elim fun hx q₁ => by
    subst hx
    rw [VR_none.mp r₁]
    exact ⟨z₁, σ₁, ρ, .next, e₁.none, F.ext e₁, rfl, q₁⟩) fun _ _ y => y) (hi env b) (hs env _)
theorem notInter {env : Env} (h : EnvOk sc env) : interactive env = false := by
  unfold interactive
  rw [h.scope, h.kind]; rfl
theorem Frm.setLocal {z : Heap} {env : Env} {s : Shared} {h' : Heap} {x : Str} {V : V} {v : Value} {t : Nat} (I : Inv c z σ s) (F : Frm c z σ env ρ s.heap) (hk : env.kindOf x = some .local) (hs : Heap.SameBut env.locals s.heap h') (hv : VR c z V v)
    (hn : ∀ m, s.heap.Ns env.locals m → h'.Ns env.locals (fun y => if y = x then some v else m y)) :
    Ext c (fun b => b = env.locals) z σ s z σ { s with heap := h', toks := t } ∧ Frm c z σ env (putF x V ρ) h' := by
  obtain ⟨m, nm, hm⟩ := F.ns
  refine ⟨⟨⟨I.base, fun b o e => ?_, fun a o e => ?_⟩, .refl z, fun b o e n p => ?_, fun b h => h.elim .inl fun q => .inr (.inl q), fun b e => ?_, rfl, rfl, rfl⟩, ⟨⟨_, hn m nm, fun y W e ky => ?_⟩, fun y W e ky => ?_, F.own, fun y a e => ?_, F.apart, F.has⟩⟩
  · rw [hs.2 b (by rintro rfl; rw [F.own.1] at e; cases e)]; exact I.keep b o e
  · obtain ⟨h1, h2, ob, h3, h4⟩ := I.mt a o e
    exact ⟨h1, h2, ob, (hs.2 a (by rintro rfl; rw [F.own.2] at e; cases e)).trans h3, h4⟩
  · rw [hs.2 b (by rintro rfl; exact p rfl)]; exact e
  · by_cases hb : b = env.locals
    · subst hb
      obtain ⟨o, es, ep, ho, _⟩ := hn m nm
      rw [show h'.get? env.locals = some o from ho] at e; cases e
    · exact (hs.2 b hb).symm.trans e
  · rw [putF_lookup] at e
    by_cases q : y = x
    · subst q
      rw [if_pos rfl] at e; cases e
      exact ⟨v, if_pos rfl, hv⟩
    · rw [if_neg q] at e
      obtain ⟨v', h1, h2⟩ := hm y W e ky
      exact ⟨v', by rw [if_neg q]; exact h1, h2⟩
  · rw [putF_lookup] at e
    by_cases q : y = x
    · subst q
      rw [hk] at ky
      rcases ky with h | h <;> cases h
    · rw [if_neg q] at e
      obtain ⟨a, v', h1, h2, h3⟩ := F.cl y W e ky
      exact ⟨a, v', h1, h2.sameBut hs (F.cells y a h1).2.2.1, h3⟩
  · obtain ⟨h1, h2, h3, v', h4⟩ := F.cells y a e
    exact ⟨h1, h2, h3, v', h4.sameBut hs h3⟩
theorem Frm.setCell {z : Heap} {env : Env} {s : Shared} {h' : Heap} {x : Str} {V : V} {v : Value} {a : Addr} {t : Nat} (I : Inv c z σ s) (F : Frm c z σ env ρ s.heap) (hk : env.kindOf x = some .cell) (hx : env.cells.lookup x = some a) (hs : Heap.SameBut a s.heap h') (hv : VR c z V v)
    (hc : h'.IsCell a (some v)) : Ext c (Fw env) z σ s z σ { s with heap := h', toks := t } ∧ Frm c z σ env (putF x V ρ) h' := by
  obtain ⟨m, nm, hm⟩ := F.ns
  obtain ⟨c1, c2, c3, _⟩ := F.cells x a hx
  refine ⟨⟨⟨I.base, fun b o e => ?_, fun b o e => ?_⟩, .refl z, fun b o e n p => ?_, fun b h => h.elim .inl fun q => .inr (.inl q), fun b e => ?_, rfl, rfl, rfl⟩, ⟨⟨m, nm.sameBut hs (Ne.symm c3), fun y W e ky => ?_⟩, fun y W e ky => ?_, F.own, fun y b e => ?_, F.apart, F.has⟩⟩
  · rw [hs.2 b (by rintro rfl; rw [c1] at e; cases e)]; exact I.keep b o e
  · obtain ⟨h1, h2, ob, h3, h4⟩ := I.mt b o e
    exact ⟨h1, h2, ob, (hs.2 b (by rintro rfl; rw [c2] at e; cases e)).trans h3, h4⟩
  · rw [hs.2 b (by rintro rfl; exact p (.inr ⟨x, hx⟩))]; exact e
  · by_cases hb : b = a
    · subst hb
      obtain ⟨o, ho, _⟩ := hc
      rw [show h'.get? b = some o from ho] at e; cases e
    · exact (hs.2 b hb).symm.trans e
  · rw [putF_lookup] at e
    by_cases q : y = x
    · subst q; rw [hk] at ky; cases ky
    · rw [if_neg q] at e; exact hm y W e ky
  · rw [putF_lookup] at e
    by_cases q : y = x
    · subst q
      rw [if_pos rfl] at e; cases e
      exact ⟨a, v, hx, hc, hv⟩
    · rw [if_neg q] at e
      obtain ⟨b, v', h1, h2, h3⟩ := F.cl y W e ky
      exact ⟨b, v', h1, h2.sameBut hs (fun e' => q (F.apart y x a (e' ▸ h1) hx)), h3⟩
  · obtain ⟨h1, h2, h3, v', h4⟩ := F.cells y b e
    refine ⟨h1, h2, h3, ?_⟩
    by_cases hb : b = a
    · subst hb; exact ⟨_, hc⟩
    · exact ⟨v', h4.sameBut hs hb⟩
structure WA (c : Cx) (k : Nat) (sc : Scope) (ρ : Loc) (t : Expr) (x : V) (σ : Sto) (Q : Loc → Sto → Prop) : Prop where
  run : c.Good → ∀ A z s env v, AOk k A → EnvOk sc env → Inv c z σ s → Frm c z σ env ρ s.heap → VR c z x v →
    wpAny (model c.prog c.w) A (assign t env v) (fun _ s' => PostA c env z σ s Q s') noE s
section
variable {QA : Loc → Sto → Prop} {x : V}
theorem assign_local {n : Str} {A : Around} {z : Heap} {s : Shared} {env : Env} {v : Value} (hk : sc.names.lookup n = some .local) (b : EnvOk sc env) (I : Inv c z σ s) (F : Frm c z σ env ρ s.heap) (r : VR c z x v) :
    wpAny (model c.prog c.w) A (assign (.Name n pos) env v) (fun _ s' => Ext c (fun b => b = env.locals) z σ s z σ s' ∧ Frm c z σ env (putF n x ρ) s'.heap) noE s := by
  have hk' : env.kindOf n = some .local := by unfold Env.kindOf; rw [b.scope]; exact hk
  show wpAny _ _ (do standAt pos; bindName env n v) _ _ _
  obtain ⟨m, nm, _⟩ := F.ns
  refine wpAny_bind (wpAny_standAt (wpAny_bindName (wpAny_storeName_local hk' nm (fun h' hn hs => ?_) (by rw [b.scope, b.kind]; rfl))))
  exact Frm.setLocal I F hk' hs r (t := s.toks + 1) (fun m' nm' => by
    have : m' = m := by
      obtain ⟨o, es, ep, ho, hd, hk, hm⟩ := nm
      obtain ⟨o', es', ep', ho', hd', hk', hm'⟩ := nm'
      rw [ho] at ho'; cases ho'
      rw [hd] at hd'; cases hd'
      funext y; rw [← hm, ← hm']
    subst this; exact hn)
theorem WA_local {n : Str} (hk : sc.names.lookup n = some .local) (h : QA (putF n x ρ) σ) : WA c k sc ρ (.Name n pos) x σ QA := .mk fun G A z s env v a b I F r =>
  wpAny_mono (assign_local hk b I F r) (fun _ s' q8_ => q8_.elim fun e F' => ⟨z, σ, _, e.weaken (fun _ h => .inl h), F', h⟩) fun _ _ y => y
theorem WA_cell {n : Str} (hk : sc.names.lookup n = some .cell) (h : QA (putF n x ρ) σ) : WA c k sc ρ (.Name n pos) x σ QA := .mk fun G A z s env v a b I F r => by
  have hk' : env.kindOf n = some .cell := by unfold Env.kindOf; rw [b.scope]; exact hk
  show wpAny _ _ (do standAt pos; bindName env n v) _ _ _
  obtain ⟨ad, ha⟩ := Option.isSome_iff_exists.mp (F.has n hk')
  obtain ⟨c1, c2, c3, v₀, c4⟩ := F.cells n ad ha
  refine wpAny_bind (wpAny_standAt (wpAny_bindName (wpAny_storeName_cell (b.scope ▸ b.kind) hk' ha c4 (fun h' hn hs => ?_))))
  obtain ⟨e, F'⟩ := Frm.setCell I F hk' ha hs r hn (t := s.toks)
  exact ⟨z, σ, _, e, F', h⟩
theorem WA_attr {o : Expr} {name : Str} (h : WE c k sc ρ o σ fun ov σ₁ => ∃ cl y d fs, ov = .obj cl y d ∧ σ₁ d = some (.flds fs) ∧ setOk c.K cl name = true ∧ fs.length ≤ 1000 ∧ QA ρ (σ₁.set d (.flds (putF name x fs)))) :
    WA c k sc ρ (.Attribute o name pos) x σ QA := .mk fun G A z s env v a b I F r => by
  show wpAny _ _ (do
    let ov ← holding [v] (eval o env)
    standAt pos.atName
    holding [v, ov] (setAttr ov name v)
    release [v, ov] []) _ _ _
  refine wpAny_bind (wpAny_holding (wpAny_mono (h.run G A z s env a b I F) (fun ov s₁ q9_ => q9_.elim fun z₁ σ₁ x₁ e₁ r₁ q10_ => q10_.elim fun cl q11_ => q11_.elim fun y q12_ => q12_.elim fun d q13_ => q13_.elim fun fs q14_ => q14_.elim fun hx q15_ => q15_.elim fun hσ q16_ => q16_.elim fun ok q17_ => q17_.elim fun hz q => ?_) fun _ _ y => y))
  subst hx
  obtain ⟨rfl, h1⟩ := VR_obj.mp r₁
  refine wpAny_bind (wpAny_standAt (wpAny_bind (wpAny_holding (setF (P := fun _ => False) G e₁.inv h1 hσ ok hz (r.sub e₁.zz) fun s₂ e₂ => ?_))))
  exact wpAny_release ⟨z₁, _, ρ, (e₁.trans e₂).none, F.ext (e₁.trans e₂), q⟩
end
theorem WS_assign {t value : Expr} (h : WE c k sc ρ value σ fun x σ₁ => WA c k sc ρ t x σ₁ fun ρ₁ σ₂ => QS .next ρ₁ σ₂)
    (hs : ∀ env n, EnvOk sc env → swapsWith value (some t) n env = pure false := by exact fun _ _ _ => rfl) (hw : ∀ env, swappedStores [t] value env = pure none := by exact fun _ => rfl)
    (ha : ∀ env, assignEach [t] env = [(false, assign t env)] := by exact fun _ => rfl) : WS c k sc ρ (.Assign [t] value pos) σ QS := .mk fun G A z s env a b I F => by
  show wpAny _ _ (do
    standAt pos
    if ← swapsWith value (some t) pos.line env then do
      evalThenUse value env fun v => assignAll v ((assignEach [t] env).map (·.2))
      pure Flow.next
    else do
      let v ← eval value env
      assignStores env v (← swappedStores [t] value env) ((assignEach [t] env).map (·.2))) _ _ _
  rw [hs _ _ b, hw, ha]
  refine wpAny_bind (wpAny_standAt (wpAny_bind (wpAny_pure ?_)))
  show wpAny _ _ (do
      let v ← eval value env
      assignStores env v (← pure none) [assign t env]) _ _ _
  refine wpAny_bind (wpAny_mono (h.run G A z s env a b I F) (fun v s₁ q18_ => q18_.elim fun z₁ σ₁ x e₁ r₁ q₁ => wpAny_bind (wpAny_pure ?_)) fun _ _ y => y)
  show wpAny _ _ (do assign t env v; pure Flow.next) _ _ _
  refine wpAny_bind (wpAny_mono (q₁.run G A z₁ s₁ env v a b e₁.inv (F.ext e₁) r₁) (fun _ s₂ q19_ => q19_.elim fun z₂ σ₂ ρ₂ e₂ F₂ q₂ => wpAny_pure ⟨z₂, σ₂, ρ₂, .next, e₁.none.trans e₂, F₂, rfl, q₂⟩) fun _ _ y => y)
end Mine
end
section
namespace Mine
variable {c : Cx} {k : Nat} {sc : Scope} {ρ : Loc} {σ : Sto} {pos : Pos} {Q : V → Sto → Prop} {QS : Fl → Loc → Sto → Prop}
noncomputable def BindR (c : Cx) (z : Heap) : Loc → List (Str × Value) → Prop
  | [], b => b = []
  | (n, x) :: r, b => ∃ v br, b = (n, v) :: br ∧ VR c z x v ∧ BindR c z r br
theorem BindR.names {z : Heap} : ∀ {ρ : Loc} {b : List (Str × Value)}, BindR c z ρ b → b.map (·.1) = ρ.map (·.1)
  | [], b, h => by rw [show b = [] from h]; rfl
  | (n, x) :: r, b, ⟨v, br, e, _, h⟩ => by subst e; rw [List.map_cons, List.map_cons, h.names]
theorem BindR.app {z : Heap} : ∀ {ρ ρ' : Loc} {b b' : List (Str × Value)}, BindR c z ρ b → BindR c z ρ' b' → BindR c z (ρ ++ ρ') (b ++ b')
  | [], _, b, _, h, g => by rw [show b = [] from h]; exact g
  | (n, x) :: r, _, b, b', ⟨v, br, e, hv, h⟩, g => by subst e; exact ⟨v, br ++ b', rfl, hv, h.app g⟩
theorem BindR.zip {z : Heap} : ∀ (ns : List Str) (xs : List V) (vs : List Value), VRs c z xs vs → BindR c z (ns.zip xs) (ns.zip vs)
  | [], _, _, _ => rfl
  | n :: ns, [], vs, h => by rw [VRs_nil.mp h]; rfl
  | n :: ns, x :: xs, vs, h => by
    obtain ⟨v, vr, rfl, h1, h2⟩ := VRs_cons.mp h
    exact ⟨v, ns.zip vr, rfl, h1, BindR.zip ns xs vr h2⟩
theorem bindL_off {kf : Str → Option NameKind} {x : Str} : ∀ (b : List (Str × Value)) (m : Str → Option Value), x ∉ b.map (·.1) → bindL kf b m x = m x
  | [], _, _ => rfl
  | (n, v) :: r, m, h => by
    rw [List.map_cons, List.mem_cons, not_or] at h
    unfold bindL
    rw [bindL_off r _ h.2]
    split
    · exact if_neg h.1
    · rfl
theorem bindC_off {kf : Str → Option NameKind} {x : Str} : ∀ (b : List (Str × Value)) (m : Str → Option Value), x ∉ b.map (·.1) → bindC kf b m x = m x
  | [], _, _ => rfl
  | (n, v) :: r, m, h => by
    rw [List.map_cons, List.mem_cons, not_or] at h
    unfold bindC
    rw [bindC_off r _ h.2]
    split
    · rfl
    · exact if_neg h.1
theorem bindL_at {kf : Str → Option NameKind} {z : Heap} {x : Str} {V : V} (hk : kf x = some .local) : ∀ {ρ : Loc} {b : List (Str × Value)} (m : Str → Option Value), BindR c z ρ b → (ρ.map (·.1)).Nodup → ρ.lookup x = some V → ∃ v, bindL kf b m x = some v ∧ VR c z V v
  | [], _, _, _, _, e => by cases e
  | (n, y) :: r, b, m, ⟨v, br, hb, hv, h⟩, nd, e => by
    subst hb
    rw [List.map_cons, List.nodup_cons] at nd
    rw [List.lookup_cons] at e
    unfold bindL
    by_cases q : x = n
    · subst q
      simp only [beq_self_eq_true] at e
      cases e
      rw [bindL_off br _ (by rw [h.names]; exact nd.1), if_pos hk]
      exact ⟨v, if_pos rfl, hv⟩
    · have : (x == n) = false := beq_eq_false_iff_ne.mpr q
      rw [this] at e
      exact bindL_at hk _ h nd.2 e
theorem bindC_at {kf : Str → Option NameKind} {z : Heap} {x : Str} {V : V} (hk : kf x ≠ some .local) : ∀ {ρ : Loc} {b : List (Str × Value)} (m : Str → Option Value), BindR c z ρ b → (ρ.map (·.1)).Nodup → ρ.lookup x = some V → ∃ v, bindC kf b m x = some v ∧ VR c z V v
  | [], _, _, _, _, e => by cases e
  | (n, y) :: r, b, m, ⟨v, br, hb, hv, h⟩, nd, e => by
    subst hb
    rw [List.map_cons, List.nodup_cons] at nd
    rw [List.lookup_cons] at e
    unfold bindC
    by_cases q : x = n
    · subst q
      simp only [beq_self_eq_true] at e
      cases e
      rw [bindC_off br _ (by rw [h.names]; exact nd.1), if_neg hk]
      exact ⟨v, if_pos rfl, hv⟩
    · have : (x == n) = false := beq_eq_false_iff_ne.mpr q
      rw [this] at e
      exact bindC_at hk _ h nd.2 e
theorem lookup_mem {β : Type} {x : Str} {v : β} : ∀ {l : List (Str × β)}, l.lookup x = some v → (x, v) ∈ l
  | [], e => by cases e
  | (m, d) :: r, e => by
    rw [List.lookup_cons] at e
    by_cases h : x = m
    · subst h; simp only [beq_self_eq_true] at e; cases e; exact .head _
    · rw [beq_eq_false_iff_ne.mpr h] at e; exact .tail _ (lookup_mem e)
theorem Ext.frame {P : Addr → Prop} {z z' : Heap} {σ σ' : Sto} {s s₁ s' : Shared} (x : Ext c (fun _ => False) z σ s z σ s₁) (y : Ext c P z σ s₁ z' σ' s') (hp : ∀ b, P b → s.heap.get? b = .none) : Ext c (fun _ => False) z σ s z' σ' s' :=
  ⟨y.inv, y.zz, fun b o e n _ => y.out b o (x.out b o e n id) n (fun q => by rw [hp b q] at e; cases e), fun b h => by
    rcases y.own b h with h | h | h
    · exact .inl h
    · exact .inr (.inl h)
    · exact .inr (.inr (x.live b h)), fun b e => x.live b (y.live b e), y.gens.trans x.gens, y.drawn.trans x.drawn, y.os.trans x.os⟩
theorem pairwise_lookup {cs : List (Str × Addr)} (h : cs.Pairwise fun x y => x.2 ≠ y.2) {x y : Str} {a : Addr} (hx : cs.lookup x = some a) (hy : cs.lookup y = some a) : x = y := by
  induction cs with
  | nil => cases hx
  | cons p r ih =>
    obtain ⟨n, b⟩ := p
    rw [List.pairwise_cons] at h
    rw [List.lookup_cons] at hx hy
    have mem : ∀ z, r.lookup z = some b → False := fun z hz => h.1 _ (lookup_mem hz) rfl
    by_cases e1 : x = n <;> by_cases e2 : y = n
    · rw [e1, e2]
    · subst e1
      simp only [beq_self_eq_true] at hx; cases hx
      rw [beq_eq_false_iff_ne.mpr e2] at hy
      exact (mem y hy).elim
    · subst e2
      simp only [beq_self_eq_true] at hy; cases hy
      rw [beq_eq_false_iff_ne.mpr e1] at hx
      exact (mem x hx).elim
    · rw [beq_eq_false_iff_ne.mpr e1] at hx
      rw [beq_eq_false_iff_ne.mpr e2] at hy
      exact ih h.2 hx hy
structure FnOk (K : Frag) (a : Addr) (fd : FuncData) (body : List Stmt) : Prop where
  at_ : ∃ oc od osl, K.lookup a = some ⟨oc, od, .func fd, osl⟩
  body : fd.body = .stmts body
  co : fd.scope.isCoroutine = false
  gen : fd.scope.isGenerator = false
  kind : fd.scope.kind = .function
  globals : fd.globals = mainGlobals
  closure : fd.closure = []
  builtins : fd.builtins = builtinsNs
  code : codeIn K fd.code fd.qualname = true
theorem WC_of {f : V} {xs : List V} (h : WCc c k f xs σ Q) : WC c k f xs σ Q := .mk fun G A z s vf vs ao I rf rs => wpAny_call (h.run G A z s vf vs ao I rf rs)
theorem WCc_def {a : Addr} {fd : FuncData} {body : List Stmt} {xs : List V} {ρ₀ : Loc} (ok : FnOk c.K a fd body)
    (hb : ∀ z vs, c.K.In z → VRs c z xs vs → ∃ binds, (∀ S, peek c.K S (bindArgs fd ⟨vs, []⟩) = some binds) ∧ BindR c z ρ₀ binds)
    (hl : (ρ₀.all fun x => fd.scope.names.lookup x.1 == some .local || fd.scope.names.lookup x.1 == some .cell) = true) (hnd : (ρ₀.map (·.1)).Nodup)
    (h : WB c k fd.scope ρ₀ body σ fun fl _ σ' => Q (match fl with | .ret x => x | _ => .none) σ') : WCc c (k + 1) (.glob a) xs σ Q := .mk fun G A z s vf vs ao I rf rs => by
  obtain ⟨oc, od, osl, hK⟩ := ok.at_
  rw [VR_glob.mp rf]
  obtain ⟨binds, hbd, hbr⟩ := hb z vs (G.X.keeps I.base) rs
  have ho := I.kin G _ _ hK
  have hkind : ∀ n, ∀ x ∈ binds, fd.scope.names.lookup x.1 = some .local ∨ (fd.scope.names.lookup x.1 = some .cell ∧ ((cellsFrom n fd.scope.names []).lookup x.1).isSome = true) := kindsX (by
    rw [List.all_eq_true] at hl ⊢
    intro x hx
    have : x.1 ∈ ρ₀.map (·.1) := hbr.names ▸ List.mem_map_of_mem hx
    obtain ⟨y, hy, e⟩ := List.mem_map.mp this
    rw [← e]
    exact hl y hy)
  obtain ⟨p, lo, mg, mb, T⟩ := G.T
  refine (codeAny_call_function (by show A.depth < recursionLimit; have := ao.depth; show A.depth < 1000; lia) ho rfl ok.co ok.gen ok.body (codeRec_of (I.kin G) ok.code) (kp_binds (I.kin G) hbd _ _ _ _ ?_))
  rw [ok.closure, ok.globals, ok.builtins]
  refine wpAny_newFunctionEnv_cells ok.kind (hkind _) fun env he s' x => ?_
  obtain ⟨h₁, tk, hs'⟩ := x.toInCall.same
  subst hs'
  refine ⟨(T.nolimit.keeps (I.base.trans I.keep)).keeps x.toInCall.keep, codeAny_func ?_⟩
  have e₁ : Ext c (fun _ => False) z σ s z σ { s with heap := h₁, toks := tk } :=
    ⟨⟨I.base, I.keep.trans x.toInCall.keep, fun a o e => by
      obtain ⟨h1, h2, ob, h3, h4⟩ := I.mt a o e
      exact ⟨h1, h2, ob, x.toInCall.keep _ _ h3, h4⟩⟩, Sub.refl z, fun b o e _ _ => x.toInCall.keep b o e, fun b h => h.elim .inl fun q => .inr (.inl q), fun b e => (by
      cases q : s.heap.get? b with
      | none => rfl
      | some o => rw [show h₁.get? b = some o from x.toInCall.keep b o q] at e; cases e), rfl, rfl, rfl⟩
  have hsc : env.scope = fd.scope := by rw [he]; rfl
  have hkf : ∀ y, env.kindOf y = fd.scope.names.lookup y := fun y => by unfold Env.kindOf; rw [hsc]
  have low : ∀ b, s.heap.objs.size ≤ b → s.heap.get? b = .none := fun b hb => by
    cases q : s.heap.get? b with
    | none => rfl
    | some o => exact absurd (Heap.lt_size q) (Nat.not_lt.mpr hb)
  have fresh : ∀ b, s.heap.objs.size ≤ b → z.get? b = .none ∧ σ b = .none := fun b hb => by
    constructor
    · cases q : z.get? b with
      | none => rfl
      | some o => exact absurd (Heap.lt_size (I.keep _ _ q)) (Nat.not_lt.mpr hb)
    · cases q : σ b with
      | none => rfl
      | some o => obtain ⟨_, _, ob, h3, _⟩ := I.mt b o q; exact absurd (Heap.lt_size h3) (Nat.not_lt.mpr hb)
  have cellAbove : ∀ y b, env.cells.lookup y = some b → env.locals < b := fun y b e => by
    exact x.above y b (lookup_mem e)
  have F₁ : Frm c z σ env ρ₀ h₁ := ⟨⟨_, x.toInCall.ns, fun y V e ky => bindL_at ky _ hbr hnd e⟩, fun y V e ky => by
      obtain ⟨v, hv, rv⟩ := bindC_at (kf := env.kindOf) (by rcases ky with h | h <;> rw [h] <;> exact fun e => nomatch e) (fun _ => none) hbr hnd e
      have hc : ∃ b, env.cells.lookup y = some b := by
        rcases ky with h | h
        · rw [he]; exact Option.isSome_iff_exists.mp (cellsFrom_some _ _ _ (.inl (by rw [← hkf]; exact h)))
        · exfalso
          have hm : (y, V) ∈ ρ₀ := lookup_mem e
          have := List.all_eq_true.mp hl _ hm
          rw [← hkf, h] at this
          cases this
      obtain ⟨b, hb⟩ := hc
      exact ⟨b, v, hb, hv ▸ x.cell y b hb, rv⟩, fresh _ x.toInCall.fresh, fun y b e => by
      have := cellAbove y b e
      have hf := fresh b (Nat.le_trans x.toInCall.fresh (Nat.le_of_lt this))
      exact ⟨hf.1, hf.2, Nat.ne_of_gt this, _, x.cell y b e⟩, fun y y' b e e' => pairwise_lookup x.apart e e', fun y hy => by
      rw [he]; exact cellsFrom_some _ _ _ (.inl (by rw [← hkf]; exact hy))⟩
  refine wpAny_mono (h.run G _ z _ env ⟨ao.hand, by show A.depth + 1 + 2 * k < 900; have := ao.depth; lia, by show A.units + 3 + 16 * k < 9000; have := ao.units; lia⟩ ⟨hsc, ok.kind, by rw [he]; rfl, by rw [he]; rfl⟩ e₁.inv F₁) (fun f s₂ q1_ => q1_.elim fun z₂ σ₂ ρ₂ fl e₂ F₂ r₂ q₂ => ?_) fun _ _ y => y.elim
  have e₃ := Ext.frame e₁ e₂ fun b hb => low b (by
    rcases hb with rfl | ⟨y, hy⟩
    · exact x.toInCall.fresh
    · exact Nat.le_trans x.toInCall.fresh (Nat.le_of_lt (cellAbove y b hy)))
  cases fl with
  | ret x => obtain ⟨v, rfl, hv⟩ := r₂; exact ⟨z₂, σ₂, x, e₃, hv, q₂⟩
  | next => cases r₂; exact ⟨z₂, σ₂, .none, e₃, VR_none.mpr rfl, q₂⟩
  | brk => cases r₂; exact ⟨z₂, σ₂, .none, e₃, VR_none.mpr rfl, q₂⟩
  | cont => cases r₂; exact ⟨z₂, σ₂, .none, e₃, VR_none.mpr rfl, q₂⟩
end Mine
end
section
namespace Mine
variable {c : Cx} {k : Nat} {sc : Scope} {ρ : Loc} {σ : Sto} {pos : Pos} {Q : V → Sto → Prop} {QS : Fl → Loc → Sto → Prop}
theorem AOk.mark {A : Around} (h : AOk k A) : AOk k (A.mark none) := ⟨h.hand, h.depth, h.units⟩
theorem Ext.touch {P : Addr → Prop} {z z₁ : Heap} {σ₁ : Sto} {s s₁ : Shared} {I : Addr} {h' : Heap} {t : Nat} (x : Ext c P z σ s z₁ σ₁ s₁) (h0 : s.heap.get? I = Option.none) (hz : z₁.get? I = Option.none) (hσ : σ₁ I = Option.none)
    (hk : ∀ b o, b ≠ I → s₁.heap.get? b = some o → h'.get? b = some o) : Ext c P z σ s z₁ σ₁ { s₁ with heap := h', toks := t } :=
  ⟨⟨x.inv.base, fun b o e => hk b o (by rintro rfl; rw [hz] at e; cases e) (x.inv.keep b o e), fun a o e => by
      obtain ⟨h1, h2, ob, h3, h4⟩ := x.inv.mt a o e
      exact ⟨h1, h2, ob, hk a ob (by rintro rfl; rw [hσ] at e; cases e) h3, h4⟩⟩, x.zz, fun b o e n p => hk b o (by rintro rfl; rw [h0] at e; cases e) (x.out b o e n p), x.own, fun b e => (by
      by_cases hb : b = I
      · subst hb; exact h0
      · refine x.live b ?_
        cases q : s₁.heap.get? b with
        | none => rfl
        | some o => rw [show h'.get? b = some o from hk b o hb q] at e; cases e), x.gens, x.drawn, x.os⟩
theorem Ext.unown {P : Addr → Prop} {z z₁ : Heap} {σ₁ : Sto} {s s₁ : Shared} {I : Addr} (x : Ext c P z σ s z₁ σ₁ s₁) (h : s.heap.get? I ≠ Option.none) (hz : z.get? I = Option.none) (hσ : σ I = Option.none) : z₁.get? I = Option.none ∧ σ₁ I = Option.none := by
  constructor
  · cases q : z₁.get? I with
    | none => rfl
    | some o =>
      rcases x.own I (.inl (by rw [q]; exact fun h => nomatch h)) with g | g | g
      · exact absurd hz g
      · exact absurd hσ g
      · exact absurd g h
  · cases q : σ₁ I with
    | none => rfl
    | some o =>
      rcases x.own I (.inr (by rw [q]; exact fun h => nomatch h)) with g | g | g
      · exact absurd hz g
      · exact absurd hσ g
      · exact absurd g h
theorem Ext.adopt {P : Addr → Prop} {z z₁ : Heap} {σ₁ : Sto} {s s₁ : Shared} {a : Addr} {ob : Obj} (x : Ext c P z σ s z₁ σ₁ s₁) (h0 : s.heap.get? a = Option.none) (h1 : s₁.heap.get? a = some ob) (hz : z₁.get? a = Option.none) (hσ : σ₁ a = Option.none) :
    ∃ z₂, Ext c P z σ s z₂ σ₁ s₁ ∧ z₂.get? a = some ob ∧ Sub z₁ z₂ ∧ ∀ b, z₂.get? b ≠ Option.none → z₁.get? b ≠ Option.none ∨ b = a := by
  have sub : Sub z₁ (maskH s₁.heap (fun b => z₁.get? b ≠ Option.none ∨ b = a)) := fun b o q => by
    rw [maskH_at _ _ (.inl (by rw [q]; exact fun h => nomatch h))]; exact x.inv.keep _ _ q
  refine ⟨maskH s₁.heap (fun b => z₁.get? b ≠ Option.none ∨ b = a), ⟨⟨x.inv.base.trans sub, fun b o q => (maskH_some q).2, ?_⟩, x.zz.trans sub, x.out, ?_, x.live, x.gens, x.drawn, x.os⟩, ?_, sub, fun b q => ?_⟩
  · intro b y q
    obtain ⟨g1, g2, ob', g3, g4⟩ := x.inv.mt b y q
    refine ⟨maskH_off _ _ ?_, g2, ob', g3, g4.sub sub⟩
    rintro (h | rfl)
    · exact h g1
    · rw [hσ] at q; cases q
  · rintro b (h | h)
    · cases q : (maskH s₁.heap (fun b => z₁.get? b ≠ Option.none ∨ b = a)).get? b with
      | none => exact absurd q h
      | some ob =>
        rcases (maskH_some q).1 with h | rfl
        · exact x.own b (.inl h)
        · exact .inr (.inr h0)
    · exact x.own b (.inr h)
  · rw [maskH_at _ _ (.inr rfl)]; exact h1
  · cases q2 : (maskH s₁.heap (fun b => z₁.get? b ≠ Option.none ∨ b = a)).get? b with
    | none => exact absurd q2 q
    | some ob => exact (maskH_some q2).1
structure IterP (c : Cx) (x : V) (items : List V) : Prop where
  run : c.Good → ∀ A z σ s v Q, A.handled = none → Inv c z σ s → VR c z x v →
    (∀ I s₁ fp P St, Ext c (fun _ => False) z σ s z σ s₁ → s.heap.get? I = none → z.get? I = none → σ I = none → (∀ A', A'.handled = none → Walks c.prog c.w A' I fp [I] items.length P St) → (∀ i h, St i h → h.get? I ≠ none) →
      (∀ b ∈ fp, b = I ∨ z.get? b ≠ none) → (∀ i v, i < items.length → P i v → ∃ y, items[i]? = some y ∧ VR c z y v) → St 0 s₁.heap → Q (.ref I) s₁) →
    wpAny (model c.prog c.w) A (pyIter v) Q noE s
theorem VRs_at {z : Heap} : ∀ (l : List V) {vs : List Value} {i : Nat} {v : Value}, VRs c z l vs → vs[i]? = some v → ∃ y, l[i]? = some y ∧ VR c z y v
  | [], vs, i, v, h, e => by rw [VRs_nil.mp h] at e; simp at e
  | x :: r, vs, i, v, h, e => by
    obtain ⟨w, vr, rfl, h1, h2⟩ := VRs_cons.mp h
    cases i with
    | zero => simp at e; subst e; exact ⟨x, rfl, h1⟩
    | succ i =>
      simp only [List.getElem?_cons_succ] at e
      exact VRs_at r h2 e
theorem VRs_len {z : Heap} : ∀ (l : List V) {vs : List Value}, VRs c z l vs → vs.length = l.length
  | [], vs, h => by rw [VRs_nil.mp h]; rfl
  | x :: r, vs, h => by
    obtain ⟨w, vr, rfl, h1, h2⟩ := VRs_cons.mp h
    rw [List.length_cons, List.length_cons, VRs_len r h2]
theorem IterP_lst {l : List V} : IterP c (.lst l) l := ⟨fun G A z σ s v Q hh I r hQ => by
  obtain ⟨a, vs, rfl, hl, hv⟩ := VR_lst.mp r
  refine wpAny_pyIter_list (isList_sub I.keep hl) ?_
  obtain ⟨f1, f2, f3⟩ := I.fresh
  have hsz : vs.size = l.length := by rw [← VRs_len l hv, Array.length_toList]
  have hne : a ≠ s.heap.objs.size := by
    obtain ⟨o, ho⟩ := hl
    rintro rfl
    rw [f2] at ho; cases ho
  refine hQ s.heap.objs.size _ [s.heap.objs.size, a] _ _ ((Ext.refl I).touch (I := s.heap.objs.size) (t := s.toks) f3 f2 f1 (fun b o hb e => Heap.get?_push_of_some _ e)) f3 f2 f1 (fun A' hA => hsz ▸ Walks.list hA _ a hne vs) (fun i h st => ?_) (fun b hb => ?_) (fun i v hi e => ?_) ⟨⟨_, Heap.get?_push_size _ rfl, rfl, rfl⟩, isList_sub (fun b o e => Heap.get?_push_of_some _ (I.keep b o e)) hl⟩
  · obtain ⟨⟨o, ho, _⟩, _⟩ := st
    rw [show h.get? _ = some o from ho]; exact fun h => nomatch h
  · simp at hb
    rcases hb with rfl | rfl
    · exact .inl rfl
    · obtain ⟨o, ho⟩ := hl
      exact .inr (by rw [show z.get? _ = some _ from ho]; exact fun h => nomatch h)
  · exact VRs_at l hv (by simpa using e)⟩
theorem IterP_tup {l : List V} : IterP c (.tup l) l := ⟨fun G A z σ s v Q hh I r hQ => by
  obtain ⟨a, vs, rfl, hl, hv⟩ := VR_tup.mp r
  have hl' : z.IsTuple a vs := hl
  have sub : ∀ {z z' : Heap} (s : Sub z z') {a : Addr} {vs : Array Value} (h : z.IsTuple a vs), z'.IsTuple a vs := fun s _ _ h => let ⟨o, ho, r⟩ := h; ⟨o, s _ _ ho, r⟩
  refine wpAny_pyIter_tuple (sub I.keep hl') ?_
  obtain ⟨f1, f2, f3⟩ := I.fresh
  have hsz : vs.size = l.length := by rw [← VRs_len l hv, Array.length_toList]
  have hne : a ≠ s.heap.objs.size := by
    obtain ⟨o, ho, _⟩ := hl'
    rintro rfl
    rw [f2] at ho; cases ho
  refine hQ s.heap.objs.size _ [s.heap.objs.size, a] _ _ ((Ext.refl I).touch (I := s.heap.objs.size) (t := s.toks) f3 f2 f1 (fun b o hb e => Heap.get?_push_of_some _ e)) f3 f2 f1 (fun A' hA => hsz ▸ Walks.tuple hA _ a hne vs) (fun i h st => ?_) (fun b hb => ?_) (fun i v hi e => ?_) ⟨⟨_, Heap.get?_push_size _ rfl, rfl, rfl⟩, sub (fun b o e => Heap.get?_push_of_some _ (I.keep b o e)) hl'⟩
  · obtain ⟨⟨o, ho, _⟩, _⟩ := st
    rw [show h.get? _ = some o from ho]; exact fun h => nomatch h
  · simp at hb
    rcases hb with rfl | rfl
    · exact .inl rfl
    · obtain ⟨o, ho, _⟩ := hl'
      exact .inr (by rw [show z.get? _ = some o from ho]; exact fun h => nomatch h)
  · exact VRs_at l hv (by simpa using e)⟩
noncomputable def intsV (n : Nat) : List V := (List.range n).map fun i => V.int (i : Nat)
theorem rangeSize_nat (n : Nat) : Builtin.Range.rangeSize 0 n 1 = n := by
  unfold Builtin.Range.rangeSize
  rcases Nat.eq_zero_or_pos n with h | h
  · subst h; rfl
  · have : (0 : Int) < n := by lia
    simp [this]
    lia
theorem IterP_rng {n : Nat} (hs : Builtin.Range.small 0 n 1 = true) : IterP c (.rng n) (intsV n) := ⟨fun G A z σ s v Q hh I r hQ => by
  replace r := VR_rng.mp r
  obtain ⟨a, t₁, t₂, t₃, rfl, ho⟩ := r
  refine wpAny_pyIter_range (I.keep _ _ ho) hs ?_
  obtain ⟨f1, f2, f3⟩ := I.fresh
  have hl : (intsV n).length = n := by unfold intsV; simp
  refine hQ s.heap.objs.size _ [s.heap.objs.size] _ _ ((Ext.refl I).touch (I := s.heap.objs.size) (t := s.toks) f3 f2 f1 (fun b o hb e => Heap.get?_push_of_some _ e)) f3 f2 f1 (fun A' hA => hl.symm ▸ Walks.range hA _ 0 1 n) (fun i h st => ?_) (fun b hb => ?_) (fun i v hi e => ?_) ?_
  · rw [st]; exact fun h => nomatch h
  · simp at hb; exact .inl hb
  · obtain ⟨t, rfl⟩ := e
    rw [hl] at hi
    exact ⟨.int i, by unfold intsV; simp [hi], VR_int.mpr ⟨t, by simp⟩⟩
  · have := Heap.get?_push_size s.heap (o := { cls := .type "range_iterator", data := .fields #[rawInt 0, rawInt (Builtin.Range.rangeSize 0 n 1), rawInt 1] }) rfl
    rw [rangeSize_nat] at this ⊢
    show IsRangeIter _ _ (0 + ((0 : Nat) : Int) * 1) (((intsV n).length : Int) - ((0 : Nat) : Int)) 1
    rw [hl]
    simpa using this⟩
theorem VRi_len {z : Heap} : ∀ (l : List (Int × V)) {es : List (Int × Value)}, VRi c z l es → es.length = l.length
  | [], es, h => by cases VRi_nil.mp h; rfl
  | (a, x) :: r, es, h => by
    replace h := VRi_cons.mp h
    obtain ⟨w, vr, rfl, h1, h2⟩ := h
    rw [List.length_cons, List.length_cons, VRi_len r h2]
theorem IterP.st {P : Addr → Prop} {z₀ z z' : Heap} {σ' : Sto} {s s' : Shared} {I : Addr} {fp : List Addr} {A' : Around} {n i : Nat} {PP : Nat → Value → Prop} {St : Nat → Heap → Prop} (W : Walks c.prog c.w A' I fp [I] n PP St)
    (hfp : ∀ b ∈ fp, b = I ∨ z₀.get? b ≠ none) (h0 : Sub z₀ z) (J : Inv c z σ s) (y : Ext c P z σ s z' σ' s') (hI : ¬ P I) (hσ : σ I = none) (h : St i s.heap) : St i s'.heap := by
  refine W.frame i _ _ h fun b hb o e => ?_
  rcases hfp b hb with rfl | hb
  · exact y.out _ o e hσ hI
  · cases q : z₀.get? b with
    | none => exact absurd q hb
    | some o' =>
      have e1 := h0 _ _ q
      have e2 := J.keep _ _ e1
      rw [e] at e2; cases e2
      exact y.inv.keep _ _ (y.zz _ _ e1)
theorem Frm.notFw {z : Heap} {env : Env} {h : Heap} (F : Frm c z σ env ρ h) {I : Addr} (hI : h.get? I = none) : ¬ Fw env I := by
  rintro (rfl | ⟨x, hx⟩)
  · obtain ⟨m, ⟨o, es, ep, ho, _⟩, _⟩ := F.ns
    rw [hI] at ho; cases ho
  · obtain ⟨_, _, _, v, o, ho, _⟩ := F.cells x I hx
    rw [hI] at ho; cases ho
theorem Frm.touch {z : Heap} {env : Env} {h h' : Heap} (F : Frm c z σ env ρ h) {I : Addr} (hI : ¬ Fw env I) (hk : ∀ b o, b ≠ I → h.get? b = some o → h'.get? b = some o) : Frm c z σ env ρ h' := by
  obtain ⟨m, hn, hm⟩ := F.ns
  have c1 : ∀ x a, env.cells.lookup x = some a → a ≠ I := fun x a e q => hI (.inr ⟨x, q ▸ e⟩)
  exact ⟨⟨m, hn.at' (fun o e => hk _ o (fun q => hI (.inl q.symm)) e), hm⟩, fun x V e k => by
    obtain ⟨a, v, h1, ⟨o, ho, r⟩, h3⟩ := F.cl x V e k
    exact ⟨a, v, h1, ⟨o, hk _ _ (c1 x a h1) ho, r⟩, h3⟩, F.own, fun x a e => by
    obtain ⟨h1, h2, h3, v, o, ho, r⟩ := F.cells x a e
    exact ⟨h1, h2, h3, v, o, hk _ _ (c1 x a e) ho, r⟩, F.apart, F.has⟩
theorem WS_while {test : Expr} {body orelse : List Stmt} (J : Nat → Loc → Sto → Prop) (n : Nat) (h0 : J n ρ σ)
    (hst : ∀ n ρ σ, J n ρ σ → WT c k sc ρ test σ fun b σ₁ => (b = true → WB c k sc ρ body σ₁ fun fl ρ₂ σ₂ => match fl with
        | .next => ∃ m, m < n ∧ J m ρ₂ σ₂ | .cont => ∃ m, m < n ∧ J m ρ₂ σ₂ | .brk => QS .next ρ₂ σ₂ | .ret x => QS (.ret x) ρ₂ σ₂) ∧ (b = false → WB c k sc ρ orelse σ₁ QS)) :
    WS c k sc ρ (.While test body orelse pos) σ QS := .mk fun G A z s env a b I F => by
  refine wpAny_While (codeAny_whileLoop (fun n s' => PostA c env z σ s (J n) s') (fun n s' q1_ => q1_.elim fun z₁ σ₁ ρ₁ e₁ F₁ hJ => ?_) n ⟨z, σ, ρ, Ext.refl I, F, h0⟩)
  refine wpAny_mono ((hst n ρ₁ σ₁ hJ).run G _ z₁ s' env a.mark b e₁.inv F₁) (fun t s₂ q2_ => q2_.elim fun z₂ σ₂ e₂ q₂ => ?_) fun _ _ y => y.elim
  have e₁₂ := e₁.trans (e₂.none (P' := Fw env))
  have F₂ := F₁.ext e₂
  cases t with
  | true =>
    refine wpAny_mono ((q₂.1 rfl).run G _ z₂ s₂ env a.mark b e₂.inv F₂) (fun f s₃ q3_ => q3_.elim fun z₃ σ₃ ρ₃ fl e₃ F₃ r₃ q₃ => ?_) fun _ _ y => y.elim
    cases fl with
    | next => cases r₃; obtain ⟨m, hm, hj⟩ := q₃; exact ⟨m, hm, z₃, σ₃, ρ₃, e₁₂.trans e₃, F₃, hj⟩
    | cont => cases r₃; obtain ⟨m, hm, hj⟩ := q₃; exact ⟨m, hm, z₃, σ₃, ρ₃, e₁₂.trans e₃, F₃, hj⟩
    | brk => cases r₃; exact ⟨z₃, σ₃, ρ₃, .next, e₁₂.trans e₃, F₃, rfl, q₃⟩
    | ret x => obtain ⟨v, rfl, hv⟩ := r₃; exact ⟨z₃, σ₃, ρ₃, .ret x, e₁₂.trans e₃, F₃, ⟨v, rfl, hv⟩, q₃⟩
  | false =>
    exact wpAny_mono ((q₂.2 rfl).run G _ z₂ s₂ env a.mark b e₂.inv F₂) (fun f s₃ h => PostS.ext e₁₂ h) fun _ _ y => y.elim
noncomputable def ForL (c : Cx) (k : Nat) (sc : Scope) (target : Expr) (body orelse : List Stmt) (QS : Fl → Loc → Sto → Prop) : List V → Loc → Sto → Prop
  | [], ρ, σ => WB c k sc ρ orelse σ QS
  | x :: r, ρ, σ => WA c k sc ρ target x σ fun ρ₁ σ₁ => WB c k sc ρ₁ body σ₁ fun fl ρ₂ σ₂ => match fl with
    | .next => ForL c k sc target body orelse QS r ρ₂ σ₂
    | .cont => ForL c k sc target body orelse QS r ρ₂ σ₂
    | .brk => QS .next ρ₂ σ₂
    | .ret x => QS (.ret x) ρ₂ σ₂
theorem ForL.inv {target : Expr} {body orelse : List Stmt} (J : List V → Loc → Sto → Prop) (hn : ∀ ρ σ, J [] ρ σ → WB c k sc ρ orelse σ QS)
    (hc : ∀ x r ρ σ, J (x :: r) ρ σ → WA c k sc ρ target x σ fun ρ₁ σ₁ => WB c k sc ρ₁ body σ₁ fun fl ρ₂ σ₂ => match fl with
      | .next => J r ρ₂ σ₂ | .cont => J r ρ₂ σ₂ | .brk => QS .next ρ₂ σ₂ | .ret x => QS (.ret x) ρ₂ σ₂) :
    ∀ (items : List V) (ρ : Loc) (σ : Sto), J items ρ σ → ForL c k sc target body orelse QS items ρ σ
  | [], ρ, σ, h => hn ρ σ h
  | x :: r, ρ, σ, h => by
    refine WA.mk (fun G A z s env v a b I F rv => wpAny_mono ((hc x r ρ σ h).run G A z s env v a b I F rv) (fun _ s' q4_ => q4_.elim fun z' σ' ρ' e F' w => ⟨z', σ', ρ', e, F', w.mono fun fl ρ₂ σ₂ q => ?_⟩) fun _ _ y => y)
    cases fl with
    | next => exact ForL.inv J hn hc r _ _ q
    | cont => exact ForL.inv J hn hc r _ _ q
    | brk => exact q
    | ret x => exact q
theorem drop_at {α : Type} {l : List α} {i : Nat} {y : α} (h : l[i]? = some y) : l.drop i = y :: l.drop (i + 1) := by
  obtain ⟨hi, e⟩ := List.getElem?_eq_some_iff.mp h
  rw [List.drop_eq_getElem_cons hi, e]
inductive ForI (c : Cx) (k : Nat) (sc : Scope) (target : Expr) (body orelse : List Stmt) (QS : Fl → Loc → Sto → Prop) (items : List V) (env : Env) (z : Heap) (σ : Sto) (s : Shared) (z₁ : Heap) (J : Addr) (St : Nat → Heap → Prop) (N : Nat) (s' : Shared) : Prop
  | mk (i : Nat) (z' : Heap) (σ' : Sto) (ρ' : Loc) : N = items.length - i → i ≤ items.length → Ext c (Fw env) z σ s z' σ' s' → Sub z₁ z' → Frm c z' σ' env ρ' s'.heap → z'.get? J = none → σ' J = none → St i s'.heap → ForL c k sc target body orelse QS (items.drop i) ρ' σ' → ForI c k sc target body orelse QS items env z σ s z₁ J St N s'
theorem WS_for {target iter : Expr} {body orelse : List Stmt} (h : WE c k sc ρ iter σ fun x σ₁ => ∃ items, IterP c x items ∧ (items = [] ∨ ∀ it v, letOwnedTupleGo target it v = pure ()) ∧ ForL c k sc target body orelse QS items ρ σ₁)
    (hs : ∀ env x, foldedSetIterable iter env x = pure x := by exact fun _ _ => rfl) : WS c k sc ρ (.For target iter body orelse pos) σ QS := .mk fun G A z s env a b I F => by
  refine wpAny_For (wpAny_mono (h.run G A z s env a b I F) (fun v s₁ q5_ => q5_.elim fun z₁ σ₁ x e₁ r₁ q6_ => q6_.elim fun items q7_ => q7_.elim fun it q8_ => q8_.elim fun hg q₁ => ?_) fun _ _ y => y.elim) (hs env)
  have F₁ := F.ext e₁
  refine wpAny_mono (it.run G A z₁ σ₁ s₁ v _ a.hand e₁.inv r₁ (fun J s₂ fp P St e₂ h0 hz hσ W live hfp hP st => ?_)) (fun _ _ h => h) fun _ _ y => y.elim
  have e₁₂ : Ext c (Fw env) z σ s z₁ σ₁ s₂ := (e₁.trans e₂).none
  have F₂ := F₁.ext e₂
  have hJ0 : s.heap.get? J = none := e₁.live J h0
  have nJ : ¬ Fw env J := F₁.notFw h0
  refine codeAny_forLoop_any (ForI c k sc target body orelse QS items env z σ s z₁ J St) (fun n s' hI => ?_) (items.length - 0)
    ⟨0, z₁, σ₁, ρ, rfl, Nat.zero_le _, e₁₂, .refl _, F₂, hz, hσ, st, q₁⟩
  obtain ⟨i, z₃, σ₃, ρ₃, rfl, hi, e₃, sub₃, F₃, hz₃, hσ₃, st₃, q₃⟩ := hI
  by_cases hlt : i < items.length
  · refine (W _ a.mark.hand).item i s' _ _ hlt st₃ fun w h' tk hPw st₄ hk => ?_
    have hk' : ∀ b o, b ≠ J → s'.heap.get? b = some o → h'.get? b = some o := fun b o hb e => hk b o (by simpa using hb) e
    obtain ⟨y, hy, rw₀⟩ := hP i w hlt hPw
    have hne : items ≠ [] := by rintro rfl; simp at hlt
    dsimp only
    rw [(hg.resolve_left hne) (.ref J) w]
    refine wpAny_pure ?_
    rw [drop_at hy] at q₃
    have e₄ : Ext c (Fw env) z σ s z₃ σ₃ { s' with heap := h', toks := tk } := e₃.touch hJ0 hz₃ hσ₃ hk'
    have F₄ := F₃.touch nJ hk'
    have lv : h'.get? J ≠ none := live _ _ st₄
    refine wpAny_mono (WA.run q₃ G _ z₃ _ env w a.mark b e₄.inv F₄ (rw₀.sub sub₃)) (fun _ s₅ q9_ => q9_.elim fun z₅ σ₅ ρ₅ e₅ F₅ q₅ => ?_) fun _ _ y => y.elim
    have u₅ := e₅.unown lv hz₃ hσ₃
    have st₅ := IterP.st (W A a.hand) hfp sub₃ e₄.inv e₅ nJ hσ₃ st₄
    refine wpAny_mono (q₅.run G _ z₅ s₅ env a.mark b e₅.inv F₅) (fun f s₆ q10_ => q10_.elim fun z₆ σ₆ ρ₆ fl e₆ F₆ r₆ q₆ => ?_) fun _ _ y => y.elim
    have u₆ := e₆.unown (live _ _ st₅) u₅.1 u₅.2
    have st₆ := IterP.st (W A a.hand) hfp (sub₃.trans e₅.zz) e₅.inv e₆ nJ u₅.2 st₅
    have ee := (e₄.trans e₅).trans e₆
    cases fl with
    | next => cases r₆; exact ⟨items.length - (i + 1), by lia, i + 1, z₆, σ₆, ρ₆, rfl, hlt, ee, (sub₃.trans e₅.zz).trans e₆.zz, F₆, u₆.1, u₆.2, st₆, q₆⟩
    | cont => cases r₆; exact ⟨items.length - (i + 1), by lia, i + 1, z₆, σ₆, ρ₆, rfl, hlt, ee, (sub₃.trans e₅.zz).trans e₆.zz, F₆, u₆.1, u₆.2, st₆, q₆⟩
    | brk => cases r₆; exact ⟨z₆, σ₆, ρ₆, .next, ee, F₆, rfl, q₆⟩
    | ret x => obtain ⟨v, rfl, hv⟩ := r₆; exact ⟨z₆, σ₆, ρ₆, .ret x, ee, F₆, ⟨v, rfl, hv⟩, q₆⟩
  · have hin : i = items.length := by lia
    subst hin
    refine (W _ a.mark.hand).done s' _ _ st₃ fun h' tk hk => ?_
    have hk' : ∀ b o, b ≠ J → s'.heap.get? b = some o → h'.get? b = some o := fun b o hb e => hk b o (by simpa using hb) e
    have e₄ : Ext c (Fw env) z σ s z₃ σ₃ { s' with heap := h', toks := tk } := e₃.touch hJ0 hz₃ hσ₃ hk'
    have F₄ := F₃.touch nJ hk'
    rw [List.drop_length] at q₃
    exact wpAny_mono (WB.run q₃ G _ z₃ _ env a.mark b e₄.inv F₄) (fun f s₅ h => PostS.ext e₄ h) fun _ _ y => y.elim
end Mine
end
section
namespace Mine
variable {c : Cx} {k : Nat} {sc : Scope} {ρ : Loc} {σ : Sto} {pos : Pos} {Q : V → Sto → Prop} {QS : Fl → Loc → Sto → Prop}
noncomputable def WIf (c : Cx) (k : Nat) (sc : Scope) : List Expr → Loc → Sto → (Bool → Sto → Prop) → Prop
  | [], _, σ, Q => Q true σ
  | [t], ρ, σ, Q => WT c k sc ρ t σ Q
  | _, _, _, _ => False
noncomputable abbrev Step := List V → Loc → Sto → (List V → Loc → Sto → Prop) → Prop
noncomputable def CompL (c : Cx) (k : Nat) (sc : Scope) (n : Str) (ifs : List Expr) (step : Step) (Q : List V → Loc → Sto → Prop) : List V → List V → Loc → Sto → Prop
  | [], acc, ρ, σ => Q acc ρ σ
  | x :: r, acc, ρ, σ => WIf c k sc ifs (putF n x ρ) σ fun b σ₂ =>
      (b = true → step acc (putF n x ρ) σ₂ fun acc' ρ₂ σ₃ => CompL c k sc n ifs step Q r acc' ρ₂ σ₃) ∧ (b = false → CompL c k sc n ifs step Q r acc (putF n x ρ) σ₂)
noncomputable def stepE (c : Cx) (k : Nat) (sc : Scope) (elt : Expr) : Step := fun acc ρ σ Q => acc.length ≤ 1000 ∧ WE c k sc ρ elt σ fun y σ' => Q (acc ++ [y]) ρ σ'
noncomputable def stepN (c : Cx) (k : Nat) (sc : Scope) (iter : Expr) (n : Str) (ifs : List Expr) (stp : Step) : Step := fun acc ρ σ Q =>
  WE c k sc ρ iter σ fun x σ₁ => ∃ items, IterP c x items ∧ CompL c k sc n ifs stp Q items acc ρ σ₁
structure AccR (c : Cx) (z : Heap) (σ : Sto) (D : Addr) (acc : List V) (h : Heap) : Prop where
  unz : z.get? D = none
  uns : σ D = none
  is : ∃ vs, h.PlainList D vs ∧ VRs c z acc vs.toList
theorem AccR.ext {z z' : Heap} {σ' : Sto} {s s' : Shared} {D : Addr} {acc : List V} {P : Addr → Prop} (a : AccR c z σ D acc s.heap) (x : Ext c P z σ s z' σ' s') (hD : ¬ P D) : AccR c z' σ' D acc s'.heap := by
  obtain ⟨vs, ⟨o, ho⟩, hv⟩ := a.is
  have u := x.unown (by rw [ho]; exact fun h => nomatch h) a.unz a.uns
  exact ⟨u.1, u.2, vs, ⟨o, x.out D _ ho a.uns hD⟩, hv.sub x.zz⟩
theorem AccR.live {z : Heap} {D : Addr} {acc : List V} {h : Heap} (a : AccR c z σ D acc h) : h.get? D ≠ none := by
  obtain ⟨vs, ⟨o, ho⟩, hv⟩ := a.is
  rw [ho]; exact fun h => nomatch h
theorem AccR.touch {z : Heap} {D : Addr} {acc : List V} {h h' : Heap} {I : Addr} (a : AccR c z σ D acc h) (hI : D ≠ I) (hk : ∀ b o, b ≠ I → h.get? b = some o → h'.get? b = some o) : AccR c z σ D acc h' := by
  obtain ⟨vs, ⟨o, ho⟩, hv⟩ := a.is
  exact ⟨a.unz, a.uns, vs, ⟨o, hk _ _ hI ho⟩, hv⟩
noncomputable def FwD (env : Env) (D b : Addr) : Prop := b = env.locals ∨ b = D
inductive PostD (c : Cx) (env : Env) (D : Addr) (z : Heap) (σ : Sto) (s : Shared) (Q : List V → Loc → Sto → Prop) (s' : Shared) : Prop
  | mk (z' : Heap) (σ' : Sto) (ρ' : Loc) (acc' : List V) : Ext c (FwD env D) z σ s z' σ' s' → Frm c z' σ' env ρ' s'.heap → AccR c z' σ' D acc' s'.heap → Q acc' ρ' σ' → PostD c env D z σ s Q s'
theorem PostD.elim {c : Cx} {env : Env} {D : Addr} {z : Heap} {σ : Sto} {s s' : Shared} {Q : List V → Loc → Sto → Prop} {R : Prop} (h : PostD c env D z σ s Q s') (f : ∀ z' σ' ρ' acc', Ext c (FwD env D) z σ s z' σ' s' → Frm c z' σ' env ρ' s'.heap → AccR c z' σ' D acc' s'.heap → Q acc' ρ' σ' → R) : R :=
  let ⟨z', σ', ρ', acc', e, F, r, q⟩ := h; f z' σ' ρ' acc' e F r q
noncomputable def StepOk (c : Cx) (k : Nat) (sc : Scope) (step : Step) (m : Addr → Env → Sem Unit) : Prop :=
  ∀ D A z s env acc ρ σ Q, AOk k A → EnvOk sc env → Inv c z σ s → Frm c z σ env ρ s.heap → AccR c z σ D acc s.heap → ¬ Fw env D → step acc ρ σ Q →
    wpAny (model c.prog c.w) A (m D env) (fun _ s' => PostD c env D z σ s Q s') noE s
theorem stepE_ok (G : c.Good) (elt : Expr) : StepOk c k sc (stepE c k sc elt) (fun D env => do let _ ← call (.builtin "list.append") [.ref D, ← eval elt env]) := fun D A z s env acc ρ σ Q a b I F C nD q1_ => q1_.elim fun hlen h => by
  refine wpAny_bind (wpAny_mono (h.run G A z s env a b I F) (fun v s₁ q2_ => q2_.elim fun z₁ σ₁ y e₁ r₁ q₁ => ?_) fun _ _ y => y)
  have C₁ := C.ext e₁ id
  obtain ⟨vs, hl, hv⟩ := C₁.is
  refine wpAny_bind (wpAny_list_append_plain hl (fun h' hl' hs' => ?_) ?_)
  · have eo : Ext c (FwD env D) z₁ σ₁ s₁ z₁ σ₁ { s₁ with heap := h' } := by
      refine ⟨⟨e₁.inv.base, fun b o e => ?_, fun a o e => ?_⟩, .refl _, fun b o e n p => ?_, fun b h => h.elim .inl fun q => .inr (.inl q), fun b e => ?_, rfl, rfl, rfl⟩
      · rw [hs'.2 b (by rintro rfl; rw [C₁.unz] at e; cases e)]; exact e₁.inv.keep b o e
      · obtain ⟨h1, h2, ob, h3, h4⟩ := e₁.inv.mt a o e
        exact ⟨h1, h2, ob, (hs'.2 a (by rintro rfl; rw [C₁.uns] at e; cases e)).trans h3, h4⟩
      · rw [hs'.2 b (by rintro rfl; exact p (.inr rfl))]; exact e
      · by_cases hb : b = D
        · subst hb
          obtain ⟨o, ho⟩ := hl'
          rw [show h'.get? b = some _ from ho] at e; cases e
        · exact (hs'.2 b hb).symm.trans e
    refine wpAny_pure ⟨z₁, σ₁, ρ, acc ++ [y], e₁.none.trans eo, (F.ext e₁).touch nD (fun b o hb e => (hs'.2 b hb).trans e), ⟨C₁.unz, C₁.uns, _, hl', ?_⟩, q₁⟩
    rw [Array.toList_push]
    exact VRs_app (VRs_cons.mpr ⟨v, [], rfl, r₁, VRs_nil.mpr rfl⟩) acc _ hv
  · have := VRs_len acc hv
    rw [Array.length_toList] at this
    rw [this, sizeLine_eq]; lia
theorem codeAny_compStart_any {M : Model} {A : Around} {R : Result → Shared → Prop} {s : Shared} {elt : Expr} {gens : List Comprehension} {g : Comprehension} {scope : Scope} {p : Pos} {d : Nat} {it acc : Value} {env : Env} (hg : gens[d]? = some g) (ha : (g.is_async != 0) = false)
    (h0 : codeAny M A (.compLoop (.ListComp elt gens scope p) d it acc env) R s)
    (h : wpAny M A (pyIter it) (fun it' s' => codeAny M A (.compLoop (.ListComp elt gens scope p) d it' acc env) R s') noE s) (hM : M.den (.compStart (.ListComp elt gens scope p) d it acc env) = (compStart (.ListComp elt gens scope p) d it acc env).onRaise (fun x => do noteFrame x env; standAt theWindowsPlace)) :
    codeAny M A (.compStart (.ListComp elt gens scope p) d it acc env) R s := by
  refine codeAny_of_tree ?_
  show wpAny M A _ _ _ s
  rw [hM]
  refine wpAny_notedAt ?_
  unfold compStart
  rw [show clausesOf (.ListComp elt gens scope p) = gens from rfl, hg]
  rw [show (some g).elim false (·.is_async != 0) = false from ha, if_neg Bool.false_ne_true]
  show wpAny _ _ (ask >>= _) _ _ s
  refine wpAny_bind (wpAny_askSetting (wpAny_ite ?_))
  split
  · exact wpAny_pure ⟨rfl, h0⟩
  · refine wpAny_bind (wpAny_rule ?_)
    exact wpAny_bind (wpAny_standAt (wpAny_bind (wpAny_mono h (fun it' s' h' => wpAny_pure ⟨rfl, h'⟩) fun _ _ h => h.elim)))
noncomputable def innerN (elt : Expr) (gens : List Comprehension) (scope : Scope) (p : Pos) (d : Nat) (iter : Expr) (D : Addr) (env : Env) : Sem Unit := do
  let x ← eval iter env
  standAt iter.pos
  let x ← foldedSetIterable iter env x
  let _ ← runOwn (.compStart (.ListComp elt gens scope p) (d + 1) (← holding [x] (pyIter x)) (.ref D) env) env
noncomputable def innerE (elt : Expr) (D : Addr) (env : Env) : Sem Unit := do let _ ← call (.builtin "list.append") [.ref D, ← eval elt env]
inductive InnerIs (elt : Expr) (gens : List Comprehension) (scope : Scope) (p : Pos) (d : Nat) : (Addr → Env → Sem Unit) → Prop
  | emit : gens[d + 1]? = none → InnerIs elt gens scope p d (innerE elt)
  | nest {target iter : Expr} {ifs : List Expr} : gens[d + 1]? = some ⟨target, iter, ifs, 0⟩ → InnerIs elt gens scope p d (innerN elt gens scope p d iter)
theorem compTurn_wp {M : Model} {A : Around} {E : Value → Shared → Prop} {s : Shared} {elt : Expr} {gens : List Comprehension} {scope : Scope} {p : Pos} {d : Nat} {it : Value} {D : Addr} {env : Env} {target iter : Expr} {ifs : List Expr} {m : Addr → Env → Sem Unit} {QF : Fin → Shared → Prop}
    (hg : gens[d]? = some ⟨target, iter, ifs, 0⟩) (hi : InnerIs elt gens scope p d m)
    (h : wpAny M A (pyNext it) (fun r s₁ => match r with
      | none => QF (.done .next) s₁
      | some v => wpAny M A (letOwnedTupleGo target it v) (fun _ s₁' => wpAny M A (assign target env v) (fun _ s₂ =>
          wpAny M A (forIn ifs true fun c r => if r = true then do let ok ← isTrue c env (eval c env); pure (ForInStep.yield ok) else pure (ForInStep.yield r)) (fun ok s₃ =>
            if ok = true then wpAny M A (m D env) (fun _ s₄ => QF (.again (.compLoop (.ListComp elt gens scope p) d it (.ref D) env)) s₄) E s₃
            else QF (.again (.compLoop (.ListComp elt gens scope p) d it (.ref D) env)) s₃) E s₂) E s₁') E s₁) E s) :
    wpAny M A (compTurn (.ListComp elt gens scope p) d it (.ref D) env) QF E s := by
  unfold compTurn
  simp only [hg, bne_self_eq_false, Bool.false_eq_true, if_false]
  refine wpAny_bind (wpAny_standAt (wpAny_bind (wpAny_mono h (fun r s₁ h₁ => ?_) fun _ _ h' => h')))
  cases r with
  | none => exact wpAny_pure h₁
  | some v =>
    refine wpAny_bind (wpAny_mono h₁ (fun _ s₂ h₂ => wpAny_bind (wpAny_mono h₂ (fun _ s₂ h₂ => wpAny_bind (wpAny_mono h₂ (fun ok s₃ h₃ => ?_) fun _ _ h' => h')) fun _ _ h' => h')) fun _ _ h' => h')
    cases ok with
    | false => exact wpAny_pure h₃
    | true =>
      simp only [if_true] at h₃ ⊢
      cases hi with
      | emit hn =>
        simp only [hn]
        exact wpAny_bind (wpAny_mono h₃ (fun _ s₄ h₄ => wpAny_pure h₄) fun _ _ h' => h')
      | nest hn =>
        simp only [hn, bne_self_eq_false, Bool.false_eq_true, if_false]
        have key : wpAny M A (innerN elt gens scope p d _ D env >>= fun _ => again (.compLoop (.ListComp elt gens scope p) d it (.ref D) env)) QF E s₃ := wpAny_bind (wpAny_mono h₃ (fun _ s₄ h₄ => wpAny_pure h₄) fun _ _ h' => h')
        unfold innerN at key
        simpa only [bind_assoc, pure_bind] using key
theorem relabel_eq {scope : Scope} {env : Env} (b : EnvOk sc env) : relabel scope env = { scope with names := scope.names.map fun (n, k) => if (k == .free && sc.kind == .function && sc.names.lookup n == some .cell) then (n, .cell) else (n, k) } := by
  unfold relabel Env.kindOf
  rw [b.scope]
noncomputable def relabelS (scope sc : Scope) : Scope := { scope with names := scope.names.map fun (n, k) => if (k == .free && sc.kind == .function && sc.names.lookup n == some .cell) then (n, .cell) else (n, k) }
theorem wifs {A : Around} {z : Heap} {s : Shared} {env : Env} {ifs : List Expr} {QB : Bool → Sto → Prop} (h : WIf c k sc ifs ρ σ QB) (G : c.Good) (a : AOk k A) (b : EnvOk sc env) (I : Inv c z σ s) (F : Frm c z σ env ρ s.heap) :
    wpAny (model c.prog c.w) A (forIn ifs true fun c r => if r = true then do let ok ← isTrue c env (eval c env); pure (ForInStep.yield ok) else pure (ForInStep.yield r)) (PostT c z σ s QB) noE s := by
  match ifs, h with
  | [], h => exact wpAny_tests_nil ⟨z, σ, Ext.refl I, h⟩
  | [t], h => exact wpAny_tests_one (h.run G A z s env a b I F)
inductive CompI (c : Cx) (k : Nat) (sc : Scope) (n : Str) (ifs : List Expr) (step : Step) (QL : List V → Loc → Sto → Prop) (items : List V) (env : Env) (z : Heap) (σ : Sto) (s₀ : Shared) (J D : Addr) (St : Nat → Heap → Prop) (N : Nat) (s' : Shared) : Prop
  | mk (i : Nat) (z' : Heap) (σ' : Sto) (ρ' : Loc) (acc' : List V) : N = items.length - i → i ≤ items.length → Ext c (FwD env D) z σ s₀ z' σ' s' → Frm c z' σ' env ρ' s'.heap → AccR c z' σ' D acc' s'.heap → z'.get? J = none → σ' J = none → St i s'.heap →
    CompL c k sc n ifs step QL (items.drop i) acc' ρ' σ' → CompI c k sc n ifs step QL items env z σ s₀ J D St N s'
theorem comp_loop {gens : List Comprehension} {elt : Expr} {scope : Scope} {p : Pos} {d : Nat} {n : Str} {pt : Pos} {iter : Expr} {ifs : List Expr} {step : Step} {m : Addr → Env → Sem Unit} {QL : List V → Loc → Sto → Prop} {items : List V}
    {A : Around} {z : Heap} {s₀ s : Shared} {env : Env} {J D : Addr} {acc : List V} {fp : List Addr} {PP : Nat → Value → Prop} {St : Nat → Heap → Prop}
    (hg : gens[d]? = some ⟨.Name n pt, iter, ifs, 0⟩) (hi : InnerIs elt gens scope p d m) (ok : StepOk c k sc step m) (G : c.Good) (a : AOk k A) (b : EnvOk sc env)
    (hkn : sc.names.lookup n = some .local)
    (e₀ : Ext c (FwD env D) z σ s₀ z σ s) (F : Frm c z σ env ρ s.heap) (C : AccR c z σ D acc s.heap) (nD : ¬ Fw env D) (nJF : ¬ Fw env J) (nJ : ¬ FwD env D J) (h0 : s₀.heap.get? J = none) (hz : z.get? J = none) (hσ : σ J = none)
    (W : ∀ A', A'.handled = none → Walks c.prog c.w A' J fp [J] items.length PP St) (live : ∀ i h, St i h → h.get? J ≠ none) (hfp : ∀ b ∈ fp, b = J ∨ z.get? b ≠ none)
    (hP : ∀ i v, i < items.length → PP i v → ∃ y, items[i]? = some y ∧ VR c z y v) (st : St 0 s.heap) (h : CompL c k sc n ifs step QL items acc ρ σ) :
    codeAny (model c.prog c.w) A (.compLoop (.ListComp elt gens scope p) d (.ref J) (.ref D) env) (fun r s' => r = .ok .next ∧ PostD c env D z σ s₀ QL s') s := by
  refine codeAny_loop rfl (CompI c k sc n ifs step QL items env z σ s₀ J D St) (fun N s' hI => ?_) (items.length - 0) ⟨0, z, σ, ρ, acc, rfl, Nat.zero_le _, e₀, F, C, hz, hσ, st, h⟩
  obtain ⟨i, z₃, σ₃, ρ₃, acc₃, rfl, hi', e₃, F₃, C₃, hz₃, hσ₃, st₃, q₃⟩ := hI
  show wpAny _ A ((compTurn (.ListComp elt gens scope p) d (.ref J) (.ref D) env).onRaise (fun x => do noteFrame x env; theTreesLotGoes x)) _ _ s'
  refine wpAny_noted (compTurn_wp hg hi ?_)
  have nJL : ¬ J = env.locals := fun q => nJ (.inl q)
  have nDL : ¬ D = env.locals := fun q => nD (.inl q)
  have nJD : D ≠ J := fun q => nJ (.inr q.symm)
  by_cases hlt : i < items.length
  · refine (W _ a.hand).item i s' _ _ hlt st₃ fun w h' tk hPw st₄ hk => ?_
    have hk' : ∀ b o, b ≠ J → s'.heap.get? b = some o → h'.get? b = some o := fun b o hb e => hk b o (by simpa using hb) e
    obtain ⟨y, hy, rw₀⟩ := hP i w hlt hPw
    dsimp only
    rw [show letOwnedTupleGo (.Name n pt) (.ref J) w = pure () from rfl]
    refine wpAny_pure ?_
    rw [drop_at hy] at q₃
    have e₄ : Ext c (FwD env D) z σ s₀ z₃ σ₃ { s' with heap := h', toks := tk } := e₃.touch h0 hz₃ hσ₃ hk'
    have F₄ := F₃.touch nJF hk'
    have C₄ := C₃.touch nJD hk'
    refine wpAny_mono (assign_local hkn b e₄.inv F₄ (rw₀.sub e₃.zz)) (fun _ s₅ q3_ => q3_.elim fun e₅ F₅ => ?_) fun _ _ y => y.elim
    have u₅ := e₅.unown (live _ _ st₄) hz₃ hσ₃
    have st₅ := IterP.st (W A a.hand) hfp e₃.zz e₄.inv e₅ nJL hσ₃ st₄
    have C₅ := C₄.ext e₅ nDL
    refine wpAny_mono (wifs q₃ G a b e₅.inv F₅) (fun t s₆ q4_ => q4_.elim fun z₆ σ₆ e₆ q₆ => ?_) fun _ _ y => y.elim
    have u₆ := e₆.unown (live _ _ st₅) u₅.1 u₅.2
    have st₆ := IterP.st (W A a.hand) hfp (e₃.zz.trans e₅.zz) e₅.inv e₆ id u₅.2 st₅
    have C₆ := C₅.ext e₆ id
    have F₆ := F₅.ext e₆
    have ee := (e₄.trans (e₅.weaken (P' := FwD env D) fun b h => .inl h)).trans (e₆.none (P' := FwD env D))
    cases t with
    | false =>
      simp only [Bool.false_eq_true, if_false]
      exact ⟨trivial, items.length - (i + 1), by lia, i + 1, z₆, σ₆, _, acc₃, rfl, hlt, ee, F₆, C₆, u₆.1, u₆.2, st₆, q₆.2 rfl⟩
    | true =>
      simp only [if_true]
      refine wpAny_mono (ok D A z₆ s₆ env acc₃ _ σ₆ _ a b e₆.inv F₆ C₆ nD (q₆.1 rfl)) (fun _ s₇ q5_ => q5_.elim fun z₇ σ₇ ρ₇ acc₇ e₇ F₇ C₇ q₇ => ?_) fun _ _ y => y.elim
      have u₇ := e₇.unown (live _ _ st₆) u₆.1 u₆.2
      have st₇ := IterP.st (W A a.hand) hfp ((e₃.zz.trans e₅.zz).trans e₆.zz) e₆.inv e₇ nJ u₆.2 st₆
      exact ⟨trivial, items.length - (i + 1), by lia, i + 1, z₇, σ₇, ρ₇, acc₇, rfl, hlt, ee.trans e₇, F₇, C₇, u₇.1, u₇.2, st₇, q₇⟩
  · have hin : i = items.length := by lia
    subst hin
    refine (W _ a.hand).done s' _ _ st₃ fun h' tk hk => ?_
    have hk' : ∀ b o, b ≠ J → s'.heap.get? b = some o → h'.get? b = some o := fun b o hb e => hk b o (by simpa using hb) e
    rw [List.drop_length] at q₃
    exact ⟨rfl, z₃, σ₃, ρ₃, acc₃, e₃.touch h0 hz₃ hσ₃ hk', F₃.touch nJF hk', C₃.touch nJD hk', q₃⟩
theorem comp_start {gens : List Comprehension} {elt : Expr} {scope : Scope} {p : Pos} {d : Nat} {n : Str} {pt : Pos} {iter : Expr} {ifs : List Expr} {step : Step} {m : Addr → Env → Sem Unit} {QL : List V → Loc → Sto → Prop} {items : List V}
    {A : Around} {z : Heap} {s₀ s : Shared} {env : Env} {J D : Addr} {acc : List V} {fp : List Addr} {PP : Nat → Value → Prop} {St : Nat → Heap → Prop}
    (hg : gens[d]? = some ⟨.Name n pt, iter, ifs, 0⟩) (hi : InnerIs elt gens scope p d m) (ok : StepOk c k sc step m) (G : c.Good) (a : AOk k A) (b : EnvOk sc env)
    (hkn : sc.names.lookup n = some .local)
    (e₀ : Ext c (FwD env D) z σ s₀ z σ s) (F : Frm c z σ env ρ s.heap) (C : AccR c z σ D acc s.heap) (nD : ¬ Fw env D) (nJF : ¬ Fw env J) (nJ : ¬ FwD env D J) (h0 : s₀.heap.get? J = none) (hz : z.get? J = none) (hσ : σ J = none)
    (W : ∀ A', A'.handled = none → Walks c.prog c.w A' J fp [J] items.length PP St) (live : ∀ i h, St i h → h.get? J ≠ none) (hfp : ∀ b ∈ fp, b = J ∨ z.get? b ≠ none)
    (hP : ∀ i v, i < items.length → PP i v → ∃ y, items[i]? = some y ∧ VR c z y v) (st : St 0 s.heap) (h : CompL c k sc n ifs step QL items acc ρ σ) :
    codeAny (model c.prog c.w) A (.compStart (.ListComp elt gens scope p) d (.ref J) (.ref D) env) (fun r s' => r = .ok .next ∧ PostD c env D z σ s₀ QL s') s :=
  codeAny_compStart_any hg rfl (comp_loop hg hi ok G a b hkn e₀ F C nD nJF nJ h0 hz hσ W live hfp hP st h) ((W A a.hand).self 0 s _ _ st (comp_loop hg hi ok G a b hkn e₀ F C nD nJF nJ h0 hz hσ W live hfp hP st h)) rfl
theorem stepN_ok (G : c.Good) {gens : List Comprehension} {elt : Expr} {scope : Scope} {p : Pos} {d : Nat} {n : Str} {pt : Pos} {iter : Expr} {ifs : List Expr} {step : Step} {m : Addr → Env → Sem Unit}
    (hg : gens[d + 1]? = some ⟨.Name n pt, iter, ifs, 0⟩) (hi : InnerIs elt gens scope p (d + 1) m) (ok : StepOk c k sc step m) (hs : ∀ env x, foldedSetIterable iter env x = pure x) (hkn : sc.names.lookup n = some .local) :
    StepOk c k sc (stepN c k sc iter n ifs step) (innerN elt gens scope p d iter) := fun D A z s env acc ρ σ Q a b I F C nD h => by
  unfold innerN
  refine wpAny_bind (wpAny_mono (WE.run h G A z s env a b I F) (fun v s₁ q12_ => q12_.elim fun z₁ σ₁ x e₁ r₁ q13_ => q13_.elim fun items q14_ => q14_.elim fun it q₁ => ?_) fun _ _ y => y)
  have C₁ := C.ext e₁ id
  have F₁ := F.ext e₁
  refine wpAny_bind (wpAny_standAt (wpAny_bind (wpAny_of_eq (hs env v) (wpAny_bind (wpAny_holding ?_)))))
  refine it.run G A z₁ σ₁ s₁ v _ a.hand e₁.inv r₁ fun J s₂ fp P St e₂ h0 hz hσ W live hfp hP st => ?_
  have F₂ := F₁.ext e₂
  have C₂ := C₁.ext e₂ id
  have nJ : ¬ FwD env D J := by
    rintro (h | rfl)
    · exact F₁.notFw h0 (.inl h)
    · exact C₁.live h0
  refine wpAny_bind (wpAny_runOwn (codeAny_mono (comp_start hg hi ok G a.mark b hkn (e₂.none) F₂ C₂ nD (F₁.notFw h0) nJ h0 hz hσ W live hfp hP st q₁) fun r s' q15_ => q15_.elim fun hr q16_ => q16_.elim fun z' σ' ρ' acc' e₃ F₃ C₃ q₃ => ?_))
  subst hr
  exact wpAny_pure ⟨z', σ', ρ', acc', (e₁.none).trans e₃, F₃, C₃, q₃⟩
end Mine
end
section
namespace Mine
variable {c : Cx} {k : Nat} {sc : Scope} {ρ : Loc} {σ : Sto} {pos : Pos} {Q : V → Sto → Prop} {QS : Fl → Loc → Sto → Prop}
theorem closure_eq {env : Env} : ∀ (names : List (Str × NameKind)) (acc : List (Str × Addr)), (∀ x ∈ names, x.2 = .free → ∃ a, env.cells.lookup x.1 = some a) → (∀ x a, acc.lookup x = some a → env.cells.lookup x = some a) →
    ∃ cl, (forIn names acc fun (x : Str × NameKind) r => if (x.2 == NameKind.free) = true then do let a ← cellOf env x.1; pure (ForInStep.yield ((x.1, a) :: r)) else pure (ForInStep.yield r) : Sem (List (Str × Addr))) = pure cl ∧
      (∀ x a, cl.lookup x = some a → env.cells.lookup x = some a) ∧ (∀ x, ((x, NameKind.free) ∈ names ∨ (acc.lookup x).isSome = true) → (cl.lookup x).isSome = true)
  | [], acc, _, h => ⟨acc, rfl, h, fun x hx => hx.elim (fun h => nomatch h) id⟩
  | (n, kd) :: r, acc, hf, h => by
    by_cases e : kd = .free
    · subst e
      obtain ⟨a, ha⟩ := hf (n, .free) (.head _) rfl
      obtain ⟨cl, h1, h2, h3⟩ := closure_eq (env := env) r ((n, a) :: acc) (fun x hx => hf x (.tail _ hx)) (fun x b hb => by
        rw [List.lookup_cons] at hb
        by_cases q : x = n
        · subst q; simp only [beq_self_eq_true] at hb; cases hb; exact ha
        · rw [beq_eq_false_iff_ne.mpr q] at hb; exact h x b hb)
      refine ⟨cl, ?_, h2, fun x hx => h3 x ?_⟩
      · rw [List.forIn_cons]
        simp only [beq_self_eq_true, if_true]
        have : cellOf env n = pure a := by unfold cellOf; rw [ha]
        rw [this]
        simp only [pure_bind]
        exact h1
      · rcases hx with hx | hx
        · cases hx with
          | head => right; simp
          | tail _ hx => exact .inl hx
        · right
          rw [List.lookup_cons]
          cases x == n
          · exact hx
          · rfl
    · have e' : (kd == NameKind.free) = false := beq_eq_false_iff_ne.mpr e
      obtain ⟨cl, h1, h2, h3⟩ := closure_eq (env := env) r acc (fun x hx => hf x (.tail _ hx)) h
      refine ⟨cl, ?_, h2, fun x hx => h3 x ?_⟩
      · rw [List.forIn_cons]
        simp only [e', Bool.false_eq_true, if_false, pure_bind]
        exact h1
      · rcases hx with hx | hx
        · cases hx with
          | head => exact absurd rfl e
          | tail _ hx => exact .inl hx
        · exact .inr hx
theorem closureFor_is {scope : Scope} {env : Env} (hf : ∀ x ∈ scope.names, x.2 = .free → ∃ a, env.cells.lookup x.1 = some a) :
    ∃ cl, closureFor scope env = pure cl ∧ (∀ x a, cl.lookup x = some a → env.cells.lookup x = some a) ∧ (∀ x, (x, NameKind.free) ∈ scope.names → (cl.lookup x).isSome = true) := by
  obtain ⟨cl, h1, h2, h3⟩ := closure_eq (env := env) scope.names [] hf (fun x a h => nomatch h)
  refine ⟨cl, ?_, h2, fun x hx => h3 x (.inl hx)⟩
  unfold closureFor
  simp only [bind_pure]
  exact h1
noncomputable def compρ (scope sc : Scope) (ρ : Loc) : Loc := ρ.filter fun p => (relabelS scope sc).names.lookup p.1 != some .local
noncomputable def compOk (scope sc : Scope) (ρ : Loc) : Bool := decide (scope.kind = .function) && scope.names.all (fun x => x.2 != .cell && (x.2 != .local || scope.names.lookup x.1 == some .local) && (x.2 != .free || ((ρ.lookup x.1).isSome && (sc.names.lookup x.1 == some .cell || sc.names.lookup x.1 == some .free))))
theorem lookup_filter {f : Str × V → Bool} (hf : ∀ n x y, f (n, x) = f (n, y)) {n : Str} {v : V} : ∀ {l : Loc}, (l.filter f).lookup n = some v → l.lookup n = some v ∧ f (n, v) = true
  | [], h => nomatch h
  | (m, x) :: r, h => by
    rw [List.filter_cons] at h
    by_cases q : f (m, x) = true
    · rw [if_pos q, List.lookup_cons] at h
      rw [List.lookup_cons]
      by_cases e : n = m
      · subst e
        simp only [beq_self_eq_true] at h ⊢
        cases h
        exact ⟨rfl, q⟩
      · rw [beq_eq_false_iff_ne.mpr e] at h ⊢
        exact lookup_filter hf h
    · rw [if_neg q] at h
      obtain ⟨h1, h2⟩ := lookup_filter hf h
      refine ⟨?_, h2⟩
      rw [List.lookup_cons]
      have : n ≠ m := by rintro rfl; exact q ((hf _ _ _).trans h2)
      rw [beq_eq_false_iff_ne.mpr this]
      exact h1
theorem mem_of_relabel {scope sc : Scope} {x : Str} {kd : NameKind} (h : (relabelS scope sc).names.lookup x = some kd) : ∃ k0, (x, k0) ∈ scope.names ∧ (k0 = kd ∨ (k0 = .free ∧ kd = .cell ∧ sc.names.lookup x = some .cell)) := by
  have := lookup_mem h
  unfold relabelS at this
  obtain ⟨⟨n, k0⟩, hm, e⟩ := List.mem_map.mp this
  dsimp only at e
  split at e
  · rename_i q
    simp only [Prod.mk.injEq] at e
    obtain ⟨rfl, rfl⟩ := e
    simp only [Bool.and_eq_true, beq_iff_eq] at q
    exact ⟨k0, hm, .inr ⟨q.1.1, rfl, q.2⟩⟩
  · simp only [Prod.mk.injEq] at e
    obtain ⟨rfl, rfl⟩ := e
    exact ⟨k0, hm, .inl rfl⟩
theorem comp_pre {gens : List Comprehension} {elt iter : Expr} {scope : Scope} {p : Pos} {n : Str} {pt : Pos} {ifs : List Expr} {step : Step} {m : Addr → Env → Sem Unit} {QL : List V → Loc → Sto → Prop}
    {A : Around} {z : Heap} {s : Shared} {env : Env} {RR : Value → Addr → Result → Shared → Prop} {cl : List (Str × Addr)}
    (hg : gens[0]? = some ⟨.Name n pt, iter, ifs, 0⟩) (hi : InnerIs elt gens scope p 0 m) (ok : StepOk c k (relabelS scope sc) step m) (hkn : (relabelS scope sc).names.lookup n = some .local) (hcomp : compOk scope sc ρ = true)
    (G : c.Good) (a : AOk k A) (b : EnvOk sc env) (I : Inv c z σ s) (F : Frm c z σ env ρ s.heap) (hc2 : ∀ x a, cl.lookup x = some a → env.cells.lookup x = some a) (hc3 : ∀ x, (x, NameKind.free) ∈ scope.names → (cl.lookup x).isSome = true)
    (h : WE c k sc ρ iter σ fun x σ₁ => ∃ items, IterP c x items ∧ CompL c k (relabelS scope sc) n ifs step QL items [] (compρ scope sc ρ) σ₁)
    (hRR : ∀ z' σ' ρ' ys D C s', Ext c (fun _ => False) z σ s z' σ' s' → VR c z' (.lst ys) (.ref D) → (∃ m, s'.heap.Ns C m) → z'.get? C = none → σ' C = none → s.heap.get? C = none → QL ys ρ' σ' → RR (.ref D) C (.ok .next) s') :
    wpAny (model c.prog c.w) A (eval iter env) (fun x s₁ => wpAny (model c.prog c.w) A (pyIter x) (fun it s₂ => wpAny (model c.prog c.w) A (newList []) (fun acc s₃ =>
      wpAny (model c.prog c.w) A (newFunctionEnv scope env.globals cl [] env.qual none .none (some env)) (fun cenv s₄ =>
        codeAny (model c.prog c.w) A (.compStart (.ListComp elt gens scope p) 0 it acc { cenv with scope := relabel scope env }) (RR acc cenv.locals) s₄) noE s₃) noE s₂) noE s₁) noE s := by
  unfold compOk at hcomp
  simp only [Bool.and_eq_true, List.all_eq_true, decide_eq_true_eq] at hcomp
  obtain ⟨hkind, hall⟩ := hcomp
  have hcell : ∀ x ∈ scope.names, x.2 ≠ .cell := fun x hx => by have := (hall x hx).1.1; simpa using this
  refine wpAny_mono (h.run G A z s env a b I F) (fun v s₁ q1_ => q1_.elim fun z₁ σ₁ x e₁ r₁ q2_ => q2_.elim fun items q3_ => q3_.elim fun it q₁ => ?_) fun _ _ y => y
  have F₁ := F.ext e₁
  refine it.run G A z₁ σ₁ s₁ v _ a.hand e₁.inv r₁ fun J s₂ fp P St e₂ h0 hz hσ W live hfp hP st => ?_
  have F₂ := F₁.ext e₂
  refine wpAny_newObj_type ?_
  generalize hD : s₂.heap.objs.size = D
  obtain ⟨d1, d2, d3⟩ := e₂.inv.fresh
  rw [hD] at d1 d2 d3
  generalize hs₃ : ({ s₂ with heap := s₂.heap.push { cls := .type "list", data := .seq ([] : List Value).toArray } } : Shared) = s₃
  have e₃ : Ext c (fun _ => False) z₁ σ₁ s₂ z₁ σ₁ s₃ := by
    subst hs₃
    exact (Ext.refl e₂.inv).touch (I := D) (t := s₂.toks) d3 d2 d1 (fun b o hb e => Heap.get?_push_of_some _ e)
  have lD : s₃.heap.get? D = some { cls := .type "list", data := .seq ([] : List Value).toArray } := by subst hs₃; subst hD; exact Heap.get?_push_size _ rfl
  refine wpAny_newFunctionEnv hcell (fun y hy => nomatch hy) (fun h₁ hns₁ hsb₁ => ?_) hkind
  generalize hC : s₃.heap.objs.size = C at hns₁ hsb₁ ⊢
  obtain ⟨f1, f2, f3⟩ := e₃.inv.fresh
  rw [hC] at f1 f2 f3
  have hk₁ : ∀ b o, b ≠ C → s₃.heap.get? b = some o → h₁.get? b = some o := fun b o hb e => (hsb₁.2 b hb).trans (Heap.get?_push_of_some _ e)
  have e₄ : Ext c (fun _ => False) z₁ σ₁ s₃ z₁ σ₁ { s₃ with heap := h₁, toks := s₃.toks + ([] : List (Str × Value)).length } := (Ext.refl e₃.inv).touch (I := C) f3 f2 f1 hk₁
  generalize hs₄ : ({ s₃ with heap := h₁, toks := s₃.toks + ([] : List (Str × Value)).length } : Shared) = s₄ at e₄ ⊢
  have hh₄ : s₄.heap = h₁ := by subst hs₄; rfl
  have F₄ : Frm c z₁ σ₁ env ρ s₄.heap := (F₂.ext e₃).ext e₄
  have e₁₃ := (e₁.trans e₂).trans e₃
  have C0 : s.heap.get? C = none := e₁₃.live C f3
  have D0 : s.heap.get? D = none := (e₁.trans e₂).live D d3
  have DC : D ≠ C := by rintro rfl; rw [f3] at lD; cases lD
  have JD : J ≠ D := by rintro rfl; exact live _ _ st d3
  have lJ₃ : s₃.heap.get? J ≠ none := by
    intro q
    exact live _ _ st (e₃.live J q)
  have JC : J ≠ C := by rintro rfl; exact lJ₃ f3
  have J0 : s.heap.get? J = none := e₁.live J h0
  have Fe : ∀ b, s₁.heap.get? b = none → ¬ Fw env b := fun b hb => F₁.notFw hb
  generalize hcenv : ({ (newEnv scope C env.globals cl env.qual none .none (some env) builtinsNs) with scope := relabel scope env } : Env) = cenv
  have hcl : cenv.locals = C := by subst hcenv; rfl
  have hcc : cenv.cells = cl := by subst hcenv; rfl
  have hsc : cenv.scope = relabelS scope sc := by subst hcenv; exact relabel_eq b
  have hkf : ∀ x, cenv.kindOf x = (relabelS scope sc).names.lookup x := fun x => by unfold Env.kindOf; rw [hsc]
  have bc : EnvOk (relabelS scope sc) cenv := ⟨hsc, hkind, by subst hcenv; exact b.globals, by subst hcenv; exact b.builtins⟩
  have FC : Frm c z₁ σ₁ cenv (compρ scope sc ρ) s₄.heap := by
    have hlk : ∀ x V, (compρ scope sc ρ).lookup x = some V → ρ.lookup x = some V ∧ (relabelS scope sc).names.lookup x ≠ some .local := fun x V e => by
      obtain ⟨h1, h2⟩ := lookup_filter (f := fun p => (relabelS scope sc).names.lookup p.1 != some .local) (fun _ _ _ => rfl) e
      exact ⟨h1, by simpa using h2⟩
    refine ⟨⟨_, by rw [hcl, hh₄]; exact hns₁, fun x V e ky => absurd (by rw [← hkf]; exact ky) (hlk x V e).2⟩, fun x V e ky => ?_, by rw [hcl]; exact ⟨f2, f1⟩, fun x q e => ?_, fun x y q e e' => F₄.apart x y q (hc2 _ _ (hcc ▸ e)) (hc2 _ _ (hcc ▸ e')), fun x hx => ?_⟩
    · rw [hkf] at ky
      have hfree : (x, NameKind.free) ∈ scope.names := by
        rcases ky with h | h
        · obtain ⟨k0, hm, q⟩ := mem_of_relabel h
          rcases q with rfl | ⟨rfl, _⟩
          · exact absurd rfl (hcell _ hm)
          · exact hm
        · obtain ⟨k0, hm, q⟩ := mem_of_relabel h
          rcases q with rfl | ⟨_, q, _⟩
          · exact hm
          · cases q
      have hk2 := (hall _ hfree).2
      simp only [bne_self_eq_false, Bool.false_or, Bool.and_eq_true, Bool.or_eq_true, beq_iff_eq] at hk2
      obtain ⟨q, hq⟩ := Option.isSome_iff_exists.mp (hc3 x hfree)
      obtain ⟨a', v', h1, h2, h3⟩ := F₄.cl x V (hlk x V e).1 (by unfold Env.kindOf; rw [b.scope]; exact hk2.2)
      have := hc2 x q hq
      rw [h1] at this; cases this
      exact ⟨_, v', hcc ▸ hq, h2, h3⟩
    · obtain ⟨h1, h2, h3, v', h4⟩ := F₄.cells x q (hc2 _ _ (hcc ▸ e))
      refine ⟨h1, h2, ?_, v', h4⟩
      rw [hcl]
      rintro rfl
      exact Fe _ (e₂.live _ (e₃.live _ f3)) (.inr ⟨x, hc2 _ _ (hcc ▸ e)⟩)
    · rw [hkf] at hx
      rw [hcc]
      obtain ⟨k0, hm, q⟩ := mem_of_relabel hx
      rcases q with rfl | ⟨rfl, _⟩
      · exact absurd rfl (hcell _ hm)
      · exact hc3 x hm
  have notFc : ∀ b, b ≠ C → s₁.heap.get? b = none → ¬ Fw cenv b := fun b h1 h2 => by
    rintro (q | ⟨x, hx⟩)
    · exact h1 (q.trans hcl)
    · exact Fe b h2 (.inr ⟨x, hc2 _ _ (hcc ▸ hx)⟩)
  have CA : AccR c z₁ σ₁ D [] s₄.heap := ⟨d2, d1, #[], ⟨_, by rw [hh₄]; exact hk₁ D _ DC lD⟩, VRs_nil.mpr rfl⟩
  have st₄ : St 0 s₄.heap := IterP.st (W A a.hand) hfp (.refl _) e₃.inv e₄ id hσ (IterP.st (W A a.hand) hfp (.refl _) e₂.inv e₃ id hσ st)
  show codeAny _ A (.compStart (.ListComp elt gens scope p) 0 (.ref J) (.ref D) cenv) (RR (.ref D) C) s₄
  refine codeAny_mono (comp_start (s₀ := s₁) hg hi ok G a bc hkn (((e₂.trans e₃).trans e₄).none) FC CA (notFc D DC (e₂.live _ d3)) (notFc J JC h0) (by
    rintro (q | q)
    · exact JC (q.trans hcl)
    · exact JD q) h0 hz hσ W live hfp hP st₄ q₁) fun r s₅ q4_ => q4_.elim fun hr q5_ => q5_.elim fun z₅ σ₅ ρ₅ ys e₅ F₅ C₅ q₅ => ?_
  subst hr
  obtain ⟨vs, ⟨o, ho⟩, hv⟩ := C₅.is
  have eAll : Ext c (fun _ => False) z σ s z₅ σ₅ s₅ := by
    have e15 : Ext c (FwD cenv D) z σ s z₅ σ₅ s₅ := (e₁.none (P' := FwD cenv D)).trans e₅
    refine ⟨e15.inv, e15.zz, fun b o e n _ => e15.out b o e n ?_, e15.own, e15.live, e15.gens, e15.drawn, e15.os⟩
    rintro (q | rfl)
    · rw [q, hcl, C0] at e; cases e
    · rw [D0] at e; cases e
  obtain ⟨z₆, e₆, gD, sub₆, only₆⟩ := eAll.adopt D0 ho C₅.unz C₅.uns
  have own5 := F₅.own
  rw [hcl] at own5
  have nC6 : z₆.get? C = none := by
    cases q : z₆.get? C with
    | none => rfl
    | some oc =>
      rcases only₆ C (by rw [q]; exact fun h => nomatch h) with g | g
      · exact absurd own5.1 g
      · exact absurd g.symm DC
  obtain ⟨m5, hn5, _⟩ := F₅.ns
  rw [hcl] at hn5
  exact hRR z₆ σ₅ ρ₅ ys D C s₅ e₆ (VR_lst.mpr ⟨D, vs, rfl, ⟨o, gD⟩, hv.sub sub₆⟩) ⟨m5, hn5⟩ nC6 own5.2 C0 q₅
theorem compOk_clos {scope : Scope} {env : Env} {z : Heap} {h : Heap} (hcomp : compOk scope sc ρ = true) (b : EnvOk sc env) (F : Frm c z σ env ρ h) :
    scope.kind = .function ∧ (∀ x ∈ scope.names, x.2 = .local → scope.names.lookup x.1 = some .local) ∧ ∃ cl, closureFor scope env = pure cl ∧ (∀ x a, cl.lookup x = some a → env.cells.lookup x = some a) ∧ (∀ x, (x, NameKind.free) ∈ scope.names → (cl.lookup x).isSome = true) := by
  unfold compOk at hcomp
  simp only [Bool.and_eq_true, List.all_eq_true, decide_eq_true_eq] at hcomp
  obtain ⟨hkind, hall⟩ := hcomp
  refine ⟨hkind, fun x hx e => ?_, closureFor_is fun x hx e => ?_⟩
  · have := (hall x hx).1.2
    rw [e] at this
    simpa using this
  · have := (hall x hx).2
    rw [e] at this
    simp only [bne_self_eq_false, Bool.false_or, Bool.and_eq_true, Bool.or_eq_true, beq_iff_eq] at this
    obtain ⟨V, hV⟩ := Option.isSome_iff_exists.mp this.1
    obtain ⟨a', v', h1, _⟩ := F.cl x.1 V hV (by unfold Env.kindOf; rw [b.scope]; exact this.2)
    exact ⟨a', h1⟩
theorem WE_compAny {gens : List Comprehension} {elt iter : Expr} {scope : Scope} {p : Pos} {n : Str} {pt : Pos} {ifs : List Expr} {step : Step} {m : Addr → Env → Sem Unit} {gs : List Comprehension}
    (hg : gens = ⟨.Name n pt, iter, ifs, 0⟩ :: gs) (hi : InnerIs elt gens scope p 0 m) (ok : c.Good → StepOk c k (relabelS scope sc) step m) (hkn : (relabelS scope sc).names.lookup n = some .local) (hcomp : compOk scope sc ρ = true)
    (h : WE c k sc ρ iter σ fun x σ₁ => ∃ items, IterP c x items ∧ CompL c k (relabelS scope sc) n ifs step (fun ys _ σ' => Q (.lst ys) σ') items [] (compρ scope sc ρ) σ₁)
    (hs : ∀ env x, foldedSetIterable iter env x = pure x) : WE c k sc ρ (.ListComp elt gens scope p) σ Q := .mk fun G A z s env a b I F => by
  obtain ⟨hkind, hnames, cl, hclos, hc2, hc3⟩ := compOk_clos hcomp b F
  subst hg
  rw [eval_ListComp]
  refine wpAny_comprehension_free (use := none) rfl (hs env) hclos hkind hnames ?_
  refine comp_pre (QL := fun ys _ σ' => Q (.lst ys) σ') rfl hi (ok G) hkn hcomp G a b I F hc2 hc3 h ?_
  intro z' σ' ρ' ys D C s' e r hn hz hσ hC q
  obtain ⟨m', hm'⟩ := hn
  refine ⟨m', hm', fun h' hs' => ⟨z', σ', .lst ys, e.touch hC hz hσ (fun b o hb e => (hs'.2 b hb).trans e), r, q⟩⟩
theorem WE_comp1 {elt iter : Expr} {scope : Scope} {p : Pos} {n : Str} {pt : Pos} {ifs : List Expr} (hkn : (relabelS scope sc).names.lookup n = some .local) (hcomp : compOk scope sc ρ = true)
    (h : WE c k sc ρ iter σ fun x σ₁ => ∃ items, IterP c x items ∧ CompL c k (relabelS scope sc) n ifs (stepE c k (relabelS scope sc) elt) (fun ys _ σ' => Q (.lst ys) σ') items [] (compρ scope sc ρ) σ₁)
    (hs : ∀ env x, foldedSetIterable iter env x = pure x := by exact fun _ _ => rfl) : WE c k sc ρ (.ListComp elt [⟨.Name n pt, iter, ifs, 0⟩] scope p) σ Q :=
  WE_compAny rfl (.emit rfl) (fun G => stepE_ok G elt) hkn hcomp h hs
theorem WE_comp2 {elt iter iter' : Expr} {scope : Scope} {p : Pos} {n n' : Str} {pt pt' : Pos} {ifs ifs' : List Expr} (hkn : (relabelS scope sc).names.lookup n = some .local) (hkn' : (relabelS scope sc).names.lookup n' = some .local) (hcomp : compOk scope sc ρ = true)
    (h : WE c k sc ρ iter σ fun x σ₁ => ∃ items, IterP c x items ∧ CompL c k (relabelS scope sc) n ifs (stepN c k (relabelS scope sc) iter' n' ifs' (stepE c k (relabelS scope sc) elt)) (fun ys _ σ' => Q (.lst ys) σ') items [] (compρ scope sc ρ) σ₁)
    (hs : ∀ env x, foldedSetIterable iter env x = pure x := by exact fun _ _ => rfl) (hs' : ∀ env x, foldedSetIterable iter' env x = pure x := by exact fun _ _ => rfl) : WE c k sc ρ (.ListComp elt [⟨.Name n pt, iter, ifs, 0⟩, ⟨.Name n' pt', iter', ifs', 0⟩] scope p) σ Q :=
  WE_compAny rfl (.nest rfl) (fun G => stepN_ok G (d := 0) rfl (.emit rfl) (stepE_ok G elt) hs' hkn') hkn hcomp h hs
theorem WS_assignC {elt iter : Expr} {scope : Scope} {p : Pos} {n y : Str} {pt py : Pos} {ifs : List Expr} (hkn : (relabelS scope sc).names.lookup n = some .local) (hcomp : compOk scope sc ρ = true) (hy : sc.names.lookup y = some .local)
    (h : WE c k sc ρ iter σ fun x σ₁ => ∃ items, IterP c x items ∧ CompL c k (relabelS scope sc) n ifs (stepE c k (relabelS scope sc) elt) (fun ys _ σ' => QS .next (putF y (.lst ys) ρ) σ') items [] (compρ scope sc ρ) σ₁)
    (hl : (py.line == p.line) = true := by rfl) (hno : (scope.names.any fun x => x.1 == y && (x.2 == .local || x.2 == .cell)) = false := by rfl) (hp : (Expr.ListComp elt [⟨.Name n pt, iter, ifs, 0⟩] scope p).pos = p := by rfl)
    (hs : ∀ env x, foldedSetIterable iter env x = pure x := by exact fun _ _ => rfl) : WS c k sc ρ (.Assign [.Name y py] (.ListComp elt [⟨.Name n pt, iter, ifs, 0⟩] scope p) pos) σ QS := .mk fun G A z s env a b I F => by
  obtain ⟨hkind, hnames, cl, hclos, hc2, hc3⟩ := compOk_clos hcomp b F
  have hsw : swapsWith (.ListComp elt [⟨.Name n pt, iter, ifs, 0⟩] scope p) (some (.Name y py)) pos.line env = pure true := by
    show (pure (env.blockKind == .function && env.kindOf y == some .local && py.line == p.line && !(scope.names.any fun (n, k) => n == y && (k == .local || k == .cell))) : Sem Bool) = _
    have e1 : (env.blockKind == .function) = true := by
      unfold Env.blockKind; rw [b.scope, b.kind]; rfl
    have e2 : env.kindOf y = some .local := by unfold Env.kindOf; rw [b.scope]; exact hy
    rw [e1, e2, hl]
    have e3 : (scope.names.any fun (n, k) => n == y && (k == .local || k == .cell)) = false := hno
    rw [e3]; rfl
  rw [exec_Assign_Name_used _ _ _ _ hsw]
  refine wpAny_bind (wpAny_standAt (wpAny_bind ?_))
  show wpAny _ A (do let _ ← comprehension (.ListComp elt [⟨.Name n pt, iter, ifs, 0⟩] scope p) scope env _ (newList []) false (eval iter env) (some (assign (.Name y py) env))) _ _ s
  refine wpAny_bind (wpAny_mono (wpAny_comprehension_free (use := some (assign (.Name y py) env)) (Q := fun _ s' => PostS c env z σ s QS .next s') rfl (hs env) hclos hkind hnames ?_) (fun _ s' hq => wpAny_pure (wpAny_pure hq)) fun _ _ e => e)
  refine comp_pre (QL := fun ys _ σ' => QS .next (putF y (.lst ys) ρ) σ') rfl (.emit rfl) (stepE_ok G elt) hkn hcomp G a b I F hc2 hc3 h ?_
  intro z' σ' ρ' ys D C s' e r hn hz hσ hC q
  obtain ⟨m', hm'⟩ := hn
  refine wpAny_mono (assign_local hy b e.inv (F.ext e) r) (fun _ s₂ q12_ => q12_.elim fun e₂ F₂ => ?_) fun _ _ y => y
  have nC : ¬ Fw env C := F.notFw hC
  refine ⟨m', hm'.at' (fun o e => e₂.out C o e hσ (fun q => nC (.inl q))), fun h' hs' => ?_⟩
  have e₃ : Ext c (Fw env) z σ s z' σ' s₂ := (e.none (P' := Fw env)).trans (e₂.weaken fun _ h => .inl h)
  exact ⟨z', σ', _, .next, e₃.touch hC hz hσ (fun b o hb e => (hs'.2 b hb).trans e), F₂.touch nC (fun b o hb e => (hs'.2 b hb).trans e), rfl, q⟩
theorem CompL.inv {n : Str} {ifs : List Expr} {step : Step} {QL : List V → Loc → Sto → Prop} (J : List V → List V → Loc → Sto → Prop) (hn : ∀ acc ρ σ, J [] acc ρ σ → QL acc ρ σ)
    (mono : ∀ acc ρ σ Q Q', (∀ a b d, Q a b d → Q' a b d) → step acc ρ σ Q → step acc ρ σ Q') (wmono : ∀ ρ σ (Q Q' : Bool → Sto → Prop), (∀ b d, Q b d → Q' b d) → WIf c k sc ifs ρ σ Q → WIf c k sc ifs ρ σ Q')
    (hc : ∀ x r acc ρ σ, J (x :: r) acc ρ σ → WIf c k sc ifs (putF n x ρ) σ fun b σ₂ => (b = true → step acc (putF n x ρ) σ₂ fun acc' ρ₂ σ₃ => J r acc' ρ₂ σ₃) ∧ (b = false → J r acc (putF n x ρ) σ₂)) :
    ∀ (items acc : List V) (ρ : Loc) (σ : Sto), J items acc ρ σ → CompL c k sc n ifs step QL items acc ρ σ
  | [], acc, ρ, σ, h => hn acc ρ σ h
  | x :: r, acc, ρ, σ, h => by
    exact wmono _ _ _ _ (fun b d q => ⟨fun e => mono _ _ _ _ _ (fun a b d q => CompL.inv J hn mono wmono hc r a b d q) (q.1 e), fun e => CompL.inv J hn mono wmono hc r _ _ _ (q.2 e)⟩) (hc x r acc ρ σ h)
theorem WT.mono {e : Expr} {Q Q' : Bool → Sto → Prop} (h : WT c k sc ρ e σ Q) (q : ∀ b d, Q b d → Q' b d) : WT c k sc ρ e σ Q' := .mk fun G A z s env a b I F =>
  wpAny_mono (h.run G A z s env a b I F) (fun _ _ q13_ => q13_.elim fun z' σ' x hq => ⟨z', σ', x, q _ _ hq⟩) fun _ _ y => y
theorem WIf.mono {ifs : List Expr} : ∀ ρ σ (Q Q' : Bool → Sto → Prop), (∀ b d, Q b d → Q' b d) → WIf c k sc ifs ρ σ Q → WIf c k sc ifs ρ σ Q' := fun ρ σ Q Q' q h => by
  match ifs, h with
  | [], h => exact q _ _ h
  | [t], h => exact WT.mono h q
theorem stepE_mono {elt : Expr} : ∀ acc ρ σ Q Q', (∀ a b d, Q a b d → Q' a b d) → stepE c k sc elt acc ρ σ Q → stepE c k sc elt acc ρ σ Q' := fun acc ρ σ Q Q' q h => ⟨h.1, h.2.mono fun x d h => q _ _ _ h⟩
theorem stepN_mono {iter : Expr} {n : Str} {ifs : List Expr} {stp : Step} (hm : ∀ acc ρ σ Q Q', (∀ a b d, Q a b d → Q' a b d) → stp acc ρ σ Q → stp acc ρ σ Q') :
    ∀ acc ρ σ Q Q', (∀ a b d, Q a b d → Q' a b d) → stepN c k sc iter n ifs stp acc ρ σ Q → stepN c k sc iter n ifs stp acc ρ σ Q' := fun acc ρ σ Q Q' q h =>
  WE.mono h fun x d q14_ => q14_.elim fun items q15_ => q15_.elim fun it h => ⟨items, it, by
    have key : ∀ (items acc : List V) (ρ : Loc) (σ : Sto), CompL c k sc n ifs stp Q items acc ρ σ → CompL c k sc n ifs stp Q' items acc ρ σ := by
      intro items
      induction items with
      | nil => intro acc ρ σ h; exact q _ _ _ h
      | cons x r ih =>
        intro acc ρ σ h
        exact WIf.mono _ _ _ _ (fun b d w => ⟨fun e => hm _ _ _ _ _ (fun a b d w => ih _ _ _ w) (w.1 e), fun e => ih _ _ _ (w.2 e)⟩) h
    exact key _ _ _ _ h⟩
end Mine
end
section
namespace Mine
variable {c : Cx} {k : Nat} {sc : Scope} {ρ : Loc} {σ : Sto} {pos : Pos} {Q : V → Sto → Prop} {QS : Fl → Loc → Sto → Prop}
structure IxP (c : Cx) (ov iv : V) (σ : Sto) (x : V) : Prop where
  run : c.Good → ∀ A z s vo vi, AOk 0 A → Inv c z σ s → VR c z ov vo → VR c z iv vi → (∃ T id, s.TypeIs vo T ∧ typeLookup (.type T) "__getitem__" = pure (some (.builtin id))) ∧
    ∀ (Q : Value → Shared → Prop), (∀ v t, VR c z x v → Q v { s with toks := t }) → wpAny (model c.prog c.w) A (getItem vo vi) Q noE s
theorem subTail {value slice : Expr} {o i : Value} {T id : String} {A : Around} {s : Shared} {Q : Value → Shared → Prop} (hT : s.TypeIs o T)
    (hl : typeLookup (.type T) "__getitem__" = pure (some (.builtin id))) (h : wpAny (model c.prog c.w) A (getItem o i) Q noE s)
    (hs : ∃ ops, subscripted slice false o i = operate ops (getItem o i)) : wpAny (model c.prog c.w) A (subscriptTail value slice o i) Q noE s := by
  obtain ⟨ops, hs⟩ := hs
  unfold subscriptTail
  refine wpAny_bind ?_
  rw [getitemInPython_of_ne hT.not_modules]
  refine wpAny_bind (wpAny_specialOf hT hl ?_)
  have fin : wpAny (model c.prog c.w) A (subscripted slice false o i) (fun r s₃ => wpAny (model c.prog c.w) A (letTemporaryGo value o r >>= fun _ => pure r) Q noE s₃) noE s := by
    rw [hs]
    exact wpAny_operating (wpAny_mono h (fun r s₃ h₃ => wpAny_bind (wpAny_letTemporaryGo (wpAny_pure h₃))) fun _ _ x => x)
  first
    | exact wpAny_pure (wpAny_bind fin)
    | exact wpAny_bind (wpAny_pure (wpAny_bind fin))
    | exact wpAny_bind fin
theorem WE_sub {value slice : Expr} (h : WE c k sc ρ value σ fun ov σ₁ => WE c k sc ρ slice σ₁ fun iv σ₂ => ∃ x, IxP c ov iv σ₂ x ∧ Q x σ₂)
    (hs : ∀ o i, subscripted slice false o i = operate [o, i] (getItem o i) := by exact fun _ _ => rfl) : WE c k sc ρ (.Subscript value slice pos) σ Q := .mk fun G A z s env a b I F => by
  refine Subscript_ (wpAny_mono (h.run G A z s env a b I F) (fun v₁ s₁ q1_ => q1_.elim fun z₁ σ₁ x₁ e₁ r₁ q₁ => wpAny_mono (q₁.run G A z₁ s₁ env a b e₁.inv (F.ext e₁)) (fun v₂ s₂ q2_ => q2_.elim fun z₂ σ₂ x₂ e₂ r₂ q3_ => q3_.elim fun x q4_ => q4_.elim fun p q₂ => ?_) fun _ _ y => y) fun _ _ y => y)
  obtain ⟨⟨T, id, hT, hl⟩, hw⟩ := p.run G A z₂ s₂ v₁ v₂ a.zero e₂.inv (r₁.sub e₂.zz) r₂
  exact subTail hT hl (hw _ fun v t hv => Post.ext (e₁.trans e₂) (Post.here e₂.inv hv q₂ t)) ⟨_, hs _ _⟩
theorem IxP_lst {l : List V} {i : Nat} {x : V} (hx : l[i]? = some x) (hi : i < 2 ^ 63 := by decide) : IxP c (.lst l) (.int i) σ x := .mk fun G A z s vo vi a I r q => by
  obtain ⟨p, vs, rfl, hl, hv⟩ := VR_lst.mp r
  obtain ⟨t, rfl⟩ := VR_int.mp q
  have hl' := isList_sub I.keep hl
  refine ⟨⟨"list", _, hl'.typeIs, slot_list_getitem.lookup⟩, fun Q hq => ?_⟩
  obtain ⟨v, h1, h2⟩ := VRs_get l hv hx
  exact wpAny_getItem_list hl' (by lia) (by lia) (by simpa using h1) (hq v s.toks h2)
theorem IxP_last {l : List V} {x : V} (hx : l.getLast? = some x) : IxP c (.lst l) (.int (-1)) σ x := .mk fun G A z s vo vi a I r q => by
  obtain ⟨p, vs, rfl, hl, hv⟩ := VR_lst.mp r
  obtain ⟨t, rfl⟩ := VR_int.mp q
  have hl' := isList_sub I.keep hl
  refine ⟨⟨"list", _, hl'.typeIs, slot_list_getitem.lookup⟩, fun Q hq => ?_⟩
  rw [List.getLast?_eq_getElem?] at hx
  obtain ⟨v, h1, h2⟩ := VRs_get l hv hx
  have hsz : vs.size = l.length := by rw [← Array.length_toList]; exact VRs_len l hv
  have hpos : 0 < l.length := by
    cases l with
    | nil => simp at hx
    | cons _ _ => simp
  refine wpAny_getItem_list_neg hl' (by lia) (by lia) (by decide) ?_ (hq v s.toks h2)
  rw [← Array.getElem?_toList, ← h1]
  congr 1
  lia
theorem IxP_tup {l : List V} {i : Nat} {x : V} (hx : l[i]? = some x) (hi : i < 2 ^ 63 := by decide) : IxP c (.tup l) (.int i) σ x := .mk fun G A z s vo vi a I r q => by
  obtain ⟨p, vs, rfl, hl, hv⟩ := VR_tup.mp r
  obtain ⟨t, rfl⟩ := VR_int.mp q
  have hl' := isTup_sub I.keep hl
  refine ⟨⟨"tuple", _, hl'.typeIs, slot_tuple_getitem.lookup⟩, fun Q hq => ?_⟩
  obtain ⟨v, h1, h2⟩ := VRs_get l hv hx
  have hsz : vs.size = l.length := by rw [← Array.length_toList]; exact VRs_len l hv
  have hlt : i < l.length := by
    rcases Nat.lt_or_ge i l.length with h | h
    · exact h
    · rw [List.getElem?_eq_none h] at hx; cases hx
  exact getItem_tuple hl' (by lia) (by lia) (seqIndex_of (by lia) (by lia)) (by simpa using h1) (hq v s.toks h2)
theorem IxP_ref {l : List V} {a : Addr} {i : Nat} {x : V} (hσ : σ a = some (.lst l)) (hx : l[i]? = some x) (hi : i < 2 ^ 63 := by decide) : IxP c (.ref a) (.int i) σ x := .mk fun G A z s vo vi ao I r q => by
  rw [VR_ref.mp r]
  obtain ⟨t, rfl⟩ := VR_int.mp q
  obtain ⟨g1, g2, ob, g3, hc, vs, n, hd, hv⟩ := I.mt a _ hσ
  have hl' : s.heap.IsList a vs := ⟨ob, g3, hc, n, hd⟩
  refine ⟨⟨"list", _, hl'.typeIs, slot_list_getitem.lookup⟩, fun Q hq => ?_⟩
  obtain ⟨v, h1, h2⟩ := VRs_get l hv hx
  exact wpAny_getItem_list hl' (by lia) (by lia) (by simpa using h1) (hq v s.toks h2)
noncomputable def lkI (l : List (Int × V)) (i : Int) : Option V := (l.find? fun p => p.1 = i).map (·.2)
theorem VRi_lk {z : Heap} (i : Int) : ∀ (l : List (Int × V)) {es : List (Int × Value)}, VRi c z l es → (lkI l i = none ∧ valueAt es i = none) ∨ ∃ x v, lkI l i = some x ∧ valueAt es i = some v ∧ VR c z x v
  | [], es, h => by cases VRi_nil.mp h; exact .inl ⟨rfl, rfl⟩
  | (a, x) :: r, es, h => by
    replace h := VRi_cons.mp h
    obtain ⟨v, vr, rfl, h1, h2⟩ := h
    unfold lkI valueAt
    simp only [List.find?_cons]
    by_cases e : a = i
    · subst e; simp only [decide_true]; exact .inr ⟨x, v, rfl, rfl, h1⟩
    · simp only [e, decide_false]
      exact VRi_lk i r h2
theorem VRi_some {z : Heap} {i : Int} {l : List (Int × V)} {es : List (Int × Value)} (h : VRi c z l es) {x : V} (e : lkI l i = some x) : ∃ v, valueAt es i = some v ∧ VR c z x v := by
  rcases VRi_lk i l h with ⟨h1, _⟩ | ⟨y, v, h1, h2, h3⟩
  · rw [h1] at e; cases e
  · rw [h1] at e; cases e; exact ⟨v, h2, h3⟩
theorem isInt_of {i : Int} {t : Tok} : (intKind c.prog c.w).is i (.int i t) = true := intKind_is _ _ _ _
theorem IxP_dcI {l : List (Int × V)} {i : Int} {x : V} (hx : lkI l i = some x) : IxP c (.dcI l) (.int i) σ x := .mk fun G A z s vo vi a I r q => by
  obtain ⟨p, kvs, rfl, hm, hd, hv⟩ := VR_dcI.mp r
  obtain ⟨t, rfl⟩ := VR_int.mp q
  have hd' := dictOf_sub I.keep hd
  obtain ⟨v, h1, h2⟩ := VRi_some hv hx
  exact ⟨⟨"dict", _, hd'.typeIs, slot_dict_getitem.lookup⟩, fun Q hq => wpAny_getItem_of (knd := kI c) isInt_of hd'.mapOf h1 (hq v _ h2)⟩
noncomputable def clipU (b : Nat) (n : Nat) : Nat := if b ≤ n then b else n
theorem slicePick_upto' (items : Array Value) (b : Nat) : slicePick items none (some b) none = ((items.toList).take b).toArray := by
  rcases Nat.lt_or_ge items.size b with h | h
  rotate_left
  · exact slicePick_upto items b h
  · have e : slicePick items none (some (b : Int)) none = slicePick items none (some ((items.size : Nat) : Int)) none := by
      unfold slicePick
      have : sliceBounds none (some (b : Int)) none items.size = sliceBounds none (some ((items.size : Nat) : Int)) none items.size := by
        unfold sliceBounds
        simp only [Option.getD_none]
        have h1 : ¬ ((b : Int) < 0) := by lia
        have h2 : ¬ (((items.size : Nat) : Int) < 0) := by lia
        simp only [h1, h2, if_false]
        congr 2
        simp only [show (1 : Int) > 0 from by decide, if_true]
        lia
      rw [this]
    rw [e, slicePick_upto items items.size (Nat.le_refl _), List.take_of_length_le (by simp), List.take_of_length_le (by simp; lia)]
theorem VRs_take {z : Heap} : ∀ (n : Nat) (l : List V) {vs : List Value}, VRs c z l vs → VRs c z (l.take n) (vs.take n)
  | 0, l, vs, h => by simp; exact VRs_nil.mpr rfl
  | n + 1, [], vs, h => by rw [VRs_nil.mp h]; exact VRs_nil.mpr rfl
  | n + 1, x :: r, vs, h => by
    obtain ⟨v, vr, rfl, h1, h2⟩ := VRs_cons.mp h
    exact VRs_cons.mpr ⟨v, vr.take n, rfl, h1, VRs_take n r h2⟩
theorem VRs_drop {z : Heap} : ∀ (n : Nat) (l : List V) {vs : List Value}, VRs c z l vs → VRs c z (l.drop n) (vs.drop n)
  | 0, l, vs, h => h
  | n + 1, [], vs, h => by rw [VRs_nil.mp h]; exact VRs_nil.mpr rfl
  | n + 1, x :: r, vs, h => by
    obtain ⟨v, vr, rfl, h1, h2⟩ := VRs_cons.mp h
    exact VRs_drop n r h2
noncomputable def WP (c : Cx) (k : Nat) (sc : Scope) (ρ : Loc) (e : Option Expr) (σ : Sto) (Q : Option Nat → Sto → Prop) : Prop :=
  match e with
  | none => Q none σ
  | some e => WE c k sc ρ e σ fun x σ₁ => ∃ n : Nat, x = .int n ∧ Q (some n) σ₁
theorem WP_run {e : Option Expr} {Q : Option Nat → Sto → Prop} (h : WP c k sc ρ e σ Q) (G : c.Good) {A : Around} {z : Heap} {s : Shared} {env : Env} (a : AOk k A) (b : EnvOk sc env) (I : Inv c z σ s) (F : Frm c z σ env ρ s.heap) :
    wpAny (model c.prog c.w) A (evalPart e env) (fun v s' => ∃ z' σ' n, Ext c (fun _ => False) z σ s z' σ' s' ∧ IsPart v (n.map fun m : Nat => (m : Int)) ∧ Q n σ') noE s := by
  cases e with
  | none => exact wpAny_pure ⟨z, σ, none, Ext.refl I, .none, h⟩
  | some e =>
    refine wpAny_mono (WE.run h G A z s env a b I F) (fun v s₁ q5_ => q5_.elim fun z₁ σ₁ x e₁ r₁ q6_ => q6_.elim fun n q7_ => q7_.elim fun hx q => ?_) fun _ _ y => y
    subst hx
    obtain ⟨t, rfl⟩ := VR_int.mp r₁
    exact ⟨z₁, σ₁, some n, e₁, .int _ _, q⟩
noncomputable def slV (l : List V) : Option Nat → Option Nat → Option (List V)
  | none, some b => some (l.take b)
  | some a, none => if a ≤ l.length then some (l.drop a) else none
  | some a, some b => if a ≤ b ∧ b ≤ l.length then some ((l.drop a).take (b - a)) else none
  | none, none => some l
theorem slV_ok {z : Heap} {l l' : List V} {vs : Array Value} {lo hi : Option Nat} (hv : VRs c z l vs.toList) (h : slV l lo hi = some l') : VRs c z l' (slicePick vs (lo.map fun m : Nat => (m : Int)) (hi.map fun m : Nat => (m : Int)) none).toList := by
  have hsz : vs.size = l.length := by rw [← Array.length_toList]; exact VRs_len l hv
  unfold slV at h
  split at h
  · cases h
    rw [Option.map_none, Option.map_some, slicePick_upto']
    exact VRs_take _ _ hv
  · split at h
    · rename_i a ha
      cases h
      rw [Option.map_none, Option.map_some, slicePick_from vs a (by lia)]
      exact VRs_drop _ _ hv
    · cases h
  · split at h
    · rename_i a b ha
      cases h
      rw [Option.map_some, Option.map_some, slicePick_run vs a b (by lia) ha.1]
      exact VRs_take _ _ (VRs_drop _ _ hv)
    · cases h
  · cases h
    rw [Option.map_none, slicePick_all]
    exact hv
theorem WE_slice {value : Expr} {lower upper : Option Expr} {p : Pos} (h : WE c k sc ρ value σ fun ov σ₁ => WP c k sc ρ lower σ₁ fun lo σ₂ => WP c k sc ρ upper σ₂ fun hi σ₃ => ∃ l l', ov = .lst l ∧ l.length ≤ 16777216 ∧ slV l lo hi = some l' ∧ Q (.lst l') σ₃) :
    WE c k sc ρ (.Subscript value (.Slice lower upper none p) pos) σ Q := .mk fun G A z s env a b I F => by
  refine Subscript_ (wpAny_mono (h.run G A z s env a b I F) (fun v₁ s₁ q8_ => q8_.elim fun z₁ σ₁ x₁ e₁ r₁ q₁ => wpAny_Slice (wpAny_mono (WP_run q₁ G a b e₁.inv (F.ext e₁)) (fun v₂ s₂ q9_ => q9_.elim fun z₂ q10_ => q10_.elim fun σ₂ q11_ => q11_.elim fun lo q12_ => q12_.elim fun e₂ q13_ => q13_.elim fun p₂ q₂ => 
    wpAny_mono (WP_run q₂ G a b e₂.inv (F.ext (e₁.trans e₂))) (fun v₃ s₃ q14_ => q14_.elim fun z₃ q15_ => q15_.elim fun σ₃ q16_ => q16_.elim fun hi q17_ => q17_.elim fun e₃ q18_ => q18_.elim fun p₃ q19_ => q19_.elim fun l q20_ => q20_.elim fun l' q21_ => q21_.elim fun hx q22_ => q22_.elim fun hlen q23_ => q23_.elim fun hsl q₃ => ?_) fun _ _ y => y) fun _ _ y => y)) fun _ _ y => y)
  subst hx
  rw [evalPart_none]
  refine wpAny_pure ?_
  have r₃ := (r₁.sub e₂.zz).sub e₃.zz
  obtain ⟨p, vs, rfl, hl, hv⟩ := VR_lst.mp r₃
  have hl' := isList_sub e₃.inv.keep hl
  have hsz : vs.size = l.length := by rw [← Array.length_toList]; exact VRs_len l hv
  obtain ⟨z₄, e₄, g₄⟩ := push_frozen (P := fun _ => False) e₃.inv { cls := .type "slice", data := .fields #[v₂, v₃, .none] }
  refine subTail (T := "list") (hl'.push _).typeIs list_getitem_lookup (wpAny_getItem_list_slice (hl'.push _) (Heap.IsSliceOf.new ..) p₂ p₃ .none (by simp) ?_ (by rw [hsz, sizeLine_eq]; exact hlen)) ⟨_, rfl⟩
  obtain ⟨z₅, e₅, g₅⟩ := push_frozen (P := fun _ => False) e₄.inv { cls := .type "list", data := .seq (slicePick vs (lo.map fun m : Nat => (m : Int)) (hi.map fun m : Nat => (m : Int)) none) }
  exact ⟨z₅, σ₃, .lst l', (((e₁.trans e₂).trans e₃).trans e₄).trans e₅, VR_lst.mpr ⟨_, _, rfl, ⟨_, g₅⟩, slV_ok (VRs.sub (e₄.zz.trans e₅.zz) l hv) hsl⟩, q₃⟩
noncomputable def stI (l : List (Int × V)) (i : Int) (x : V) : List (Int × V) := if l.any (fun p => p.1 = i) then l.map (fun p => if p.1 = i then (p.1, x) else p) else l ++ [(i, x)]
theorem VRi_any {z : Heap} {i : Int} : ∀ (l : List (Int × V)) {es : List (Int × Value)}, VRi c z l es → (l.any fun p => p.1 = i) = es.any fun p => p.1 = i
  | [], es, h => by cases VRi_nil.mp h; rfl
  | (a, x) :: r, es, h => by
    replace h := VRi_cons.mp h
    obtain ⟨v, vr, rfl, h1, h2⟩ := h
    simp only [List.any_cons, VRi_any r h2]
theorem VRi_map {z : Heap} {i : Int} {x : V} {v : Value} (hv : VR c z x v) : ∀ (l : List (Int × V)) {es : List (Int × Value)}, VRi c z l es → VRi c z (l.map fun p => if p.1 = i then (p.1, x) else p) (es.map fun p => if p.1 = i then (p.1, v) else p)
  | [], es, h => by cases VRi_nil.mp h; exact VRi_nil.mpr rfl
  | (a, y) :: r, es, h => by
    replace h := VRi_cons.mp h
    obtain ⟨w, vr, rfl, h1, h2⟩ := h
    simp only [List.map_cons]
    by_cases e : a = i
    · simp only [e, if_true]; exact VRi_cons.mpr ⟨v, _, rfl, hv, VRi_map hv r h2⟩
    · simp only [e, if_false]; exact VRi_cons.mpr ⟨w, _, rfl, h1, VRi_map hv r h2⟩
theorem VRi_snoc {z : Heap} {i : Int} {x : V} {v : Value} (hv : VR c z x v) : ∀ (l : List (Int × V)) {es : List (Int × Value)}, VRi c z l es → VRi c z (l ++ [(i, x)]) (es ++ [(i, v)])
  | [], es, h => by cases VRi_nil.mp h; exact VRi_cons.mpr ⟨v, [], rfl, hv, rfl⟩
  | (a, y) :: r, es, h => by
    replace h := VRi_cons.mp h
    obtain ⟨w, vr, rfl, h1, h2⟩ := h
    exact VRi_cons.mpr ⟨w, _, rfl, h1, VRi_snoc hv r h2⟩
theorem VRi_st {z : Heap} {i : Int} {x : V} {v : Value} (hv : VR c z x v) {l : List (Int × V)} {es : List (Int × Value)} (h : VRi c z l es) : VRi c z (stI l i x) (stored es i v) := by
  unfold stI stored
  rw [VRi_any l h]
  split
  · exact VRi_map hv l h
  · exact VRi_snoc hv l h
structure StIP (c : Cx) (ov iv x : V) (σ σ' : Sto) : Prop where
  run : c.Good → ∀ A z s vo vi v, AOk 0 A → Inv c z σ s → VR c z ov vo → VR c z iv vi → VR c z x v → ∀ (Q : Unit → Shared → Prop), (∀ s', Ext c (fun _ => False) z σ s z σ' s' → Q () s') → wpAny (model c.prog c.w) A (setItem vo vi v) Q noE s
theorem StIP_lst {l : List V} {a : Addr} {i : Nat} {x : V} (hσ : σ a = some (.lst l)) (hn : i < l.length) (hi : i < 2 ^ 63 := by decide) : StIP c (.ref a) (.int i) x σ (σ.set a (.lst (l.set i x))) := .mk fun G A z s vo vi v ao I r q rx Q hq => by
  rw [VR_ref.mp r]
  obtain ⟨t, rfl⟩ := VR_int.mp q
  obtain ⟨g1, g2, ob, g3, hc, vs, n, hd, hv⟩ := I.mt a _ hσ
  have hl' : s.heap.IsList a vs := ⟨ob, g3, hc, n, hd⟩
  have hsz : vs.size = l.length := by rw [← Array.length_toList]; exact VRs_len l hv
  refine wpAny_setItem_list hl' (by lia) (by lia) (by lia) fun h' hl hs => ?_
  obtain ⟨o', ho', hc', n', hd'⟩ := hl
  refine hq _ (upd_mut I hσ hs ho' (y := .lst (l.set i x)) ⟨hc', _, n', hd', ?_⟩)
  have key : ∀ (i : Nat) (l : List V) {vs : List Value}, VRs c z l vs → VRs c z (l.set i x) (vs.set i v) := by
    intro i l
    induction l generalizing i with
    | nil => intro vs h; rw [VRs_nil.mp h]; exact VRs_nil.mpr rfl
    | cons y r ih =>
      intro vs h
      obtain ⟨w, vr, rfl, h1, h2⟩ := VRs_cons.mp h
      cases i with
      | zero => exact VRs_cons.mpr ⟨v, vr, rfl, rx, h2⟩
      | succ i => exact VRs_cons.mpr ⟨w, vr.set i v, rfl, h1, ih i h2⟩
  have := key i l hv
  simpa using this
theorem StIP_dcI {l : List (Int × V)} {a : Addr} {i : Int} {x : V} (hσ : σ a = some (.dcI l)) (hn : l.length ≤ 1000) : StIP c (.ref a) (.int i) x σ (σ.set a (.dcI (stI l i x))) := .mk fun G A z s vo vi v ao I r q rx Q hq => by
  rw [VR_ref.mp r]
  obtain ⟨t, rfl⟩ := VR_int.mp q
  obtain ⟨g1, g2, ob, g3, kvs, hd, hv⟩ := I.mt a _ hσ
  have hd' : s.heap.DictOf (kI c) a kvs := Heap.dictOf_iff.mpr ⟨ob, g3, hd⟩
  refine wpAny_setItem_pairs (knd := kI c) isInt_of hd' (fun h' hm hs => ?_) (by rw [VRi_len l hv, sizeLine_eq]; lia)
  obtain ⟨o', ho', hd''⟩ := Heap.dictOf_iff.mp hm
  exact hq _ (upd_mut I hσ hs ho' (y := .dcI (stI l i x)) ⟨_, hd'', VRi_st rx hv⟩)
theorem WA_sub {o i : Expr} {x : V} {QA : Loc → Sto → Prop} (h : WE c k sc ρ o σ fun ov σ₁ => WE c k sc ρ i σ₁ fun iv σ₂ => ∃ σ₃, StIP c ov iv x σ₂ σ₃ ∧ QA ρ σ₃) : WA c k sc ρ (.Subscript o i pos) x σ QA := .mk fun G A z s env v a b I F r => by
  rw [assign_Subscript]
  refine wpAny_bind (wpAny_holding (wpAny_mono (h.run G A z s env a b I F) (fun ov s₁ q24_ => q24_.elim fun z₁ σ₁ x₁ e₁ r₁ q₁ => wpAny_bind (wpAny_holding (wpAny_mono (q₁.run G A z₁ s₁ env a b e₁.inv (F.ext e₁)) (fun iv s₂ q25_ => q25_.elim fun z₂ σ₂ x₂ e₂ r₂ q26_ => q26_.elim fun σ₃ q27_ => q27_.elim fun p q₂ => ?_) fun _ _ y => y))) fun _ _ y => y))
  refine wpAny_bind (wpAny_standAt (wpAny_bind (wpAny_holding (p.run G A z₂ s₂ ov iv v a.zero e₂.inv (r₁.sub e₂.zz) r₂ (r.sub (e₁.zz.trans e₂.zz)) _ fun s₃ e₃ => ?_))))
  have ee := (e₁.trans e₂).trans e₃
  exact wpAny_release ⟨z₂, σ₃, ρ, ee.none, F.ext ee, q₂⟩
end Mine
end
section
namespace Mine
variable {c : Cx} {k : Nat} {sc : Scope} {ρ : Loc} {σ : Sto} {pos : Pos} {Q : V → Sto → Prop} {QS : Fl → Loc → Sto → Prop}
mutual
noncomputable def dV : V → Option PyData
  | .none => some .none
  | .bool b => some (.bool b)
  | .int i => some (.int i)
  | .str x => some (.str x)
  | .tup l => (dVs l).map .tuple
  | .lst l => (dVs l).map .list
  | _ => none
noncomputable def dVs : List V → Option (List PyData)
  | [] => some []
  | x :: r => (dV x).bind fun a => (dVs r).map fun b => a :: b
end
theorem dVs_cons {x : V} {r : List V} {d : List PyData} (h : dVs (x :: r) = some d) : ∃ a b, dV x = some a ∧ dVs r = some b ∧ a :: b = d :=
  (Option.bind_eq_some_iff.mp (show (dV x).bind _ = some d from h)).elim fun a h => (Option.map_eq_some_iff.mp h.2).elim fun b g => ⟨a, b, h.1, g.1, g.2⟩
theorem dV_lst {l : List V} {ds : List PyData} (h : dVs l = some ds) : dV (.lst l) = some (.list ds) := congrArg (Option.map PyData.list) h
theorem dVs_some {x : V} {r : List V} {a : PyData} {b : List PyData} (h : dV x = some a) (g : dVs r = some b) : dVs (x :: r) = some (a :: b) :=
  (congrArg (fun o => Option.bind o fun a => (dVs r).map fun b => a :: b) h).trans (congrArg (Option.map fun b => a :: b) g)
mutual
theorem reads_dV {z : Heap} : ∀ (x : V) {v : Value} {d : PyData}, dV x = some d → VR c z x v → ∃ as, Reads z v d as
  | .none, v, d, e, r => by cases e; rw [VR_none.mp r]; exact ⟨_, .none⟩
  | .bool b, v, d, e, r => by cases e; rw [VR_bool.mp r]; exact ⟨_, .bool b⟩
  | .int i, v, d, e, r => by cases e; obtain ⟨t, rfl⟩ := VR_int.mp r; exact ⟨_, .int i t⟩
  | .str x, v, d, e, r => by cases e; obtain ⟨t, rfl⟩ := VR_str.mp r; exact ⟨_, .str x t⟩
  | .tup l, v, d, e, r => by
    obtain ⟨ds, h1, rfl⟩ := Option.map_eq_some_iff.mp (show (dVs l).map _ = some d from e)
    obtain ⟨a, vs, rfl, ⟨o, ho, hc, n, hd⟩, hv⟩ := VR_tup.mp r
    obtain ⟨as, hr⟩ := reads_dVs l h1 hv
    exact ⟨as, .tuple ho hc hd hr⟩
  | .lst l, v, d, e, r => by
    obtain ⟨ds, h1, rfl⟩ := Option.map_eq_some_iff.mp (show (dVs l).map _ = some d from e)
    obtain ⟨a, vs, rfl, ⟨n, ho⟩, hv⟩ := VR_lst.mp r
    obtain ⟨as, hr⟩ := reads_dVs l h1 hv
    exact ⟨a :: as, .list ho rfl rfl hr⟩
  | .glob a, v, d, e, r => by cases e
  | .bi a, v, d, e, r => by cases e
  | .ty a, v, d, e, r => by cases e
  | .ref a, v, d, e, r => by cases e
  | .obj a b f, v, d, e, r => by cases e
  | .rng a, v, d, e, r => by cases e
  | .dcI a, v, d, e, r => by cases e
  | .dcP a, v, d, e, r => by cases e
  | .dvP a, v, d, e, r => by cases e
  | .set a, v, d, e, r => by cases e
  | .inst a b, v, d, e, r => by cases e
theorem reads_dVs {z : Heap} : ∀ (l : List V) {vs : List Value} {ds : List PyData}, dVs l = some ds → VRs c z l vs → ∃ as, ReadsAll z vs ds as
  | [], vs, ds, e, r => by cases e; rw [VRs_nil.mp r]; exact ⟨_, .nil⟩
  | x :: l, vs, ds, e, r => by
    obtain ⟨a, b, ha, hb, rfl⟩ := dVs_cons e
    obtain ⟨v, vr, rfl, h1, h2⟩ := VRs_cons.mp r
    obtain ⟨as, g1⟩ := reads_dV x ha h1
    obtain ⟨bs, g2⟩ := reads_dVs l hb h2
    exact ⟨_, .cons g1 g2⟩
end
section
variable {K : Bool → Prop} {a b : V} {da db : PyData}
theorem CmpP_eqD (ha : dV a = some da) (hb : dV b = some db) (sa : da.canLay0 = true) (sb : db.canLay0 = true) (hd : min da.depth db.depth ≤ 60) (h : K (PyData.eqv da db)) : CmpP c .Eq a b σ K := .mk fun G A z s va vb ao I ra rb => by
  obtain ⟨as, r1⟩ := reads_dV a ha (ra.sub I.keep)
  obtain ⟨bs, r2⟩ := reads_dV b hb (rb.sub I.keep)
  exact SeqAt.compareEq_reads r1 r2 sa sb (by have := ao.units; have := cLine_is; lia) ⟨z, _, Ext.refl I, rfl, h⟩
theorem CmpP_neD (ha : dV a = some da) (hb : dV b = some db) (sa : da.canLay0 = true) (sb : db.canLay0 = true) (hd : min da.depth db.depth ≤ 60) (h : K (!PyData.eqv da db)) : CmpP c .NotEq a b σ K := .mk fun G A z s va vb ao I ra rb => by
  obtain ⟨as, r1⟩ := reads_dV a ha (ra.sub I.keep)
  obtain ⟨bs, r2⟩ := reads_dV b hb (rb.sub I.keep)
  exact SeqAt.compareNe_reads r1 r2 sa sb (by have := ao.units; have := cLine_is; lia) ⟨z, _, Ext.refl I, rfl, h⟩
end
section
variable {K : Bool → Prop} {i : Int} {l : List (Int × V)}
theorem VRi_isSome {z : Heap} {es : List (Int × Value)} (h : VRi c z l es) : (valueAt es i).isSome = (lkI l i).isSome := by
  rcases VRi_lk i l h with ⟨h1, h2⟩ | ⟨y, v, h1, h2, h3⟩
  · rw [h1, h2]; rfl
  · rw [h1, h2]; rfl
theorem CmpP_notin (h : K (!(lkI l i).isSome)) : CmpP c .NotIn (.int i) (.dcI l) σ K := .mk fun G A z s va vb ao I ra rb => by
  obtain ⟨t, rfl⟩ := VR_int.mp ra
  obtain ⟨p, kvs, rfl, hm, hd, hv⟩ := VR_dcI.mp rb
  refine wpAny_notIn_of (knd := kI c) isInt_of hm (dictOf_sub I.keep hd).mapOf ⟨z, _, Ext.toks I _, rfl, ?_⟩
  rw [VRi_isSome hv]; exact h
theorem CmpP_inRef {a : Addr} (hσ : σ a = some (.dcI l)) (h : K (lkI l i).isSome) : CmpP c .In (.int i) (.ref a) σ K := .mk fun G A z s va vb ao I ra rb => by
  obtain ⟨t, rfl⟩ := VR_int.mp ra
  rw [VR_ref.mp rb]
  obtain ⟨g1, g2, ob, g3, kvs, hd, hv⟩ := I.mt a _ hσ
  have hd' : s.heap.DictOf (kI c) a kvs := Heap.dictOf_iff.mpr ⟨ob, g3, hd⟩
  refine wpAny_in_of (knd := kI c) isInt_of g2 hd'.mapOf ⟨z, _, Ext.toks I _, rfl, ?_⟩
  rw [VRi_isSome hv]; exact h
end
noncomputable def fzV : O → Option V
  | .lst l => none
  | .app l => some (.lst l)
  | .dcI l => some (.dcI l)
  | .flds _ => none
theorem fz_run {z : Heap} {s : Shared} {a : Addr} {o : O} {y : V} (I : Inv c z σ s) (hσ : σ a = some o) (hf : fzV o = some y) : ∃ z', Ext c (fun _ => False) z σ s z' (σ.del a) s ∧ VR c z' y (.ref a) := by
  obtain ⟨z', ob, e, h1, h2, h3⟩ := freeze (P := fun _ => False) I hσ
  refine ⟨z', e, ?_⟩
  cases o with
  | lst l =>
    cases hf
  | app l =>
    cases hf
    obtain ⟨vs, n, rfl, hv⟩ := h2
    exact VR_lst.mpr ⟨a, vs, rfl, ⟨_, h1⟩, hv⟩
  | dcI l =>
    cases hf
    obtain ⟨kvs, hd, hv⟩ := h2
    exact VR_dcI.mpr ⟨a, kvs, rfl, h3, Heap.dictOf_iff.mpr ⟨ob, h1, hd⟩, hv⟩
  | flds fs => cases hf
theorem fz_obj {z : Heap} {s : Shared} {cl x d : Addr} {fs : List (Str × V)} {v : Value} (I : Inv c z σ s) (hσ : σ d = some (.flds fs)) (r : VR c z (.obj cl x d) v) : ∃ z', Ext c (fun _ => False) z σ s z' (σ.del d) s ∧ VR c z' (.inst cl fs) v := by
  obtain ⟨z', ob, e, h1, h2, h3⟩ := freeze (P := fun _ => False) I hσ
  obtain ⟨rfl, g⟩ := VR_obj.mp r
  obtain ⟨es, n, rfl, hF, hv⟩ := h2
  exact ⟨z', e, VR_inst.mpr ⟨x, d, es, n, rfl, e.zz _ _ g, h1, hF, hv⟩⟩
theorem WE_fz {e : Expr} (h : WE c k sc ρ e σ fun x σ₁ => ∃ a o y, x = .ref a ∧ σ₁ a = some o ∧ fzV o = some y ∧ Q y (σ₁.del a)) : WE c k sc ρ e σ Q := .mk fun G A z s env a b I F =>
  wpAny_mono (h.run G A z s env a b I F) (fun v s₁ q1_ => q1_.elim fun z₁ σ₁ x e₁ r₁ q2_ => q2_.elim fun p q3_ => q3_.elim fun o q4_ => q4_.elim fun y q5_ => q5_.elim fun hx q6_ => q6_.elim fun hσ q7_ => q7_.elim fun hf q => by
    subst hx
    rw [VR_ref.mp r₁]
    obtain ⟨z₂, e₂, r₂⟩ := fz_run e₁.inv hσ hf
    exact ⟨z₂, _, y, e₁.trans e₂, r₂, q⟩) fun _ _ y => y
theorem WC_fzo {f : V} {xs : List V} (h : WC c k f xs σ fun x σ₁ => ∃ cl y d fs, x = .obj cl y d ∧ σ₁ d = some (.flds fs) ∧ Q (.inst cl fs) (σ₁.del d)) : WC c k f xs σ Q := .mk fun G A z s vf vs a I rf rs =>
  wpAny_mono (h.run G A z s vf vs a I rf rs) (fun v s₁ q15_ => q15_.elim fun z₁ σ₁ x e₁ r₁ q16_ => q16_.elim fun cl q17_ => q17_.elim fun y q18_ => q18_.elim fun d q19_ => q19_.elim fun fs q20_ => q20_.elim fun hx q21_ => q21_.elim fun hσ q => by
    subst hx
    obtain ⟨z₂, e₂, r₂⟩ := fz_obj e₁.inv hσ r₁
    exact ⟨z₂, _, _, e₁.trans e₂, r₂, q⟩) fun _ _ y => y
theorem WC_class {C fI : Addr} {xs : List V} (hm : makesIn c.K C = true) (hi : findIn c.K (.ref C) "__init__" = some (some (.ref fI))) (hf : typeIn c.K (.ref fI) = some (.type "function"))
    (h : ∀ x d, σ d = .none → WCc c k (.glob fI) (.obj C x d :: xs) (σ.set d (.flds [])) fun r σ' => r = .none ∧ Q (.obj C x d) σ') : WC c (k + 1) (.glob C) xs σ Q := .mk fun G A z s vf vs ao I rf rs => by
  rw [VR_glob.mp rf]
  obtain ⟨hh, g, d, t, os⟩ := s
  have X := I.kin G
  refine wpAny_call (make_core (makes_of X hm) (looks_findIn X hi) (fun self => bind_fn X self hf) (.inl rfl) ?_)
  obtain ⟨hd, e₁⟩ := push_mut (P := fun _ => False) (x := .flds []) (o := emptyDict) G I ⟨[], 0, rfl, ⟨(fun e h => by cases h), Nat.le_refl _, List.nodup_nil, fun _ _ => rfl⟩, trivial⟩
  obtain ⟨z₂, e₂, ho⟩ := push_frozen (P := fun _ => False) e₁.inv (instObj C hh.objs.size)
  have ee := e₁.trans e₂
  have hsz : (hh.push emptyDict).objs.size = hh.objs.size + 1 := Heap.size_push ..
  have ho' : z₂.get? (hh.objs.size + 1) = some (instObj C hh.objs.size) := by rw [← hsz]; exact ho
  have key := (h (hh.objs.size + 1) hh.objs.size hd).run G (A.under (.builtin "type.__call__" ⟨.ref C :: vs, []⟩)) z₂ _ (.ref fI) (.ref (hh.objs.size + 1) :: vs)
    ⟨ao.hand, by show A.depth + 1 + 2 * k < 900; have := ao.depth; lia, by show A.units + 1 + 16 * k < 9000; have := ao.units; lia⟩ e₂.inv (VR_glob.mpr rfl) (VRs_cons.mpr ⟨_, vs, rfl, VR_obj.mpr ⟨rfl, ho'⟩, VRs.sub ee.zz xs rs⟩)
  refine codeAny_mono key fun r s' hr => ?_
  rcases r with e | (v | _ | _ | _)
  · exact hr.elim
  all_goals try exact hr.elim
  rename_i v
  obtain ⟨z₃, σ₃, y, e₃, r₃, hy, q⟩ := hr
  subst hy
  exact ⟨VR_none.mp r₃, z₃, σ₃, _, ee.trans e₃, VR_obj.mpr ⟨rfl, e₃.zz _ _ ho'⟩, q⟩
noncomputable def WAs (c : Cx) (k : Nat) (sc : Scope) : List Expr → List V → Loc → Sto → (Loc → Sto → Prop) → Prop
  | [], [], ρ, σ, Q => Q ρ σ
  | t :: ts, x :: xs, ρ, σ, Q => WA c k sc ρ t x σ fun ρ₁ σ₁ => WAs c k sc ts xs ρ₁ σ₁ Q
  | _, _, _, _, _ => False
noncomputable def eCode : Expr → Nat
  | .Name _ _ => 1
  | .Attribute _ _ _ => 2
  | .Subscript _ _ _ => 3
  | .Call _ _ _ _ => 4
  | .Tuple _ _ _ => 5
  | .Slice _ _ _ _ => 6
  | .ListComp _ _ _ _ => 7
  | .SetComp _ _ _ _ => 8
  | .DictComp _ _ _ _ _ => 9
  | .Starred _ _ => 10
  | _ => 0
noncomputable def inR (a b n : Nat) : Bool := Nat.ble a n && Nat.ble n b
noncomputable def isStar (e : Expr) : Bool := Nat.beq (eCode e) 10
noncomputable def noStars (l : List Expr) : Bool := l.all fun e => !isStar e
theorem noStars_cons {e : Expr} {r : List Expr} (h : noStars (e :: r) = true) : isStar e = false ∧ noStars r = true :=
  (Bool.and_eq_true_iff.mp (show (!isStar e && noStars r) = true from h)).imp (fun h => by cases q : isStar e <;> rw [q] at h <;> first | rfl | cases h) id
theorem aEach_cons {t : Expr} {ts : List Expr} {env : Env} (h : isStar t = false) : assignEach (t :: ts) env = (false, assign t env) :: assignEach ts env := by
  cases t <;> first | rfl | cases h
theorem assignEach_plain {env : Env} : ∀ {ts : List Expr}, noStars ts = true → assignEach ts env = ts.map fun t => (false, assign t env)
  | [], _ => rfl
  | t :: ts, h => (aEach_cons (noStars_cons h).1).trans (congrArg _ (assignEach_plain (noStars_cons h).2))
theorem WAs_run : ∀ {ts : List Expr} {xs : List V} {ρ : Loc} {σ : Sto} {QA : Loc → Sto → Prop} (h : WAs c k sc ts xs ρ σ QA) (G : c.Good) {A : Around} {z : Heap} {s : Shared} {env : Env} {vs : List Value} (a : AOk k A) (b : EnvOk sc env) (I : Inv c z σ s) (F : Frm c z σ env ρ s.heap) (r : VRs c z xs vs),
    wpAny (model c.prog c.w) A (assignInOrder (ts.map fun t => assign t env) vs) (fun _ s' => PostA c env z σ s QA s') noE s
  | [], [], ρ, σ, QA, h, G, A, z, s, env, vs, a, b, I, F, r => by
    rw [VRs_nil.mp r]
    exact wpAny_pure ⟨z, σ, ρ, Ext.refl I, F, h⟩
  | t :: ts, x :: xs, ρ, σ, QA, h, G, A, z, s, env, vs, a, b, I, F, r => by
    obtain ⟨v, vr, rfl, h1, h2⟩ := VRs_cons.mp r
    refine wpAny_bind (wpAny_holding (wpAny_mono (WA.run h G A z s env v a b I F h1) (fun _ s₁ q22_ => q22_.elim fun z₁ σ₁ ρ₁ e₁ F₁ q₁ => ?_) fun _ _ y => y))
    exact wpAny_mono (WAs_run q₁ G a b e₁.inv F₁ (VRs.sub e₁.zz xs h2)) (fun _ s₂ q23_ => q23_.elim fun z₂ σ₂ ρ₂ e₂ F₂ q₂ => ⟨z₂, σ₂, ρ₂, e₁.trans e₂, F₂, q₂⟩) fun _ _ y => y
  | [], _ :: _, _, _, _, h, _, _, _, _, _, _, _, _, _, _, _ => False.elim h
  | _ :: _, [], _, _, _, h, _, _, _, _, _, _, _, _, _, _, _ => False.elim h
theorem WA_tuple {ts : List Expr} {n : Nat} {x : V} {QA : Loc → Sto → Prop} (h : ∃ l, x = .tup l ∧ ts.length = l.length ∧ WAs c k sc ts l ρ σ QA) (hs : noStars ts = true := by rfl) : WA c k sc ρ (.Tuple ts n pos) x σ QA := .mk fun G A z s env v a b I F r => by
  obtain ⟨l, rfl, hlen, h⟩ := h
  obtain ⟨p, vs, rfl, ht, hv⟩ := VR_tup.mp r
  have ht' : s.heap.IsTuple p vs := isTup_sub I.keep ht
  have hsz : vs.size = l.length := by rw [← Array.length_toList]; exact VRs_len l hv
  have ea := assignEach_plain (env := env) hs
  obtain ⟨f1, f2, f3⟩ := I.fresh
  refine wpAny_assign_Tuple a.hand ht' (by rw [ea, List.length_map, hsz]; exact hlen) (by rw [ea, List.findIdx?_eq_none_iff]; intro x hx; obtain ⟨t, _, rfl⟩ := List.mem_map.mp hx; rfl) fun h' hx => ?_
  rw [ea, List.map_map]
  have e₁ : Ext c (Fw env) z σ s z σ { s with heap := h', toks := s.toks } := (Ext.refl I).touch f3 f2 f1 (fun b o hb e => hx b o hb e)
  have F₁ : Frm c z σ env ρ h' := F.touch (F.notFw f3) (fun b o hb e => hx b o hb e)
  exact wpAny_mono (WAs_run h G a b e₁.inv F₁ hv) (fun _ s₂ q24_ => q24_.elim fun z₂ σ₂ ρ₂ e₂ F₂ q₂ => ⟨z₂, σ₂, ρ₂, e₁.trans e₂, F₂, q₂⟩) fun _ _ y => y
theorem WE_dict0 (h : Q (.dcI []) σ) : WE c k sc ρ (.Dict [] [] pos) σ Q := .mk fun G A z s env a b I F => by
  refine wpAny_Dict_empty ?_
  obtain ⟨f1, f2, f3⟩ := I.fresh
  obtain ⟨z', e, ho⟩ := push_frozen (P := fun _ => False) I { cls := .type "dict", data := .dict #[] }
  refine ⟨z', σ, _, e, VR_dcI.mpr ⟨_, [], rfl, sysLow G I (Nat.le_refl _), ?_, VRi_nil.mpr rfl⟩, h⟩
  obtain ⟨o, es, ep, ho', r⟩ := Heap.DictOf.new (knd := kI c) s.heap
  have := Heap.get?_push_size s.heap (o := { cls := .type "dict", data := .dict #[] }) rfl
  rw [this] at ho'; cases ho'
  exact ⟨_, es, ep, ho, r⟩
theorem WE_dictM (h : ∀ a, σ a = .none → Q (.ref a) (σ.set a (.dcI []))) : WE c k sc ρ (.Dict [] [] pos) σ Q := .mk fun G A z s env a b I F => by
  refine wpAny_Dict_empty ?_
  obtain ⟨o, es, ep, ho', r⟩ := Heap.DictOf.new (knd := kI c) s.heap
  have hs := Heap.get?_push_size s.heap (o := { cls := .type "dict", data := .dict #[] }) rfl
  rw [hs] at ho'; cases ho'
  obtain ⟨hn, e⟩ := push_mut (P := fun _ => False) (x := .dcI []) (o := { cls := .type "dict", data := .dict #[] }) G I ⟨[], ⟨es, ep, r⟩, VRi_nil.mpr rfl⟩
  exact ⟨z, _, _, e, VR_ref.mpr rfl, h _ hn⟩
noncomputable def WPairs (c : Cx) (k : Nat) (sc : Scope) (ρ : Loc) : List (Option Expr) → List Expr → Sto → (List (Int × V) → Sto → Prop) → Prop
  | [], [], σ, Q => Q [] σ
  | some ke :: ks, ve :: vs, σ, Q => WE c k sc ρ ke σ fun kx σ₁ => ∃ i, kx = .int i ∧ WE c k sc ρ ve σ₁ fun y σ₂ => WPairs c k sc ρ ks vs σ₂ fun l σ₃ => Q ((i, y) :: l) σ₃
  | _, _, _, _ => False
noncomputable def VRkv (c : Cx) (z : Heap) : List (Int × V) → List (Value × Value) → Prop
  | [], vs => vs = []
  | (i, y) :: l, vs => ∃ t v r, vs = (.int i t, v) :: r ∧ VR c z y v ∧ VRkv c z l r
theorem WPairs_run : ∀ {ks : List (Option Expr)} {es : List Expr} {σ : Sto} {QP : List (Int × V) → Sto → Prop} (h : WPairs c k sc ρ ks es σ QP) (G : c.Good) {A : Around} {z : Heap} {s : Shared} {env : Env} (a : AOk k A) (b : EnvOk sc env) (I : Inv c z σ s) (F : Frm c z σ env ρ s.heap),
    wpAny (model c.prog c.w) A (evalPairs (pairTrees ks es env pos)) (fun vs s' => ∃ z' σ' l, Ext c (fun _ => False) z σ s z' σ' s' ∧ VRkv c z' l vs ∧ l.length = ks.length ∧ QP l σ') noE s
  | [], [], σ, QP, h, G, A, z, s, env, a, b, I, F => evalPairs_nil ⟨z, σ, [], Ext.refl I, rfl, rfl, h⟩
  | some ke :: ks, ve :: es, σ, QP, h, G, A, z, s, env, a, b, I, F => by
    refine evalPairs_cons (wpAny_mono (WE.run h G A z s env a b I F) (fun kv s₁ q25_ => q25_.elim fun z₁ σ₁ x e₁ r₁ q26_ => q26_.elim fun i q27_ => q27_.elim fun hx q₁ => ?_) fun _ _ y => y)
    subst hx
    obtain ⟨t, rfl⟩ := VR_int.mp r₁
    refine wpAny_bind (wpAny_mono (q₁.run G A z₁ s₁ env a b e₁.inv (F.ext e₁)) (fun v s₂ q28_ => q28_.elim fun z₂ σ₂ y e₂ r₂ q₂ => ?_) fun _ _ y => y)
    refine wpAny_bind (wpAny_standAt (wpAny_pure ?_))
    have ee := e₁.trans e₂
    exact wpAny_mono (WPairs_run q₂ G a b e₂.inv (F.ext ee)) (fun vs s₃ q29_ => q29_.elim fun z₃ q30_ => q30_.elim fun σ₃ q31_ => q31_.elim fun l q32_ => q32_.elim fun e₃ q33_ => q33_.elim fun r₃ q34_ => q34_.elim fun hl q₃ => ⟨z₃, σ₃, (i, y) :: l, ee.trans e₃, ⟨t, v, vs, rfl, r₂.sub e₃.zz, r₃⟩, by rw [List.length_cons, List.length_cons, hl], q₃⟩) fun _ _ y => y
  | [], _ :: _, _, _, h, _, _, _, _, _, _, _, _, _ => False.elim h
  | none :: _, _, _, _, h, _, _, _, _, _, _, _, _, _ => False.elim h
  | some _ :: _, [], _, _, h, _, _, _, _, _, _, _, _, _ => False.elim h
theorem carries_of {z : Heap} : ∀ {l : List (Int × V)} {vs : List (Value × Value)}, VRkv c z l vs → ∃ kvs, Carries (kI c) vs kvs ∧ VRi c z l kvs
  | [], _, h => by rw [show _ = [] from h]; exact ⟨[], trivial, VRi_nil.mpr rfl⟩
  | (i, y) :: l, _, ⟨t, v, r, e, h1, h2⟩ => by
    subst e
    obtain ⟨kvs, g1, g2⟩ := carries_of h2
    exact ⟨(i, v) :: kvs, ⟨isInt_of, rfl, g1⟩, VRi_cons.mpr ⟨v, kvs, rfl, h1, g2⟩⟩
noncomputable def mgI (l more : List (Int × V)) : List (Int × V) := more.foldl (fun acc p => stI acc p.1 p.2) l
theorem VRi_merged {z : Heap} : ∀ (more : List (Int × V)) {es : List (Int × Value)} {l : List (Int × V)} {kvs : List (Int × Value)}, VRi c z l kvs → VRi c z more es → VRi c z (mgI l more) (merged kvs es)
  | [], es, l, kvs, h, g => by cases VRi_nil.mp g; exact h
  | (i, y) :: r, es, l, kvs, h, g => by
    replace g := VRi_cons.mp g
    obtain ⟨v, er, rfl, h1, h2⟩ := g
    show VRi c z (mgI (stI l i y) r) (merged (stored kvs i v) er)
    exact VRi_merged r (VRi_st h1 h) h2
theorem WE_dict {ks : List (Option Expr)} {es : List Expr} (h : WPairs c k sc ρ ks es σ fun l σ₁ => Q (.dcI (mgI [] l)) σ₁) (hall : ks.all (·.isSome) = true := by rfl) (hl : ks.length = es.length := by rfl) (h0 : ks ≠ [] := by exact fun h => nomatch h) (hlen : ks.length ≤ 15 := by decide) :
    WE c k sc ρ (.Dict ks es pos) σ Q := .mk fun G A z s env a b I F => by
  obtain ⟨f1, f2, f3⟩ := I.fresh
  generalize hD : s.heap.objs.size = D at f1 f2 f3
  have e₀ : Ext c (fun _ => False) z σ s z σ { s with heap := s.heap.push { cls := .type "dict", data := .dict #[] }, toks := s.toks } := (Ext.refl I).touch f3 f2 f1 (fun b o hb e => Heap.get?_push_of_some _ e)
  have nD := F.notFw f3
  refine wpAny_Dict_walk (knd := kI c) hall hl h0 hlen (wpAny_mono (WPairs_run h G a b e₀.inv (F.ext e₀)) (fun vs s₁ q35_ => q35_.elim fun z₁ q36_ => q36_.elim fun σ₁ q37_ => q37_.elim fun l q38_ => q38_.elim fun e₁ q39_ => q39_.elim fun r₁ q40_ => q40_.elim fun hl q₁ => ?_) fun _ _ y => y)
  obtain ⟨kvs, hc, hv⟩ := carries_of r₁
  have hnew := Heap.DictOf.new (knd := kI c) s.heap
  rw [hD] at hnew
  obtain ⟨o, es', ep, ho, rr⟩ := hnew
  have lD : ({ s with heap := s.heap.push { cls := .type "dict", data := .dict #[] }, toks := s.toks } : Shared).heap.get? D ≠ none := by
    show (s.heap.push _).get? D ≠ none
    rw [ho]; exact fun h => nomatch h
  have u₁ := e₁.unown lD f2 f1
  refine ⟨kvs, hc, by rw [hD]; exact ⟨o, es', ep, e₁.out D o ho f1 id, rr⟩, fun h' hd hs => ?_⟩
  rw [hD] at hd hs ⊢
  have e₂ : Ext c (fun _ => False) z σ s z₁ σ₁ { s₁ with heap := h', toks := s₁.toks + vs.length } := (e₀.trans e₁).touch f3 u₁.1 u₁.2 (fun b o hb e => (hs.2 b hb).trans e)
  obtain ⟨o2, es2, ep2, ho2, rr2⟩ := hd
  obtain ⟨z₃, e₃, g₃, sub₃, _⟩ := e₂.adopt f3 ho2 u₁.1 u₁.2
  exact ⟨z₃, σ₁, _, e₃, VR_dcI.mpr ⟨D, merged [] kvs, rfl, sysLow G I (by lia), ⟨o2, es2, ep2, g₃, rr2⟩, VRi.sub sub₃ _ (VRi_merged l (l := []) (kvs := []) (VRi_nil.mpr rfl) hv)⟩, q₁⟩
end Mine
end
section
namespace Mine
variable {c : Cx} {k : Nat} {sc : Scope} {ρ : Loc} {σ : Sto} {pos : Pos} {Q : V → Sto → Prop} {QS : Fl → Loc → Sto → Prop}
theorem Ext.grown {P : Addr → Prop} {z : Heap} {s : Shared} {h' : Heap} {t : Nat} (I : Inv c z σ s) (hk : ∀ b o, s.heap.get? b = some o → h'.get? b = some o) : Ext c P z σ s z σ { s with heap := h', toks := t } := by
  obtain ⟨f1, f2, f3⟩ := I.fresh
  exact (Ext.refl I).touch f3 f2 f1 (fun b o _ e => hk b o e)
theorem Post.new {z : Heap} {s : Shared} {h' : Heap} {t : Nat} {D : Addr} {ob : Obj} {x : V} (I : Inv c z σ s) (hk : ∀ b o, s.heap.get? b = some o → h'.get? b = some o) (h0 : s.heap.get? D = none) (hD : h'.get? D = some ob)
    (hx : ∀ z', Sub z z' → z'.get? D = some ob → VR c z' x (.ref D)) (hq : Q x σ) : Post c (fun _ => False) z σ s Q (.ref D) { s with heap := h', toks := t } := by
  have e := Ext.grown (P := fun _ => False) (t := t) I hk
  have hz : z.get? D = none := by
    cases q : z.get? D with
    | none => rfl
    | some o => have := I.keep _ _ q; rw [h0] at this; cases this
  have hσ : σ D = none := by
    cases q : σ D with
    | none => rfl
    | some o => obtain ⟨_, _, ob, h3, _⟩ := I.mt _ _ q; rw [h0] at h3; cases h3
  obtain ⟨z', e', g, sub, _⟩ := e.adopt h0 hD hz hσ
  exact ⟨z', σ, x, e', hx z' sub g, hq⟩
theorem Inv.none_of {z : Heap} {s : Shared} (I : Inv c z σ s) : s.heap.get? s.heap.objs.size = none := I.fresh.2.2
theorem VRs_arr {z : Heap} {l : List V} {vs : Array Value} (h : VRs c z l vs.toList) : vs.size = l.length := by rw [← Array.length_toList]; exact VRs_len l h
noncomputable def iV (ns : List Int) : List V := ns.map V.int
theorem intsAre_of {z : Heap} : ∀ (ns : List Int) {vs : List Value}, VRs c z (iV ns) vs → IntsAre vs ns
  | [], vs, h => by rw [VRs_nil.mp h]; exact .nil
  | n :: r, vs, h => by
    obtain ⟨v, vr, rfl, h1, h2⟩ := VRs_cons.mp h
    obtain ⟨t, rfl⟩ := VR_int.mp h1
    exact .cons n t (intsAre_of r h2)
theorem of_intsAre {z : Heap} {vs : List Value} {ns : List Int} (h : IntsAre vs ns) : VRs c z (iV ns) vs := by
  induction h with
  | nil => exact VRs_nil.mpr rfl
  | cons n t _ ih => exact VRs_cons.mpr ⟨_, _, rfl, VR_int.mpr ⟨t, rfl⟩, ih⟩
theorem intItems_of : ∀ {vs : List Value} {ns : List Int}, IntsAre vs ns → ∃ xs : Array (Int × Tok), vs = (intItems xs).toList ∧ xs.toList.map (·.1) = ns
  | _, _, .nil => ⟨#[], by simp [intItems], rfl⟩
  | _, _, .cons n t h => by
    obtain ⟨xs, h1, h2⟩ := intItems_of h
    refine ⟨((n, t) :: xs.toList).toArray, ?_, ?_⟩
    · unfold intItems at h1 ⊢
      rw [h1]; simp
    · simp [h2]
theorem WC_len_lst {l : List V} (hl : l.length ≤ 16777216) (h : Q (.int l.length) σ) : WC c k (.bi "len") [.lst l] σ Q := .mk fun G A z s vf vs a I rf rs => by
  rw [VR_bi.mp rf]
  obtain ⟨v, r, rfl, r₁, r₂⟩ := VRs_cons.mp rs
  rw [VRs_nil.mp r₂]
  obtain ⟨p, items, rfl, hL, hv⟩ := VR_lst.mp r₁
  have e := VRs_arr hv
  refine call_len_list (isList_sub I.keep hL) (by rw [e]; lia) ?_
  rw [e]
  exact Post.here I (VR_int.mpr ⟨_, rfl⟩) h _
theorem WC_range {n : Int} (h : Q (.rng n) σ) : WC c k (.ty "range") [.int n] σ Q := .mk fun G A z s vf vs a I rf rs => by
  rw [VR_ty.mp rf]
  obtain ⟨v, r, rfl, r₁, r₂⟩ := VRs_cons.mp rs
  rw [VRs_nil.mp r₂]
  obtain ⟨t, rfl⟩ := VR_int.mp r₁
  refine call_range_1 ?_
  exact Post.new I (fun b o e => Heap.get?_push_of_some _ e) I.none_of (Heap.get?_push_size _ rfl) (fun z' sub g => VR_rng.mpr ⟨_, _, _, _, rfl, g⟩) h
theorem keys_ints {z : Heap} {l : List (Int × V)} {kvs : List (Int × Value)} {acc : Array Value} (hv : VRi c z l kvs) (h : ItemsOf (fun i v => ∃ k x, kvs[i]? = some (k, x) ∧ (kI c).is k v = true) acc kvs.length) : IntsAre acc.toList (l.map (·.1)) := by
  have hsz := h.1
  have key : ∀ (l : List (Int × V)) (kvs : List (Int × Value)) (vs : List Value), VRi c z l kvs → vs.length = kvs.length → (∀ (j : Nat) (v : Value), vs[j]? = some v → ∃ k x, kvs[j]? = some (k, x) ∧ (kI c).is k v = true) → IntsAre vs (l.map (·.1)) := by
    intro l
    induction l with
    | nil =>
      intro kvs vs hv hl _
      cases VRi_nil.mp hv
      cases vs with
      | nil => exact .nil
      | cons => simp at hl
    | cons p r ih =>
      obtain ⟨a, y⟩ := p
      intro kvs vs hv hl hat
      replace hv := VRi_cons.mp hv
      obtain ⟨w, er, rfl, h1, h2⟩ := hv
      cases vs with
      | nil => simp at hl
      | cons v vr =>
        obtain ⟨k, x, e1, e2⟩ := hat 0 v rfl
        simp at e1
        obtain ⟨rfl, rfl⟩ := e1
        obtain ⟨t, rfl⟩ := Value.isInt_shape e2
        exact .cons _ t (ih er vr h2 (by simpa using hl) fun j v e => by simpa using hat (j + 1) v (by simpa using e))
  exact key l kvs acc.toList hv (by rw [Array.length_toList]; exact hsz) fun j v e => h.2 j v (by rw [← Array.getElem?_toList]; exact e)
theorem WC_list_dcI {l : List (Int × V)} (hl : l.length ≤ 1000) (h : Q (.lst (iV (l.map (·.1)))) σ) : WC c k (.ty "list") [.dcI l] σ Q := .mk fun G A z s vf vs a I rf rs => by
  rw [VR_ty.mp rf]
  obtain ⟨v, r, rfl, r₁, r₂⟩ := VRs_cons.mp rs
  rw [VRs_nil.mp r₂]
  obtain ⟨p, kvs, rfl, hm, hd, hv⟩ := VR_dcI.mp r₁
  obtain ⟨ep, hd'⟩ := (dictOf_sub I.keep hd).dictAt
  refine kdl_call (kdl_dict (knd := kI c) (kvs := kvs) (ep := ep) hm) a.hand hd' (by rw [VRi_len l hv, sizeLine_eq]; lia) fun h' tk acc c' hk hD hacc => ?_
  exact Post.new I hk I.none_of hD (fun z' sub g => VR_lst.mpr ⟨_, acc, rfl, ⟨_, g⟩, of_intsAre (keys_ints hv hacc)⟩) h
theorem WC_list_tup {l : List V} (hl : l.length ≤ 1000) (h : Q (.lst l) σ) : WC c k (.ty "list") [.tup l] σ Q := .mk fun G A z s vf vs a I rf rs => by
  rw [VR_ty.mp rf]
  obtain ⟨v, r, rfl, r₁, r₂⟩ := VRs_cons.mp rs
  rw [VRs_nil.mp r₂]
  obtain ⟨p, items, rfl, ⟨o, ho, hc, n, hd⟩, hv⟩ := VR_tup.mp r₁
  refine call_list_seq p (.inr rfl) (I.keep _ _ ho) hc hd (fun h' c' hk hD => ?_) (by rw [VRs_arr hv, sizeLine_eq]; lia)
  exact Post.new (t := s.toks) I hk I.none_of hD (fun z' sub g => VR_lst.mpr ⟨_, items, rfl, ⟨_, g⟩, VRs.sub sub l hv⟩) h
theorem WC_tuple_lst {l : List V} (hl : l.length ≤ 1000) (h : Q (.tup l) σ) : WC c k (.ty "tuple") [.lst l] σ Q := .mk fun G A z s vf vs a I rf rs => by
  rw [VR_ty.mp rf]
  obtain ⟨v, r, rfl, r₁, r₂⟩ := VRs_cons.mp rs
  rw [VRs_nil.mp r₂]
  obtain ⟨p, items, rfl, hL, hv⟩ := VR_lst.mp r₁
  refine call_tuple_list (isList_sub I.keep hL) (fun h' hk => ?_) (by rw [VRs_arr hv, sizeLine_eq]; lia)
  have e := Ext.grown (P := fun _ => False) (t := s.toks) I hk
  obtain ⟨z', e', g⟩ := push_frozen (P := fun _ => False) e.inv { cls := .type "tuple", data := .seq items }
  exact ⟨z', σ, _, e.trans e', VR_tup.mpr ⟨_, items, rfl, ⟨_, g, rfl, _, rfl⟩, VRs.sub e'.zz l hv⟩, h⟩
theorem WC_max {i j : Int} (h : Q (.int (if j > i then j else i)) σ) : WC c k (.bi "max") [.int i, .int j] σ Q := .mk fun G A z s vf vs a I rf rs => by
  rw [VR_bi.mp rf]
  obtain ⟨v, r, rfl, r₁, r₂⟩ := VRs_cons.mp rs
  obtain ⟨v', r', rfl, r₁', r₂'⟩ := VRs_cons.mp r₂
  rw [VRs_nil.mp r₂']
  obtain ⟨t, rfl⟩ := VR_int.mp r₁
  obtain ⟨u, rfl⟩ := VR_int.mp r₁'
  refine max_two_ints a.hand fun h' tk hk => ⟨z, σ, _, Ext.grown I hk, ?_, h⟩
  split <;> exact VR_int.mpr ⟨_, rfl⟩
theorem WC_min {i j : Int} (h : Q (.int (if j < i then j else i)) σ) : WC c k (.bi "min") [.int i, .int j] σ Q := .mk fun G A z s vf vs a I rf rs => by
  rw [VR_bi.mp rf]
  obtain ⟨v, r, rfl, r₁, r₂⟩ := VRs_cons.mp rs
  obtain ⟨v', r', rfl, r₁', r₂'⟩ := VRs_cons.mp r₂
  rw [VRs_nil.mp r₂']
  obtain ⟨t, rfl⟩ := VR_int.mp r₁
  obtain ⟨u, rfl⟩ := VR_int.mp r₁'
  refine min_two_ints a.hand fun h' tk hk => ⟨z, σ, _, Ext.grown I hk, ?_, h⟩
  split <;> exact VR_int.mpr ⟨_, rfl⟩
theorem argBest_le {xs : Array (Int × Tok)} : ∀ n, n < xs.size → (argBest (fun i j => decide (numAt xs i < numAt xs j)) n ≤ n ∧ ∀ i, i ≤ n → numAt xs (argBest (fun i j => decide (numAt xs i < numAt xs j)) n) ≤ numAt xs i)
  | 0, _ => ⟨Nat.le_refl _, fun i hi => by rw [Nat.le_zero.mp hi]; exact Int.le_refl _⟩
  | n + 1, h => by
    obtain ⟨h1, h2⟩ := argBest_le (xs := xs) n (by lia)
    unfold argBest
    by_cases q : numAt xs (n + 1) < numAt xs (argBest (fun i j => decide (numAt xs i < numAt xs j)) n)
    · simp only [q, decide_true, if_true]
      refine ⟨Nat.le_refl _, fun i hi => ?_⟩
      rcases Nat.lt_or_ge i (n + 1) with g | g
      · exact Int.le_trans (Int.le_of_lt q) (h2 i (by lia))
      · have : i = n + 1 := by lia
        rw [this]; exact Int.le_refl _
    · simp only [q, decide_false, Bool.false_eq_true, if_false]
      refine ⟨by lia, fun i hi => ?_⟩
      rcases Nat.lt_or_ge i (n + 1) with g | g
      · exact h2 i (by lia)
      · have : i = n + 1 := by lia
        rw [this]; lia
theorem WC_minL {ns : List Int} (hn : ns ≠ []) (h : ∀ m, m ∈ ns → (∀ x ∈ ns, m ≤ x) → Q (.int m) σ) : WC c k (.bi "min") [.lst (iV ns)] σ Q := .mk fun G A z s vf vs a I rf rs => by
  rw [VR_bi.mp rf]
  obtain ⟨v, r, rfl, r₁, r₂⟩ := VRs_cons.mp rs
  rw [VRs_nil.mp r₂]
  obtain ⟨p, items, rfl, hL, hv⟩ := VR_lst.mp r₁
  obtain ⟨xs, h1, h2⟩ := intItems_of (intsAre_of ns hv)
  have e : items = intItems xs := Array.toList_inj.mp h1
  have hpos : 0 < xs.size := by
    rw [← Array.length_toList]
    cases q : xs.toList with
    | nil => rw [q] at h2; exact absurd h2.symm hn
    | cons => simp
  obtain ⟨b1, b2⟩ := argBest_le (xs := xs) (xs.size - 1) (by lia)
  have hnum : ∀ i, i < xs.size → numAt xs i ∈ ns ∧ ns[i]? = some (numAt xs i) := fun i hi => by
    have : ns[i]? = some (numAt xs i) := by
      rw [← h2, List.getElem?_map, Array.getElem?_toList]
      unfold numAt
      rw [Array.getElem?_eq_getElem hi]; rfl
    exact ⟨List.mem_of_getElem? this, this⟩
  refine min_intList (xs := xs) a.hand (e ▸ isList_sub I.keep hL) hpos fun w h' tk hw hk => ?_
  obtain ⟨t, rfl⟩ := intItems_at hw
  refine ⟨z, σ, _, Ext.grown I hk, VR_int.mpr ⟨t, rfl⟩, h _ (hnum _ (by lia)).1 fun x hx => ?_⟩
  obtain ⟨i, hi⟩ := List.getElem?_of_mem hx
  have hlt : i < xs.size := by
    rcases Nat.lt_or_ge i ns.length with g | g
    · rw [← h2, List.length_map, Array.length_toList] at g; exact g
    · rw [List.getElem?_eq_none g] at hi; cases hi
  have := (hnum i hlt).2
  rw [hi] at this; cases this
  exact b2 i (by lia)
theorem WC_abs {i : Int} (h : Q (.int (if i < 0 then -i else i)) σ) : WC c k (.bi "abs") [.int i] σ Q := .mk fun G A z s vf vs a I rf rs => by
  rw [VR_bi.mp rf]
  obtain ⟨v, r, rfl, r₁, r₂⟩ := VRs_cons.mp rs
  rw [VRs_nil.mp r₂]
  obtain ⟨t, rfl⟩ := VR_int.mp r₁
  exact call_abs_int fun u tk => Post.here I (VR_int.mpr ⟨_, rfl⟩) h tk
theorem WC_sum {ns : List Int} (h : ∀ i, Q (.int i) σ) : WC c k (.bi "sum") [.lst (iV ns)] σ Q := .mk fun G A z s vf vs a I rf rs => by
  rw [VR_bi.mp rf]
  obtain ⟨v, r, rfl, r₁, r₂⟩ := VRs_cons.mp rs
  rw [VRs_nil.mp r₂]
  obtain ⟨p, items, rfl, hL, hv⟩ := VR_lst.mp r₁
  obtain ⟨xs, h1, h2⟩ := intItems_of (intsAre_of ns hv)
  have e : items = intItems xs := Array.toList_inj.mp h1
  exact sum_intListG (xs := xs) a.hand (e ▸ isList_sub I.keep hL) fun h' tk t' hk => ⟨z, σ, _, Ext.grown I hk, VR_int.mpr ⟨_, rfl⟩, h _⟩
theorem WC_int {i : Int} (h : Q (.int i) σ) : WC c k (.ty "int") [.int i] σ Q := .mk fun G A z s vf vs a I rf rs => by
  rw [VR_ty.mp rf]
  obtain ⟨v, r, rfl, r₁, r₂⟩ := VRs_cons.mp rs
  rw [VRs_nil.mp r₂]
  obtain ⟨t, rfl⟩ := VR_int.mp r₁
  exact call_int_int (Post.now I (VR_int.mpr ⟨_, rfl⟩) h)
theorem WC_intB {b : Bool} (h : Q (.int (if b then 1 else 0)) σ) : WC c k (.ty "int") [.bool b] σ Q := .mk fun G A z s vf vs a I rf rs => by
  rw [VR_ty.mp rf]
  obtain ⟨v, r, rfl, r₁, r₂⟩ := VRs_cons.mp rs
  rw [VRs_nil.mp r₂, VR_bool.mp r₁]
  exact call_int_bool (Post.here I (VR_int.mpr ⟨_, rfl⟩) h _)
noncomputable def notInst (K : Frag) (D C : Addr) : Bool := kin_not K D C && plainGet K D "__class__" && hasDictIn K D && findIn K (.ref D) "__class__" == some (some (.builtin "object.__class__")) &&
  specialIn K (.builtin "object.__class__") "__get__" == some (some (.builtin "getset_descriptor.__get__")) && takesIn K (.builtin "object.__class__") == some true && mroIn K D (.type "object") == some true
theorem WC_notInst {D C : Addr} {fs : List (Str × V)} (ok : notInst c.K D C = true) (h : Q (.bool false) σ) : WC c k (.bi "isinstance") [.inst D fs, .glob C] σ Q := .mk fun G A z s vf vs a I rf rs => by
  rw [VR_bi.mp rf]
  obtain ⟨v, r, rfl, r₁, r₂⟩ := VRs_cons.mp rs
  obtain ⟨v', r', rfl, r₁', r₂'⟩ := VRs_cons.mp r₂
  rw [VRs_nil.mp r₂', VR_glob.mp r₁']
  obtain ⟨x, d, es, n, rfl, h1, h2, h3, h4⟩ := VR_inst.mp r₁
  unfold notInst at ok
  simp only [Bool.and_eq_true, beq_iff_eq] at ok
  obtain ⟨⟨⟨⟨⟨⟨o1, o2⟩, o3⟩, o4⟩, o5⟩, o6⟩, o7⟩ := ok
  exact kin_callC (I.kin G) (instAt (I.keep _ _ h1) (I.keep _ _ h2)) o1 o2 o3 o4 o5 o6 o7 (Post.here I (VR_bool.mpr rfl) h _)
theorem MetP_bi {T : String} {name : Str} {id : String} {ov : V} (pa : PlainAttrs T) (slot : Slot T name id) (hty : typeOf (.builtin id) = pure (.type "method_descriptor"))
    (hT : ∀ z (s : Shared) v, Inv c z σ s → VR c z ov v → s.TypeIs v T ∧ ∀ a, v = .ref a → ∃ o, s.heap.get? a = some o ∧ o.dict = none) : MetP c ov name σ (.bi id) := .mk fun G A z s va pl a I r Q hq => by
  obtain ⟨h1, h2⟩ := hT z s va I r
  exact getMethod_builtin h1 pa slot hty h2 (hq _ s.toks (VR_bi.mpr rfl))
theorem MetP_get {l : List (Int × V)} : MetP c (.dcI l) "get" σ (.bi "dict.get") := MetP_bi PySem.F.plainAttrs_dict PySem.F.slot_dict_get PySem.F.type_dict_get fun z s v I r => by
  obtain ⟨p, kvs, rfl, hm, hd, hv⟩ := VR_dcI.mp r
  have hd' := dictOf_sub I.keep hd
  refine ⟨hd'.typeIs, fun a e => ?_⟩
  cases e
  obtain ⟨o, es, ep, ho, hx, _⟩ := hd'
  exact ⟨o, ho, hx.2.1⟩
theorem WC_get {l : List (Int × V)} {i : Int} {d : V} (h : Q ((lkI l i).getD d) σ) : WC c k (.bi "dict.get") [.dcI l, .int i, d] σ Q := .mk fun G A z s vf vs a I rf rs => by
  rw [VR_bi.mp rf]
  obtain ⟨v, r, rfl, r₁, r₂⟩ := VRs_cons.mp rs
  obtain ⟨v', r', rfl, r₁', r₂'⟩ := VRs_cons.mp r₂
  obtain ⟨v'', r'', rfl, r₁'', r₂''⟩ := VRs_cons.mp r₂'
  rw [VRs_nil.mp r₂'']
  obtain ⟨p, kvs, rfl, hm, hd, hv⟩ := VR_dcI.mp r₁
  obtain ⟨t, rfl⟩ := VR_int.mp r₁'
  have hd' := dictOf_sub I.keep hd
  refine call_meetsIn PySem.F.slot_dict_get hd'.typeIs PySem.F.entry_dict_get (PySem.F.args_dict_get_3 _ _ _) (meets_dict_get_default (kI c) p isInt_of hm v'') ⟨_, hd'.mapOf, ?_⟩
  refine Post.here I ?_ h (s.toks + 1)
  rcases VRi_lk i l hv with ⟨h1, h2⟩ | ⟨y, w, h1, h2, h3⟩
  · rw [h1, h2]; exact r₁''
  · rw [h1, h2]; exact h3
theorem WC_get1 {l : List (Int × V)} {i : Int} (h : Q ((lkI l i).getD .none) σ) : WC c k (.bi "dict.get") [.dcI l, .int i] σ Q := .mk fun G A z s vf vs a I rf rs => by
  rw [VR_bi.mp rf]
  obtain ⟨v, r, rfl, r₁, r₂⟩ := VRs_cons.mp rs
  obtain ⟨v', r', rfl, r₁', r₂'⟩ := VRs_cons.mp r₂
  rw [VRs_nil.mp r₂']
  obtain ⟨p, kvs, rfl, hm, hd, hv⟩ := VR_dcI.mp r₁
  obtain ⟨t, rfl⟩ := VR_int.mp r₁'
  have hd' := dictOf_sub I.keep hd
  refine call_meetsIn PySem.F.slot_dict_get hd'.typeIs PySem.F.entry_dict_get (PySem.F.args_dict_get_2 _ _) (meets_dict_get (kI c) p isInt_of hm) ⟨_, hd'.mapOf, ?_⟩
  refine Post.here I ?_ h (s.toks + 1)
  rcases VRi_lk i l hv with ⟨h1, h2⟩ | ⟨y, w, h1, h2, h3⟩
  · rw [h1, h2]; exact VR_none.mpr rfl
  · rw [h1, h2]; exact h3
theorem app_at {z : Heap} {s : Shared} {a : Addr} {l : List V} (I : Inv c z σ s) (hσ : σ a = some (.app l)) : ∃ vs n, s.heap.get? a = some { cls := .type "list", dict := none, data := .seq vs n, slots := #[] } ∧ VRs c z l vs.toList := by
  obtain ⟨g1, g2, ob, g3, vs, n, rfl, hv⟩ := I.mt a _ hσ
  exact ⟨vs, n, g3, hv⟩
theorem MetP_append {a : Addr} {l : List V} (hσ : σ a = some (.app l)) : MetP c (.ref a) "append" σ (.bi "list.append") := .mk fun G A z s va pl ao I r Q hq => by
  rw [VR_ref.mp r] at *
  obtain ⟨vs, n, ho, hv⟩ := app_at I hσ
  exact getMethod_list_append ho rfl rfl (hq _ s.toks (VR_bi.mpr rfl))
theorem WC_append {a : Addr} {l : List V} {x : V} (hσ : σ a = some (.app l)) (hl : l.length ≤ 1000) (h : Q .none (σ.set a (.app (l ++ [x])))) : WC c k (.bi "list.append") [.ref a, x] σ Q := .mk fun G A z s vf vs ao I rf rs => by
  rw [VR_bi.mp rf]
  obtain ⟨v, r, rfl, r₁, r₂⟩ := VRs_cons.mp rs
  obtain ⟨v', r', rfl, r₁', r₂'⟩ := VRs_cons.mp r₂
  rw [VRs_nil.mp r₂', VR_ref.mp r₁]
  obtain ⟨vs, n, ho, hv⟩ := app_at I hσ
  refine wpAny_list_append_plain ⟨n, ho⟩ (fun h' hl' hs => ?_) (by rw [VRs_arr hv, sizeLine_eq]; lia)
  obtain ⟨n', ho'⟩ := hl'
  exact ⟨z, _, _, upd_mut I hσ hs ho' (y := .app (l ++ [x])) (t := s.toks) ⟨_, n', rfl, by rw [Array.toList_push]; exact VRs_app (VRs_cons.mpr ⟨v', [], rfl, r₁', VRs_nil.mpr rfl⟩) l _ hv⟩, VR_none.mpr rfl, h⟩
theorem WE_listA (h : ∀ a, σ a = .none → Q (.ref a) (σ.set a (.app []))) : WE c k sc ρ (.List [] pos) σ Q := .mk fun G A z s env a b I F => by
  show wpAny _ _ (do standAt pos; newList (← spliced (backTo pos (starEach [] env)))) _ _ _
  refine wpAny_bind (wpAny_standAt (wpAny_bind (spliced_none (wpAny_newList ?_ (Nat.zero_le _)))))
  obtain ⟨hn, e₂⟩ := push_mut (P := fun _ => False) (x := .app []) (o := { cls := .type "list", data := .seq ([] : List Value).toArray }) G I ⟨#[], 0, rfl, VRs_nil.mpr rfl⟩
  exact ⟨z, _, _, e₂, VR_ref.mpr rfl, h _ hn⟩
end Mine
end
section
namespace Mine
variable {c : Cx} {k : Nat} {sc : Scope} {ρ : Loc} {σ : Sto} {pos : Pos} {Q : V → Sto → Prop} {QS : Fl → Loc → Sto → Prop}
theorem entry_upd_loop : entryFor table "dict.update.loop" = some Builtin.«dict.update.loop» := entryFor_of_tree (by kernel_rfl)
theorem plain_upd_loop : plainId "dict.update.loop" = true := by decide +kernel
theorem keys_not_of_list : typeLookup (.type "list") "keys" = pure none := by rw [typeLookup_type, builtinLookup_eq_fast]; kernel_rfl
theorem getAttrQ_miss_list {prog : Program} {w : World} {A : Around} {E : Value → Shared → Prop} {s : Shared} {a : Addr} {xs : Array Value} {n : Nat} {Q : Option Value → Shared → Prop}
    (hx : s.heap.get? a = some { cls := .type "list", dict := none, data := .seq xs n, slots := #[] }) (hA : A.handled = none)
    (h : ∀ h' tk, (∀ b o, s.heap.get? b = some o → h'.get? b = some o) → Q none { s with heap := h', toks := tk }) :
    wpAny (model prog w) A (getAttr? (.ref a) "keys") Q E s := by
  obtain ⟨hp, g, d, tk, os⟩ := s
  have hT : ∀ tk', (⟨hp, g, d, tk', os⟩ : Shared).TypeIs (.ref a) "list" := fun _ => ⟨_, hx, rfl⟩
  have f1 := sub_AttributeError
  have f3 := PySem.F.slot_list_getattribute.lookup
  have f4 := PySem.F.slot_list_getattribute.bind (.ref a)
  have f5 := am_list_getattr_none
  unfold getAttr? getAttrBy? getAttrBy
  repeat (any_goals (first | assumption | exact hT _ | ((with_reducible show wpAny _ _ (call (Value.builtin "list.__getattribute__") _ _) _ _ _); refine call_meets PySem.F.slot_list_getattribute (hT _) am_entry_list_getattribute (PySem.F.args_list_getattribute_2 _ _) (meets_getattribute_miss_list a xs n #[] "keys" _ keys_not_of_list (by decide +kernel) (by decide +kernel)) ⟨hx, hA, fun h' tk' e hx' => ?_⟩) | wp_step))
  obtain ⟨t', u', he⟩ := hx'.there
  show wpAny _ _ (getattributeRaised _ _ _ _ _ _ _) _ _ _
  unfold getattributeRaised
  repeat (any_goals (first | assumption | wp_step))
  exact h _ _ hx'.of.keeps
theorem upd_loop {prog : Program} {w : World} {D I l : Addr} {items : Array Value} (Dst : Nat → Heap → Prop) (key : Nat → Heap → Value → Value → Prop) (hDI : D ≠ I) (hlI : l ≠ I) (hlD : l ≠ D)
    (hfr : ∀ i h h', Dst i h → (∀ b o, b ≠ I → h.get? b = some o → h'.get? b = some o) → Dst i h')
    (hit : ∀ i h, i < items.size → Dst i h → ∃ a kv vv, items[i]? = some (.ref a) ∧ IsTup h a #[kv, vv] ∧ key i h kv vv)
    (hset : ∀ (A : Around) (s : Shared) i kv vv (Q : Unit → Shared → Prop) (E : Value → Shared → Prop), A.units < cLine → Dst i s.heap → key i s.heap kv vv → (∀ h' tk, Dst (i + 1) h' → Heap.SameBut D s.heap h' → Q () { s with heap := h', toks := tk }) → wpAny (model prog w) A (dictSet D kv vv) Q E s) :
    ∀ (n i : Nat) (A : Around) (s : Shared) (R : Result → Shared → Prop), A.handled = none → A.units + 1 < cLine → items.size - i = n → i ≤ items.size → s.heap.IsListIter I l i → s.heap.IsList l items → Dst i s.heap →
      (∀ h' tk, Dst items.size h' → (∀ b o, b ≠ D → b ≠ I → s.heap.get? b = some o → h'.get? b = some o) → R (.ok (.ret .none)) { s with heap := h', toks := tk }) →
      codeAny (model prog w) A (.builtin "dict.update.loop" ⟨[.ref D, .ref I, rawInt i, .none], []⟩) R s := by
  intro n
  induction n with
  | zero =>
    intro i A s R hA hu hn hi hit' hl hd hR
    have hin : i = items.size := by lia
    subst hin
    refine codeAny_builtin entry_upd_loop ?_
    rw [Around.under_plainId plain_upd_loop _]
    show wpAny _ A.in1 (pyNext (.ref I) >>= _) _ _ s
    refine wpAny_bind (wpAny_pyNext_list_end (A := A.in1) hA hit' hl (by simp) fun h' he' => ?_)
    show wpAny _ A.in1 (Builtin.Dict.addKeywords D [] >>= _) _ _ _
    refine wpAny_bind (wpAny_pure ?_)
    exact wpAny_pure (hR h' s.toks (hfr _ _ _ hd fun b o hb e => he' b o hb e) fun b o _ hb e => he' b o hb e)
  | succ n ih =>
    intro i A s R hA hu hn hi hit' hl hd hR
    have hlt : i < items.size := by lia
    refine codeAny_builtin entry_upd_loop ?_
    rw [Around.under_plainId plain_upd_loop _]
    obtain ⟨a, kv, vv, e1, _, _⟩ := hit i _ hlt hd
    show wpAny _ A.in1 (pyNext (.ref I) >>= _) _ _ s
    refine wpAny_bind (wpAny_pyNext_list_item hit' hl (x := .ref a) e1 fun h₁ hit₁ hs₁ => ?_)
    have up₁ : ∀ b o, b ≠ I → s.heap.get? b = some o → h₁.get? b = some o := fun b o hb e => hs₁.extBut b o hb e
    have hd₁ := hfr _ _ _ hd up₁
    obtain ⟨a', kv, vv, e2, ht, hk⟩ := hit i _ hlt hd₁
    rw [e1] at e2; cases e2
    refine wpAny_bind (wpAny_holding ?_)
    refine wpAny_bind (wpAny_tryCatch ?_)
    unfold Builtin.Dict.pairItems
    refine wpAny_bind (wpAny_typeOf (s := { s with heap := h₁ }) ht.typeIs ?_)
    rw [if_pos (by decide)]
    obtain ⟨o, ho, hc, m, hdat⟩ := ht
    refine wpAny_bind (wpAny_seqItems (s := { s with heap := h₁ }) ho hdat (wpAny_pure ?_))
    show wpAny _ A.in1 (holding [kv, vv] (dictSet D kv vv)) _ _ _
    refine wpAny_holding (hset A.in1 _ i kv vv _ _ hu hd₁ hk fun h₂ tk hd₂ hs₂ => ?_)
    refine wpAny_pure ⟨plainId_quiet plain_upd_loop _, ?_⟩
    have hIs : ∀ o, h₁.get? I = some o → h₂.get? I = some o := fun o e => (hs₂.2 I (Ne.symm hDI)).trans e
    have hls : ∀ o, h₁.get? l = some o → h₂.get? l = some o := fun o e => (hs₂.2 l hlD).trans e
    have hl₁ : h₁.IsList l items := hl.at fun o e => up₁ l o hlI e
    refine ih (i + 1) A _ R hA hu (by lia) hlt (hit₁.at hIs) (hl₁.at hls) hd₂ fun h' tk' hd' hk' => hR h' tk' hd' fun b o hbD hbI e => hk' b o hbD hbI ((hs₂.2 b hbD).trans (up₁ b o hbI e))
theorem call_dict_list {prog : Program} {w : World} {A : Around} {E : Value → Shared → Prop} {s : Shared} {l : Addr} {items : Array Value} {m : Nat} {Q : Value → Shared → Prop} (hA : A.handled = none) (hu : A.units + 3 < cLine)
    (hl : s.heap.get? l = some { cls := .type "list", dict := none, data := .seq items m, slots := #[] })
    (h : ∃ (Dst : Nat → Heap → Prop) (key : Nat → Heap → Value → Value → Prop),
      (∀ i h h' I, s.heap.get? I = none → I ≠ s.heap.objs.size → Dst i h → (∀ b o, b ≠ I → h.get? b = some o → h'.get? b = some o) → Dst i h') ∧
      (∀ i h, i < items.size → Dst i h → ∃ a kv vv, items[i]? = some (.ref a) ∧ IsTup h a #[kv, vv] ∧ key i h kv vv) ∧
      (∀ (A : Around) (s' : Shared) i kv vv (Q : Unit → Shared → Prop) (E : Value → Shared → Prop), A.units < cLine → Dst i s'.heap → key i s'.heap kv vv → (∀ h' tk, Dst (i + 1) h' → Heap.SameBut s.heap.objs.size s'.heap h' → Q () { s' with heap := h', toks := tk }) → wpAny (model prog w) A (dictSet s.heap.objs.size kv vv) Q E s') ∧
      Dst 0 (s.heap.push { cls := .type "dict", data := .dict #[] }) ∧
      ∀ h' tk, Dst items.size h' → (∀ b o, s.heap.get? b = some o → h'.get? b = some o) → Q (.ref s.heap.objs.size) { s with heap := h', toks := tk }) :
    wpAny (model prog w) A (call (.type "dict") [.ref l]) Q E s := by
  obtain ⟨Dst, key, hfr, hit, hset, h0, hQ⟩ := h
  refine callType_codes (Q₁ := fun obj s₁ => obj = .ref s.heap.objs.size ∧ s₁ = { s with heap := s.heap.push { cls := .type "dict", data := .dict #[] } }) PySem.F.kt_called_dict (PySem.F.kt_typeCall_dict_1 _) PySem.F.entry_dict_init (kt_code_dict_new _ ⟨rfl, rfl⟩) ?_
  rintro obj s₁ ⟨rfl, rfl⟩
  have hT : ({ s with heap := s.heap.push { cls := .type "dict", data := .dict #[] } } : Shared).TypeIs (.ref s.heap.objs.size) "dict" := ⟨_, Heap.get?_push_size _ rfl, rfl⟩
  have hlp : (s.heap.push { cls := .type "dict", data := .dict #[] }).get? l = some { cls := .type "list", dict := none, data := .seq items m, slots := #[] } := Heap.get?_push_of_some _ hl
  have hlt := Heap.lt_size hl
  refine ⟨hT, PySem.F.args_dict_init_2 _ _, ?_⟩
  unfold Builtin.«dict.__init__»
  refine wpAny_bind ?_
  unfold Builtin.Dict.selfAndRest
  refine wpAny_bind (wpAny_notOrdered_dict hT ?_)
  show wpAny _ _ (pure (s.heap.objs.size, [Value.ref l])) _ _ _
  refine wpAny_pure ?_
  show wpAny _ _ (Builtin.Dict.updateFrom "dict.__init__" s.heap.objs.size (.ref l) [] .none) _ _ _
  unfold Builtin.Dict.updateFrom
  refine wpAny_bind (wpAny_typeOf (show ({ s with heap := s.heap.push { cls := .type "dict", data := .dict #[] } } : Shared).TypeIs (.ref l) "list" from ⟨_, hlp, rfl⟩) ?_)
  rw [if_pos (by decide)]
  refine wpAny_bind (getAttrQ_miss_list (A := A.in1.in1) (s := { s with heap := s.heap.push { cls := .type "dict", data := .dict #[] } }) hlp hA fun h₂ tk hk₂ => ?_)
  simp only [Option.isNone_none, if_true]
  refine wpAny_bind (wpAny_rule ?_)
  have hl₂ : h₂.IsList l items := ⟨_, hk₂ _ _ hlp, rfl, _, rfl⟩
  refine wpAny_bind (wpAny_pyIter_list (s := { s with heap := h₂, toks := tk }) hl₂ ?_)
  have grow : ∀ b o, s.heap.get? b = some o → h₂.get? b = some o := fun b o e => hk₂ b o (Heap.get?_push_of_some _ e)
  have hI0 : h₂.get? h₂.objs.size = none := by
    cases q : h₂.get? h₂.objs.size with
    | none => rfl
    | some o => exact absurd (Heap.lt_size q) (Nat.lt_irrefl _)
  have hI1 : s.heap.get? h₂.objs.size = none := by
    cases q : s.heap.get? h₂.objs.size with
    | none => rfl
    | some o => rw [grow _ _ q] at hI0; cases hI0
  have hDlive : h₂.get? s.heap.objs.size = some { cls := .type "dict", data := .dict #[] } := hk₂ _ _ (Heap.get?_push_size _ rfl)
  have hDI : s.heap.objs.size ≠ h₂.objs.size := fun e => by rw [← e, hDlive] at hI0; cases hI0
  have hlI : l ≠ h₂.objs.size := fun e => by rw [← e, hk₂ _ _ hlp] at hI0; cases hI0
  refine wpAny_pure ⟨plainId_quiet plain_upd_loop _, ?_⟩
  refine upd_loop (l := l) (items := items) Dst key hDI hlI (Nat.ne_of_lt hlt) (fun i h h' d hk => hfr i h h' _ hI1 (Ne.symm hDI) d hk) hit hset items.size 0 A.in1 _ _ hA (by show A.units + 1 + 1 < cLine; lia) rfl (Nat.zero_le _) ⟨_, Heap.get?_push_size _ rfl, rfl, rfl⟩ (hl₂.push _)
    (hfr 0 _ _ h₂.objs.size hI1 (Ne.symm hDI) h0 fun b o hb e => Heap.get?_push_of_some _ (hk₂ b o e)) fun h' tk' hd hk => ?_
  exact ⟨rfl, hQ h' tk' hd fun b o e => hk b o (Nat.ne_of_lt (Heap.lt_size e)) (fun q => by rw [q, hI1] at e; cases e) (Heap.get?_push_of_some _ (grow b o e))⟩
noncomputable def pairI (p : Int × V) : V := .tup [.int p.1, p.2]
theorem VRs_pairs {z : Heap} : ∀ (l : List (Int × V)) {vs : List Value}, VRs c z (l.map pairI) vs → ∃ kvs : List (Int × Value), VRi c z l kvs ∧ vs.length = kvs.length ∧ ∀ i, i < kvs.length → ∃ a t v, vs[i]? = some (.ref a) ∧ kvs[i]? = some ((kvs[i]?.map (·.1)).getD 0, v) ∧ IsTup z a #[.int ((kvs[i]?.map (·.1)).getD 0) t, v]
  | [], vs, h => by rw [VRs_nil.mp h]; exact ⟨[], VRi_nil.mpr rfl, rfl, fun i hi => absurd hi (Nat.not_lt_zero _)⟩
  | (n, y) :: r, vs, h => by
    obtain ⟨v, vr, rfl, h1, h2⟩ := VRs_cons.mp h
    obtain ⟨a, ws, rfl, ht, hv⟩ := VR_tup.mp h1
    obtain ⟨w1, wr, e1, g1, g2⟩ := VRs_cons.mp hv
    obtain ⟨w2, wr', e2, g3, g4⟩ := VRs_cons.mp g2
    subst e2
    rw [VRs_nil.mp g4] at e1
    obtain ⟨t, rfl⟩ := VR_int.mp g1
    obtain ⟨kvs, k1, k2, k3⟩ := VRs_pairs r h2
    have ews : ws = #[.int n t, w2] := Array.toList_inj.mp (by simpa using e1)
    refine ⟨(n, w2) :: kvs, VRi_cons.mpr ⟨w2, kvs, rfl, g3, k1⟩, by simp [k2], fun i hi => ?_⟩
    cases i with
    | zero => exact ⟨a, t, w2, rfl, rfl, ews ▸ ht⟩
    | succ i => simpa using k3 i (by simpa using hi)
theorem take_merged {K : Type} [DecidableEq K] (kvs : List (K × Value)) (i : Nat) (p : K × Value) (h : kvs[i]? = some p) : merged [] (kvs.take (i + 1)) = stored (merged [] (kvs.take i)) p.1 p.2 := merged_take_succ [] kvs i p h
theorem WC_dict {l : List (Int × V)} (hl : l.length ≤ 1000) (h : Q (.dcI (mgI [] l)) σ) : WC c k (.ty "dict") [.lst (l.map pairI)] σ Q := .mk fun G A z s vf vs ao I rf rs => by
  rw [VR_ty.mp rf]
  obtain ⟨v, r, rfl, r₁, r₂⟩ := VRs_cons.mp rs
  rw [VRs_nil.mp r₂]
  obtain ⟨p, items, rfl, ⟨m, ho⟩, hv⟩ := VR_lst.mp r₁
  obtain ⟨kvs, k1, k2, k3⟩ := VRs_pairs l hv
  have hsz : items.size = kvs.length := by rw [← k2, Array.length_toList]
  have hkl : kvs.length = l.length := VRi_len l k1
  refine call_dict_list ao.hand (by have := ao.units; have := cLine_is; lia) (I.keep _ _ ho) ⟨fun i h => Sub z h ∧ h.DictOf (kI c) s.heap.objs.size (merged [] (kvs.take i)), fun i h kv vv => ∃ n t v, kvs[i]? = some (n, v) ∧ kv = .int n t ∧ vv = v, ?_, ?_, ?_, ?_, ?_⟩
  · intro i h h' J hJ hJD ⟨h1, h2⟩ hk
    refine ⟨fun b o e => hk b o ?_ (h1 b o e), ?_⟩
    · rintro rfl
      have := I.keep _ _ e
      rw [hJ] at this; cases this
    · exact h2.at fun o e => hk _ o (Ne.symm hJD) e
  · intro i h hi ⟨h1, h2⟩
    obtain ⟨a, t, v, e1, e2, e3⟩ := k3 i (by lia)
    exact ⟨a, _, _, by rw [← Array.getElem?_toList]; exact e1, isTup_sub h1 e3, _, t, v, e2, rfl, rfl⟩
  · intro A' s' i kv vv Q' E' hu ⟨h1, h2⟩ ⟨n, t, v, e1, e2, e3⟩ hQ'
    subst e2 e3
    have hlen : (merged ([] : List (Int × Value)) (kvs.take i)).length ≤ 1000 := by
      have := merged_length_le ([] : List (Int × Value)) (kvs.take i)
      have h3 : (kvs.take i).length ≤ kvs.length := by rw [List.length_take]; lia
      simp only [List.length_nil] at this
      lia
    refine wpAny_dictSet_pairs (knd := kI c) isInt_of h2 (fun h' hd hs => hQ' h' _ ⟨fun b o e => (hs.2 b ?_).trans (h1 b o e), ?_⟩ hs) (by rw [sizeLine_eq]; lia)
    · rintro rfl
      have := I.keep _ _ e
      rw [I.none_of] at this; cases this
    · rw [take_merged kvs i _ e1]; exact hd
  · exact ⟨fun b o e => Heap.get?_push_of_some _ (I.keep b o e), Heap.DictOf.new s.heap⟩
  · intro h' tk ⟨h1, h2⟩ hk
    rw [hsz, List.take_length] at h2
    obtain ⟨o, es, ep, ho', r'⟩ := h2
    exact Post.new I hk I.none_of ho' (fun z' sub g => VR_dcI.mpr ⟨_, merged [] kvs, rfl, sysLow G I (Nat.le_refl _), ⟨o, es, ep, g, r'⟩, VRi.sub sub _ (VRi_merged l (l := []) (kvs := []) (VRi_nil.mpr rfl) k1)⟩) h
end Mine
end
section
namespace Mine
noncomputable def RawD (h : Heap) (d : Addr) (es : Array DictEntry) (ep : Nat) : Prop := ∃ o, h.get? d = some o ∧ o.ExactDict ∧ o.data = .dict es ep
theorem RawD.typeIs {s : Shared} {d : Addr} {es : Array DictEntry} {ep : Nat} (x : RawD s.heap d es ep) : s.TypeIs (.ref d) "dict" := let ⟨o, ho, hc, _⟩ := x; ⟨o, ho, hc.1⟩
theorem RawD.at {h h' : Heap} {d : Addr} {es : Array DictEntry} {ep : Nat} (x : RawD h d es ep) (e : ∀ o, h.get? d = some o → h'.get? d = some o) : RawD h' d es ep := let ⟨o, ho, r⟩ := x; ⟨o, e o ho, r⟩
section
variable {prog : Program} {w : World} {A : Around} {E : Value → Shared → Prop} {s : Shared}
theorem rawIter {d : Addr} {es : Array DictEntry} {ep : Nat} {Q : Value → Shared → Prop} (hd : (d == sysModules) = false) (hm : RawD s.heap d es ep)
    (hQ : Q (.ref s.heap.objs.size) { s with heap := s.heap.push { cls := .type "dict_keyiterator", data := .fields #[.ref d, .int 0 0, .int es.size 0, .int ep 0] } }) :
    wpAny (model prog w) A (pyIter (.ref d)) Q E s := by
  have hT := hm.typeIs
  obtain ⟨o, ho, hc, hdat⟩ := hm
  refine wpAny_pyIter_slot hT PySem.F.slot_dict_iter (wpAny_call_entry PySem.F.slot_dict_iter hT PySem.F.entry_dict_iter ?_ (PySem.F.args_dict_iter_1 _))
  unfold Builtin.«dict.__iter__»
  refine wpAny_bind ?_
  unfold Builtin.Dict.dictSlotNone
  refine wpAny_bind (wpAny_notOrdered_dict hT ?_)
  show wpAny _ _ (pure (Value.ref d)) _ _ s
  refine wpAny_pure ?_
  show wpAny _ _ (Builtin.Dict.showsAll d >>= _) _ _ s
  unfold Builtin.Dict.showsAll
  rw [if_neg (by rw [hd]; exact Bool.false_ne_true)]
  refine wpAny_bind (wpAny_pure ?_)
  refine wpAny_bind (wpAny_dictEntries ho hdat ?_)
  refine wpAny_bind (wpAny_dictEpoch ho hdat ?_)
  exact wpAny_bind (wpAny_newObj_type (wpAny_pure ⟨_, rfl, "dict_keyiterator", _, ⟨_, Heap.get?_push_size _ rfl, rfl⟩, PySem.F.slot_dict_keyiterator_next.lookup, hQ⟩))
theorem rawNext {it d : Addr} {i ep : Nat} {es : Array DictEntry} {e : DictEntry} {Q : Option Value → Shared → Prop} (hit : s.heap.IsKeyIter it d i es.size ep) (hm : RawD s.heap d es ep) (hx : es[i]? = some e)
    (hQ : ∀ h', h'.IsKeyIter it d (i + 1) es.size ep → Heap.SameBut it s.heap h' → Q (some e.key) { s with heap := h' }) :
    wpAny (model prog w) A (pyNext (.ref it)) Q E s := by
  obtain ⟨o, ho, hc, hd⟩ := id hit
  obtain ⟨od, hod, hcd, hdd⟩ := hm
  unfold pyNext
  refine wpAny_bind (wpAny_attempt (wpAny_callSpecial?_slot (name := Str.ofString "__next__") hit.typeIs PySem.F.slot_dict_keyiterator_next
    (wpAny_call_entry PySem.F.slot_dict_keyiterator_next hit.typeIs PySem.F.entry_dict_keyiterator_next ?_ (PySem.F.args_dict_keyiterator_next_1 _))))
  refine wpAny_bind (wpAny_pure ?_)
  refine wpAny_bind ?_
  refine wpAny_bind ?_
  first | refine wpAny_bind (wpAny_typeNameOfWhole_keyiter hit.typeIs (wpAny_pure ?_)) | refine wpAny_bind (wpAny_typeNameOf_keyiter hit.typeIs (wpAny_pure ?_))
  refine wpAny_bind (wpAny_fieldsOf ho hd ?_)
  have hown : Builtin.Dict_items.ownsTuple "dict_keyiterator" = false := by decide
  rw [hown, if_neg Bool.false_ne_true]
  show wpAny _ _ (if (Value.ref d == Value.none) = true then _ else _) _ _ s
  rw [if_neg (show ¬ ((Value.ref d == Value.none) = true) from Bool.false_ne_true)]
  refine wpAny_bind (wpAny_pure ?_)
  refine wpAny_bind (wpAny_dictEntries hod hdd ?_)
  rw [if_neg (by simp)]
  refine wpAny_bind (wpAny_pure ?_)
  refine wpAny_bind (wpAny_dictEpoch hod hdd ?_)
  rw [if_neg (by simp)]
  refine wpAny_pure ?_
  dsimp only
  rw [if_neg (show ¬ ((i : Int) < 0) from by lia), Int.toNat_natCast, hx]
  refine wpAny_bind ?_
  first | refine wpAny_bind (wpAny_typeNameOfWhole_keyiter hit.typeIs (wpAny_pure ?_)) | refine wpAny_bind (wpAny_typeNameOf_keyiter hit.typeIs (wpAny_pure ?_))
  refine wpAny_bind (wpAny_isOneOf_keyiter hit.typeIs ?_)
  show wpAny _ _ (setField (.ref it) 1 (rawInt ((i : Int) + 1)) >>= _) _ _ s
  refine wpAny_bind (wpAny_setField ho hd (by simp) ?_)
  have hit' : (s.heap.update it (Obj.mapFields (·.setIfInBounds 1 (rawInt ((i : Int) + 1))))).IsKeyIter it d (i + 1) es.size ep :=
    ⟨_, Heap.get?_update_self _ ho (Obj.isFreed_of_fields (Obj.data_mapFields hd _)), (Obj.cls_mapFields ..).trans hc, by rw [Obj.data_mapFields hd]; simp [rawInt]⟩
  refine wpAny_bind (wpAny_holding ?_)
  refine wpAny_bind (wpAny_isOneOf_keyiter (s := { s with heap := s.heap.update it (Obj.mapFields (·.setIfInBounds 1 (rawInt ((i : Int) + 1)))) }) hit'.typeIs ?_)
  show wpAny _ _ (pure e.key) _ _ _
  exact wpAny_pure (wpAny_pure ⟨_, rfl, wpAny_pure (hQ _ hit' (Heap.SameBut.update ..))⟩)
theorem rawEnd {it d : Addr} {i ep : Nat} {es : Array DictEntry} {Q : Option Value → Shared → Prop} (hh : A.handled = none) (hit : s.heap.IsKeyIter it d i es.size ep) (hm : RawD s.heap d es ep) (hx : es[i]? = none)
    (hQ : ∀ h', Heap.ExtBut it s.heap h' → Q none { s with heap := h' }) : wpAny (model prog w) A (pyNext (.ref it)) Q E s := by
  obtain ⟨o, ho, hc, hd⟩ := id hit
  obtain ⟨od, hod, hcd, hdd⟩ := hm
  unfold pyNext
  refine wpAny_bind (wpAny_attempt (wpAny_callSpecial?_slot (name := Str.ofString "__next__") hit.typeIs PySem.F.slot_dict_keyiterator_next
    (wpAny_call_entry PySem.F.slot_dict_keyiterator_next hit.typeIs PySem.F.entry_dict_keyiterator_next ?_ (PySem.F.args_dict_keyiterator_next_1 _))))
  refine wpAny_bind (wpAny_pure ?_)
  refine wpAny_bind ?_
  refine wpAny_bind ?_
  first | refine wpAny_bind (wpAny_typeNameOfWhole_keyiter hit.typeIs (wpAny_pure ?_)) | refine wpAny_bind (wpAny_typeNameOf_keyiter hit.typeIs (wpAny_pure ?_))
  refine wpAny_bind (wpAny_fieldsOf ho hd ?_)
  have hown : Builtin.Dict_items.ownsTuple "dict_keyiterator" = false := by decide
  rw [hown, if_neg Bool.false_ne_true]
  show wpAny _ _ (if (Value.ref d == Value.none) = true then _ else _) _ _ s
  rw [if_neg (show ¬ ((Value.ref d == Value.none) = true) from Bool.false_ne_true)]
  refine wpAny_bind (wpAny_pure ?_)
  refine wpAny_bind (wpAny_dictEntries hod hdd ?_)
  rw [if_neg (by simp)]
  refine wpAny_bind (wpAny_pure ?_)
  refine wpAny_bind (wpAny_dictEpoch hod hdd ?_)
  rw [if_neg (by simp)]
  refine wpAny_pure ?_
  dsimp only
  rw [if_neg (show ¬ ((i : Int) < 0) from by lia), Int.toNat_natCast, hx]
  refine wpAny_bind ?_
  first | refine wpAny_bind (wpAny_typeNameOfWhole_keyiter hit.typeIs (wpAny_pure ?_)) | refine wpAny_bind (wpAny_typeNameOf_keyiter hit.typeIs (wpAny_pure ?_))
  show wpAny _ _ (setField (.ref it) 0 .none >>= _) _ _ s
  refine wpAny_bind (wpAny_setField ho hd (by simp) ?_)
  show wpAny _ _ (newExc (.type "StopIteration") [] >>= _) _ _ _
  refine wpAny_bind ?_
  simp only [newExc, newTuple]
  refine wpAny_bind (wpAny_newObj_type ?_ (by size_fits))
  refine wpAny_bind (m := firstArgMember _ _) (wpAny_of_eq (a := Value.none) (by first | rfl | (simp only [firstArgMember]; rfl)) ?_)
  refine wpAny_newObj_type ?_ (by size_fits)
  simp only [raiseNew]
  refine wpAny_bind (wpAny_handled ?_)
  rw [show A.in1.handled = none from hh]
  refine wpAny_bind (wpAny_pure (wpAny_throw ?_))
  refine wpAny_bind (wpAny_isInstance (T := "StopIteration") (b := true) ⟨_, Heap.get?_push_size _ rfl, rfl⟩ isSubtype_stop ?_)
  exact wpAny_pure (hQ _ (((Heap.SameBut.update ..).extBut.push _).push _))
theorem rawVIter {v d : Addr} {es : Array DictEntry} {ep : Nat} {Q : Value → Shared → Prop} (hv : s.heap.IsValuesView v d) (hm : RawD s.heap d es ep)
    (hQ : Q (.ref s.heap.objs.size) { s with heap := s.heap.push { cls := .type "dict_valueiterator", data := .fields #[.ref d, .int 0 0, .int es.size 0, .int ep 0] } }) :
    wpAny (model prog w) A (pyIter (.ref v)) Q E s := by
  obtain ⟨ov, hov, hcv, hdv⟩ := id hv
  obtain ⟨o, ho, hc, hdat⟩ := hm
  refine wpAny_pyIter_slot hv.typeIs PySem.F.slot_dict_values_iter (wpAny_call_entry PySem.F.slot_dict_values_iter hv.typeIs PySem.F.entry_dict_values_iter ?_ (PySem.F.args_dict_values_iter_1 _))
  unfold Builtin.«dict_values.__iter__»
  refine wpAny_bind (wpAny_pure ?_)
  refine wpAny_bind ?_
  unfold Builtin.Dict_items.dictOf
  refine wpAny_bind (wpAny_field hov hdv (x := .ref d) rfl (wpAny_pure ?_))
  refine wpAny_bind ?_
  unfold Builtin.Dict_items.newIterator
  refine wpAny_bind (wpAny_dictEntries ho hdat ?_)
  refine wpAny_bind (wpAny_dictEpoch ho hdat ?_)
  have hown : Builtin.Dict_items.ownsTuple "dict_valueiterator" = false := by decide
  simp only [hown, Bool.false_eq_true, if_false]
  exact wpAny_newObj_type (wpAny_pure ⟨_, rfl, "dict_valueiterator", _, ⟨_, Heap.get?_push_size _ rfl, rfl⟩, PySem.F.slot_dict_valueiterator_next.lookup, hQ⟩)
theorem rawVNext {it d : Addr} {i ep : Nat} {es : Array DictEntry} {e : DictEntry} {Q : Option Value → Shared → Prop} (hit : s.heap.IsValIter it d i es.size ep) (hm : RawD s.heap d es ep) (hx : es[i]? = some e)
    (hQ : ∀ h', h'.IsValIter it d (i + 1) es.size ep → Heap.SameBut it s.heap h' → Q (some e.val) { s with heap := h' }) :
    wpAny (model prog w) A (pyNext (.ref it)) Q E s := by
  obtain ⟨o, ho, hc, hd⟩ := id hit
  obtain ⟨od, hod, hcd, hdd⟩ := hm
  unfold pyNext
  refine wpAny_bind (wpAny_attempt (wpAny_callSpecial?_slot (name := Str.ofString "__next__") hit.typeIs PySem.F.slot_dict_valueiterator_next
    (wpAny_call_entry PySem.F.slot_dict_valueiterator_next hit.typeIs PySem.F.entry_dict_valueiterator_next ?_ (PySem.F.args_dict_valueiterator_next_1 _))))
  refine wpAny_bind (wpAny_pure ?_)
  refine wpAny_bind ?_
  refine wpAny_bind ?_
  first | refine wpAny_bind (wpAny_typeNameOfWhole_valiter hit.typeIs (wpAny_pure ?_)) | refine wpAny_bind (wpAny_typeNameOf_valiter hit.typeIs (wpAny_pure ?_))
  refine wpAny_bind (wpAny_fieldsOf ho hd ?_)
  have hown : Builtin.Dict_items.ownsTuple "dict_valueiterator" = false := by decide
  rw [hown, if_neg Bool.false_ne_true]
  show wpAny _ _ (if (Value.ref d == Value.none) = true then _ else _) _ _ s
  rw [if_neg (show ¬ ((Value.ref d == Value.none) = true) from Bool.false_ne_true)]
  refine wpAny_bind (wpAny_pure ?_)
  refine wpAny_bind (wpAny_dictEntries hod hdd ?_)
  rw [if_neg (by simp)]
  refine wpAny_bind (wpAny_pure ?_)
  refine wpAny_bind (wpAny_dictEpoch hod hdd ?_)
  rw [if_neg (by simp)]
  refine wpAny_pure ?_
  dsimp only
  rw [if_neg (show ¬ ((i : Int) < 0) from by lia), Int.toNat_natCast, hx]
  refine wpAny_bind ?_
  first | refine wpAny_bind (wpAny_typeNameOfWhole_valiter hit.typeIs (wpAny_pure ?_)) | refine wpAny_bind (wpAny_typeNameOf_valiter hit.typeIs (wpAny_pure ?_))
  refine wpAny_bind (wpAny_isOneOf_valiter hit.typeIs ?_)
  show wpAny _ _ (setField (.ref it) 1 (rawInt ((i : Int) + 1)) >>= _) _ _ s
  refine wpAny_bind (wpAny_setField ho hd (by simp) ?_)
  have hit' : (s.heap.update it (Obj.mapFields (·.setIfInBounds 1 (rawInt ((i : Int) + 1))))).IsValIter it d (i + 1) es.size ep :=
    ⟨_, Heap.get?_update_self _ ho (Obj.isFreed_of_fields (Obj.data_mapFields hd _)), (Obj.cls_mapFields ..).trans hc, by rw [Obj.data_mapFields hd]; simp [rawInt]⟩
  refine wpAny_bind (wpAny_holding ?_)
  refine wpAny_bind (wpAny_isOneOf_valiter (s := { s with heap := s.heap.update it (Obj.mapFields (·.setIfInBounds 1 (rawInt ((i : Int) + 1)))) }) hit'.typeIs ?_)
  refine wpAny_bind (wpAny_isOneOf_valiter (s := { s with heap := s.heap.update it (Obj.mapFields (·.setIfInBounds 1 (rawInt ((i : Int) + 1)))) }) hit'.typeIs ?_)
  show wpAny _ _ (pure e.val) _ _ _
  exact wpAny_pure (wpAny_pure ⟨_, rfl, wpAny_pure (hQ _ hit' (Heap.SameBut.update ..))⟩)
theorem rawVEnd {it d : Addr} {i ep : Nat} {es : Array DictEntry} {Q : Option Value → Shared → Prop} (hh : A.handled = none) (hit : s.heap.IsValIter it d i es.size ep) (hm : RawD s.heap d es ep) (hx : es[i]? = none)
    (hQ : ∀ h', Heap.ExtBut it s.heap h' → Q none { s with heap := h' }) : wpAny (model prog w) A (pyNext (.ref it)) Q E s := by
  obtain ⟨o, ho, hc, hd⟩ := id hit
  obtain ⟨od, hod, hcd, hdd⟩ := hm
  unfold pyNext
  refine wpAny_bind (wpAny_attempt (wpAny_callSpecial?_slot (name := Str.ofString "__next__") hit.typeIs PySem.F.slot_dict_valueiterator_next
    (wpAny_call_entry PySem.F.slot_dict_valueiterator_next hit.typeIs PySem.F.entry_dict_valueiterator_next ?_ (PySem.F.args_dict_valueiterator_next_1 _))))
  refine wpAny_bind (wpAny_pure ?_)
  refine wpAny_bind ?_
  refine wpAny_bind ?_
  first | refine wpAny_bind (wpAny_typeNameOfWhole_valiter hit.typeIs (wpAny_pure ?_)) | refine wpAny_bind (wpAny_typeNameOf_valiter hit.typeIs (wpAny_pure ?_))
  refine wpAny_bind (wpAny_fieldsOf ho hd ?_)
  have hown : Builtin.Dict_items.ownsTuple "dict_valueiterator" = false := by decide
  rw [hown, if_neg Bool.false_ne_true]
  show wpAny _ _ (if (Value.ref d == Value.none) = true then _ else _) _ _ s
  rw [if_neg (show ¬ ((Value.ref d == Value.none) = true) from Bool.false_ne_true)]
  refine wpAny_bind (wpAny_pure ?_)
  refine wpAny_bind (wpAny_dictEntries hod hdd ?_)
  rw [if_neg (by simp)]
  refine wpAny_bind (wpAny_pure ?_)
  refine wpAny_bind (wpAny_dictEpoch hod hdd ?_)
  rw [if_neg (by simp)]
  refine wpAny_pure ?_
  dsimp only
  rw [if_neg (show ¬ ((i : Int) < 0) from by lia), Int.toNat_natCast, hx]
  refine wpAny_bind ?_
  first | refine wpAny_bind (wpAny_typeNameOfWhole_valiter hit.typeIs (wpAny_pure ?_)) | refine wpAny_bind (wpAny_typeNameOf_valiter hit.typeIs (wpAny_pure ?_))
  show wpAny _ _ (setField (.ref it) 0 .none >>= _) _ _ s
  refine wpAny_bind (wpAny_setField ho hd (by simp) ?_)
  show wpAny _ _ (newExc (.type "StopIteration") [] >>= _) _ _ _
  refine wpAny_bind ?_
  simp only [newExc, newTuple]
  refine wpAny_bind (wpAny_newObj_type ?_ (by size_fits))
  refine wpAny_bind (m := firstArgMember _ _) (wpAny_of_eq (a := Value.none) (by first | rfl | (simp only [firstArgMember]; rfl)) ?_)
  refine wpAny_newObj_type ?_ (by size_fits)
  simp only [raiseNew]
  refine wpAny_bind (wpAny_handled ?_)
  rw [show A.in1.handled = none from hh]
  refine wpAny_bind (wpAny_pure (wpAny_throw ?_))
  refine wpAny_bind (wpAny_isInstance (T := "StopIteration") (b := true) ⟨_, Heap.get?_push_size _ rfl, rfl⟩ isSubtype_stop ?_)
  exact wpAny_pure (hQ _ (((Heap.SameBut.update ..).extBut.push _).push _))
theorem rawWalk (hh : A.handled = none) (I d : Addr) (hne : d ≠ I) (es : Array DictEntry) (ep : Nat) :
    Walks prog w A I [I, d] [I] es.size (fun i v => ∃ e, es[i]? = some e ∧ v = e.key) (fun i h => h.IsKeyIter I d i es.size ep ∧ RawD h d es ep) where
  sub := fun b hb => by simp at hb; simp [hb]
  frame := fun _ _ _ st hk => ⟨st.1.at fun o e => hk I (by simp) o e, st.2.at fun o e => hk d (by simp) o e⟩
  item := fun i s Q E hi st hQ => rawNext st.1 st.2 (e := es[i]) (by simp [hi]) fun h' hit' hs' => hQ _ h' s.toks ⟨es[i], by simp [hi], rfl⟩ ⟨hit', st.2.at fun o e => (hs'.2 d hne).trans e⟩ fun b o hb e => hs'.extBut b o (fun h => hb (by simp [h])) e
  done := fun s Q E st hQ => rawEnd hh st.1 st.2 (by simp) fun h' he' => hQ h' s.toks fun b o hb e => he' b o (fun h => hb (by simp [h])) e
  self := fun _ _ _ _ st hQ => wpAny_pyIter_keyiter st.1 hQ
theorem rawVWalk (hh : A.handled = none) (I d : Addr) (hne : d ≠ I) (es : Array DictEntry) (ep : Nat) :
    Walks prog w A I [I, d] [I] es.size (fun i v => ∃ e, es[i]? = some e ∧ v = e.val) (fun i h => h.IsValIter I d i es.size ep ∧ RawD h d es ep) where
  sub := fun b hb => by simp at hb; simp [hb]
  frame := fun _ _ _ st hk => ⟨st.1.at fun o e => hk I (by simp) o e, st.2.at fun o e => hk d (by simp) o e⟩
  item := fun i s Q E hi st hQ => rawVNext st.1 st.2 (e := es[i]) (by simp [hi]) fun h' hit' hs' => hQ _ h' s.toks ⟨es[i], by simp [hi], rfl⟩ ⟨hit', st.2.at fun o e => (hs'.2 d hne).trans e⟩ fun b o hb e => hs'.extBut b o (fun h => hb (by simp [h])) e
  done := fun s Q E st hQ => rawVEnd hh st.1 st.2 (by simp) fun h' he' => hQ h' s.toks fun b o hb e => he' b o (fun h => hb (by simp [h])) e
  self := fun _ _ _ _ st hQ => wpAny_pyIter_valiter st.1 hQ
theorem rawValues {d : Addr} {es : Array DictEntry} {ep : Nat} {Q : Value → Shared → Prop} (hd : (d == sysModules) = false) (hm : RawD s.heap d es ep)
    (h : Q (.ref s.heap.objs.size) { s with heap := s.heap.push { cls := .type "dict_values", data := .fields #[.ref d] } }) : wpAny (model prog w) A (call (.builtin "dict.values") [.ref d]) Q E s := by
  refine call_meetsIn PySem.F.slot_dict_values hm.typeIs PySem.F.entry_dict_values (PySem.F.args_dict_values_1 _) (S := fun _ R s => (∃ es ep, RawD s.heap d es ep) ∧ R (.ok (.ret (.ref s.heap.objs.size))) { s with heap := s.heap.push { cls := .type "dict_values", data := .fields #[.ref d] } })
    (.of_wp fun A R s q1_ => q1_.elim fun q2_ h => q2_.elim fun es q3_ => q3_.elim fun ep hm => ?_) ⟨⟨es, ep, hm⟩, h⟩
  refine wpAny_bind ?_
  unfold Builtin.Dict.noArgs
  refine wpAny_bind (wpAny_notOrdered_dict hm.typeIs ?_)
  show wpAny _ _ (pure d) _ _ s
  refine wpAny_pure ?_
  show wpAny _ _ (Builtin.Dict.showsAll d >>= _) _ _ s
  unfold Builtin.Dict.showsAll
  rw [if_neg (by rw [hd]; exact Bool.false_ne_true)]
  refine wpAny_bind (wpAny_pure ?_)
  exact wpAny_bind (wpAny_newObj_type (wpAny_pure ⟨_, rfl, h⟩))
end
end Mine
end
section
namespace Mine
variable {c : Cx} {k : Nat} {sc : Scope} {ρ : Loc} {σ : Sto} {pos : Pos} {Q : V → Sto → Prop} {QS : Fl → Loc → Sto → Prop}
noncomputable def pairP (p : (Int × Int) × V) : V := .tup [.tup [.int p.1.1, .int p.1.2], p.2]
theorem VRp_len {z : Heap} : ∀ (l : List ((Int × Int) × V)) {es : List (List Int × Addr × Value)}, VRp c z l es → es.length = l.length
  | [], es, h => by cases VRp_nil.mp h; rfl
  | (p, x) :: r, es, h => by
    replace h := VRp_cons.mp h
    obtain ⟨a, w, vr, rfl, h1, h2⟩ := h
    rw [List.length_cons, List.length_cons, VRp_len r h2]
theorem VRp_at {z : Heap} : ∀ (l : List ((Int × Int) × V)) {es : List (List Int × Addr × Value)} {i : Nat} {x : List Int × Addr × Value}, VRp c z l es → es[i]? = some x → ∃ p y, l[i]? = some (p, y) ∧ x.1 = [p.1, p.2] ∧ VR c z y x.2.2
  | [], es, i, x, h, e => by cases VRp_nil.mp h; simp at e
  | (p, y) :: r, es, i, x, h, e => by
    replace h := VRp_cons.mp h
    obtain ⟨a, w, vr, rfl, h1, h2⟩ := h
    cases i with
    | zero => simp at e; subst e; exact ⟨p, y, rfl, rfl, h1⟩
    | succ i =>
      simp only [List.getElem?_cons_succ] at e
      exact VRp_at r h2 e
theorem VRp_snoc {z : Heap} {p : Int × Int} {y : V} {a : Addr} {v : Value} (hv : VR c z y v) : ∀ (l : List ((Int × Int) × V)) {es : List (List Int × Addr × Value)}, VRp c z l es → VRp c z (l ++ [(p, y)]) (es ++ [([p.1, p.2], a, v)])
  | [], es, h => by cases VRp_nil.mp h; exact VRp_cons.mpr ⟨a, v, [], rfl, hv, rfl⟩
  | (q, x) :: r, es, h => by
    replace h := VRp_cons.mp h
    obtain ⟨b, w, vr, rfl, h1, h2⟩ := h
    exact VRp_cons.mpr ⟨b, w, _, rfl, h1, VRp_snoc hv r h2⟩
noncomputable def lkP (l : List ((Int × Int) × V)) (i j : Int) : Option V := (l.find? fun p => p.1 = (i, j)).map (·.2)
theorem VRp_lk {z : Heap} (i j : Int) : ∀ (l : List ((Int × Int) × V)) {es : List (List Int × Addr × Value)}, VRp c z l es → (lkP l i j = none ∧ atKey es [i, j] = none) ∨ ∃ x a v, lkP l i j = some x ∧ atKey es [i, j] = some (a, v) ∧ VR c z x v
  | [], es, h => by cases VRp_nil.mp h; exact .inl ⟨rfl, rfl⟩
  | ((p, q), x) :: r, es, h => by
    replace h := VRp_cons.mp h
    obtain ⟨a, v, vr, rfl, h1, h2⟩ := h
    unfold lkP atKey
    simp only [List.find?_cons]
    by_cases e : (p, q) = (i, j)
    · cases e; simp only [decide_true]; exact .inr ⟨x, a, v, rfl, rfl, h1⟩
    · have e' : ¬ [p, q] = [i, j] := fun h => e (by simp at h; rw [h.1, h.2])
      simp only [e, e', decide_false]
      exact VRp_lk i j r h2
theorem tupKey_of {z : Heap} {i j : Int} {v : Value} (r : VR c z (.tup [.int i, .int j]) v) : ∃ a, v = .ref a ∧ IsTupleKey (kI c) z [i, j] a := by
  obtain ⟨a, vs, rfl, ⟨o, ho, hc, n, hd⟩, hv⟩ := VR_tup.mp r
  obtain ⟨w1, wr, e1, g1, g2⟩ := VRs_cons.mp hv
  obtain ⟨w2, wr', e2, g3, g4⟩ := VRs_cons.mp g2
  subst e2
  rw [VRs_nil.mp g4] at e1
  obtain ⟨t, rfl⟩ := VR_int.mp g1
  obtain ⟨u, rfl⟩ := VR_int.mp g3
  exact ⟨a, rfl, o, vs, n, ho, hc, hd, by rw [e1]; exact .cons isInt_of (.cons isInt_of .nil)⟩
theorem itemsAre_two {i j : Int} {vs : List Value} (h : ItemsAre (kI c) [i, j] vs) : ∃ t u, vs = [.int i t, .int j u] := by
  cases h with
  | cons h1 h2 =>
    cases h2 with
    | cons h3 h4 =>
      cases h4
      obtain ⟨t, rfl⟩ := Value.isInt_shape h1
      obtain ⟨u, rfl⟩ := Value.isInt_shape h3
      exact ⟨t, u, rfl⟩
theorem tup_ofKey {z : Heap} {i j : Int} {a : Addr} (h : IsTupleKey (kI c) z [i, j] a) : VR c z (.tup [.int i, .int j]) (.ref a) := by
  obtain ⟨o, vs, n, ho, hc, hd, hi⟩ := h
  obtain ⟨t, u, e⟩ := itemsAre_two hi
  exact VR_tup.mpr ⟨a, vs, rfl, ⟨o, ho, hc, n, hd⟩, by rw [e]; exact VRs_cons.mpr ⟨_, _, rfl, VR_int.mpr ⟨t, rfl⟩, VRs_cons.mpr ⟨_, _, rfl, VR_int.mpr ⟨u, rfl⟩, VRs_nil.mpr rfl⟩⟩⟩
theorem raw_of {z : Heap} {d : Addr} {xs : List (List Int × Addr × Value)} (h : z.DictOfH (kP c) d xs) : ∃ es ep, RawD z d es ep ∧ es.size = xs.length ∧ (∀ (i : Nat) (e : DictEntry), es[i]? = some e → ∃ x, xs[i]? = some x ∧ e.key = .ref x.2.1 ∧ e.val = x.2.2 ∧ IsTupleKey (kI c) z x.1 x.2.1) := by
  obtain ⟨o, es, ep, ho, hx, hd, he, hk, hn⟩ := h
  refine ⟨es, ep, ⟨o, ho, hx, hd⟩, size_of_entries he, fun i e hi => ?_⟩
  rw [entry_at he] at hi
  obtain ⟨x, h1, rfl⟩ := Option.map_eq_some_iff.mp hi
  exact ⟨x, h1, rfl, rfl, hk x (List.mem_of_getElem? h1)⟩
theorem IterP_dcP {l : List ((Int × Int) × V)} : IterP c (.dcP l) (l.map fun p => .tup [.int p.1.1, .int p.1.2]) := ⟨fun G A z σ s v Q hh I r hQ => by
  obtain ⟨a, xs, rfl, hm, hd, hv⟩ := VR_dcP.mp r
  obtain ⟨es, ep, hr, hsz, hat⟩ := raw_of hd
  refine rawIter hm (hr.at fun o e => I.keep _ _ e) ?_
  obtain ⟨f1, f2, f3⟩ := I.fresh
  have hl : es.size = (l.map fun p => V.tup [.int p.1.1, .int p.1.2]).length := by rw [List.length_map, hsz, VRp_len l hv]
  have hne : a ≠ s.heap.objs.size := by
    obtain ⟨o, ho, _⟩ := hr
    rintro rfl
    rw [f2] at ho; cases ho
  refine hQ s.heap.objs.size _ [s.heap.objs.size, a] _ _ ((Ext.refl I).touch (I := s.heap.objs.size) (t := s.toks) f3 f2 f1 (fun b o hb e => Heap.get?_push_of_some _ e)) f3 f2 f1 (fun A' hA => hl ▸ rawWalk hA _ a hne es ep) (fun i h st => ?_) (fun b hb => ?_) (fun i v hi e => ?_) ⟨⟨_, Heap.get?_push_size _ rfl, rfl, by rw [hl]; rfl⟩, hr.at fun o e => Heap.get?_push_of_some _ (I.keep _ o e)⟩
  · obtain ⟨⟨o, ho, _⟩, _⟩ := st
    rw [show h.get? _ = some o from ho]; exact fun h => nomatch h
  · simp at hb
    rcases hb with rfl | rfl
    · exact .inl rfl
    · obtain ⟨o, ho, _⟩ := hr
      exact .inr (by rw [show z.get? _ = some o from ho]; exact fun h => nomatch h)
  · obtain ⟨e, e1, rfl⟩ := e
    obtain ⟨x, g1, g2, g3, g4⟩ := hat i e e1
    obtain ⟨p, y, k1, k2, k3⟩ := VRp_at l hv g1
    rw [k2] at g4
    exact ⟨.tup [.int p.1, .int p.2], by rw [List.getElem?_map, k1]; rfl, g2 ▸ tup_ofKey g4⟩⟩
theorem IterP_dvP {l : List ((Int × Int) × V)} : IterP c (.dvP l) (l.map (·.2)) := ⟨fun G A z σ s v Q hh I r hQ => by
  replace r := VR_dvP.mp r
  obtain ⟨vw, a, xs, rfl, hvw, hd, hv⟩ := r
  obtain ⟨es, ep, hr, hsz, hat⟩ := raw_of hd
  refine rawVIter ⟨_, I.keep _ _ hvw, rfl, rfl⟩ (hr.at fun o e => I.keep _ _ e) ?_
  obtain ⟨f1, f2, f3⟩ := I.fresh
  have hl : es.size = (l.map (·.2)).length := by rw [List.length_map, hsz, VRp_len l hv]
  have hne : a ≠ s.heap.objs.size := by
    obtain ⟨o, ho, _⟩ := hr
    rintro rfl
    rw [f2] at ho; cases ho
  refine hQ s.heap.objs.size _ [s.heap.objs.size, a] _ _ ((Ext.refl I).touch (I := s.heap.objs.size) (t := s.toks) f3 f2 f1 (fun b o hb e => Heap.get?_push_of_some _ e)) f3 f2 f1 (fun A' hA => hl ▸ rawVWalk hA _ a hne es ep) (fun i h st => ?_) (fun b hb => ?_) (fun i v hi e => ?_) ⟨⟨_, Heap.get?_push_size _ rfl, rfl, by rw [hl]; rfl⟩, hr.at fun o e => Heap.get?_push_of_some _ (I.keep _ o e)⟩
  · obtain ⟨⟨o, ho, _⟩, _⟩ := st
    rw [show h.get? _ = some o from ho]; exact fun h => nomatch h
  · simp at hb
    rcases hb with rfl | rfl
    · exact .inl rfl
    · obtain ⟨o, ho, _⟩ := hr
      exact .inr (by rw [show z.get? _ = some o from ho]; exact fun h => nomatch h)
  · obtain ⟨e, e1, rfl⟩ := e
    obtain ⟨x, g1, g2, g3, g4⟩ := hat i e e1
    obtain ⟨p, y, k1, k2, k3⟩ := VRp_at l hv g1
    exact ⟨y, by rw [List.getElem?_map, k1]; rfl, g3 ▸ k3⟩⟩
theorem noDictP {z : Heap} {s : Shared} {l : List ((Int × Int) × V)} {v : Value} (I : Inv c z σ s) (r : VR c z (.dcP l) v) : s.TypeIs v "dict" ∧ ∀ a, v = .ref a → ∃ o, s.heap.get? a = some o ∧ o.dict = none := by
  obtain ⟨a, xs, rfl, hm, hd, hv⟩ := VR_dcP.mp r
  have hd' := dictOfH_sub I.keep hd
  exact ⟨hd'.typeIs, dictOfH_noDict hd'⟩
theorem MetP_values {l : List ((Int × Int) × V)} : MetP c (.dcP l) "values" σ (.bi "dict.values") := MetP_bi PySem.F.plainAttrs_dict PySem.F.slot_dict_values PySem.F.type_dict_values fun z s v I r => noDictP I r
theorem MetP_getP {l : List ((Int × Int) × V)} : MetP c (.dcP l) "get" σ (.bi "dict.get") := MetP_bi PySem.F.plainAttrs_dict PySem.F.slot_dict_get PySem.F.type_dict_get fun z s v I r => noDictP I r
theorem WC_values {l : List ((Int × Int) × V)} (h : Q (.dvP l) σ) : WC c k (.bi "dict.values") [.dcP l] σ Q := .mk fun G A z s vf vs a I rf rs => by
  rw [VR_bi.mp rf]
  obtain ⟨v, r, rfl, r₁, r₂⟩ := VRs_cons.mp rs
  rw [VRs_nil.mp r₂]
  obtain ⟨p, xs, rfl, hm, hd, hv⟩ := VR_dcP.mp r₁
  obtain ⟨es, ep, hr, hsz, hat⟩ := raw_of hd
  refine rawValues hm (hr.at fun o e => I.keep _ _ e) ?_
  exact Post.new (t := s.toks) I (fun b o e => Heap.get?_push_of_some _ e) I.none_of (Heap.get?_push_size _ rfl) (fun z' sub g => VR_dvP.mpr ⟨_, p, xs, rfl, g, dictOfH_sub sub hd, VRp.sub sub l hv⟩) h
theorem WC_getP {l : List ((Int × Int) × V)} {i j : Int} (h : Q ((lkP l i j).getD .none) σ) : WC c k (.bi "dict.get") [.dcP l, .tup [.int i, .int j]] σ Q := .mk fun G A z s vf vs a I rf rs => by
  rw [VR_bi.mp rf]
  obtain ⟨v, r, rfl, r₁, r₂⟩ := VRs_cons.mp rs
  obtain ⟨v', r', rfl, r₁', r₂'⟩ := VRs_cons.mp r₂
  rw [VRs_nil.mp r₂']
  obtain ⟨p, xs, rfl, hm, hd, hv⟩ := VR_dcP.mp r₁
  obtain ⟨q, rfl, hk⟩ := tupKey_of r₁'
  have hd' := dictOfH_sub I.keep hd
  refine call_meetsIn PySem.F.slot_dict_get hd'.typeIs PySem.F.entry_dict_get (PySem.F.args_dict_get_2 _ _) (meetsH_dict_get (kP c) p q hm) ⟨?_, [i, j], xs, tupleKey_sub I.keep hk, hd', ?_⟩
  · show A.units + 1 < cLine
    have := a.units; have := cLine_is; lia
  refine Post.here I ?_ h (s.toks + 3)
  rcases VRp_lk i j l hv with ⟨h1, h2⟩ | ⟨y, b, w, h1, h2, h3⟩
  · rw [h1, h2]; exact VR_none.mpr rfl
  · rw [h1, h2]; exact h3
theorem lkP_take {l : List ((Int × Int) × V)} (hn : (l.map (·.1)).Nodup) {i : Nat} {p : Int × Int} {y : V} (h : l[i]? = some (p, y)) : lkP (l.take i) p.1 p.2 = none := by
  unfold lkP
  rw [Option.map_eq_none_iff, List.find?_eq_none]
  intro x hx hk
  obtain ⟨j, hj⟩ := List.getElem?_of_mem hx
  have hji : j < i := by
    rcases Nat.lt_or_ge j i with h | h
    · exact h
    · rw [List.getElem?_eq_none (by rw [List.length_take]; lia)] at hj; cases hj
  rw [List.getElem?_take_of_lt hji] at hj
  have e1 : (l.map (·.1))[j]? = some p := by
    rw [List.getElem?_map, hj]
    simp at hk
    simp [hk]
  have e2 : (l.map (·.1))[i]? = some p := by rw [List.getElem?_map, h]; rfl
  have := (List.getElem?_inj (List.getElem?_eq_some_iff.mp e1).1 hn).mp (e1.trans e2.symm)
  lia
theorem WC_dictP {l : List ((Int × Int) × V)} (hl : l.length ≤ 1000) (hn : (l.map (·.1)).Nodup) (h : Q (.dcP l) σ) : WC c k (.ty "dict") [.lst (l.map pairP)] σ Q := .mk fun G A z s vf vs ao I rf rs => by
  rw [VR_ty.mp rf]
  obtain ⟨v, r, rfl, r₁, r₂⟩ := VRs_cons.mp rs
  rw [VRs_nil.mp r₂]
  obtain ⟨p, items, rfl, ⟨m, ho⟩, hv⟩ := VR_lst.mp r₁
  have hsz : items.size = l.length := by rw [VRs_arr hv, List.length_map]
  have hz : ∀ b o, z.get? b = some o → b ≠ s.heap.objs.size := fun b o e => by
    rintro rfl
    have := I.keep _ _ e
    rw [I.none_of] at this; cases this
  refine call_dict_list ao.hand (by have := ao.units; have := cLine_is; lia) (I.keep _ _ ho) ⟨fun i h => Sub z h ∧ ∃ xs, h.DictOfH (kP c) s.heap.objs.size xs ∧ VRp c z (l.take i) xs ∧ ∀ x ∈ xs, IsTupleKey (kI c) z x.1 x.2.1,
    fun i h kv vv => ∃ a p y, kv = .ref a ∧ l[i]? = some (p, y) ∧ IsTupleKey (kI c) z [p.1, p.2] a ∧ VR c z y vv, ?_, ?_, ?_, ?_, ?_⟩
  · intro i h h' J hJ hJD ⟨h1, xs, h2, h3, h4⟩ hk
    have sub : Sub z h' := fun b o e => hk b o (by rintro rfl; have := I.keep _ _ e; rw [hJ] at this; cases this) (h1 b o e)
    obtain ⟨o, es, ep, g1, g2, g3, g4, g5, g6⟩ := h2
    exact ⟨sub, xs, ⟨o, es, ep, hk _ o (Ne.symm hJD) g1, g2, g3, g4, fun x hx => tupleKey_sub sub (h4 x hx), g6⟩, h3, h4⟩
  · intro i h hi ⟨h1, _⟩
    have hli : (l.map pairP)[i]? = some (pairP (l[i]'(by lia))) := by rw [List.getElem?_map, List.getElem?_eq_getElem (by lia)]; rfl
    obtain ⟨v, e1, e2⟩ := VRs_get _ hv hli
    obtain ⟨a, ws, rfl, ht, hw⟩ := VR_tup.mp e2
    obtain ⟨w1, wr, f1, g1, g2⟩ := VRs_cons.mp hw
    obtain ⟨w2, wr', f2, g3, g4⟩ := VRs_cons.mp g2
    subst f2
    rw [VRs_nil.mp g4] at f1
    obtain ⟨b, rfl, hk⟩ := tupKey_of g1
    have ews : ws = #[.ref b, w2] := Array.toList_inj.mp (by simpa using f1)
    exact ⟨a, .ref b, w2, by rw [← Array.getElem?_toList]; exact e1, isTup_sub h1 (ews ▸ ht), b, (l[i]'(by lia)).1, (l[i]'(by lia)).2, rfl, by rw [List.getElem?_eq_getElem (by lia)], hk, g3⟩
  · intro A' s' i kv vv Q' E' hu ⟨h1, xs, h2, h3, h4⟩ ⟨a, p, y, e1, e2, e3, e4⟩ hQ'
    subst e1
    have hnone : atKey xs [p.1, p.2] = none := by
      rcases VRp_lk p.1 p.2 _ h3 with ⟨_, g⟩ | ⟨x, b, v, g, _⟩
      · exact g
      · rw [lkP_take hn e2] at g; cases g
    have hlen : xs.length ≤ 1000 := by rw [VRp_len _ h3, List.length_take]; lia
    refine wpAny_dictSet_heap (knd := kP c) (k := [p.1, p.2]) hu (tupleKey_sub h1 e3) h2 (fun h' hd hs => hQ' h' _ ⟨fun b o e => (hs.2 b (hz b o e)).trans (h1 b o e), _, hd, ?_, ?_⟩ hs) (by rw [sizeLine_eq]; lia)
    · rw [storedH_new hnone, List.take_add_one, e2]
      exact VRp_snoc e4 _ h3
    · rw [storedH_new hnone]
      intro x hx
      rcases List.mem_append.mp hx with hx | hx
      · exact h4 x hx
      · simp at hx; subst hx; exact e3
  · exact ⟨fun b o e => Heap.get?_push_of_some _ (I.keep b o e), [], Heap.DictOfH.new s.heap, by rw [List.take_zero]; exact VRp_nil.mpr rfl, fun x hx => nomatch hx⟩
  · intro h' tk ⟨h1, xs, h2, h3, h4⟩ hk
    rw [hsz, List.take_length] at h3
    obtain ⟨o, es, ep, g1, g2, g3, g4, g5, g6⟩ := h2
    exact Post.new I hk I.none_of g1 (fun z' sub g => VR_dcP.mpr ⟨_, xs, rfl, sysLow G I (Nat.le_refl _), ⟨o, es, ep, g, g2, g3, g4, fun x hx => tupleKey_sub sub (h4 x hx), g6⟩, VRp.sub sub _ h3⟩) h
end Mine
end
section
namespace Mine
noncomputable def eight : List Int := [0, 1, 2, 3, 4, 5, 6, 7]
noncomputable def subOf (b : Bool × Bool × Bool × Bool × Bool × Bool × Bool × Bool) : List Int :=
  (if b.1 then [0] else []) ++ (if b.2.1 then [1] else []) ++ (if b.2.2.1 then [2] else []) ++ (if b.2.2.2.1 then [3] else []) ++ (if b.2.2.2.2.1 then [4] else []) ++ (if b.2.2.2.2.2.1 then [5] else []) ++ (if b.2.2.2.2.2.2.1 then [6] else []) ++ (if b.2.2.2.2.2.2.2 then [7] else [])
noncomputable def subsOf : List Int → List (List Int)
  | [] => [[]]
  | x :: r => (subsOf r).map (x :: ·) ++ subsOf r
theorem mem_subs : ∀ {l S : List Int}, S.Sublist l → S ∈ subsOf l
  | [], S, h => by cases h; exact .head _
  | x :: r, S, h => by
    unfold subsOf
    cases h with
    | cons _ h => exact List.mem_append.mpr (.inr (mem_subs h))
    | cons_cons _ h => exact List.mem_append.mpr (.inl (List.mem_map.mpr ⟨_, mem_subs h, rfl⟩))
theorem sub_of_up : ∀ {l S : List Int}, l.Pairwise (· < ·) → S.Pairwise (· < ·) → (∀ i ∈ S, i ∈ l) → S.Sublist l
  | [], S, _, _, h => by
    cases S with
    | nil => exact .slnil
    | cons x r => exact absurd (h x (.head _)) (by simp)
  | x :: r, [], _, _, _ => List.nil_sublist _
  | x :: r, y :: S, hl, hs, h => by
    rw [List.pairwise_cons] at hl hs
    by_cases e : y = x
    · subst e
      refine .cons_cons _ (sub_of_up hl.2 hs.2 fun i hi => ?_)
      rcases List.mem_cons.mp (h i (.tail _ hi)) with q | q
      · have := hs.1 i hi; lia
      · exact q
    · refine .cons _ (sub_of_up hl.2 (List.pairwise_cons.mpr hs) fun i hi => ?_)
      rcases List.mem_cons.mp (h i hi) with q | q
      · subst q
        rcases List.mem_cons.mp hi with q | q
        · exact absurd q.symm e
        · have h1 := hs.1 i q
          rcases List.mem_cons.mp (h y (.head _)) with g | g
          · exact absurd g e
          · have := hl.1 y g; lia
      · exact q
theorem subs_of {S : List Int} (up : S.Pairwise (· < ·)) (sm : ∀ i ∈ S, 0 ≤ i ∧ i < 8) : S ∈ subsOf eight := mem_subs (sub_of_up (by decide) up fun i hi => by
  have := sm i hi
  have : i = 0 ∨ i = 1 ∨ i = 2 ∨ i = 3 ∨ i = 4 ∨ i = 5 ∨ i = 6 ∨ i = 7 := by lia
  unfold eight
  simp; lia)
noncomputable def ltC (S : List Int) (h : Int) : Nat := (S.filter (· < h)).length
noncomputable def insI (S : List Int) (h : Int) : List Int := S.take (ltC S h) ++ h :: S.drop (ltC S h)
noncomputable def addOk (b : Bool) (S : List Int) (h : Int) : Bool :=
  S.contains h || (decide ((setTab b S).freeSlot h = some (h.toNat, false)) &&
    (let T := (setTab b S).put h.toNat
     decide (T.2 = ltC S h) && (T.1.fits (S.length + 1)) &&
     (if S.length = 4 then T.1.tooFull && decide (T.1.relaid (insI S h).toArray (SetTable.grown 5) = some (setTab b (insI S h), #[0, 1, 2, 3, 4])) && (setTab b (insI S h)).fits 5
      else !T.1.tooFull && decide (T.1 = setTab b (insI S h)))))
noncomputable def walkOk (b : Bool) (S : List Int) : Bool := (List.range (S.length + 1)).all fun i => SetTable.below (setTab b S).place (if i = 0 then 0 else (S.getD (i - 1) 0).toNat + 1) == i
noncomputable abbrev addA (b : Bool) (h : Int) : Bool := (subsOf eight).all fun S => addOk b S h
theorem add_t0 : addA true 0 = true := by decide +kernel
theorem add_t1 : addA true 1 = true := by decide +kernel
theorem add_t2 : addA true 2 = true := by decide +kernel
theorem add_t3 : addA true 3 = true := by decide +kernel
theorem add_t4 : addA true 4 = true := by decide +kernel
theorem add_t5 : addA true 5 = true := by decide +kernel
theorem add_t6 : addA true 6 = true := by decide +kernel
theorem add_t7 : addA true 7 = true := by decide +kernel
theorem add_f0 : addA false 0 = true := by decide +kernel
theorem add_f1 : addA false 1 = true := by decide +kernel
theorem add_f2 : addA false 2 = true := by decide +kernel
theorem add_f3 : addA false 3 = true := by decide +kernel
theorem add_f4 : addA false 4 = true := by decide +kernel
theorem add_f5 : addA false 5 = true := by decide +kernel
theorem add_f6 : addA false 6 = true := by decide +kernel
theorem add_f7 : addA false 7 = true := by decide +kernel
theorem add_at (b : Bool) (h : Int) (h0 : 0 ≤ h ∧ h < 8) : addA b h = true := by
  have : h = 0 ∨ h = 1 ∨ h = 2 ∨ h = 3 ∨ h = 4 ∨ h = 5 ∨ h = 6 ∨ h = 7 := by lia
  cases b
  · rcases this with rfl | rfl | rfl | rfl | rfl | rfl | rfl | rfl
    · exact add_f0
    · exact add_f1
    · exact add_f2
    · exact add_f3
    · exact add_f4
    · exact add_f5
    · exact add_f6
    · exact add_f7
  · rcases this with rfl | rfl | rfl | rfl | rfl | rfl | rfl | rfl
    · exact add_t0
    · exact add_t1
    · exact add_t2
    · exact add_t3
    · exact add_t4
    · exact add_t5
    · exact add_t6
    · exact add_t7
theorem walk_all : ([true, false].all fun b => (subsOf eight).all fun S => walkOk b S && (setTab b S).fits S.length) = true := by decide +kernel
end Mine
end
section
namespace Mine
variable {c : Cx} {k : Nat} {sc : Scope} {ρ : Loc} {σ : Sto} {pos : Pos} {Q : V → Sto → Prop}
noncomputable def txt (c : Cx) : Bool := c.w.params.followText "set-order"
theorem addOk_of {b : Bool} {S : List Int} {h : Int} (up : S.Pairwise (· < ·)) (sm : ∀ i ∈ S, 0 ≤ i ∧ i < 8) (h0 : 0 ≤ h ∧ h < 8) : addOk b S h = true :=
  List.all_eq_true.mp (add_at b h h0) S (subs_of up sm)
theorem walkOk_of {b : Bool} {S : List Int} (up : S.Pairwise (· < ·)) (sm : ∀ i ∈ S, 0 ≤ i ∧ i < 8) : walkOk b S = true ∧ (setTab b S).fits S.length = true := by
  have e := walk_all
  rw [List.all_eq_true] at e
  have e1 := e b (by cases b <;> simp)
  rw [List.all_eq_true] at e1
  have e2 := e1 S (subs_of up sm)
  rwa [Bool.and_eq_true] at e2
theorem insI_mem {S : List Int} {h : Int} (i : Int) : i ∈ insI S h ↔ i ∈ S ∨ i = h := by
  unfold insI
  rw [List.mem_append, List.mem_cons]
  constructor
  · rintro (q | q | q)
    · exact .inl (List.mem_of_mem_take q)
    · exact .inr q
    · exact .inl (List.mem_of_mem_drop q)
  · rintro (q | q)
    · rw [← List.take_append_drop (ltC S h) S, List.mem_append] at q
      rcases q with q | q
      · exact .inl q
      · exact .inr (.inr q)
    · exact .inr (.inl q)
theorem ltC_split : ∀ {S : List Int} {h : Int}, S.Pairwise (· < ·) → (∀ i ∈ S.take (ltC S h), i < h) ∧ (∀ i ∈ S.drop (ltC S h), ¬ i < h)
  | [], h, _ => ⟨fun i hi => by simp at hi, fun i hi => by simp at hi⟩
  | x :: r, h, up => by
    rw [List.pairwise_cons] at up
    unfold ltC
    by_cases e : x < h
    · rw [List.filter_cons_of_pos (by simpa using e), List.length_cons, List.take_succ_cons, List.drop_succ_cons]
      obtain ⟨h1, h2⟩ := ltC_split (h := h) up.2
      refine ⟨fun i hi => ?_, h2⟩
      rcases List.mem_cons.mp hi with q | q
      · rw [q]; exact e
      · exact h1 i q
    · have : r.filter (· < h) = [] := by
        rw [List.filter_eq_nil_iff]
        intro i hi
        have := up.1 i hi
        simp; lia
      rw [List.filter_cons_of_neg (by simpa using e), this]
      exact ⟨fun i hi => by simp at hi, fun i hi => by
        simp only [List.length_nil, List.drop_zero] at hi
        rcases List.mem_cons.mp hi with q | q
        · rw [q]; exact e
        · have := up.1 i q; lia⟩
theorem insI_up {S : List Int} {h : Int} (up : S.Pairwise (· < ·)) (hn : h ∉ S) : (insI S h).Pairwise (· < ·) := by
  obtain ⟨h1, h2⟩ := ltC_split (h := h) up
  unfold insI
  rw [← List.take_append_drop (ltC S h) S, List.pairwise_append] at up
  rw [List.pairwise_append, List.pairwise_cons]
  refine ⟨up.1, ⟨fun i hi => ?_, up.2.1⟩, fun a ha b hb => ?_⟩
  · have := h2 i hi
    have hne : i ≠ h := by rintro rfl; exact hn (List.mem_of_mem_drop hi)
    lia
  · rcases List.mem_cons.mp hb with q | q
    · rw [q]; exact h1 a ha
    · exact up.2.2 a ha b q
theorem insI_len {S : List Int} {h : Int} : (insI S h).length = S.length + 1 := by
  unfold insI
  rw [List.length_append, List.length_cons, List.length_take, List.length_drop]
  have : ltC S h ≤ S.length := List.length_filter_le _ _
  lia
theorem IntsAre.take : ∀ {vs : List Value} {ns : List Int} (n : Nat), IntsAre vs ns → IntsAre (vs.take n) (ns.take n)
  | _, _, 0, _ => .nil
  | _, _, n + 1, .nil => .nil
  | _, _, n + 1, .cons a t h => .cons a t (IntsAre.take n h)
theorem IntsAre.drop : ∀ {vs : List Value} {ns : List Int} (n : Nat), IntsAre vs ns → IntsAre (vs.drop n) (ns.drop n)
  | _, _, 0, h => h
  | _, _, n + 1, .nil => .nil
  | _, _, n + 1, .cons a t h => IntsAre.drop n h
theorem IntsAre.app : ∀ {vs vs' : List Value} {ns ns' : List Int}, IntsAre vs ns → IntsAre vs' ns' → IntsAre (vs ++ vs') (ns ++ ns')
  | _, _, _, _, .nil, h => h
  | _, _, _, _, .cons a t g, h => .cons a t (IntsAre.app g h)
theorem IntsAre.len : ∀ {vs : List Value} {ns : List Int}, IntsAre vs ns → vs.length = ns.length
  | _, _, .nil => rfl
  | _, _, .cons a t h => by simp [IntsAre.len h]
theorem insertAt_list {α : Type} (xs : Array α) (p : Nat) (x : α) : (SetTable.insertAt xs p x).toList = xs.toList.take p ++ x :: xs.toList.drop p := by
  unfold SetTable.insertAt
  rw [Array.toList_append, Array.toList_push, Array.toList_extract, Array.toList_extract]
  simp only [List.extract, Nat.sub_zero, List.drop_zero, List.append_assoc, List.singleton_append]
  rw [List.take_of_length_le (l := List.drop p xs.toList) (by simp)]
theorem hash_small {h : Int} (h0 : 0 ≤ h ∧ h < 8) : (intKind c.prog c.w).hash h = h := by
  show hashInt h = h
  have : h = 0 ∨ h = 1 ∨ h = 2 ∨ h = 3 ∨ h = 4 ∨ h = 5 ∨ h = 6 ∨ h = 7 := by lia
  rcases this with rfl | rfl | rfl | rfl | rfl | rfl | rfl | rfl <;> decide +kernel
theorem findIdx_in : ∀ (l : List (Int × Value)) {S : List Int} {h : Int}, IntsAre (l.map (·.2)) S → ((l.findIdx? fun e => (intKind c.prog c.w).is h e.2).isSome = S.contains h)
  | [], S, h, g => by
    generalize e : ([] : List (Int × Value)).map (·.2) = vs at g
    cases g with
    | nil => rfl
    | cons => simp at e
  | (a, v) :: r, S, h, g => by
    generalize e : ((a, v) :: r).map (·.2) = vs at g
    cases g with
    | nil => simp at e
    | cons n t g =>
      rw [List.map_cons, List.cons.injEq] at e
      obtain ⟨e1, e2⟩ := e
      dsimp only at e1
      subst e1
      subst e2
      rw [List.findIdx?_cons, List.contains_cons]
      have : (intKind c.prog c.w).is h (Value.int n t) = (h == n) := by
        show Value.isInt h (.int n t) = _
        simp only [Value.isInt]
        exact Bool.beq_comm
      dsimp only
      rw [this]
      cases e : h == n
      · simp only [Bool.false_eq_true, if_false, Option.isSome_map, Bool.false_or]
        exact findIdx_in r g
      · rfl
theorem oneMore {α : Type} {n : Nat} {l : List α} (h : l.length = n + 1) : ∃ a r, l = a :: r ∧ r.length = n := by
  cases l with
  | nil => cases h
  | cons a r => exact ⟨a, r, rfl, Nat.succ.inj h⟩
theorem fiveL {α : Type} {l : List α} (h : l.length = 5) : (#[0, 1, 2, 3, 4] : Array Nat).filterMap (l.toArray[·]?) = l.toArray := by
  obtain ⟨a, l1, e1, h⟩ := oneMore h
  obtain ⟨b, l2, e2, h⟩ := oneMore h
  obtain ⟨d, l3, e3, h⟩ := oneMore h
  obtain ⟨e, l4, e4, h⟩ := oneMore h
  obtain ⟨f, l5, e5, h⟩ := oneMore h
  cases l5 with
  | nil => rw [e1, e2, e3, e4, e5]; rfl
  | cons _ _ => cases h
theorem five {α : Type} {l : Array α} (h : l.size = 5) : (#[0, 1, 2, 3, 4] : Array Nat).filterMap (l[·]?) = l := by
  obtain ⟨l⟩ := l
  exact fiveL h
theorem setAdd_run {A : Around} {E : Value → Shared → Prop} {s : Shared} {a : Addr} {S : List Int} {h : Int} {tk : Tok} {Q : Bool → Shared → Prop} (X : SetIs c s.heap a S) (h0 : 0 ≤ h ∧ h < 8)
    (hQ : ∀ b h' t', SetIs c h' a (if h ∈ S then S else insI S h) → Heap.SameBut a s.heap h' → Q b { s with heap := h', toks := t' }) : wpAny (model c.prog c.w) A (setAdd a (.int h tk)) Q E s := by
  obtain ⟨⟨es, ep, ho, hk, hv⟩, up, sm⟩ := X
  obtain ⟨_, hf⟩ := walkOk_of (b := txt c) up sm
  have hsz : es.size = S.length := by rw [← Array.length_toList, ← List.length_map (f := (·.1)), hk]
  rw [← hsz] at hf
  have hS8 : S.length ≤ 8 := (sub_of_up (l := eight) (by decide) up fun i hi => by
    have := sm i hi
    have : i = 0 ∨ i = 1 ∨ i = 2 ∨ i = 3 ∨ i = 4 ∨ i = 5 ∨ i = 6 ∨ i = 7 := by lia
    unfold eight; simp; lia).length_le
  have hel : ElemsOf (intKind c.prog c.w) es.toList := by
    intro e he
    obtain ⟨i, hi⟩ := List.getElem?_of_mem he
    have e1 : S[i]? = some e.1 := by rw [← hk, List.getElem?_map, hi]; rfl
    have e2 : (es.toList.map (·.2))[i]? = some e.2 := by rw [List.getElem?_map, hi]; rfl
    have hm := sm e.1 (List.mem_of_getElem? e1)
    obtain ⟨t, ht⟩ := PyProof.Rows.IntsAre.int_at hv i e.2 e2
    have e3 : S.getD i 0 = e.1 := by rw [List.getD_eq_getElem?_getD, e1]; rfl
    rw [e3] at ht
    exact ⟨⟨e.1, by rw [ht]; exact intKind_is _ _ _ _, (hash_small hm).symm⟩, by rw [ht]; rfl⟩
  unfold setAdd
  refine wpAny_holding (wpAny_bind ((intKind c.prog c.w).pyHash (k := h) (intKind_is _ _ _ _) ?_))
  rw [hash_small h0]
  unfold setAddHashed setAddHashedIn
  refine wpAny_holding (wpAny_bind (wpAny_setState_of (s := { s with toks := s.toks + 1 }) ho rfl hf ?_))
  dsimp only
  rw [byScan_of (x := .int h tk) rfl (by have : scanBound = 4096 := rfl; lia) hel]
  simp only [↓reduceIte]
  unfold setAddByScan
  refine wpAny_bind ?_
  refine wpAny_bind (wpAny_rule ?_)
  have hscan : ∀ {Q : ScanMet → Shared → Prop}, Q (match es.toList.findIdx? (fun e => (intKind c.prog c.w).is h e.2) with | some j => .found (0 + j) | none => .absent) { s with toks := s.toks + 1 } →
      wpAny (model c.prog c.w) A (setScan a (.int h tk) h true es) Q E { s with toks := s.toks + 1 } := fun {Q} q => by
    have := wpAny_setScan_of (knd := intKind c.prog c.w) (A := A) (E := E) (s := { s with toks := s.toks + 1 }) (a := a) (x := .int h tk) (k := h) (adding := true) (Q := Q) (intKind_is _ _ _ _) ho rfl hf hel q
    rwa [hash_small h0] at this
  refine wpAny_bind (hscan ?_)
  have hin := findIdx_in (c := c) es.toList (h := h) hv
  cases hr : List.findIdx? (fun e => (intKind c.prog c.w).is h e.2) es.toList with
  | some j =>
    rw [hr] at hin
    have hm : h ∈ S := List.contains_iff_mem.mp hin.symm
    dsimp only
    refine wpAny_pure (wpAny_pure ?_)
    have := hQ false s.heap (s.toks + 1) (by rw [if_pos hm]; exact ⟨⟨es, ep, ho, hk, hv⟩, up, sm⟩) (Heap.SameBut.refl _ _)
    exact this
  | none =>
    rw [hr] at hin
    have hm : h ∉ S := fun q => by rw [List.contains_iff_mem.mpr q] at hin; cases hin
    dsimp only
    have A1 := addOk_of (b := txt c) up sm h0
    unfold addOk at A1
    rw [← hin] at A1
    simp only [Option.isSome_none, Bool.false_or, Bool.and_eq_true, decide_eq_true_eq] at A1
    obtain ⟨B1, ⟨B2, B3⟩, B4⟩ := A1
    have hp : ltC S h ≤ S.length := List.length_filter_le _ _
    have hnew : layNew (setTab (txt c) S) es h (.int h tk) = (SetTable.insertAt es (ltC S h) (h, .int h tk), ((setTab (txt c) S).put h.toNat).1, false, false) := by
      unfold layNew
      rw [B1]
      dsimp only
      have hs' : (SetTable.insertAt es (ltC S h) (h, Value.int h tk)).size = S.length + 1 := by
        rw [← Array.length_toList, insertAt_list, List.length_append, List.length_cons, List.length_take, List.length_drop, Array.length_toList, hsz]; lia
      rw [B2, hs']
      unfold SetTable.orStandIn
      rw [B3]; rfl
    have hnew' : layNew (setTab (c.w.params.followText "set-order") S) es h (.int h tk) = (SetTable.insertAt es (ltC S h) (h, .int h tk), ((setTab (txt c) S).put h.toNat).1, false, false) := hnew
    have hpl : ((setTab (txt c) S).put h.toNat).1.plain = true := rfl
    have hlist : (SetTable.insertAt es (ltC S h) (h, Value.int h tk)).toList = es.toList.take (ltC S h) ++ (h, Value.int h tk) :: es.toList.drop (ltC S h) := insertAt_list ..
    generalize hes1 : SetTable.insertAt es (ltC S h) (h, Value.int h tk) = es1 at hnew' hlist
    generalize hT1 : ((setTab (txt c) S).put h.toNat).1 = T1 at hnew' hpl B3 B4
    have hk1 : es1.toList.map (·.1) = insI S h := by
      rw [hlist, List.map_append, List.map_cons, List.map_take, List.map_drop, hk]; rfl
    have hv1 : IntsAre (es1.toList.map (·.2)) (insI S h) := by
      rw [hlist, List.map_append, List.map_cons, List.map_take, List.map_drop]
      exact IntsAre.app (IntsAre.take _ hv) (.cons h tk (IntsAre.drop _ hv))
    have hs1 : es1.size = S.length + 1 := by rw [← Array.length_toList, ← List.length_map (f := (·.1)), hk1, insI_len]
    have up1 := insI_up up hm
    have sm1 : ∀ i ∈ insI S h, 0 ≤ i ∧ i < 8 := fun i hi => (insI_mem i).mp hi |>.elim (sm i) fun e => e ▸ h0
    rw [hnew']
    dsimp only
    refine wpAny_bind (wpAny_pure ?_)
    rw [if_pos hpl]
    refine wpAny_bind (wpAny_of_eq (hashByValue_scannable 8 (x := .int h tk) rfl) ?_)
    rw [if_pos (show plainKind (.int h tk) = true from rfl)]
    refine wpAny_bind (wpAny_storeSet_of (s := { s with toks := s.toks + 1 }) ho rfl ?_ (by rw [hs1, sizeLine_eq]; lia))
    have hg : (s.heap.update a (Obj.putSet es1 T1)).get? a = some { cls := .type "set", dict := none, data := .set es1 (ep + 1) T1, slots := #[] } := Heap.get?_update_self (Obj.putSet es1 T1) ho rfl
    have hsb1 := Heap.SameBut.update s.heap a (Obj.putSet es1 T1)
    by_cases h4 : S.length = 4
    · rw [if_pos h4] at B4
      simp only [Bool.and_eq_true, decide_eq_true_eq] at B4
      obtain ⟨⟨C1, C2⟩, C3⟩ := B4
      have hrel : relayAll T1 es1 (SetTable.grown es1.size) = (es1, setTab (txt c) (insI S h), false) := by
        unfold relayAll
        have e5 : es1.size = 5 := by rw [hs1, h4]
        have e6 : (es1.map (·.1)) = (insI S h).toArray := by rw [← Array.toList_inj, Array.toList_map, hk1]
        rw [e6, e5, C2]
        dsimp only
        have e7 : (#[0, 1, 2, 3, 4] : Array Nat).filterMap (es1[·]?) = es1 := by
          exact five e5
        rw [e7, e5, C3]
        rfl
      rw [if_pos (by rw [C1]; rfl), hrel]
      dsimp only
      refine wpAny_bind (wpAny_pure ?_)
      refine wpAny_bind (wpAny_storeSet_of hg rfl ?_ (by rw [hs1, sizeLine_eq]; lia))
      refine wpAny_pure (wpAny_pure ?_)
      refine hQ _ _ _ ?_ (hsb1.trans (Heap.SameBut.update _ a (Obj.putSet es1 (setTab (txt c) (insI S h)))))
      rw [if_neg hm]
      exact ⟨⟨es1, ep + 2, Heap.get?_update_self (Obj.putSet es1 (setTab (txt c) (insI S h))) hg rfl, hk1, hv1⟩, up1, sm1⟩
    · rw [if_neg h4] at B4
      simp only [Bool.and_eq_true, decide_eq_true_eq, Bool.not_eq_true'] at B4
      obtain ⟨C1, C2⟩ := B4
      rw [if_neg (by rw [C1]; decide)]
      refine wpAny_pure (wpAny_pure ?_)
      refine hQ _ _ _ ?_ hsb1
      rw [if_neg hm]
      exact ⟨⟨es1, ep + 1, by rw [hg, C2]; rfl, hk1, hv1⟩, up1, sm1⟩
end Mine
end
section
open Sem (wp)
namespace Mine
variable {c : Cx} {k : Nat} {sc : Scope} {ρ : Loc} {σ : Sto} {pos : Pos} {Q : V → Sto → Prop}
noncomputable def addI (S : List Int) (n : Int) : List Int := if n ∈ S then S else insI S n
noncomputable def allI (ns : List Int) : List Int := ns.foldl addI []
theorem addI_mem {S : List Int} {n i : Int} : i ∈ addI S n ↔ i ∈ S ∨ i = n := by
  unfold addI
  split
  · rename_i h
    exact ⟨.inl, fun q => q.elim id fun e => e ▸ h⟩
  · exact insI_mem i
theorem foldl_addI_mem : ∀ (ns S : List Int) (i : Int), i ∈ ns.foldl addI S ↔ i ∈ S ∨ i ∈ ns
  | [], S, i => by simp
  | n :: r, S, i => by rw [List.foldl_cons, foldl_addI_mem r, addI_mem, List.mem_cons, or_assoc]
theorem allI_mem {ns : List Int} {i : Int} : i ∈ allI ns ↔ i ∈ ns := by
  unfold allI; rw [foldl_addI_mem]; simp
theorem set_loop {items : Array Value} {ns : List Int} {S I l : Addr} (hSI : S ≠ I) (hlI : l ≠ I) (hlS : l ≠ S) (hi : IntsAre items.toList ns) (hs : ∀ i ∈ ns, 0 ≤ i ∧ i < 8) :
    ∀ (n i : Nat) (A : Around) (s : Shared) (R : Result → Shared → Prop), A.handled = none → items.size - i = n → i ≤ items.size → s.heap.IsListIter I l i → s.heap.IsList l items → SetIs c s.heap S (allI (ns.take i)) →
      (∀ h' tk, SetIs c h' S (allI ns) → (∀ b o, b ≠ S → b ≠ I → s.heap.get? b = some o → h'.get? b = some o) → R (.ok (.ret .none)) { s with heap := h', toks := tk }) →
      codeAny (model c.prog c.w) A (.builtin "set.update.loop" ⟨[.ref S, .ref I], []⟩) R s := by
  have hlen : items.size = ns.length := by rw [← Array.length_toList]; exact IntsAre.len hi
  have fr : ∀ {h h' : Heap} {T : List Int}, SetIs c h S T → (∀ o, h.get? S = some o → h'.get? S = some o) → SetIs c h' S T := fun ⟨⟨es, ep, ho, r⟩, h2, h3⟩ e => ⟨⟨es, ep, e _ ho, r⟩, h2, h3⟩
  intro n
  induction n with
  | zero =>
    intro i A s R hA hn hi' hit hl hS hR
    have hin : i = items.size := by lia
    subst hin
    refine codeAny_builtin PyProof.Rows.F.entry_set_update_loop ?_
    rw [Around.under_plainId PyProof.Rows.F.plain_set_update_loop _]
    show wpAny _ A.in1 (pyNext (.ref I) >>= _) _ _ s
    refine wpAny_bind (wpAny_pyNext_list_end (A := A.in1) hA hit hl (by simp) fun h' he' => ?_)
    show wpAny _ A.in1 (ret Value.none) _ _ _
    refine wpAny_pure (hR h' s.toks ?_ fun b o _ hb e => he' b o hb e)
    rw [hlen, List.take_length] at hS
    exact fr hS fun o e => he' S o hSI e
  | succ n ih =>
    intro i A s R hA hn hi' hit hl hS hR
    have hlt : i < items.size := by lia
    obtain ⟨t, ht⟩ := PyProof.Rows.IntsAre.int_at hi i items[i] (by rw [Array.getElem?_toList]; exact Array.getElem?_eq_getElem hlt)
    have hg : ns[i]? = some (ns.getD i 0) := by rw [List.getD_eq_getElem?_getD, List.getElem?_eq_getElem (by lia)]; rfl
    refine codeAny_builtin PyProof.Rows.F.entry_set_update_loop ?_
    rw [Around.under_plainId PyProof.Rows.F.plain_set_update_loop _]
    show wpAny _ A.in1 (pyNext (.ref I) >>= _) _ _ s
    refine wpAny_bind (wpAny_pyNext_list_item hit hl (x := .int (ns.getD i 0) t) (by rw [← ht]; exact Array.getElem?_eq_getElem hlt) fun h₁ hit₁ hs₁ => ?_)
    show wpAny _ A.in1 (holding [Value.int (ns.getD i 0) t] (setAdd S (.int (ns.getD i 0) t)) >>= _) _ _ _
    have hS₁ : SetIs c h₁ S (allI (ns.take i)) := fr hS fun o e => hs₁.extBut S o hSI e
    refine wpAny_bind (wpAny_holding (setAdd_run (s := { s with heap := h₁ }) hS₁ (hs _ (List.mem_of_getElem? hg)) fun b h₂ t' hS₂ hs₂ => ?_))
    refine wpAny_pure ⟨plainId_quiet PyProof.Rows.F.plain_set_update_loop _, ?_⟩
    have hIs : ∀ o, h₁.get? I = some o → h₂.get? I = some o := fun o e => (hs₂.2 I (Ne.symm hSI)).trans e
    have hl₁ : h₁.IsList l items := hl.at fun o e => hs₁.extBut l o hlI e
    refine ih (i + 1) A _ R hA (by lia) hlt (hit₁.at hIs) (hl₁.at fun o e => (hs₂.2 l hlS).trans e) ?_ fun h' tk hS' hk => hR h' tk hS' fun b o hbS hbI e => hk b o hbS hbI ((hs₂.2 b hbS).trans (hs₁.extBut b o hbI e))
    have : allI (ns.take (i + 1)) = addI (allI (ns.take i)) (ns.getD i 0) := by
      unfold allI
      rw [List.take_add_one, hg, List.foldl_append]; rfl
    rw [this]
    exact hS₂
theorem code_set_new {A : Around} {E : Value → Shared → Prop} {s : Shared} (a : Value) {Q₁ : Value → Shared → Prop}
    (h : Q₁ (.ref s.heap.objs.size) { s with heap := s.heap.push { cls := .type "set", dict := none, data := .set #[] 0 (.fresh 0 0 (!txt c)) } }) :
    codeAny (model c.prog c.w) A (.call (.builtin "set.__new__") ⟨[.type "set", a], []⟩) (wants Q₁ E) s := by
  refine codeAny_of_tree ?_
  show wpAny _ A.in1 (do checkBuiltinCall "set.__new__" ⟨[.type "set", a], []⟩; again (.builtin "set.__new__" ⟨[.type "set", a], []⟩)) _ _ s
  refine wpAny_bind (wpAny_of_eq (PySem.F.newCall_set_1 a) (wpAny_pure ⟨plainId_quiet PySem.F.plain_set_new _, codeAny_builtin PySem.F.entry_set_new ?_⟩))
  rw [Around.under_plainId PySem.F.plain_set_new _]
  unfold Builtin.«set.__new__» Builtin.Frozenset.newClass
  have hsub := sub_set_self
  obtain ⟨hp, g, d, tk, os⟩ := s
  dsimp only
  wp_walk
  refine wpAny_askSetting (wpAny_pure ?_)
  dsimp only
  simp only [newObj]
  refine wpAny_bind (wpAny_alloc (wpAny_pure ?_))
  exact wpAny_pure h
theorem call_set {A : Around} {E : Value → Shared → Prop} {s : Shared} {l : Addr} {items : Array Value} {ns : List Int} {Q : Value → Shared → Prop} (hh : A.handled = none) (hl : s.heap.PlainList l items) (hi : IntsAre items.toList ns) (hs : ∀ i ∈ ns, 0 ≤ i ∧ i < 8)
    (h : ∀ h' tk, SetIs c h' s.heap.objs.size (allI ns) → (∀ b o, s.heap.get? b = some o → h'.get? b = some o) → Q (.ref s.heap.objs.size) { s with heap := h', toks := tk }) :
    wpAny (model c.prog c.w) A (call (.type "set") [.ref l]) Q E s := by
  obtain ⟨cc, tl, hmro⟩ := PySem.F.called_set.mro
  have hmade := PySem.F.called_set.made
  have hsub := PySem.F.called_set.sub
  refine wpAny_call (codeAny_of_tree ?_)
  show wpAny _ _ (callAny (.type "set") _) _ _ _
  refine wpAny_pure ⟨Code.quiet_builtin _ (by decide +kernel), codeAny_builtin PySem.F.entry_type_call ?_⟩
  rw [Around.under_plain (weight_type_call_type "set" [.ref l] []) rfl]
  have h1 := PySem.F.called_set.notType
  have h2 := PySem.F.called_set.canCreate
  have hct := PySem.F.typeCall_set_1 (.ref l)
  repeat (any_goals (first | assumption | wp_step))
  refine codeAny_mono (code_set_new (c := c) (.ref l) (E := E) (Q₁ := fun obj s₁ => obj = .ref s.heap.objs.size ∧ s₁ = { s with heap := s.heap.push { cls := .type "set", dict := none, data := .set #[] 0 (.fresh 0 0 (!txt c)) } }) ⟨rfl, rfl⟩) fun r s₁ hr => ?_
  cases r with
  | error e => exact hr
  | ok fl =>
    cases fl with
    | ret obj =>
      obtain ⟨rfl, rfl⟩ := hr
      have hS : (s.heap.push { cls := .type "set", dict := none, data := .set #[] 0 (.fresh 0 0 (!txt c)) }).get? s.heap.objs.size = some { cls := .type "set", dict := none, data := .set #[] 0 (.fresh 0 0 (!txt c)) } := Heap.get?_push_size _ rfl
      have hT : Shared.TypeIs { s with heap := s.heap.push { cls := .type "set", dict := none, data := .set #[] 0 (.fresh 0 0 (!txt c)) } } (.ref s.heap.objs.size) "set" := ⟨_, hS, rfl⟩
      have hli := PySem.F.called_set.init.lookup
      have hbi := PySem.F.called_set.init.bind (.ref s.heap.objs.size)
      repeat (any_goals (first | assumption | wp_step))
      refine codeAny_mono (codeAny_call_builtin (R := wants (fun r s₂ => r = .none ∧ ∃ h' tk, s₂ = { s with heap := h', toks := tk } ∧ SetIs c h' s.heap.objs.size (allI ns) ∧
          (∀ b o, s.heap.get? b = some o → h'.get? b = some o)) E) PySem.F.called_set.init.plain PySem.F.entry_set_init (check_set_init_1 hT ?_)) fun r₂ s₂ hr₂ => ?_
      · obtain ⟨nl, hol⟩ := hl
        have hol' : (s.heap.push { cls := .type "set", dict := none, data := .set #[] 0 (.fresh 0 0 (!txt c)) }).get? l = some { cls := .type "list", dict := none, data := .seq items nl, slots := #[] } := Heap.get?_push_of_some _ hol
        have hsls := PySem.F.sub_list_set
        have hslf := PySem.F.sub_list_frozenset
        have hne : (Value.type "list" == Value.type "dict") = false := by decide
        have hl1 : (s.heap.push { cls := .type "set", dict := none, data := .set #[] 0 (.fresh 0 0 (!txt c)) }).IsList l items := ⟨_, hol', rfl, nl, rfl⟩
        unfold Builtin.«set.__init__» noKeywords Builtin.Frozenset.updateFrom
        generalize hPI : pyIter = PI
        wp_walk
        subst hPI
        refine wpAny_pyIter_list hl1 ?_
        refine wpAny_bind (wpAny_runValue ?_)
        have hlS : l < s.heap.objs.size := Heap.lt_size hol
        have hh3 : A.in1.in1.in1.handled = none := by simp [hh]
        have hneI : l ≠ (s.heap.push { cls := .type "set", dict := none, data := .set #[] 0 (.fresh 0 0 (!txt c)) }).objs.size := by
          rw [Heap.size_push]; exact Nat.ne_of_lt (Nat.lt_succ_of_lt hlS)
        have hSI : s.heap.objs.size ≠ (s.heap.push { cls := .type "set", dict := none, data := .set #[] 0 (.fresh 0 0 (!txt c)) }).objs.size := by
          rw [Heap.size_push]; exact Nat.ne_of_lt (Nat.lt_succ_self _)
        refine set_loop (c := c) (l := l) (items := items) (ns := ns) hSI hneI (Nat.ne_of_lt hlS) hi hs (items.size - 0) 0 _ _ _ (by simp [hh]) rfl (Nat.zero_le _) ⟨_, Heap.get?_push_size _ rfl, rfl, rfl⟩ (hl1.push _) ?hS0 ?hR
        case hS0 =>
          have hget : ((s.heap.push { cls := .type "set", dict := none, data := .set #[] 0 (.fresh 0 0 (!txt c)) }).push { cls := .type "list_iterator", data := .fields #[.ref l, .int 0 0] }).get? s.heap.objs.size
              = some { cls := .type "set", dict := none, data := .set #[] 0 (.fresh 0 0 (!txt c)) } := Heap.get?_push_of_some _ hS
          exact ⟨⟨#[], 0, hget, rfl, .nil⟩, .nil, fun i hi => nomatch hi⟩
        case hR =>
          intro h' tk' hS' hk'
          show wpAny _ _ _ _ _ _
          refine wpAny_pure ?_
          show wpAny _ _ (ret Value.none) _ _ _
          refine wpAny_pure ⟨rfl, h', tk', rfl, hS', fun b o e => ?_⟩
          have hb := Heap.lt_size e
          have hb1 : b ≠ s.heap.objs.size := Nat.ne_of_lt hb
          have hb2 : b ≠ (s.heap.push { cls := .type "set", dict := none, data := .set #[] 0 (.fresh 0 0 (!txt c)) }).objs.size := by
            rw [Heap.size_push]; exact Nat.ne_of_lt (Nat.lt_succ_of_lt hb)
          exact hk' b o hb1 hb2 (Heap.get?_push_of_some _ (Heap.get?_push_of_some _ e))
      · cases r₂ with
        | error e => exact hr₂
        | ok fl₂ =>
          cases fl₂ with
          | ret r =>
            obtain ⟨rfl, h', tk, rfl, hS', hk'⟩ := hr₂
            repeat (any_goals (first | assumption | wp_step))
            exact h _ _ hS' hk'
          | _ => exact hr₂.elim
    | _ => exact hr.elim
theorem WC_set {ns : List Int} (hs : ∀ i ∈ ns, 0 ≤ i ∧ i < 8) (h : ∀ S : List Int, S.Pairwise (· < ·) → (∀ i, i ∈ S ↔ i ∈ ns) → Q (.set S) σ) : WC c k (.ty "set") [.lst (iV ns)] σ Q := .mk fun G A z s vf vs a I rf rs => by
  rw [VR_ty.mp rf]
  obtain ⟨v, r, rfl, r₁, r₂⟩ := VRs_cons.mp rs
  rw [VRs_nil.mp r₂]
  obtain ⟨p, items, rfl, hL, hv⟩ := VR_lst.mp r₁
  refine call_set a.hand (plain_sub I.keep hL) (intsAre_of ns hv) hs fun h' tk hS hk => ?_
  obtain ⟨⟨es, ep, ho, g⟩, up, sm⟩ := hS
  exact Post.new I hk I.none_of ho (fun z' sub g' => VR_set.mpr ⟨_, rfl, ⟨es, ep, g', g⟩, up, sm⟩) (h _ up fun i => allI_mem)
end Mine
end
section
namespace Mine
variable {c : Cx} {k : Nat} {sc : Scope} {ρ : Loc} {σ : Sto} {pos : Pos} {Q : V → Sto → Prop}
theorem slot_setit_next : Slot "set_iterator" "__next__" "set_iterator.__next__" :=
  .of (owner := "set_iterator") (n := "__next__") (by rw [typeLookup_type, builtinLookup_eq_fast]; kernel_rfl) (by decide +kernel) (by decide +kernel) (by decide +kernel)
    (by first | exact .inl (by decide +kernel) | exact .inr (by decide +kernel)) (by rw [isSubtype_type]; kernel_rfl)
theorem slot_setit_iter : Slot "set_iterator" "__iter__" "set_iterator.__iter__" :=
  .of (owner := "set_iterator") (n := "__iter__") (by rw [typeLookup_type, builtinLookup_eq_fast]; kernel_rfl) (by decide +kernel) (by decide +kernel) (by decide +kernel)
    (by first | exact .inl (by decide +kernel) | exact .inr (by decide +kernel)) (by rw [isSubtype_type]; kernel_rfl)
theorem entry_setit_next : entryFor table "set_iterator.__next__" = some Builtin.«set_iterator.__next__» := entryFor_of_tree (by kernel_rfl)
theorem entry_setit_iter : entryFor table "set_iterator.__iter__" = some Builtin.«dict_keyiterator.__iter__» := entryFor_alias (id' := "dict_keyiterator.__iter__") (by kernel_rfl) rfl (by decide +kernel) (by kernel_rfl)
theorem entry_set_iter : entryFor table "set.__iter__" = some Builtin.«frozenset.__iter__» := entryFor_alias (id' := "frozenset.__iter__") (by kernel_rfl) rfl (by decide +kernel) (by kernel_rfl)
theorem args_setit_next (a : Value) : argsOk "set_iterator.__next__" ⟨[a], []⟩ := by unfold argsOk; kernel_rfl
theorem args_setit_iter (a : Value) : argsOk "set_iterator.__iter__" ⟨[a], []⟩ := by unfold argsOk; kernel_rfl
theorem cons_erase_perm {α : Type} {l : List α} {i : Nat} (h : i < l.length) : (l[i] :: l.eraseIdx i).Perm l := by
  rw [List.eraseIdx_eq_take_drop_succ]
  have e : l = l.take i ++ l[i] :: l.drop (i + 1) := by rw [← List.drop_eq_getElem_cons h, List.take_append_drop]
  exact (List.perm_middle.symm.trans (List.Perm.of_eq e.symm))
theorem pick_step {α : Type} {next : Nat → Nat} {fuel k : Nat} {left : List α} {out : Array α} : pickOrder.go next (fuel + 1) k left out = (left[next k % left.length]?).elim out fun x => pickOrder.go next fuel (k + 1) (left.eraseIdx (next k % left.length)) (out.push x) := by kernel_rfl!
theorem pick_go {α : Type} (next : Nat → Nat) : ∀ (fuel k : Nat) (left : List α) (out : Array α), left.length = fuel → (pickOrder.go next fuel k left out).toList.Perm (out.toList ++ left)
  | 0, k, left, out, h => by
    have : left = [] := List.length_eq_zero_iff.mp h
    subst this
    rw [List.append_nil]
    exact .refl _
  | fuel + 1, k, left, out, h => by
    have hlt : next k % left.length < left.length := Nat.mod_lt _ (by lia)
    rw [pick_step, List.getElem?_eq_getElem hlt]
    refine (pick_go next fuel (k + 1) _ _ (by rw [List.length_eraseIdx_of_lt hlt]; lia)).trans ?_
    rw [Array.toList_push, List.append_assoc]
    exact List.Perm.append_left _ (cons_erase_perm hlt)
theorem pick_perm {α : Type} (next : Nat → Nat) (xs : Array α) : (pickOrder next xs).toList.Perm xs.toList := by
  unfold pickOrder
  simpa using pick_go next xs.size 0 xs.toList #[] (by simp)
noncomputable def ordOf (c : Cx) (a : Addr) (ep : Nat) (es : Array (Int × Value)) : Array (Int × Value) := if txt c then pickOrder (c.w.params.setOrder a ep) es else es
theorem ord_perm (c : Cx) (a : Addr) (ep : Nat) (es : Array (Int × Value)) : (ordOf c a ep es).toList.Perm es.toList := by
  unfold ordOf
  split
  · exact pick_perm _ _
  · exact List.Perm.refl _
noncomputable def slotAt (b : Bool) (S : List Int) (i : Nat) : Nat := if b then 0 else if i = 0 then 0 else (S.getD (i - 1) 0).toNat + 1
noncomputable def SetItAt (c : Cx) (h : Heap) (I a : Addr) (S : List Int) (ep i : Nat) : Prop :=
  h.get? I = some { cls := .type "set_iterator", dict := none, data := .fields #[rawInt (slotAt (txt c) S i), rawInt i, .ref a, rawInt S.length, rawInt ep], slots := #[] }
structure SetAt (c : Cx) (h : Heap) (a : Addr) (S : List Int) (es : Array (Int × Value)) (ep : Nat) : Prop where
  at_ : h.get? a = some { cls := .type "set", dict := none, data := .set es ep (setTab (c.w.params.followText "set-order") S), slots := #[] }
  ks : es.toList.map (·.1) = S
  vs : IntsAre (es.toList.map (·.2)) S
  up : S.Pairwise (· < ·)
  small : ∀ i ∈ S, 0 ≤ i ∧ i < 8
theorem SetAt.size {h : Heap} {a : Addr} {S : List Int} {es : Array (Int × Value)} {ep : Nat} (x : SetAt c h a S es ep) : es.size = S.length := by rw [← Array.length_toList, ← List.length_map (f := (·.1)), x.ks]
theorem SetAt.fits {h : Heap} {a : Addr} {S : List Int} {es : Array (Int × Value)} {ep : Nat} (x : SetAt c h a S es ep) : (setTab (c.w.params.followText "set-order") S).fits es.size = true := by
  rw [x.size]; exact (walkOk_of (b := txt c) x.up x.small).2
section
variable {A : Around} {E : Value → Shared → Prop} {s : Shared} {a : Addr} {S : List Int} {es : Array (Int × Value)} {ep : Nat}
theorem setIter {Q : Value → Shared → Prop} (X : SetAt c s.heap a S es ep)
    (hQ : Q (.ref s.heap.objs.size) { s with heap := s.heap.push { cls := .type "set_iterator", data := .fields #[rawInt 0, rawInt 0, .ref a, rawInt S.length, rawInt ep] } }) :
    wpAny (model c.prog c.w) A (pyIter (.ref a)) Q E s := by
  have hT : s.TypeIs (.ref a) "set" := ⟨_, X.at_, rfl⟩
  refine wpAny_pyIter_slot hT PySem.F.slot_set_iter (wpAny_call_entry PySem.F.slot_set_iter hT entry_set_iter ?_ (PySem.F.args_set_iter_1 _))
  unfold Builtin.«frozenset.__iter__»
  refine wpAny_bind ?_
  show wpAny _ _ (pure a) _ _ s
  refine wpAny_pure ?_
  unfold Builtin.Frozenset.sizeOf
  refine wpAny_bind (wpAny_bind (wpAny_setEntries_of X.at_ rfl X.fits (wpAny_pure ?_)))
  refine wpAny_bind ?_
  unfold setDrawn
  refine wpAny_bind (wpAny_setState_of X.at_ rfl X.fits ?_)
  unfold setsByText
  refine wpAny_bind (wpAny_bind (wpAny_askSetting (wpAny_pure (wpAny_pure ?_))))
  rw [if_neg (by
    show ¬ ((!(c.w.params.followText "set-order") && (!true && decide (es.size > 1))) = true)
    simp)]
  refine wpAny_bind (wpAny_pure ?_)
  refine wpAny_bind (wpAny_setEpoch_of X.at_ rfl X.fits ?_)
  rw [X.size]
  exact wpAny_bind (wpAny_newObj_type (wpAny_pure ⟨_, rfl, "set_iterator", _, ⟨_, Heap.get?_push_size _ rfl, rfl⟩, slot_setit_next.lookup, hQ⟩))
theorem setNext_run {i : Nat} {Q : Option (Value × Nat) → Shared → Prop} (X : SetAt c s.heap a S es ep) (hi : i ≤ S.length) (hQ : Q (((ordOf c a ep es)[i]?).map fun e => (e.2, slotAt (txt c) S (i + 1))) s) :
    wpAny (model c.prog c.w) A (setNext a (slotAt (txt c) S i) i ep) Q E s := by
  unfold setNext
  refine wpAny_bind (wpAny_setState_of X.at_ rfl X.fits ?_)
  unfold setsByText
  refine wpAny_bind (wpAny_bind (wpAny_askSetting (wpAny_pure ?_)))
  dsimp only
  rw [show (model c.prog c.w).w.params.followText "set-order" = c.w.params.followText "set-order" from rfl]
  by_cases hb : c.w.params.followText "set-order" = true
  · have ht : txt c = true := hb
    rw [if_pos hb]
    simp only [bne_self_eq_false, Bool.false_eq_true, if_false]
    unfold setWalk
    refine wpAny_bind (wpAny_bind (wpAny_setState_of X.at_ rfl X.fits ?_))
    unfold setsByText
    refine wpAny_bind (wpAny_bind (wpAny_askSetting (wpAny_pure ?_)))
    dsimp only
    rw [show (model c.prog c.w).w.params.followText "set-order" = c.w.params.followText "set-order" from rfl]
    rw [if_pos hb]
    refine wpAny_bind (wpAny_askSetting (wpAny_pure (wpAny_pure ?_)))
    have : (ordOf c a ep es) = pickOrder (c.w.params.setOrder a ep) es := by unfold ordOf; rw [if_pos ht]
    rw [this, ht] at hQ
    rw [ht]
    exact hQ
  · have hb' : c.w.params.followText "set-order" = false := by simpa using hb
    have ht : txt c = false := hb'
    rw [if_neg hb]
    rw [hb']
    rw [if_neg (by
      show ¬ ((!true && decide (es.size > 1)) = true)
      simp)]
    refine wpAny_bind ?_
    show wpAny _ _ (if (!(setTab false S).led && !es.isEmpty) = true then _ else _) _ _ _
    rw [if_neg (by
      show ¬ ((!true && !es.isEmpty) = true)
      simp)]
    refine wpAny_pure ?_
    have hw := (walkOk_of (b := false) X.up X.small).1
    unfold walkOk at hw
    rw [List.all_eq_true] at hw
    have h1 := beq_iff_eq.mp (hw i (List.mem_range.mpr (by lia)))
    have e1 : SetTable.below (setTab false S).place (slotAt (txt c) S i) = i := by
      unfold slotAt; rw [ht]; simpa using h1
    rw [e1]
    have hord : ordOf c a ep es = es := by unfold ordOf; rw [ht]; rfl
    rw [hord] at hQ
    refine wpAny_pure ?_
    have hpl : (setTab false S).place[i]? = (S[i]?).map Int.toNat := by
      show ((S.map Int.toNat).toArray)[i]? = _
      simp
    rw [hpl]
    rcases Nat.lt_or_ge i S.length with hlt | hge
    · have e2 : S[i]? = some S[i] := List.getElem?_eq_getElem hlt
      have e3 : ∃ e, es[i]? = some e := ⟨es[i]'(by rw [X.size]; exact hlt), Array.getElem?_eq_getElem _⟩
      obtain ⟨e, e3⟩ := e3
      rw [e3] at hQ ⊢
      rw [e2]
      dsimp only [Option.map_some] at hQ ⊢
      have : slotAt (txt c) S (i + 1) = (S[i]).toNat + 1 := by
        unfold slotAt
        rw [ht]
        simp [List.getD_eq_getElem?_getD, e2]
      rw [this] at hQ
      exact hQ
    · have e2 : S[i]? = none := List.getElem?_eq_none hge
      have e3 : es[i]? = none := Array.getElem?_eq_none (by rw [X.size]; exact hge)
      rw [e3] at hQ ⊢
      rw [e2]
      exact hQ
theorem setIt_item {I : Addr} {i : Nat} {e : Int × Value} {Q : Option Value → Shared → Prop} (hit : SetItAt c s.heap I a S ep i) (X : SetAt c s.heap a S es ep) (hi : i < S.length) (he : (ordOf c a ep es)[i]? = some e)
    (hQ : ∀ h', SetItAt c h' I a S ep (i + 1) → Heap.SameBut I s.heap h' → Q (some e.2) { s with heap := h' }) : wpAny (model c.prog c.w) A (pyNext (.ref I)) Q E s := by
  have hT : s.TypeIs (.ref I) "set_iterator" := ⟨_, hit, rfl⟩
  unfold pyNext
  refine wpAny_bind (wpAny_attempt (wpAny_callSpecial?_slot (name := Str.ofString "__next__") hT slot_setit_next (wpAny_call_entry slot_setit_next hT entry_setit_next ?_ (args_setit_next _))))
  unfold Builtin.«set_iterator.__next__»
  refine wpAny_bind (wpAny_pure ?_)
  refine wpAny_bind (wpAny_fieldsOf hit rfl ?_)
  dsimp only [rawInt]
  refine wpAny_bind (wpAny_setEntries_of X.at_ rfl X.fits ?_)
  rw [X.size]
  simp only [bne_self_eq_false, Bool.false_eq_true, if_false]
  refine wpAny_bind (setNext_run (ep := ep) (i := i) X (Nat.le_of_lt hi) ?_)
  rw [he]
  dsimp only [Option.map_some]
  refine wpAny_bind (wpAny_setField hit rfl (by simp) ?_)
  have h1 : (s.heap.update I (Obj.mapFields (·.setIfInBounds 0 (rawInt (slotAt (txt c) S (i + 1)))))).get? I = some { cls := .type "set_iterator", dict := none, data := .fields #[rawInt (slotAt (txt c) S (i + 1)), rawInt i, .ref a, rawInt S.length, rawInt ep], slots := #[] } := Heap.get?_update_self _ hit rfl
  refine wpAny_bind (wpAny_setField (s := { s with heap := s.heap.update I (Obj.mapFields (·.setIfInBounds 0 (rawInt (slotAt (txt c) S (i + 1))))) }) h1 rfl (by simp) ?_)
  refine wpAny_pure ⟨_, rfl, wpAny_pure ?_⟩
  refine hQ _ ?_ ((Heap.SameBut.update ..).trans (Heap.SameBut.update ..))
  have := Heap.get?_update_self (Obj.mapFields (·.setIfInBounds 1 (rawInt ((i : Int) + 1)))) h1 rfl
  exact this
theorem setIt_end {I : Addr} {Q : Option Value → Shared → Prop} (hh : A.handled = none) (hit : SetItAt c s.heap I a S ep S.length) (X : SetAt c s.heap a S es ep)
    (hQ : ∀ h', Heap.ExtBut I s.heap h' → Q none { s with heap := h' }) : wpAny (model c.prog c.w) A (pyNext (.ref I)) Q E s := by
  have hT : s.TypeIs (.ref I) "set_iterator" := ⟨_, hit, rfl⟩
  unfold pyNext
  refine wpAny_bind (wpAny_attempt (wpAny_callSpecial?_slot (name := Str.ofString "__next__") hT slot_setit_next (wpAny_call_entry slot_setit_next hT entry_setit_next ?_ (args_setit_next _))))
  unfold Builtin.«set_iterator.__next__»
  refine wpAny_bind (wpAny_pure ?_)
  refine wpAny_bind (wpAny_fieldsOf hit rfl ?_)
  dsimp only [rawInt]
  refine wpAny_bind (wpAny_setEntries_of X.at_ rfl X.fits ?_)
  rw [X.size]
  simp only [bne_self_eq_false, Bool.false_eq_true, if_false]
  refine wpAny_bind (setNext_run (ep := ep) (i := S.length) X (Nat.le_refl _) ?_)
  have hn : (ordOf c a ep es)[S.length]? = none := by
    refine Array.getElem?_eq_none ?_
    rw [← X.size, ← Array.length_toList, ← Array.length_toList, (ord_perm c a ep es).length_eq]
    exact Nat.le_refl _
  rw [hn]
  dsimp only [Option.map_none]
  refine wpAny_bind (wpAny_setField hit rfl (by simp) ?_)
  show wpAny _ _ (newExc (.type "StopIteration") [] >>= _) _ _ _
  refine wpAny_bind ?_
  simp only [newExc, newTuple]
  refine wpAny_bind (wpAny_newObj_type ?_ (by size_fits))
  refine wpAny_bind (m := firstArgMember _ _) (wpAny_of_eq (a := Value.none) (by first | rfl | (simp only [firstArgMember]; rfl)) ?_)
  refine wpAny_newObj_type ?_ (by size_fits)
  simp only [raiseNew]
  refine wpAny_bind (wpAny_handled ?_)
  rw [show A.in1.handled = none from hh]
  refine wpAny_bind (wpAny_pure (wpAny_throw ?_))
  refine wpAny_bind (wpAny_isInstance (T := "StopIteration") (b := true) ⟨_, Heap.get?_push_size _ rfl, rfl⟩ isSubtype_stop ?_)
  exact wpAny_pure (hQ _ (((Heap.SameBut.update ..).extBut.push _).push _))
end
end Mine
end
section
namespace Mine
variable {c : Cx} {k : Nat} {sc : Scope} {ρ : Loc} {σ : Sto} {pos : Pos} {Q : V → Sto → Prop}
theorem SetAt.at' {h h' : Heap} {a : Addr} {S : List Int} {es : Array (Int × Value)} {ep : Nat} (x : SetAt c h a S es ep) (e : ∀ o, h.get? a = some o → h'.get? a = some o) : SetAt c h' a S es ep := ⟨e _ x.at_, x.ks, x.vs, x.up, x.small⟩
theorem setWalks {A : Around} (hh : A.handled = none) (I a : Addr) (hne : a ≠ I) (S : List Int) (es : Array (Int × Value)) (ep : Nat) :
    Walks c.prog c.w A I [I, a] [I] S.length (fun i v => ∃ e, (ordOf c a ep es)[i]? = some e ∧ v = e.2) (fun i h => SetItAt c h I a S ep i ∧ SetAt c h a S es ep) where
  sub := fun b hb => by simp at hb; simp [hb]
  frame := fun _ _ _ st hk => ⟨hk I (by simp) _ st.1, st.2.at' fun o e => hk a (by simp) o e⟩
  item := fun i s Q E hi st hQ => by
    have hlen : (ordOf c a ep es).size = S.length := by
      rw [← st.2.size, ← Array.length_toList, ← Array.length_toList, (ord_perm c a ep es).length_eq]
    obtain ⟨e, he⟩ : ∃ e, (ordOf c a ep es)[i]? = some e := ⟨_, Array.getElem?_eq_getElem (by rw [hlen]; exact hi)⟩
    exact setIt_item st.1 st.2 hi he fun h' hit' hs' => hQ _ h' s.toks ⟨e, he, rfl⟩ ⟨hit', st.2.at' fun o e => (hs'.2 a hne).trans e⟩ fun b o hb e => hs'.extBut b o (fun h => hb (by simp [h])) e
  done := fun s Q E st hQ => setIt_end hh st.1 st.2 fun h' he' => hQ h' s.toks fun b o hb e => he' b o (fun h => hb (by simp [h])) e
  self := fun _ s _ _ st hQ => by
    have hT : s.TypeIs (.ref I) "set_iterator" := ⟨_, st.1, rfl⟩
    refine wpAny_pyIter_slot hT slot_setit_iter (wpAny_call_entry slot_setit_iter hT entry_setit_iter ?_ (args_setit_iter _))
    show wpAny _ _ (ret (.ref I)) _ _ _
    exact wpAny_pure ⟨_, rfl, "set_iterator", _, hT, slot_setit_next.lookup, hQ⟩
theorem hint_set {A : Around} {E : Value → Shared → Prop} {s : Shared} {r : Addr} {Q : Bool → Shared → Prop} (hT : s.TypeIs (.ref r) "set") (h : Q false s) : wpAny (model c.prog c.w) A (Builtin.List.listLengthHint (.ref r)) Q E s := by
  unfold Builtin.List.listLengthHint
  refine wpAny_bind (wpAny_specialOf hT PySem.F.slot_set_len.lookup ?_)
  generalize hid : ("set.__len__" : String) = id0
  wp_delta
  rw [show splitId id0 = some ("set", "__len__") from by subst hid; decide +kernel]
  subst hid
  refine wpAny_bind (wpAny_isInstance (T := "set") (b := true) hT (by rw [isSubtype_type]; kernel_rfl) ?_)
  refine wpAny_ite_split (fun hab => absurd hab (by decide)) (fun _ => ?_)
  refine wpAny_ite_split (fun _ => ?_) (fun hab => absurd (by decide +kernel) hab)
  refine wpAny_bind (wpAny_typeOf hT ?_)
  exact wpAny_pure h
theorem setSrc {a : Addr} {S : List Int} {es : Array (Int × Value)} {ep : Nat} : KdlSrc c.prog c.w "set" a a S.length (fun i v => ∃ e, (ordOf c a ep es)[i]? = some e ∧ v = e.2) (fun h => SetAt c h a S es ep) where
  type := fun _ hm => ⟨_, hm.at_, rfl⟩
  there := fun _ hm => ⟨Heap.lt_size hm.at_, Heap.lt_size hm.at_⟩
  keep := fun _ _ hm hk => hm.at' fun o e => hk a (.inl rfl) o e
  notList := by decide
  notTuple := by decide
  hint := fun _ _ _ _ hm hq => hint_set ⟨_, hm.at_, rfl⟩ hq
  iter := fun _ s hh hm => ⟨_, _, (fun _ _ hq => setIter hm hq), setWalks hh _ a (Nat.ne_of_lt (Heap.lt_size hm.at_)) S es ep, ⟨by
    show (s.heap.push _).get? _ = _
    rw [Heap.get?_push_size _ rfl]
    unfold slotAt
    cases txt c <;> rfl, hm.at' fun o e => Heap.get?_push_of_some _ e⟩⟩
theorem ints_perm {l l' : List (Int × Value)} (h : l.Perm l') : ∀ {S : List Int}, IntsAre (l'.map (·.2)) S → ∃ S', S'.Perm S ∧ IntsAre (l.map (·.2)) S' := by
  induction h with
  | nil => intro S h; exact ⟨S, .refl _, h⟩
  | cons x _ ih =>
    intro S h
    generalize e : List.map (·.2) (x :: _) = vs at h
    cases h with
    | nil => simp at e
    | cons n t g =>
      rw [List.map_cons, List.cons.injEq] at e
      obtain ⟨e1, e2⟩ := e
      subst e2
      obtain ⟨S', p, q⟩ := ih g
      exact ⟨n :: S', p.cons n, by rw [List.map_cons, e1]; exact .cons n t q⟩
  | swap x y l =>
    intro S h
    generalize e : List.map (·.2) (x :: y :: l) = vs at h
    cases h with
    | nil => simp at e
    | cons n t g =>
      rw [List.map_cons, List.map_cons, List.cons.injEq] at e
      obtain ⟨e1, e2⟩ := e
      cases g with
      | nil => simp at e2
      | cons n' t' g' =>
        rw [List.cons.injEq] at e2
        obtain ⟨e3, e4⟩ := e2
        subst e4
        exact ⟨n' :: n :: _, List.Perm.swap .., by rw [List.map_cons, List.map_cons, e1, e3]; exact .cons _ _ (.cons _ _ g')⟩
  | trans _ _ ih1 ih2 =>
    intro S h
    obtain ⟨S', p, q⟩ := ih2 h
    obtain ⟨S'', p', q'⟩ := ih1 q
    exact ⟨S'', p'.trans p, q'⟩
theorem sorted_unique : ∀ {l l' : List Int}, l.Pairwise (· < ·) → l'.Pairwise (· ≤ ·) → l'.Perm l → l' = l
  | [], l', _, _, p => List.Perm.eq_nil p
  | x :: r, l', up, up', p => by
    cases l' with
    | nil => exact absurd p.length_eq (by simp)
    | cons y r' =>
      rw [List.pairwise_cons] at up up'
      have hy : y ∈ x :: r := p.mem_iff.mp (.head _)
      have hx : x ∈ y :: r' := p.mem_iff.mpr (.head _)
      have e : y = x := by
        rcases List.mem_cons.mp hy with e | hy
        · exact e
        · have h1 := up.1 y hy
          rcases List.mem_cons.mp hx with e | hx
          · exact e.symm
          · have := up'.1 x hx; lia
      subst e
      rw [sorted_unique up.2 up'.2 (List.Perm.cons_inv p)]
theorem WC_sortedS {S : List Int} (h : Q (.lst (iV S)) σ) : WC c k (.bi "sorted") [.set S] σ Q := .mk fun G A z s vf vs a I rf rs => by
  rw [VR_bi.mp rf]
  obtain ⟨v, r, rfl, r₁, r₂⟩ := VRs_cons.mp rs
  rw [VRs_nil.mp r₂]
  replace r₁ := VR_set.mp r₁
  obtain ⟨p, rfl, ⟨es, ep, ho, hk, hv⟩, up, sm⟩ := r₁
  have X : SetAt c s.heap p S es ep := ⟨I.keep _ _ ho, hk, hv, up, sm⟩
  have hS8 : S.length ≤ 8 := (sub_of_up (l := eight) (by decide) up fun i hi => by
    have := sm i hi
    have : i = 0 ∨ i = 1 ∨ i = 2 ∨ i = 3 ∨ i = 4 ∨ i = 5 ∨ i = 6 ∨ i = 7 := by lia
    unfold eight; simp; lia).length_le
  refine Calls.call_function_entry kind_sorted plain_sorted entry_sorted (args_sorted1 _) ?_
  unfold Builtin.«sorted»
  refine wpAny_bind (m := checkCount "sorted" 1 1 _) (wpAny_pure ?_)
  refine wpAny_bind (kdu_collect (A := A.in1) setSrc a.hand X (by rw [sizeLine_eq]; lia) fun h' tk acc hk' hacc => ?_)
  have hacc' : acc.toList = (ordOf c p ep es).toList.map (·.2) := by
    apply List.ext_getElem?
    intro i
    rw [List.getElem?_map]
    have hsz : (ordOf c p ep es).size = S.length := by rw [← X.size, ← Array.length_toList, ← Array.length_toList, (ord_perm c p ep es).length_eq]
    rcases Nat.lt_or_ge i S.length with hlt | hge
    · have h1 : acc.toList[i]? = some (acc.toList[i]'(by rw [Array.length_toList, hacc.1]; exact hlt)) := List.getElem?_eq_getElem _
      obtain ⟨e, e1, e2⟩ := hacc.2 i _ (by rw [← Array.getElem?_toList]; exact h1)
      rw [h1, Array.getElem?_toList, e1, e2]; rfl
    · rw [List.getElem?_eq_none (by rw [Array.length_toList, hacc.1]; exact hge), List.getElem?_eq_none (by rw [Array.length_toList, hsz]; exact hge)]; rfl
  obtain ⟨S', hp', hv'⟩ := ints_perm (ord_perm c p ep es) hv
  rw [← hacc'] at hv'
  have hl : acc.toList.length = S.length := by rw [Array.length_toList]; exact hacc.1
  refine wpAny_bind (wpAny_newList ?_ (by rw [hl, sizeLine_eq]; lia))
  have hoL : (h'.push { cls := .type "list", data := .seq acc.toList.toArray }).get? h'.objs.size = some (seqObj "list" acc.toList.toArray 0) := Heap.get?_push_size _ rfl
  refine wpAny_bind (wpAny_holding (wpAny_call_entry slot_list_sort (s := { s with heap := h'.push { cls := .type "list", data := .seq acc.toList.toArray }, toks := tk }) ⟨_, hoL, rfl⟩ entry_list_sort (list_sort_tree hoL hv' (show acc.toList.length < 64 by rw [hl]; exact Nat.lt_of_le_of_lt hS8 (by decide)) fun out ns' a1 a2 a3 => ⟨_, rfl, ?_⟩) (args_list_sort _)))
  refine wpAny_pure ⟨_, rfl, ?_⟩
  have e := sorted_unique up a3 (a2.trans hp')
  subst e
  have h'0 : h'.get? h'.objs.size = none := by
    cases q : h'.get? h'.objs.size with
    | none => rfl
    | some o => exact absurd (Heap.lt_size q) (Nat.lt_irrefl _)
  have h0 : s.heap.get? h'.objs.size = none := by
    cases q : s.heap.get? h'.objs.size with
    | none => rfl
    | some o => rw [hk' _ _ q] at h'0; cases h'0
  obtain ⟨e, he⟩ := sortedHeap_at (out := out) hoL
  refine Post.new I (fun b o eb => ?_) h0 he (fun z' sub g => VR_lst.mpr ⟨_, out, rfl, ⟨_, g⟩, of_intsAre a1⟩) h
  have hlt := Heap.lt_size (hk' b o eb)
  rw [sortedHeap_old (Nat.ne_of_lt hlt) (by rw [Heap.size_push]; exact Nat.lt_succ_of_lt hlt)]
  exact Heap.get?_push_of_some _ (hk' b o eb)
end Mine
end
section
namespace Mine
variable {c : Cx} {k : Nat} {sc : Scope} {ρ : Loc} {pos : Pos} {σ : Sto} {Q : V → Sto → Prop}
theorem WC_len_tup {l : List V} (hl : l.length ≤ 16777216) (h : Q (.int l.length) σ) : WC c k (.bi "len") [.tup l] σ Q := .mk fun G A z s vf vs a I rf rs => by
  rw [VR_bi.mp rf]
  obtain ⟨v, r, rfl, r₁, r₂⟩ := VRs_cons.mp rs
  rw [VRs_nil.mp r₂]
  obtain ⟨p, items, rfl, hL, hv⟩ := VR_tup.mp r₁
  have e := VRs_arr hv
  refine PyProof.Rows.len_tuple (isTup_sub I.keep hL) (by rw [e]; lia) ?_
  rw [e]
  exact Post.here I (VR_int.mpr ⟨_, rfl⟩) h _
theorem WC_sortedD {l : List (Int × V)} (hl : l.length < 64) (h : ∀ ns' : List Int, ns'.Perm (l.map (·.1)) → ns'.Pairwise (· ≤ ·) → Q (.lst (iV ns')) σ) : WC c k (.bi "sorted") [.dcI l] σ Q := .mk fun G A z s vf vs a I rf rs => by
  rw [VR_bi.mp rf]
  obtain ⟨v, r, rfl, r₁, r₂⟩ := VRs_cons.mp rs
  rw [VRs_nil.mp r₂]
  obtain ⟨p, kvs, rfl, hm, hd, hv⟩ := VR_dcI.mp r₁
  obtain ⟨ep, hd'⟩ := (dictOf_sub I.keep hd).dictAt
  have hlen := VRi_len l hv
  refine Calls.call_function_entry kind_sorted plain_sorted entry_sorted (args_sorted1 _) ?_
  unfold Builtin.«sorted»
  refine wpAny_bind (m := checkCount "sorted" 1 1 _) (wpAny_pure ?_)
  refine wpAny_bind (kdu_collect (A := A.in1) (kdl_dict (knd := kI c) (kvs := kvs) (ep := ep) hm) a.hand hd' (by rw [hlen, sizeLine_eq]; lia) fun h' tk acc hk' hacc => ?_)
  have hv' := keys_ints hv hacc
  have hal : acc.toList.length = l.length := by rw [Array.length_toList, hacc.1, hlen]
  refine wpAny_bind (wpAny_newList ?_ (by rw [hal, sizeLine_eq]; lia))
  have hoL : (h'.push { cls := .type "list", data := .seq acc.toList.toArray }).get? h'.objs.size = some (seqObj "list" acc.toList.toArray 0) := Heap.get?_push_size _ rfl
  refine wpAny_bind (wpAny_holding (wpAny_call_entry slot_list_sort (s := { s with heap := h'.push { cls := .type "list", data := .seq acc.toList.toArray }, toks := tk }) ⟨_, hoL, rfl⟩ entry_list_sort (list_sort_tree hoL hv' (show acc.toList.length < 64 by rw [hal]; exact hl) fun out ns' a1 a2 a3 => ⟨_, rfl, ?_⟩) (args_list_sort _)))
  refine wpAny_pure ⟨_, rfl, ?_⟩
  have h'0 : h'.get? h'.objs.size = none := by
    cases q : h'.get? h'.objs.size with
    | none => rfl
    | some o => exact absurd (Heap.lt_size q) (Nat.lt_irrefl _)
  have h0 : s.heap.get? h'.objs.size = none := by
    cases q : s.heap.get? h'.objs.size with
    | none => rfl
    | some o => rw [hk' _ _ q] at h'0; cases h'0
  obtain ⟨e, he⟩ := sortedHeap_at (out := out) hoL
  refine Post.new I (fun b o eb => ?_) h0 he (fun z' sub g => VR_lst.mpr ⟨_, out, rfl, ⟨_, g⟩, of_intsAre a1⟩) (h _ a2 a3)
  have hlt := Heap.lt_size (hk' b o eb)
  rw [sortedHeap_old (Nat.ne_of_lt hlt) (by rw [Heap.size_push]; exact Nat.lt_succ_of_lt hlt)]
  exact Heap.get?_push_of_some _ (hk' b o eb)
theorem MetP_extend {a : Addr} {l : List V} (hσ : σ a = some (.app l)) : MetP c (.ref a) "extend" σ (.bi "list.extend") := MetP_bi PySem.F.plainAttrs_list PySem.F.slot_list_extend PySem.F.type_list_extend fun z s v I r => by
  obtain ⟨vs, n, ho, hv⟩ := app_at I hσ
  rw [VR_ref.mp r]
  refine ⟨⟨_, ho, rfl⟩, fun a e => ?_⟩
  cases e
  exact ⟨_, ho, rfl⟩
theorem meets_extend (l : Addr) (items : Array Value) (n : Nat) (b : Addr) (items2 : Array Value) (o2 : Obj) (n2 : Nat) (hs0 : ¬(!items.isEmpty && Builtin.List.listTooLong (items.size + items2.size)) = true) (hs1 : items.size ≤ sizeLine) (hs2 : items.size + items2.size ≤ sizeLine + 1) (h1 : o2.cls = .type "tuple") (h2 : o2.data = .seq items2 n2) :
    Meets (Builtin.«list.extend» ⟨[.ref l, .ref b], []⟩) (fun _ R s => s.heap.get? l = some { cls := .type "list", dict := none, data := .seq items n, slots := #[] } ∧ s.heap.get? b = some o2 ∧ R (.ok (.ret Value.none)) { s with heap := s.heap.update l (Obj.mapSeq fun x => x ++ items2), toks := s.toks }) :=
  .of_wp fun prog w A R s h => by
    obtain ⟨hp, g, d, tk, os⟩ := s; obtain ⟨hl, hb, h⟩ := h; obtain ⟨oc, od, oda, os'⟩ := o2; dsimp only at h1 h2; subst h1 h2; have f1 := AutoSeq1.idx_int; have f2 := AutoSeq1.sub_tuple_tuple; have f3 := AutoSeq1.sub_list_list; have f4 := AutoSeq1.sub_tuple_list; have f5 := AutoSeq1.sub_list_tuple;
    have hz' : (items ++ items2).size ≤ sizeLine + 1 := by rw [Array.size_append]; exact hs2
    wp_walk using (wpAny_updateSeq hl rfl (hz := hs1) (_hz' := hz')), AutoSeq1.wpAny_loadPart' hl, AutoSeq1.wpAny_loadPart' hb; exact ⟨_, rfl, h⟩
theorem WC_extendT {a : Addr} {l l' : List V} (hσ : σ a = some (.app l)) (hl : l.length + l'.length ≤ 1000) (h : Q .none (σ.set a (.app (l ++ l')))) : WC c k (.bi "list.extend") [.ref a, .tup l'] σ Q := .mk fun G A z s vf vs ao I rf rs => by
  rw [VR_bi.mp rf]
  obtain ⟨v, r, rfl, r₁, r₂⟩ := VRs_cons.mp rs
  obtain ⟨v', r', rfl, r₁', r₂'⟩ := VRs_cons.mp r₂
  rw [VRs_nil.mp r₂', VR_ref.mp r₁]
  obtain ⟨vs, n, ho, hv⟩ := app_at I hσ
  obtain ⟨p, items, rfl, ⟨o2, ho2, hc2, n2, hd2⟩, hv2⟩ := VR_tup.mp r₁'
  have e1 := VRs_arr hv
  have e2 := VRs_arr hv2
  have hsz : vs.size + items.size ≤ sizeLine := by rw [e1, e2, sizeLine_eq]; lia
  refine call_meets PySem.F.slot_list_extend ⟨_, ho, rfl⟩ PySem.F.entry_list_extend (PySem.F.args_list_extend_2 _ _) (meets_extend a vs n p items o2 n2 (extend_door hsz) (Nat.le_trans (Nat.le_add_right _ _) hsz) (by lia) hc2 hd2) ⟨ho, I.keep _ _ ho2, ?_⟩
  have ho' : (s.heap.update a (Obj.mapSeq fun x => x ++ items)).get? a = some { cls := .type "list", data := .seq (vs ++ items) (if (vs ++ items).size == vs.size then n else n + 1) } := by
    rw [Heap.get?_update_self _ ho rfl]; rfl
  exact ⟨z, _, _, upd_mut I hσ (Heap.SameBut.update ..) ho' (y := .app (l ++ l')) (t := s.toks) ⟨_, _, rfl, by rw [Array.toList_append]; exact VRs_app hv2 l _ hv⟩, VR_none.mpr rfl, h⟩
end Mine
end
section
namespace Mine
variable {c : Cx} {k : Nat} {sc : Scope} {ρ : Loc} {pos : Pos} {σ : Sto} {Q : V → Sto → Prop} {QS : Fl → Loc → Sto → Prop}
theorem Ext.touchW {P W : Addr → Prop} {z z₁ : Heap} {σ₁ : Sto} {s s₁ : Shared} {h' : Heap} {t : Nat} (x : Ext c P z σ s z₁ σ₁ s₁) (hW : ∀ b, W b → s.heap.get? b = Option.none ∧ z₁.get? b = Option.none ∧ σ₁ b = Option.none)
    (hk : ∀ b o, ¬ W b → s₁.heap.get? b = some o → h'.get? b = some o) : Ext c P z σ s z₁ σ₁ { s₁ with heap := h', toks := t } :=
  ⟨⟨x.inv.base, fun b o e => hk b o (fun w => by rw [(hW b w).2.1] at e; cases e) (x.inv.keep b o e), fun a o e => by
      obtain ⟨h1, h2, ob, h3, h4⟩ := x.inv.mt a o e
      exact ⟨h1, h2, ob, hk a ob (fun w => by rw [(hW a w).2.2] at e; cases e) h3, h4⟩⟩, x.zz, fun b o e n p => hk b o (fun w => by rw [(hW b w).1] at e; cases e) (x.out b o e n p), x.own, fun b e => (by
      by_cases hb : W b
      · exact (hW b hb).1
      · refine x.live b ?_
        cases q : s₁.heap.get? b with
        | none => rfl
        | some o => rw [show h'.get? b = some o from hk b o hb q] at e; cases e), x.gens, x.drawn, x.os⟩
theorem Frm.touchW {W : Addr → Prop} {z : Heap} {env : Env} {h h' : Heap} (F : Frm c z σ env ρ h) (hI : ∀ b, W b → ¬ Fw env b) (hk : ∀ b o, ¬ W b → h.get? b = some o → h'.get? b = some o) : Frm c z σ env ρ h' := by
  obtain ⟨m, hn, hm⟩ := F.ns
  have c1 : ∀ x a, env.cells.lookup x = some a → ¬ W a := fun x a e q => hI a q (.inr ⟨x, e⟩)
  exact ⟨⟨m, hn.at' (fun o e => hk _ o (fun q => hI _ q (.inl rfl)) e), hm⟩, fun x V e k => by
    obtain ⟨a, v, h1, ⟨o, ho, r⟩, h3⟩ := F.cl x V e k
    exact ⟨a, v, h1, ⟨o, hk _ _ (c1 x a h1) ho, r⟩, h3⟩, F.own, fun x a e => by
    obtain ⟨h1, h2, h3, v, o, ho, r⟩ := F.cells x a e
    exact ⟨h1, h2, h3, v, o, hk _ _ (c1 x a e) ho, r⟩, F.apart, F.has⟩
theorem callArgsR {f : V} {e : Expr} {rest : List Expr} {z : Heap} {s : Shared} {A : Around} {env : Env} {vf : Value} {R : Value → Shared → Prop} (G : c.Good)
    (hk : KeepV c f = true) (r : VR c z f vf)
    (main : wpAny (model c.prog c.w) A (spliced (backTo pos (starEach (e :: rest) env))) (fun vs s₁ => c.K.In s₁.heap ∧ wpAny (model c.prog c.w) A (call vf vs) R noE s₁) noE s)
    (he : starEach (e :: rest) env = (false, eval e env) :: starEach rest env) (hp : (backTo pos (starEach rest env)).any (·.1) = false) :
    wpAny (model c.prog c.w) A (callWith pos vf [] (backTo pos (starEach (e :: rest) env)) []) R noE s := by
  rw [he] at main ⊢
  refine callWith_of (P := c.K.In) (by show ((false || (backTo pos (starEach rest env)).any (·.1)) || false) = false; rw [hp]; rfl) (fun h X => keepV_sound hk r h X) ?_
  exact evalArgs_plain main
theorem Frm.grow {z z' : Heap} {env : Env} {h : Heap} {T : Addr} (F : Frm c z σ env ρ h) (sub : Sub z z') (hn : ∀ b, z'.get? b ≠ Option.none → z.get? b ≠ Option.none ∨ b = T) (hT : ¬ Fw env T) : Frm c z' σ env ρ h := by
  have key : ∀ b, z.get? b = none → Fw env b → z'.get? b = none := fun b h1 h2 => by
    cases q : z'.get? b with
    | none => rfl
    | some o =>
      rcases hn b (by rw [q]; exact fun h => nomatch h) with g | g
      · exact absurd h1 g
      · subst g; exact absurd h2 hT
  obtain ⟨m, h1, h2⟩ := F.ns
  refine ⟨⟨m, h1, fun x V e kk => ?_⟩, fun x V e kk => ?_, ⟨key _ F.own.1 (.inl rfl), F.own.2⟩, fun x a e => ?_, F.apart, F.has⟩
  · obtain ⟨v, g1, g2⟩ := h2 x V e kk
    exact ⟨v, g1, g2.sub sub⟩
  · obtain ⟨a, v, g1, g2, g3⟩ := F.cl x V e kk
    exact ⟨a, v, g1, g2, g3.sub sub⟩
  · obtain ⟨g1, g2, g3, g4⟩ := F.cells x a e
    exact ⟨key _ g1 (.inr ⟨x, e⟩), g2, g3, g4⟩
noncomputable def enumV : Nat → List V → List V
  | _, [] => []
  | i, x :: r => .tup [.int i, x] :: enumV (i + 1) r
theorem enumV_at : ∀ (l : List V) (j i : Nat) (x : V), l[i]? = some x → (enumV j l)[i]? = some (.tup [.int ((j + i : Nat) : Int), x])
  | [], _, _, _, h => by simp at h
  | y :: r, j, 0, x, h => by simp at h; subst h; rfl
  | y :: r, j, i + 1, x, h => by
    simp only [List.getElem?_cons_succ] at h
    show (enumV (j + 1) r)[i]? = _
    rw [enumV_at r (j + 1) i x h, show j + 1 + i = j + (i + 1) by lia]
theorem enumV_len : ∀ (l : List V) (j : Nat), (enumV j l).length = l.length
  | [], _ => rfl
  | _ :: r, j => by show (enumV (j + 1) r).length + 1 = _; rw [enumV_len r]; rfl
noncomputable def EnuSt (h : Heap) (en it p : Addr) (i : Nat) (items : Array Value) : Prop := (∃ old, IsEnum h en it i old) ∧ h.IsListIter it p i ∧ h.IsList p items
inductive EnuI (c : Cx) (k : Nat) (sc : Scope) (target : Expr) (body : List Stmt) (QS : Fl → Loc → Sto → Prop) (l : List V) (env : Env) (z : Heap) (σ : Sto) (s : Shared) (z₂ : Heap) (p en it : Addr) (items : Array Value) (N : Nat) (s' : Shared) : Prop
  | mk (i : Nat) (z' : Heap) (σ' : Sto) (ρ' : Loc) : N = l.length - i → i ≤ l.length → Ext c (Fw env) z σ s z' σ' s' → Sub z₂ z' → Frm c z' σ' env ρ' s'.heap → (∀ b, b ∈ [en, it] → z'.get? b = none ∧ σ' b = none) →
      EnuSt s'.heap en it p i items → ForL c k sc target body [] QS ((enumV 0 l).drop i) ρ' σ' → EnuI c k sc target body QS l env z σ s z₂ p en it items N s'
theorem two_of {P : Addr → Prop} {x y : Addr} (hx : P x) (hy : P y) : ∀ b, b ∈ [x, y] → P b := fun b h =>
  (List.mem_cons.mp h).elim (fun e => e ▸ hx) fun h => (List.mem_cons.mp h).elim (fun e => e ▸ hy) fun h => absurd h List.not_mem_nil
theorem EnuSt.seen {h : Heap} {en it p i : Nat} {items : Array Value} (st : EnuSt h en it p i items) : ∀ b, b ∈ [en, it] → h.get? b ≠ none :=
  two_of (st.1.elim fun old g h => by rw [show _ = some _ from g] at h; cases h) (st.2.1.elim fun o g h => by rw [g.1] at h; cases h)
theorem EnuSt.keep {env : Env} {z₂ z₃ z₄ : Heap} {σ₃ σ₄ : Sto} {s₃ s₄ : Shared} {p en it i : Nat} {items : Array Value} (hL : z₂.PlainList p items) (nW : ∀ b, b ∈ [en, it] → ¬ Fw env b) (J : Inv c z₃ σ₃ s₃) (sub : Sub z₂ z₃)
    (hσ : ∀ b, b ∈ [en, it] → σ₃ b = none) (y : Ext c (Fw env) z₃ σ₃ s₃ z₄ σ₄ s₄) (hne : en ≠ it) (hp : p ≠ en ∧ p ≠ it) (st : EnuSt s₃.heap en it p i items) : EnuSt s₄.heap en it p i items :=
  (WalksT.enumerate (prog := c.prog) (w := c.w) (A := callerA) rfl en it p hne hp.1 hp.2 items).frame i _ _ st fun b hb o e =>
    (List.mem_cons.mp hb).elim (fun q => y.out _ o e (hσ _ (by rw [q]; exact .head _)) (nW _ (by rw [q]; exact .head _))) fun hb =>
      (List.mem_cons.mp hb).elim (fun q => y.out _ o e (hσ _ (by rw [q]; exact .tail _ (.head _))) (nW _ (by rw [q]; exact .tail _ (.head _)))) fun hb =>
        (List.mem_cons.mp hb).elim (fun q => hL.elim fun nn ho => by
          subst q
          have e1 := sub _ _ ho
          have e2 := J.keep _ _ e1
          rw [e] at e2; cases e2
          exact y.inv.keep _ _ (y.zz _ _ e1)) fun h => absurd h List.not_mem_nil
theorem none_of {h : Heap} {b : Addr} (hb : h.objs.size ≤ b) : h.get? b = none := by
  cases q : h.get? b with
  | none => rfl
  | some o => exact absurd (Heap.lt_size q) (Nat.not_lt.mpr hb)
theorem Inv.none {z : Heap} {s : Shared} {b : Addr} (I : Inv c z σ s) (h : s.heap.get? b = Option.none) : z.get? b = Option.none ∧ σ b = Option.none := by
  constructor
  · cases q : z.get? b with
    | none => rfl
    | some o => rw [I.keep _ _ q] at h; cases h
  · cases q : σ b with
    | none => rfl
    | some o => obtain ⟨_, _, ob, g, _⟩ := I.mt b o q; rw [h] at g; cases g
theorem turnE {A : Around} {K D : Flow → Shared → Prop} {E : Value → Shared → Prop} {Qn : Option Value → Shared → Prop} {ts : List Expr} {n : Nat} {pt : Pos} {body : List Stmt} {l : List V} {env : Env} {z z₂ : Heap} {s s' : Shared} {p en it m : Nat} {items : Array Value}
    (G : c.Good) (a : AOk k A) (b : EnvOk sc env) (hL : z₂.PlainList p items) (hv : VRs c z₂ l items.toList) (hne : en ≠ it) (hp : p ≠ en ∧ p ≠ it) (nW : ∀ b, b ∈ [en, it] → ¬ Fw env b) (hW : ∀ b, b ∈ [en, it] → s.heap.get? b = none)
    (hn : ∀ s₁, wpAny (model c.prog c.w) A (execs [] env) D E s₁ → Qn none s₁)
    (hs : ∀ v s₁, wpAny (model c.prog c.w) A (letOwnedTupleGo (.Tuple ts n pt) (.ref en) v) (fun _ s₁' => wpAny (model c.prog c.w) A (assign (.Tuple ts n pt) env v) (fun _ s₂ => wpAny (model c.prog c.w) A (execs body env) K E s₂) E s₁') E s₁ → Qn (some v) s₁)
    (k1 : ∀ s₃ m', m' < m → EnuI c k sc (.Tuple ts n pt) body QS l env z σ s z₂ p en it items m' s₃ → K .next s₃ ∧ K .cont s₃)
    (k2 : ∀ s₃, PostS c env z σ s QS .next s₃ → K .brk s₃) (k3 : ∀ v s₃, PostS c env z σ s QS (.ret v) s₃ → K (.ret v) s₃) (kd : ∀ f s₃, PostS c env z σ s QS f s₃ → D f s₃)
    (hI : EnuI c k sc (.Tuple ts n pt) body QS l env z σ s z₂ p en it items m s') : wpAny (model c.prog c.w) A (pyNext (.ref en)) Qn E s' := by
  obtain ⟨i, z₃, σ₃, ρ₃, rfl, hi, e₃, sub₃, F₃, hz₃, st₃, q₃⟩ := hI
  have hlen : items.size = l.length := VRs_arr hv
  have Wk := WalksT.enumerate (prog := c.prog) (w := c.w) a.mark.hand en it p hne hp.1 hp.2 items
  by_cases hlt : i < l.length
  · refine Wk.item i s' _ _ (by lia) st₃ fun T vals h₁ tk hP hT hTup hMid hk₁ => hs _ _ (Wk.go ts _ pt i T _ _ _ hMid fun h₂ st₄ hk₂ => ?_)
    obtain ⟨tt, x, hx, rfl⟩ := hP
    have hTW := Wk.apart i T _ hMid
    have hkk : ∀ b o, ¬ b ∈ [en, it] → s'.heap.get? b = some o → h₂.get? b = some o := fun b o hb e => hk₂ b o hb (hk₁ b o hb e)
    have hT0 : s'.heap.get? T = none := none_of hT
    have e₄ : Ext c (Fw env) z σ s z₃ σ₃ { s' with heap := h₂, toks := tk } := e₃.touchW (W := fun b => b ∈ [en, it]) (fun b hb => ⟨hW b hb, hz₃ b hb⟩) hkk
    obtain ⟨ob, hob, hoc, nn, hod⟩ := hTup
    obtain ⟨z₄, e₅, hTz₄, sub₄, hon⟩ := e₄.adopt (e₃.live _ hT0) (hk₂ T ob hTW hob) (e₃.inv.none hT0).1 (e₃.inv.none hT0).2
    have F₅ := (F₃.touchW (W := fun b => b ∈ [en, it]) nW hkk).grow sub₄ hon (F₃.notFw hT0)
    obtain ⟨y, hy, ry⟩ := VRs_at l hv (i := i) (v := x) (by rw [Array.getElem?_toList]; exact hx)
    have hz₄ : ∀ b, b ∈ [en, it] → z₄.get? b = none ∧ σ₃ b = none := fun b hb => ⟨by
      cases q : z₄.get? b with
      | none => rfl
      | some o =>
        rcases hon b (by rw [q]; exact fun h => nomatch h) with g | g
        · exact absurd (hz₃ b hb).1 g
        · subst g; exact absurd hb hTW, (hz₃ b hb).2⟩
    have rT : VR c z₄ (.tup [.int ((0 + i : Nat) : Int), y]) (.ref T) := VR_tup.mpr ⟨T, _, rfl, ⟨ob, hTz₄, hoc, nn, hod⟩, VRs_cons.mpr ⟨_, _, rfl, VR_int.mpr ⟨tt, by rw [Nat.zero_add]⟩, VRs_cons.mpr ⟨_, _, rfl, (ry.sub sub₃).sub sub₄, VRs_nil.mpr rfl⟩⟩⟩
    rw [drop_at (enumV_at l 0 i y hy)] at q₃
    have sub₅ := sub₃.trans sub₄
    refine wpAny_mono (WA.run q₃ G _ z₄ _ env _ a.mark b e₅.inv F₅ rT) (fun _ s₅ q8_ => q8_.elim fun z₅ σ₅ ρ₅ e₆ F₆ q₅ => ?_) fun _ _ y => y.elim
    have u₅ : ∀ b, b ∈ [en, it] → z₅.get? b = none ∧ σ₅ b = none := fun b hb => e₆.unown (EnuSt.seen st₄ b hb) (hz₄ b hb).1 (hz₄ b hb).2
    have st₅ := EnuSt.keep hL nW e₅.inv sub₅ (fun b hb => (hz₄ b hb).2) e₆ hne hp st₄
    refine wpAny_mono (q₅.run G _ z₅ s₅ env a.mark b e₆.inv F₆) (fun f s₆ q9_ => q9_.elim fun z₆ σ₆ ρ₆ fl e₇ F₇ r₇ q₇ => ?_) fun _ _ y => y.elim
    have u₆ : ∀ b, b ∈ [en, it] → z₆.get? b = none ∧ σ₆ b = none := fun b hb => e₇.unown (EnuSt.seen st₅ b hb) (u₅ b hb).1 (u₅ b hb).2
    have st₆ := EnuSt.keep hL nW e₆.inv (sub₅.trans e₆.zz) (fun b hb => (u₅ b hb).2) e₇ hne hp st₅
    have ee := (e₅.trans e₆).trans e₇
    have nx : ForL c k sc (.Tuple ts n pt) body [] QS ((enumV 0 l).drop (i + 1)) ρ₆ σ₆ → _ := fun q₇ => k1 s₆ (l.length - (i + 1)) (by lia) ⟨i + 1, z₆, σ₆, ρ₆, rfl, hlt, ee, (sub₅.trans e₆.zz).trans e₇.zz, F₇, u₆, st₆, q₇⟩
    cases fl with
    | next => cases r₇; exact (nx q₇).1
    | cont => cases r₇; exact (nx q₇).2
    | brk => cases r₇; exact k2 _ ⟨z₆, σ₆, ρ₆, .next, ee, F₇, rfl, q₇⟩
    | ret x => obtain ⟨v, rfl, hv⟩ := r₇; exact k3 _ _ ⟨z₆, σ₆, ρ₆, .ret x, ee, F₇, ⟨v, rfl, hv⟩, q₇⟩
  · have hin : i = l.length := by lia
    subst hin
    refine Wk.done s' _ _ (by rw [hlen]; exact st₃) fun h₂ tk hk₂ => hn _ ?_
    have e₄ : Ext c (Fw env) z σ s z₃ σ₃ { s' with heap := h₂, toks := tk } := e₃.touchW (W := fun b => b ∈ [en, it]) (fun b hb => ⟨hW b hb, hz₃ b hb⟩) hk₂
    rw [List.drop_eq_nil_of_le (by rw [enumV_len]; exact Nat.le_refl _)] at q₃
    exact wpAny_mono (WB.run q₃ G _ z₃ _ env a.mark b e₄.inv (F₃.touchW (W := fun b => b ∈ [en, it]) nW hk₂)) (fun f s₅ h => kd _ _ (PostS.ext e₄ h)) fun _ _ y => y.elim
theorem WS_forE {ts : List Expr} {n : Nat} {pt np cp : Pos} {e : Expr} {body : List Stmt} (hk : sc.names.lookup ("enumerate" : Str) = some .globalImplicit) (e0 : nsIn c.K mainGlobals "enumerate" = some none)
    (h : WE c k sc ρ e σ fun x σ₁ => ∃ l, x = .lst l ∧ ForL c k sc (.Tuple ts n pt) body [] QS (enumV 0 l) ρ σ₁)
    (he : ∀ env, starEach [e] env = [(false, eval e env)] := by exact fun _ => rfl)
    (hs : ∀ env x, foldedSetIterable (.Call (.Name "enumerate" np) [e] [] cp) env x = pure x := by exact fun _ _ => rfl) : WS c k sc ρ (.For (.Tuple ts n pt) (.Call (.Name "enumerate" np) [e] [] cp) body [] pos) σ QS := .mk fun G A z s env a b I F => by
  have hN : WE c k sc ρ (.Name "enumerate" np) σ fun f σ₁ => f = .ty "enumerate" ∧ σ₁ = σ := WE_builtin hk e0 (v := .type "enumerate") (y := .ty "enumerate") rfl (fun z => VR_ty.mpr rfl) ⟨rfl, rfl⟩
  have hA := fun σ₁ (hσ : σ₁ = σ) => (WEs_cons (h.mono fun x σ₂ q3_ => q3_.elim fun l q4_ => q4_.elim fun hx q => WEs_nil ⟨l, by rw [hx], q⟩) (fun env => he env) : WEs c k sc ρ [e] σ fun xs σ₂ => ∃ l, xs = [.lst l] ∧ ForL c k sc (.Tuple ts n pt) body [] QS (enumV 0 l) ρ σ₂)
  refine wpAny_For (Q := PostS c env z σ s QS) (wpAny_Call_NameR (wpAny_mono (hN.run G A z s env a b I F) (fun v₁ s₁ q1_ => q1_.elim fun z₁ σ₁ f e₁ r₁ q2_ => q2_.elim fun hf hσ₁ => ?_) fun _ _ y => y.elim)) (hs env)
  subst hf hσ₁
  refine callArgsR G (f := .ty "enumerate") (z := z₁) rfl r₁ (wpAny_mono ((hA _ rfl).run G A z₁ s₁ env _ a b e₁.inv (F.ext e₁)) (fun vs s₂ q5_ => q5_.elim fun z₂ σ₂ xs e₂ r₂ q6_ => q6_.elim fun l q7_ => q7_.elim fun hxs q₂ => ⟨e₂.kin G, ?_⟩) fun _ _ y => y) (he env) rfl
  subst hxs
  obtain ⟨v, vr, rfl, rv, rn⟩ := VRs_cons.mp r₂
  rw [VRs_nil.mp rn, VR_ty.mp r₁]
  obtain ⟨p, items, rfl, hL, hv⟩ := VR_lst.mp rv
  have hW : ∀ b, b ∈ [s₂.heap.objs.size + 1, s₂.heap.objs.size] → s₂.heap.get? b = none := two_of (none_of (Nat.le_succ _)) (none_of (Nat.le_refl _))
  have F₂ := (F.ext e₁).ext e₂
  have hp : ∀ b, b ∈ [s₂.heap.objs.size + 1, s₂.heap.objs.size] → p ≠ b := fun b hb q => hL.elim fun nn ho => by
    rw [q, (e₂.inv.none (hW b hb)).1] at ho; cases ho
  refine call_enumerate_list (isList_sub e₂.inv.keep hL) fun h' hen hit hsz hk' => wpAny_pyIter_enum hen (codeAny_forLoop_any (EnuI c k sc (.Tuple ts n pt) body QS l env z σ₁ s z₂ p (s₂.heap.objs.size + 1) s₂.heap.objs.size items)
    (fun m s' hI => turnE G a b hL hv (Nat.succ_ne_self _) ⟨hp _ (.head _), hp _ (.tail _ (.head _))⟩ (fun b hb => F₂.notFw (hW b hb)) (fun b hb => (e₁.trans e₂).none (P' := Fw env) |>.live b (hW b hb))
      (fun _ h => h) (fun _ _ h => h) (fun s₃ m' h1 h2 => ⟨⟨m', h1, h2⟩, ⟨m', h1, h2⟩⟩) (fun _ h => h) (fun _ _ h => h) (fun _ _ h => h) hI) (l.length - 0)
    ⟨0, z₂, σ₂, ρ, rfl, Nat.zero_le _, ((e₁.trans e₂).none (P' := Fw env)).touchW (W := fun _ => False) (t := s₂.toks) (fun _ h => h.elim) (fun b o _ e => hk' b o e), .refl _, F₂.touchW (W := fun _ => False) (fun _ h => h.elim) (fun b o _ e => hk' b o e),
      fun b hb => e₂.inv.none (hW b hb), ⟨⟨_, hen⟩, hit, isList_sub (fun b o e => hk' b o (e₂.inv.keep b o e)) hL⟩, q₂⟩)
end Mine
end
section
namespace Mine
variable {c : Cx} {k : Nat} {sc : Scope} {ρ : Loc} {pos : Pos} {σ : Sto} {Q : V → Sto → Prop}
theorem WE_sliceB {value upper : Expr} {p : Pos} {a : Addr} {o : Obj} {vs : Array Value} {n m : Nat} {ns : List Int} (hB : c.B.get? a = some o) (hc : o.cls = .type "list") (hd : o.data = .seq vs n) (hi : IntsAre vs.toList ns) (hl : ns.length ≤ 1000)
    (h : WE c k sc ρ value σ fun ov σ₁ => ov = .ref a ∧ WE c k sc ρ upper σ₁ fun x σ₂ => x = .int (m : Nat) ∧ Q (.lst (iV (ns.take m))) σ₂) :
    WE c k sc ρ (.Subscript value (.Slice none (some upper) none p) pos) σ Q := .mk fun G A z s env a' b I F => by
  refine Subscript_ (wpAny_mono (h.run G A z s env a' b I F) (fun v₁ s₁ q1_ => q1_.elim fun z₁ σ₁ x₁ e₁ r₁ q2_ => q2_.elim fun hx q₁ => wpAny_Slice ?_) fun _ _ y => y)
  subst hx
  rw [evalPart_none]
  refine wpAny_pure ?_
  have q₂ : WP c k sc ρ (some upper) σ₁ fun hi σ₂ => hi = some m ∧ Q (.lst (iV (ns.take m))) σ₂ := q₁.mono fun x σ₂ q3_ => q3_.elim fun hx q => ⟨m, hx, rfl, q⟩
  refine wpAny_mono (WP_run q₂ G a' b e₁.inv (F.ext e₁)) (fun v₃ s₃ q4_ => q4_.elim fun z₃ q5_ => q5_.elim fun σ₃ q6_ => q6_.elim fun hi' q7_ => q7_.elim fun e₃ q8_ => q8_.elim fun p₃ q9_ => q9_.elim fun hhi q₃ => ?_) fun _ _ y => y
  subst hhi
  refine wpAny_pure ?_
  rw [VR_ref.mp r₁]
  have hl' : s₃.heap.IsList a vs := ⟨o, e₃.inv.keep _ _ (e₃.inv.base _ _ hB), hc, n, hd⟩
  have hv : ∀ z, VRs c z (iV ns) vs.toList := fun z => of_intsAre hi
  have hsz : vs.size = ns.length := by rw [← Array.length_toList, VRs_len _ (hv z₃)]; unfold iV; rw [List.length_map]
  obtain ⟨z₄, e₄, g₄⟩ := push_frozen (P := fun _ => False) e₃.inv { cls := .type "slice", data := .fields #[.none, v₃, .none] }
  refine subTail (T := "list") (hl'.push _).typeIs list_getitem_lookup (wpAny_getItem_list_slice (hl'.push _) (Heap.IsSliceOf.new ..) .none p₃ .none (by simp) ?_ (by rw [hsz, sizeLine_eq]; lia)) ⟨_, rfl⟩
  obtain ⟨z₅, e₅, g₅⟩ := push_frozen (P := fun _ => False) e₄.inv { cls := .type "list", data := .seq (slicePick vs none (some ((m : Nat) : Int)) none) }
  have et : iV (ns.take m) = (iV ns).take m := by unfold iV; rw [List.map_take]
  refine ⟨z₅, σ₃, .lst (iV (ns.take m)), ((e₁.trans e₃).trans e₄).trans e₅, VR_lst.mpr ⟨_, _, rfl, ⟨_, g₅⟩, ?_⟩, q₃⟩
  rw [et]
  exact slV_ok (lo := none) (hi := some m) (hv z₅) rfl
noncomputable def SubL (ρ' ρ : Loc) : Prop := ∀ x V, ρ'.lookup x = some V → ρ.lookup x = some V
theorem Frm.weak {ρ' : Loc} {z : Heap} {env : Env} {h : Heap} (F : Frm c z σ env ρ h) (hs : SubL ρ' ρ) : Frm c z σ env ρ' h :=
  ⟨F.ns.elim fun m q => ⟨m, q.1, fun x V e kk => q.2 x V (hs x V e) kk⟩, fun x V e kk => F.cl x V (hs x V e) kk, F.own, F.cells, F.apart, F.has⟩
theorem WB.weak {ρ' : Loc} {sts : List Stmt} {QS : Fl → Loc → Sto → Prop} (h : WB c k sc ρ' sts σ QS) (hs : SubL ρ' ρ) : WB c k sc ρ sts σ QS := .mk fun G A z s env a b I F => h.run G A z s env a b I (F.weak hs)
theorem WT.weak {ρ' : Loc} {e : Expr} {Q : Bool → Sto → Prop} (h : WT c k sc ρ' e σ Q) (hs : SubL ρ' ρ) : WT c k sc ρ e σ Q := .mk fun G A z s env a b I F => h.run G A z s env a b I (F.weak hs)
theorem WA.weak {ρ' : Loc} {e : Expr} {x : V} {Q : Loc → Sto → Prop} (h : WA c k sc ρ' e x σ Q) (hs : SubL ρ' ρ) : WA c k sc ρ e x σ Q := .mk fun G A z s env v a b I F r => h.run G A z s env v a b I (F.weak hs) r
theorem WS_whileW {QS : Fl → Loc → Sto → Prop} {test : Expr} {body orelse : List Stmt} (J : Nat → Loc → Sto → Prop) (n : Nat) (h0 : J n ρ σ)
    (hst : ∀ n ρ σ, J n ρ σ → WT c k sc ρ test σ fun b σ₁ => (b = true → WB c k sc ρ body σ₁ fun fl ρ₂ σ₂ => match fl with
        | .next => ∃ m ρ', m < n ∧ SubL ρ' ρ₂ ∧ J m ρ' σ₂ | .cont => ∃ m ρ', m < n ∧ SubL ρ' ρ₂ ∧ J m ρ' σ₂ | .brk => QS .next ρ₂ σ₂ | .ret x => QS (.ret x) ρ₂ σ₂) ∧ (b = false → WB c k sc ρ orelse σ₁ QS)) :
    WS c k sc ρ (.While test body orelse pos) σ QS :=
  WS_while (fun n ρ σ => ∃ ρ', SubL ρ' ρ ∧ J n ρ' σ) n ⟨ρ, fun _ _ h => h, h0⟩ fun n ρ σ h => h.elim fun ρ' h => ((hst n ρ' σ h.2).weak h.1).mono fun b d q =>
    ⟨fun e => ((q.1 e).weak h.1).mono fun fl ρ₂ σ₂ q => by
      cases fl with
      | next => exact q.elim fun m q => q.elim fun ρ' q => ⟨m, q.1, ρ', q.2⟩
      | cont => exact q.elim fun m q => q.elim fun ρ' q => ⟨m, q.1, ρ', q.2⟩
      | brk => exact q
      | ret x => exact q, fun e => (q.2 e).weak h.1⟩
theorem ForL.invW {QS : Fl → Loc → Sto → Prop} {target : Expr} {body orelse : List Stmt} (J : List V → Loc → Sto → Prop) (hn : ∀ ρ σ, J [] ρ σ → WB c k sc ρ orelse σ QS)
    (hc : ∀ x r ρ σ, J (x :: r) ρ σ → WA c k sc ρ target x σ fun ρ₁ σ₁ => WB c k sc ρ₁ body σ₁ fun fl ρ₂ σ₂ => match fl with
      | .next => ∃ ρ', SubL ρ' ρ₂ ∧ J r ρ' σ₂ | .cont => ∃ ρ', SubL ρ' ρ₂ ∧ J r ρ' σ₂ | .brk => QS .next ρ₂ σ₂ | .ret x => QS (.ret x) ρ₂ σ₂)
    (items : List V) (ρ : Loc) (σ : Sto) (h : J items ρ σ) : ForL c k sc target body orelse QS items ρ σ :=
  ForL.inv (fun items ρ σ => ∃ ρ', SubL ρ' ρ ∧ J items ρ' σ) (fun ρ σ h => h.elim fun ρ' h => (hn ρ' σ h.2).weak h.1) (fun x r ρ σ h => h.elim fun ρ' h => (hc x r ρ' σ h.2).weak h.1) items ρ σ ⟨ρ, fun _ _ h => h, h⟩
theorem lookup_app {l more : Loc} {x : Str} {V : V} (h : l.lookup x = some V) : (l ++ more).lookup x = some V := by
  induction l with
  | nil => cases h
  | cons p r ih =>
    obtain ⟨n, y⟩ := p
    rw [List.cons_append]
    by_cases e : x == n
    · simp only [List.lookup, e] at h ⊢; exact h
    · simp only [List.lookup, e] at h ⊢; exact ih h
theorem SubL.app {l : Loc} (more : Loc) : SubL l (l ++ more) := fun _ _ h => lookup_app h
theorem SubL.of {l ρ : Loc} (more : Loc) (e : ρ = l ++ more) : SubL l ρ := e ▸ SubL.app more
theorem swaps_cell {sc : Scope} {env : Env} {elt : Expr} {gens : List Comprehension} {scope : Scope} {p py : Pos} {y : Str} {n : Nat} (b : EnvOk sc env) (hy : sc.names.lookup y = some .cell) : swapsWith (.ListComp elt gens scope p) (some (.Name y py)) n env = pure false := by
  show (pure (env.blockKind == .function && env.kindOf y == some .local && py.line == (Expr.ListComp elt gens scope p).pos.line && !(scope.names.any fun (n, k) => n == y && (k == .local || k == .cell))) : Sem Bool) = _
  have e2 : (env.kindOf y == some .local) = false := by unfold Env.kindOf; rw [b.scope, hy]; rfl
  rw [e2, Bool.and_false, Bool.false_and, Bool.false_and]
theorem swapped_attr {o1 o2 : Expr} {n1 n2 : Str} {p1 p2 p q : Pos} {n m : Nat} {v1 v2 : Expr} (env : Env) : swappedStores [.Tuple [.Attribute o1 n1 p1, .Attribute o2 n2 p2] n p] (.Tuple [v1, v2] m q) env = pure none := by
  unfold swappedStores
  dsimp only [List.filterMap_cons, List.filterMap_nil, List.length_cons, List.length_nil]
  repeat (first | rfl | split)
theorem bind_local {x : V} {n : Str} {A : Around} {z : Heap} {s : Shared} {env : Env} {v : Value} (hk : sc.names.lookup n = some .local) (b : EnvOk sc env) (I : Inv c z σ s) (F : Frm c z σ env ρ s.heap) (r : VR c z x v) :
    wpAny (model c.prog c.w) A (bindName env n v) (fun _ s' => Ext c (fun b => b = env.locals) z σ s z σ s' ∧ Frm c z σ env (putF n x ρ) s'.heap) noE s := by
  have hk' : env.kindOf n = some .local := by unfold Env.kindOf; rw [b.scope]; exact hk
  obtain ⟨m, nm, _⟩ := F.ns
  refine wpAny_bindName (wpAny_storeName_local hk' nm (fun h' hn hs => ?_) (by rw [b.scope, b.kind]; rfl))
  exact Frm.setLocal I F hk' hs r (t := s.toks + 1) (fun m' nm' => by
    have : m' = m := by
      obtain ⟨o, es, ep, ho, hd, hk, hm⟩ := nm
      obtain ⟨o', es', ep', ho', hd', hk', hm'⟩ := nm'
      rw [ho] at ho'; cases ho'
      rw [hd] at hd'; cases hd'
      funext y; rw [← hm, ← hm']
    subst this; exact hn)
theorem WS_swap2 {QS : Fl → Loc → Sto → Prop} {n1 n2 : Str} {p1 p2 p q : Pos} {kk m : Nat} {e1 e2 : Expr} (k1 : sc.names.lookup n1 = some .local) (k2 : sc.names.lookup n2 = some .local)
    (hsw : ∀ env, EnvOk sc env → swappedStores [.Tuple [.Name n1 p1, .Name n2 p2] kk p] (.Tuple [e1, e2] m q) env = pure (some [n1, n2]))
    (h : WE c k sc ρ (.Tuple [e1, e2] m q) σ fun v σ₁ => ∃ x1 x2, v = .tup [x1, x2] ∧ QS .next (putF n1 x1 (putF n2 x2 ρ)) σ₁) : WS c k sc ρ (.Assign [.Tuple [.Name n1 p1, .Name n2 p2] kk p] (.Tuple [e1, e2] m q) pos) σ QS := .mk fun G A z s env a b I F => by
  refine Assign_Tuple_swapped (names := [n1, n2]) (wpAny_mono (h.run G A z s env a b I F) (fun v s₁ q10_ => q10_.elim fun z₁ σ₁ x e₁ r₁ q11_ => q11_.elim fun x1 q12_ => q12_.elim fun x2 q13_ => q13_.elim fun hx q₁ => ?_) fun _ _ y => y) rfl (hsw env b)
  subst hx
  obtain ⟨t, vs, rfl, ht, hv⟩ := VR_tup.mp r₁
  have hsz : vs.size = [n1, n2].length := by rw [← Array.length_toList, VRs_len _ hv]; rfl
  obtain ⟨f1, f2, f3⟩ := e₁.inv.fresh
  rw [← hsz]
  refine unpackItems_tuple a.hand (isTup_sub e₁.inv.keep ht) fun h' hx => ?_
  obtain ⟨v1, r1, e, g1, r2⟩ := VRs_cons.mp hv
  obtain ⟨v2, r3, rfl, g2, r4⟩ := VRs_cons.mp r2
  rw [VRs_nil.mp r4] at e
  rw [e]
  have E₂ : Ext c (fun _ => False) z₁ σ₁ s₁ z₁ σ₁ { s₁ with heap := h', toks := s₁.toks } := (Ext.refl e₁.inv).touch f3 f2 f1 (fun b o hb e => hx b o hb e)
  have F₁ := F.ext e₁
  have F₂ : Frm c z₁ σ₁ env ρ h' := F₁.touch (F₁.notFw f3) (fun b o hb e => hx b o hb e)
  show wpAny _ _ (assignInOrder [bindName env n2, bindName env n1] [v2, v1]) _ _ _
  refine wpAny_bind (wpAny_holding (wpAny_mono (bind_local k2 b E₂.inv F₂ g2) (fun _ s₂ q14_ => q14_.elim fun e₂ F₃ => ?_) fun _ _ y => y))
  refine wpAny_bind (wpAny_holding (wpAny_mono (bind_local k1 b e₂.inv F₃ g1) (fun _ s₃ q15_ => q15_.elim fun e₃ F₄ => ?_) fun _ _ y => y))
  exact wpAny_pure ⟨z₁, σ₁, _, .next, (((e₁.trans E₂).none (P' := Fw env)).trans (e₂.weaken fun _ h => .inl h)).trans (e₃.weaken fun _ h => .inl h), F₄, rfl, q₁⟩
end Mine
end
section
namespace Mine
noncomputable def fdK (K : Frag) (a : Addr) : FuncData := match K.lookup a with
  | some ⟨_, _, .func f, _⟩ => f
  | _ => default
noncomputable def bodyOf (fd : FuncData) : List Stmt := match fd.body with
  | .stmts b => b
  | _ => []
noncomputable def fnOkB (K : Frag) (a : Addr) : Bool := match K.lookup a with
  | some ⟨_, _, .func f, _⟩ => (match f.body with | .stmts _ => true | _ => false) && !f.scope.isCoroutine && !f.scope.isGenerator && decide (f.scope.kind = .function) && f.globals == mainGlobals && f.closure.isEmpty && f.builtins == builtinsNs && codeIn K f.code f.qualname
  | _ => false
theorem fnOk_of {K : Frag} {a : Addr} (h : fnOkB K a = true) : FnOk K a (fdK K a) (bodyOf (fdK K a)) := by
  unfold fnOkB at h
  unfold fdK
  split at h
  · rename_i c d f s e
    simp only [Bool.and_eq_true, Bool.not_eq_true', beq_iff_eq, List.isEmpty_iff, decide_eq_true_eq] at h
    obtain ⟨⟨⟨⟨⟨⟨⟨h1, h2⟩, h3⟩, h4⟩, h5⟩, h6⟩, h7⟩, h8⟩ := h
    refine ⟨⟨c, d, s, e⟩, ?_, h2, h3, h4, h5, h6, h7, h8⟩
    unfold bodyOf
    split at h1
    · rename_i b hb; rw [hb]
    · cases h1
  · cases h
noncomputable abbrev cx (w : World) (B : Heap) : Cx := ⟨pw, w, B, myK w.params⟩
variable {w : World} {B : Heap} {k : Nat} {σ : Sto} {Q : V → Sto → Prop}
noncomputable def nodupB : List Str → Bool
  | [] => true
  | x :: r => !r.contains x && nodupB r
theorem nodupB_of : ∀ {l : List Str}, nodupB l = true → l.Nodup
  | [], _ => .nil
  | x :: r, h => by
    simp only [nodupB, Bool.and_eq_true, Bool.not_eq_true'] at h
    exact List.nodup_cons.mpr ⟨fun q => by rw [List.contains_iff_mem.mpr q] at h; exact absurd h.1 (by decide), nodupB_of h.2⟩
theorem WCc_fn {c : Cx} {a : Addr} {d : Df} {xs : List V} {ρ₀ : Loc} (h : fnOkB c.K a = true) (e1 : bodyOf (fdK c.K a) = d.body) (e2 : (fdK c.K a).scope = d.scope)
    (hb : ∀ z vs, c.K.In z → VRs c z xs vs → ∃ binds, (∀ S, peek c.K S (bindArgs (fdK c.K a) ⟨vs, []⟩) = some binds) ∧ BindR c z ρ₀ binds)
    (hl : (ρ₀.all fun x => d.scope.names.lookup x.1 == some .local || d.scope.names.lookup x.1 == some .cell) = true) (hnd : nodupB (ρ₀.map (·.1)) = true)
    (hw : WB c k d.scope ρ₀ d.body σ fun fl _ σ' => Q (match fl with | .ret x => x | _ => .none) σ') : WCc c (k + 1) (.glob a) xs σ Q := by
  have ok := fnOk_of h
  rw [e1] at ok
  refine WCc_def ok hb ?_ (nodupB_of hnd) ?_
  · rw [e2]; exact hl
  · rw [e2]; exact hw
theorem WC_fn {c : Cx} {a : Addr} {d : Df} {xs : List V} {ρ₀ : Loc} {k : Nat} {σ : Sto} {Q : V → Sto → Prop} (h : fnOkB c.K a = true) (e1 : bodyOf (fdK c.K a) = d.body) (e2 : (fdK c.K a).scope = d.scope)
    (hb : ∀ z vs, c.K.In z → VRs c z xs vs → ∃ binds, (∀ S, peek c.K S (bindArgs (fdK c.K a) ⟨vs, []⟩) = some binds) ∧ BindR c z ρ₀ binds)
    (hl : (ρ₀.all fun x => d.scope.names.lookup x.1 == some .local || d.scope.names.lookup x.1 == some .cell) = true) (hnd : nodupB (ρ₀.map (·.1)) = true)
    (hw : WB c k d.scope ρ₀ d.body σ fun fl _ σ' => Q (match fl with | .ret x => x | _ => .none) σ') : WC c (k + 1) (.glob a) xs σ Q := WC_of (WCc_fn h e1 e2 hb hl hnd hw)
theorem binds_plain {c : Cx} {a : Addr} {xs : List V} (ns : List Str) (hx : xs.length = ns.length) (h : ∀ vs S, vs.length = ns.length → peek c.K S (bindArgs (fdK c.K a) ⟨vs, []⟩) = some (ns.zip vs)) :
    ∀ z vs, c.K.In z → VRs c z xs vs → ∃ binds, (∀ S, peek c.K S (bindArgs (fdK c.K a) ⟨vs, []⟩) = some binds) ∧ BindR c z (ns.zip xs) binds := fun z vs X r =>
  ⟨ns.zip vs, fun S => h vs S (by rw [VRs_length xs r, hx]), BindR.zip ns xs vs r⟩
theorem attach_wanted (f : Int) (h : Q (.int ((f.fdiv 256).fmod 256)) σ) (hp : Builtin.divisionGoesByPylong f 256 = false) : WC (cx w B) (k + 1) (.glob 76) [.int f] σ Q := by
  refine WC_fn (d := fnAt 9) (by kernel_rfl) (by kernel_rfl) (by kernel_rfl) (binds_plain ["flag"] rfl (fun vs S h => match vs, h with | [a], _ => by kernel_rfl)) (by kernel_rfl) (by kernel_rfl) ?_
  refine WB_cons ?_
  refine WS_return ?_
  refine WE_bin ?_
  refine WE_bin ?_
  refine WE_local (by kernel_rfl) rfl ?_
  refine WE_int ?_
  refine ⟨by decide, hp, ?_⟩
  refine WE_int ?_
  refine ⟨by decide, ?_⟩
  exact h
end Mine
end
section
namespace Mine
variable {w : World} {B : Heap} {k : Nat} {σ : Sto} {Q : V → Sto → Prop}
noncomputable def retV : Fl → V
  | .ret x => x
  | _ => .none
theorem len0 {P : List Value → Prop} (h : P []) : ∀ vs, vs.length = 0 → P vs
  | [], _ => h
theorem lenS {P : List Value → Prop} {n : Nat} (h : ∀ a vs, vs.length = n → P (a :: vs)) : ∀ vs, vs.length = n + 1 → P vs
  | a :: vs, e => h a vs (Nat.succ.inj e)
theorem len1 {P : List Value → Prop} (h : ∀ a, P [a]) : ∀ vs, vs.length = 1 → P vs := lenS fun a => len0 (P := fun l => P (a :: l)) (h a)
theorem len2 {P : List Value → Prop} (h : ∀ a b, P [a, b]) : ∀ vs, vs.length = 2 → P vs := lenS fun a => len1 (P := fun l => P (a :: l)) (h a)
theorem len3 {P : List Value → Prop} (h : ∀ a b c, P [a, b, c]) : ∀ vs, vs.length = 3 → P vs := lenS fun a => len2 (P := fun l => P (a :: l)) (h a)
theorem len4 {P : List Value → Prop} (h : ∀ a b c d, P [a, b, c, d]) : ∀ vs, vs.length = 4 → P vs := lenS fun a => len3 (P := fun l => P (a :: l)) (h a)
theorem len5 {P : List Value → Prop} (h : ∀ a b c d e, P [a, b, c, d, e]) : ∀ vs, vs.length = 5 → P vs := lenS fun a => len4 (P := fun l => P (a :: l)) (h a)
theorem len6 {P : List Value → Prop} (h : ∀ a b c d e f, P [a, b, c, d, e, f]) : ∀ vs, vs.length = 6 → P vs := lenS fun a => len5 (P := fun l => P (a :: l)) (h a)
theorem len7 {P : List Value → Prop} (h : ∀ a b c d e f g, P [a, b, c, d, e, f, g]) : ∀ vs, vs.length = 7 → P vs := lenS fun a => len6 (P := fun l => P (a :: l)) (h a)
noncomputable def BdS (c : Cx) (a : Addr) (ns : List Str) (dv : List (Str × Value)) (vs : List Value) : Prop := ∀ S, peek c.K S (bindArgs (fdK c.K a) ⟨vs, []⟩) = some (ns.zip vs ++ dv)
theorem flEq {c : Cx} {sc : Scope} {ρ : Loc} {b : List Stmt} (hw : WB c k sc ρ b σ fun fl _ σ' => Q (retV fl) σ') : WB c k sc ρ b σ fun fl _ σ' => Q (match fl with | .ret x => x | _ => .none) σ' := hw.mono fun fl _ _ q => by cases fl <;> exact q
theorem WCc_in {a : Addr} {d : Df} {xs : List V} (ns : List Str) (hx : xs.length = ns.length) (h : fnOkB (cx w B).K a = true) (e1 : bodyOf (fdK (cx w B).K a) = d.body) (e2 : (fdK (cx w B).K a).scope = d.scope)
    (hb : ∀ vs, vs.length = ns.length → BdS (cx w B) a ns [] vs)
    (hl : ((ns.zip xs).all fun x => d.scope.names.lookup x.1 == some .local || d.scope.names.lookup x.1 == some .cell) = true) (hnd : nodupB ((ns.zip xs).map (·.1)) = true)
    (hw : WB (cx w B) k d.scope (ns.zip xs) d.body σ fun fl _ σ' => Q (retV fl) σ') : WCc (cx w B) (k + 1) (.glob a) xs σ Q := WCc_fn h e1 e2 (binds_plain ns hx fun vs S h => by rw [hb vs h S, List.append_nil]) hl hnd (flEq hw)
theorem WC_in {a : Addr} {d : Df} {xs : List V} (ns : List Str) (hx : xs.length = ns.length) (h : fnOkB (cx w B).K a = true) (e1 : bodyOf (fdK (cx w B).K a) = d.body) (e2 : (fdK (cx w B).K a).scope = d.scope)
    (hb : ∀ vs, vs.length = ns.length → BdS (cx w B) a ns [] vs)
    (hl : ((ns.zip xs).all fun x => d.scope.names.lookup x.1 == some .local || d.scope.names.lookup x.1 == some .cell) = true) (hnd : nodupB ((ns.zip xs).map (·.1)) = true)
    (hw : WB (cx w B) k d.scope (ns.zip xs) d.body σ fun fl _ σ' => Q (retV fl) σ') : WC (cx w B) (k + 1) (.glob a) xs σ Q := WC_of (WCc_in ns hx h e1 e2 hb hl hnd hw)
theorem WCc_ind {a : Addr} {d : Df} {xs : List V} (ns : List Str) (dv : List (Str × Value)) (dx : Loc) (hx : xs.length = ns.length) (hd : ∀ z, BindR (cx w B) z dx dv) (h : fnOkB (cx w B).K a = true) (e1 : bodyOf (fdK (cx w B).K a) = d.body) (e2 : (fdK (cx w B).K a).scope = d.scope)
    (hb : ∀ vs, vs.length = ns.length → BdS (cx w B) a ns dv vs)
    (hl : ((ns.zip xs ++ dx).all fun x => d.scope.names.lookup x.1 == some .local || d.scope.names.lookup x.1 == some .cell) = true) (hnd : nodupB ((ns.zip xs ++ dx).map (·.1)) = true)
    (hw : WB (cx w B) k d.scope (ns.zip xs ++ dx) d.body σ fun fl _ σ' => Q (retV fl) σ') : WCc (cx w B) (k + 1) (.glob a) xs σ Q := WCc_fn h e1 e2
    (fun z vs X r => ⟨ns.zip vs ++ dv, hb vs (by rw [VRs_length xs r, hx]), (BindR.zip ns xs vs r).app (hd z)⟩) hl hnd (flEq hw)
theorem e_Lookup_newc {x0 x1 x2 x3 x4 : V} (hw : WB (cx w B) k (mtAt 7 0).scope [("self", x0), ("kind", x1), ("flag", x2), ("mark_set", x3), ("tables", x4)] (mtAt 7 0).body σ fun fl _ σ' => Q (retV fl) σ') : WCc (cx w B) (k + 1) (.glob 35) [x0, x1, x2, x3, x4] σ Q :=
  WCc_in ["self", "kind", "flag", "mark_set", "tables"] rfl (by kernel_rfl) (by kernel_rfl) (by kernel_rfl) (len5 fun a0 a1 a2 a3 a4 S => by kernel_rfl) (by kernel_rfl) (by kernel_rfl) hw
theorem e_Scene_newc {x0 x1 x2 x3 x4 x5 x6 : V} (hw : WB (cx w B) k (mtAt 8 0).scope [("self", x0), ("buffer", x1), ("gdef", x2), ("lookups", x3), ("lookup", x4), ("mask", x5), ("depth", x6)] (mtAt 8 0).body σ fun fl _ σ' => Q (retV fl) σ') : WCc (cx w B) (k + 1) (.glob 62) [x0, x1, x2, x3, x4, x5, x6] σ Q :=
  WCc_in ["self", "buffer", "gdef", "lookups", "lookup", "mask", "depth"] rfl (by kernel_rfl) (by kernel_rfl) (by kernel_rfl) (len7 fun a0 a1 a2 a3 a4 a5 a6 S => by kernel_rfl) (by kernel_rfl) (by kernel_rfl) hw
theorem e_Scene_new5c {x0 x1 x2 x3 x4 x5 : V} (hw : WB (cx w B) k (mtAt 8 0).scope [("self", x0), ("buffer", x1), ("gdef", x2), ("lookups", x3), ("lookup", x4), ("mask", x5), ("depth", .int 0)] (mtAt 8 0).body σ fun fl _ σ' => Q (retV fl) σ') : WCc (cx w B) (k + 1) (.glob 62) [x0, x1, x2, x3, x4, x5] σ Q :=
  WCc_ind (xs := [x0, x1, x2, x3, x4, x5]) ["self", "buffer", "gdef", "lookups", "lookup", "mask"] [("depth", (.int 0 259 : Value))] [("depth", (.int 0 : V))] rfl (fun z => ⟨_, _, rfl, VR_int.mpr ⟨_, rfl⟩, rfl⟩) (by kernel_rfl) (by kernel_rfl) (by kernel_rfl) (len6 fun a0 a1 a2 a3 a4 a5 S => by kernel_rfl) (by kernel_rfl) (by kernel_rfl) hw
theorem e_class_bit {x0 : V} (hw : WB (cx w B) k (fnAt 10).scope [("number", x0)] (fnAt 10).body σ fun fl _ σ' => Q (retV fl) σ') : WC (cx w B) (k + 1) (.glob 83) [x0] σ Q :=
  WC_in ["number"] rfl (by kernel_rfl) (by kernel_rfl) (by kernel_rfl) (len1 fun a0 S => by kernel_rfl) (by kernel_rfl) (by kernel_rfl) hw
theorem e_is_ignored {x0 x1 x2 : V} (hw : WB (cx w B) k (fnAt 11).scope [("gdef", x0), ("lookup", x1), ("glyph", x2)] (fnAt 11).body σ fun fl _ σ' => Q (retV fl) σ') : WC (cx w B) (k + 1) (.glob 90) [x0, x1, x2] σ Q :=
  WC_in ["gdef", "lookup", "glyph"] rfl (by kernel_rfl) (by kernel_rfl) (by kernel_rfl) (len3 fun a0 a1 a2 S => by kernel_rfl) (by kernel_rfl) (by kernel_rfl) hw
theorem e_passes {x0 x1 : V} (hw : WB (cx w B) k (fnAt 12).scope [("scene", x0), ("at", x1)] (fnAt 12).body σ fun fl _ σ' => Q (retV fl) σ') : WC (cx w B) (k + 1) (.glob 97) [x0, x1] σ Q :=
  WC_in ["scene", "at"] rfl (by kernel_rfl) (by kernel_rfl) (by kernel_rfl) (len2 fun a0 a1 S => by kernel_rfl) (by kernel_rfl) (by kernel_rfl) hw
theorem e_nested_scene {x0 x1 : V} (hw : WB (cx w B) k (fnAt 13).scope [("scene", x0), ("number", x1)] (fnAt 13).body σ fun fl _ σ' => Q (retV fl) σ') : WC (cx w B) (k + 1) (.glob 104) [x0, x1] σ Q :=
  WC_in ["scene", "number"] rfl (by kernel_rfl) (by kernel_rfl) (by kernel_rfl) (len2 fun a0 a1 S => by kernel_rfl) (by kernel_rfl) (by kernel_rfl) hw
theorem e_Info_newc {x0 x1 x2 x3 : V} (hw : WB (cx w B) k (mtAt 15 0).scope [("self", x0), ("code", x1), ("glyph", x2), ("cluster", x3)] (mtAt 15 0).body σ fun fl _ σ' => Q (retV fl) σ') : WCc (cx w B) (k + 1) (.glob 118) [x0, x1, x2, x3] σ Q :=
  WCc_in ["self", "code", "glyph", "cluster"] rfl (by kernel_rfl) (by kernel_rfl) (by kernel_rfl) (len4 fun a0 a1 a2 a3 S => by kernel_rfl) (by kernel_rfl) (by kernel_rfl) hw
theorem e_Info_copied {x0 : V} (hw : WB (cx w B) k (mtAt 15 1).scope [("self", x0)] (mtAt 15 1).body σ fun fl _ σ' => Q (retV fl) σ') : WC (cx w B) (k + 1) (.glob 125) [x0] σ Q :=
  WC_in ["self"] rfl (by kernel_rfl) (by kernel_rfl) (by kernel_rfl) (len1 fun a0 S => by kernel_rfl) (by kernel_rfl) (by kernel_rfl) hw
theorem e_Info_told {x0 : V} (hw : WB (cx w B) k (mtAt 15 2).scope [("self", x0)] (mtAt 15 2).body σ fun fl _ σ' => Q (retV fl) σ') : WC (cx w B) (k + 1) (.glob 132) [x0] σ Q :=
  WC_in ["self"] rfl (by kernel_rfl) (by kernel_rfl) (by kernel_rfl) (len1 fun a0 S => by kernel_rfl) (by kernel_rfl) (by kernel_rfl) hw
theorem e_Buffer_newc {x0 x1 x2 : V} (hw : WB (cx w B) k (mtAt 16 0).scope [("self", x0), ("infos", x1), ("is_backward", x2)] (mtAt 16 0).body σ fun fl _ σ' => Q (retV fl) σ') : WCc (cx w B) (k + 1) (.glob 154) [x0, x1, x2] σ Q :=
  WCc_in ["self", "infos", "is_backward"] rfl (by kernel_rfl) (by kernel_rfl) (by kernel_rfl) (len3 fun a0 a1 a2 S => by kernel_rfl) (by kernel_rfl) (by kernel_rfl) hw
theorem e_Buffer_new1c {x0 x1 : V} (hw : WB (cx w B) k (mtAt 16 0).scope [("self", x0), ("infos", x1), ("is_backward", .bool false)] (mtAt 16 0).body σ fun fl _ σ' => Q (retV fl) σ') : WCc (cx w B) (k + 1) (.glob 154) [x0, x1] σ Q :=
  WCc_ind (xs := [x0, x1]) ["self", "infos"] [("is_backward", (.bool false : Value))] [("is_backward", (.bool false : V))] rfl (fun z => ⟨_, _, rfl, VR_bool.mpr rfl, rfl⟩) (by kernel_rfl) (by kernel_rfl) (by kernel_rfl) (len2 fun a0 a1 S => by kernel_rfl) (by kernel_rfl) (by kernel_rfl) hw
theorem e_hang {x0 x1 x2 : V} (hw : WB (cx w B) k (fnAt 17).scope [("buffer", x0), ("begin", x1), ("end", x2)] (fnAt 17).body σ fun fl _ σ' => Q (retV fl) σ') : WC (cx w B) (k + 1) (.glob 197) [x0, x1, x2] σ Q :=
  WC_in ["buffer", "begin", "end"] rfl (by kernel_rfl) (by kernel_rfl) (by kernel_rfl) (len3 fun a0 a1 a2 S => by kernel_rfl) (by kernel_rfl) (by kernel_rfl) hw
theorem e_fits {x0 x1 : V} (hw : WB (cx w B) k (fnAt 21).scope [("test", x0), ("glyph", x1)] (fnAt 21).body σ fun fl _ σ' => Q (retV fl) σ') : WC (cx w B) (k + 1) (.glob 206) [x0, x1] σ Q :=
  WC_in ["test", "glyph"] rfl (by kernel_rfl) (by kernel_rfl) (by kernel_rfl) (len2 fun a0 a1 S => by kernel_rfl) (by kernel_rfl) (by kernel_rfl) hw
theorem e_neighbour {x0 x1 x2 : V} (hw : WB (cx w B) k (fnAt 22).scope [("scene", x0), ("at", x1), ("step", x2)] (fnAt 22).body σ fun fl _ σ' => Q (retV fl) σ') : WC (cx w B) (k + 1) (.glob 213) [x0, x1, x2] σ Q :=
  WC_in ["scene", "at", "step"] rfl (by kernel_rfl) (by kernel_rfl) (by kernel_rfl) (len3 fun a0 a1 a2 S => by kernel_rfl) (by kernel_rfl) (by kernel_rfl) hw
theorem e_next_at {x0 x1 : V} (hw : WB (cx w B) k (fnAt 23).scope [("scene", x0), ("at", x1)] (fnAt 23).body σ fun fl _ σ' => Q (retV fl) σ') : WC (cx w B) (k + 1) (.glob 220) [x0, x1] σ Q :=
  WC_in ["scene", "at"] rfl (by kernel_rfl) (by kernel_rfl) (by kernel_rfl) (len2 fun a0 a1 S => by kernel_rfl) (by kernel_rfl) (by kernel_rfl) hw
theorem e_before_at {x0 x1 : V} (hw : WB (cx w B) k (fnAt 24).scope [("scene", x0), ("at", x1)] (fnAt 24).body σ fun fl _ σ' => Q (retV fl) σ') : WC (cx w B) (k + 1) (.glob 227) [x0, x1] σ Q :=
  WC_in ["scene", "at"] rfl (by kernel_rfl) (by kernel_rfl) (by kernel_rfl) (len2 fun a0 a1 S => by kernel_rfl) (by kernel_rfl) (by kernel_rfl) hw
theorem e_input_at {x0 x1 x2 : V} (hw : WB (cx w B) k (fnAt 27).scope [("scene", x0), ("at", x1), ("tests", x2)] (fnAt 27).body σ fun fl _ σ' => Q (retV fl) σ') : WC (cx w B) (k + 1) (.glob 248) [x0, x1, x2] σ Q :=
  WC_in ["scene", "at", "tests"] rfl (by kernel_rfl) (by kernel_rfl) (by kernel_rfl) (len3 fun a0 a1 a2 S => by kernel_rfl) (by kernel_rfl) (by kernel_rfl) hw
theorem e_last_at {x0 x1 x2 x3 : V} (hw : WB (cx w B) k (fnAt 28).scope [("scene", x0), ("at", x1), ("step", x2), ("tests", x3)] (fnAt 28).body σ fun fl _ σ' => Q (retV fl) σ') : WC (cx w B) (k + 1) (.glob 255) [x0, x1, x2, x3] σ Q :=
  WC_in ["scene", "at", "step", "tests"] rfl (by kernel_rfl) (by kernel_rfl) (by kernel_rfl) (len4 fun a0 a1 a2 a3 S => by kernel_rfl) (by kernel_rfl) (by kernel_rfl) hw
theorem e_ahead_at {x0 x1 x2 : V} (hw : WB (cx w B) k (fnAt 29).scope [("scene", x0), ("at", x1), ("tests", x2)] (fnAt 29).body σ fun fl _ σ' => Q (retV fl) σ') : WC (cx w B) (k + 1) (.glob 262) [x0, x1, x2] σ Q :=
  WC_in ["scene", "at", "tests"] rfl (by kernel_rfl) (by kernel_rfl) (by kernel_rfl) (len3 fun a0 a1 a2 S => by kernel_rfl) (by kernel_rfl) (by kernel_rfl) hw
theorem e_back_at {x0 x1 x2 : V} (hw : WB (cx w B) k (fnAt 30).scope [("scene", x0), ("at", x1), ("tests", x2)] (fnAt 30).body σ fun fl _ σ' => Q (retV fl) σ') : WC (cx w B) (k + 1) (.glob 269) [x0, x1, x2] σ Q :=
  WC_in ["scene", "at", "tests"] rfl (by kernel_rfl) (by kernel_rfl) (by kernel_rfl) (len3 fun a0 a1 a2 S => by kernel_rfl) (by kernel_rfl) (by kernel_rfl) hw
theorem e_Anchor_newc {x0 x1 x2 : V} (hw : WB (cx w B) k (mtAt 32 0).scope [("self", x0), ("x", x1), ("y", x2)] (mtAt 32 0).body σ fun fl _ σ' => Q (retV fl) σ') : WCc (cx w B) (k + 1) (.glob 283) [x0, x1, x2] σ Q :=
  WCc_in ["self", "x", "y"] rfl (by kernel_rfl) (by kernel_rfl) (by kernel_rfl) (len3 fun a0 a1 a2 S => by kernel_rfl) (by kernel_rfl) (by kernel_rfl) hw
theorem e_difference {x0 x1 : V} (hw : WB (cx w B) k (fnAt 34).scope [("one", x0), ("other", x1)] (fnAt 34).body σ fun fl _ σ' => Q (retV fl) σ') : WC (cx w B) (k + 1) (.glob 311) [x0, x1] σ Q :=
  WC_in ["one", "other"] rfl (by kernel_rfl) (by kernel_rfl) (by kernel_rfl) (len2 fun a0 a1 S => by kernel_rfl) (by kernel_rfl) (by kernel_rfl) hw
theorem e_Cursive_newc {x0 x1 : V} (hw : WB (cx w B) k (mtAt 38 0).scope [("self", x0), ("ends", x1)] (mtAt 38 0).body σ fun fl _ σ' => Q (retV fl) σ') : WCc (cx w B) (k + 1) (.glob 330) [x0, x1] σ Q :=
  WCc_in ["self", "ends"] rfl (by kernel_rfl) (by kernel_rfl) (by kernel_rfl) (len2 fun a0 a1 S => by kernel_rfl) (by kernel_rfl) (by kernel_rfl) hw
theorem e_Cursive_entry {x0 x1 : V} (hw : WB (cx w B) k (mtAt 38 1).scope [("self", x0), ("glyph", x1)] (mtAt 38 1).body σ fun fl _ σ' => Q (retV fl) σ') : WC (cx w B) (k + 1) (.glob 337) [x0, x1] σ Q :=
  WC_in ["self", "glyph"] rfl (by kernel_rfl) (by kernel_rfl) (by kernel_rfl) (len2 fun a0 a1 S => by kernel_rfl) (by kernel_rfl) (by kernel_rfl) hw
theorem e_Cursive_exit {x0 x1 : V} (hw : WB (cx w B) k (mtAt 38 2).scope [("self", x0), ("glyph", x1)] (mtAt 38 2).body σ fun fl _ σ' => Q (retV fl) σ') : WC (cx w B) (k + 1) (.glob 344) [x0, x1] σ Q :=
  WC_in ["self", "glyph"] rfl (by kernel_rfl) (by kernel_rfl) (by kernel_rfl) (len2 fun a0 a1 S => by kernel_rfl) (by kernel_rfl) (by kernel_rfl) hw
theorem e_join_forward {x0 x1 x2 x3 : V} (hw : WB (cx w B) k (fnAt 39).scope [("first", x0), ("second", x1), ("leave", x2), ("enter", x3)] (fnAt 39).body σ fun fl _ σ' => Q (retV fl) σ') : WC (cx w B) (k + 1) (.glob 368) [x0, x1, x2, x3] σ Q :=
  WC_in ["first", "second", "leave", "enter"] rfl (by kernel_rfl) (by kernel_rfl) (by kernel_rfl) (len4 fun a0 a1 a2 a3 S => by kernel_rfl) (by kernel_rfl) (by kernel_rfl) hw
theorem e_turn_chain {x0 x1 x2 : V} (hw : WB (cx w B) k (fnAt 42).scope [("row", x0), ("child", x1), ("parent", x2)] (fnAt 42).body σ fun fl _ σ' => Q (retV fl) σ') : WC (cx w B) (k + 1) (.glob 389) [x0, x1, x2] σ Q :=
  WC_in ["row", "child", "parent"] rfl (by kernel_rfl) (by kernel_rfl) (by kernel_rfl) (len3 fun a0 a1 a2 S => by kernel_rfl) (by kernel_rfl) (by kernel_rfl) hw
theorem e_break_ring {x0 x1 x2 : V} (hw : WB (cx w B) k (fnAt 43).scope [("row", x0), ("child", x1), ("parent", x2)] (fnAt 43).body σ fun fl _ σ' => Q (retV fl) σ') : WC (cx w B) (k + 1) (.glob 396) [x0, x1, x2] σ Q :=
  WC_in ["row", "child", "parent"] rfl (by kernel_rfl) (by kernel_rfl) (by kernel_rfl) (len3 fun a0 a1 a2 S => by kernel_rfl) (by kernel_rfl) (by kernel_rfl) hw
theorem e_tie {x0 x1 x2 x3 : V} (hw : WB (cx w B) k (fnAt 44).scope [("row", x0), ("child", x1), ("parent", x2), ("offset", x3)] (fnAt 44).body σ fun fl _ σ' => Q (retV fl) σ') : WC (cx w B) (k + 1) (.glob 403) [x0, x1, x2, x3] σ Q :=
  WC_in ["row", "child", "parent", "offset"] rfl (by kernel_rfl) (by kernel_rfl) (by kernel_rfl) (len4 fun a0 a1 a2 a3 S => by kernel_rfl) (by kernel_rfl) (by kernel_rfl) hw
theorem e_apply_cursive {x0 x1 x2 : V} (hw : WB (cx w B) k (fnAt 45).scope [("scene", x0), ("table", x1), ("at", x2)] (fnAt 45).body σ fun fl _ σ' => Q (retV fl) σ') : WC (cx w B) (k + 1) (.glob 410) [x0, x1, x2] σ Q :=
  WC_in ["scene", "table", "at"] rfl (by kernel_rfl) (by kernel_rfl) (by kernel_rfl) (len3 fun a0 a1 a2 S => by kernel_rfl) (by kernel_rfl) (by kernel_rfl) hw
theorem e_MarkBase_newc {x0 x1 x2 : V} (hw : WB (cx w B) k (mtAt 53 0).scope [("self", x0), ("marks", x1), ("bases", x2)] (mtAt 53 0).body σ fun fl _ σ' => Q (retV fl) σ') : WCc (cx w B) (k + 1) (.glob 446) [x0, x1, x2] σ Q :=
  WCc_in ["self", "marks", "bases"] rfl (by kernel_rfl) (by kernel_rfl) (by kernel_rfl) (len3 fun a0 a1 a2 S => by kernel_rfl) (by kernel_rfl) (by kernel_rfl) hw
theorem e_MarkComponent_newc {x0 x1 x2 : V} (hw : WB (cx w B) k (mtAt 54 0).scope [("self", x0), ("marks", x1), ("ligatures", x2)] (mtAt 54 0).body σ fun fl _ σ' => Q (retV fl) σ') : WCc (cx w B) (k + 1) (.glob 474) [x0, x1, x2] σ Q :=
  WCc_in ["self", "marks", "ligatures"] rfl (by kernel_rfl) (by kernel_rfl) (by kernel_rfl) (len3 fun a0 a1 a2 S => by kernel_rfl) (by kernel_rfl) (by kernel_rfl) hw
theorem e_MarkMark_newc {x0 x1 x2 : V} (hw : WB (cx w B) k (mtAt 55 0).scope [("self", x0), ("marks", x1), ("others", x2)] (mtAt 55 0).body σ fun fl _ σ' => Q (retV fl) σ') : WCc (cx w B) (k + 1) (.glob 500) [x0, x1, x2] σ Q :=
  WCc_in ["self", "marks", "others"] rfl (by kernel_rfl) (by kernel_rfl) (by kernel_rfl) (len3 fun a0 a1 a2 S => by kernel_rfl) (by kernel_rfl) (by kernel_rfl) hw
theorem e_scene_with {x0 x1 x2 : V} (hw : WB (cx w B) k (fnAt 56).scope [("scene", x0), ("flag", x1), ("mark_set", x2)] (fnAt 56).body σ fun fl _ σ' => Q (retV fl) σ') : WC (cx w B) (k + 1) (.glob 521) [x0, x1, x2] σ Q :=
  WC_in ["scene", "flag", "mark_set"] rfl (by kernel_rfl) (by kernel_rfl) (by kernel_rfl) (len3 fun a0 a1 a2 S => by kernel_rfl) (by kernel_rfl) (by kernel_rfl) hw
theorem e_is_mark_at {x0 x1 : V} (hw : WB (cx w B) k (fnAt 57).scope [("scene", x0), ("at", x1)] (fnAt 57).body σ fun fl _ σ' => Q (retV fl) σ') : WC (cx w B) (k + 1) (.glob 528) [x0, x1] σ Q :=
  WC_in ["scene", "at"] rfl (by kernel_rfl) (by kernel_rfl) (by kernel_rfl) (len2 fun a0 a1 S => by kernel_rfl) (by kernel_rfl) (by kernel_rfl) hw
theorem e_is_later_part {x0 x1 : V} (hw : WB (cx w B) k (fnAt 58).scope [("scene", x0), ("at", x1)] (fnAt 58).body σ fun fl _ σ' => Q (retV fl) σ') : WC (cx w B) (k + 1) (.glob 535) [x0, x1] σ Q :=
  WC_in ["scene", "at"] rfl (by kernel_rfl) (by kernel_rfl) (by kernel_rfl) (len2 fun a0 a1 S => by kernel_rfl) (by kernel_rfl) (by kernel_rfl) hw
theorem e_base_ahead {x0 x1 : V} (hw : WB (cx w B) k (fnAt 59).scope [("scene", x0), ("at", x1)] (fnAt 59).body σ fun fl _ σ' => Q (retV fl) σ') : WC (cx w B) (k + 1) (.glob 542) [x0, x1] σ Q :=
  WC_in ["scene", "at"] rfl (by kernel_rfl) (by kernel_rfl) (by kernel_rfl) (len2 fun a0 a1 S => by kernel_rfl) (by kernel_rfl) (by kernel_rfl) hw
theorem e_set_on {x0 x1 x2 x3 x4 : V} (hw : WB (cx w B) k (fnAt 60).scope [("scene", x0), ("marks", x1), ("row", x2), ("at", x3), ("place", x4)] (fnAt 60).body σ fun fl _ σ' => Q (retV fl) σ') : WC (cx w B) (k + 1) (.glob 549) [x0, x1, x2, x3, x4] σ Q :=
  WC_in ["scene", "marks", "row", "at", "place"] rfl (by kernel_rfl) (by kernel_rfl) (by kernel_rfl) (len5 fun a0 a1 a2 a3 a4 S => by kernel_rfl) (by kernel_rfl) (by kernel_rfl) hw
theorem e_apply_base {x0 x1 x2 : V} (hw : WB (cx w B) k (fnAt 61).scope [("scene", x0), ("table", x1), ("at", x2)] (fnAt 61).body σ fun fl _ σ' => Q (retV fl) σ') : WC (cx w B) (k + 1) (.glob 556) [x0, x1, x2] σ Q :=
  WC_in ["scene", "table", "at"] rfl (by kernel_rfl) (by kernel_rfl) (by kernel_rfl) (len3 fun a0 a1 a2 S => by kernel_rfl) (by kernel_rfl) (by kernel_rfl) hw
theorem e_component_of {x0 x1 x2 : V} (hw : WB (cx w B) k (fnAt 62).scope [("mark", x0), ("ligature", x1), ("count", x2)] (fnAt 62).body σ fun fl _ σ' => Q (retV fl) σ') : WC (cx w B) (k + 1) (.glob 563) [x0, x1, x2] σ Q :=
  WC_in ["mark", "ligature", "count"] rfl (by kernel_rfl) (by kernel_rfl) (by kernel_rfl) (len3 fun a0 a1 a2 S => by kernel_rfl) (by kernel_rfl) (by kernel_rfl) hw
theorem e_apply_component {x0 x1 x2 : V} (hw : WB (cx w B) k (fnAt 63).scope [("scene", x0), ("table", x1), ("at", x2)] (fnAt 63).body σ fun fl _ σ' => Q (retV fl) σ') : WC (cx w B) (k + 1) (.glob 570) [x0, x1, x2] σ Q :=
  WC_in ["scene", "table", "at"] rfl (by kernel_rfl) (by kernel_rfl) (by kernel_rfl) (len3 fun a0 a1 a2 S => by kernel_rfl) (by kernel_rfl) (by kernel_rfl) hw
theorem e_are_of_one {x0 x1 : V} (hw : WB (cx w B) k (fnAt 64).scope [("mark", x0), ("other", x1)] (fnAt 64).body σ fun fl _ σ' => Q (retV fl) σ') : WC (cx w B) (k + 1) (.glob 577) [x0, x1] σ Q :=
  WC_in ["mark", "other"] rfl (by kernel_rfl) (by kernel_rfl) (by kernel_rfl) (len2 fun a0 a1 S => by kernel_rfl) (by kernel_rfl) (by kernel_rfl) hw
theorem e_apply_mark {x0 x1 x2 : V} (hw : WB (cx w B) k (fnAt 65).scope [("scene", x0), ("table", x1), ("at", x2)] (fnAt 65).body σ fun fl _ σ' => Q (retV fl) σ') : WC (cx w B) (k + 1) (.glob 584) [x0, x1, x2] σ Q :=
  WC_in ["scene", "table", "at"] rfl (by kernel_rfl) (by kernel_rfl) (by kernel_rfl) (len3 fun a0 a1 a2 S => by kernel_rfl) (by kernel_rfl) (by kernel_rfl) hw
theorem e_Coverage_newc {x0 x1 : V} (hw : WB (cx w B) k (mtAt 67 0).scope [("self", x0), ("glyphs", x1)] (mtAt 67 0).body σ fun fl _ σ' => Q (retV fl) σ') : WCc (cx w B) (k + 1) (.glob 598) [x0, x1] σ Q :=
  WCc_in ["self", "glyphs"] rfl (by kernel_rfl) (by kernel_rfl) (by kernel_rfl) (len2 fun a0 a1 S => by kernel_rfl) (by kernel_rfl) (by kernel_rfl) hw
theorem e_Coverage_index {x0 x1 : V} (hw : WB (cx w B) k (mtAt 67 1).scope [("self", x0), ("glyph", x1)] (mtAt 67 1).body σ fun fl _ σ' => Q (retV fl) σ') : WC (cx w B) (k + 1) (.glob 605) [x0, x1] σ Q :=
  WC_in ["self", "glyph"] rfl (by kernel_rfl) (by kernel_rfl) (by kernel_rfl) (len2 fun a0 a1 S => by kernel_rfl) (by kernel_rfl) (by kernel_rfl) hw
theorem e_Coverage_has {x0 x1 : V} (hw : WB (cx w B) k (mtAt 67 2).scope [("self", x0), ("glyph", x1)] (mtAt 67 2).body σ fun fl _ σ' => Q (retV fl) σ') : WC (cx w B) (k + 1) (.glob 612) [x0, x1] σ Q :=
  WC_in ["self", "glyph"] rfl (by kernel_rfl) (by kernel_rfl) (by kernel_rfl) (len2 fun a0 a1 S => by kernel_rfl) (by kernel_rfl) (by kernel_rfl) hw
theorem e_coverage_of {x0 : V} (hw : WB (cx w B) k (fnAt 68).scope [("glyphs", x0)] (fnAt 68).body σ fun fl _ σ' => Q (retV fl) σ') : WC (cx w B) (k + 1) (.glob 633) [x0] σ Q :=
  WC_in ["glyphs"] rfl (by kernel_rfl) (by kernel_rfl) (by kernel_rfl) (len1 fun a0 S => by kernel_rfl) (by kernel_rfl) (by kernel_rfl) hw
theorem e_Rule_newc {x0 x1 x2 x3 x4 : V} (hw : WB (cx w B) k (mtAt 72 0).scope [("self", x0), ("back", x1), ("inside", x2), ("ahead", x3), ("actions", x4)] (mtAt 72 0).body σ fun fl _ σ' => Q (retV fl) σ') : WCc (cx w B) (k + 1) (.glob 647) [x0, x1, x2, x3, x4] σ Q :=
  WCc_in ["self", "back", "inside", "ahead", "actions"] rfl (by kernel_rfl) (by kernel_rfl) (by kernel_rfl) (len5 fun a0 a1 a2 a3 a4 S => by kernel_rfl) (by kernel_rfl) (by kernel_rfl) hw
theorem e_Contexts_newc {x0 x1 x2 x3 x4 x5 : V} (hw : WB (cx w B) k (mtAt 73 0).scope [("self", x0), ("form", x1), ("is_chained", x2), ("sets", x3), ("coverage", x4), ("classes", x5)] (mtAt 73 0).body σ fun fl _ σ' => Q (retV fl) σ') : WCc (cx w B) (k + 1) (.glob 683) [x0, x1, x2, x3, x4, x5] σ Q :=
  WCc_in ["self", "form", "is_chained", "sets", "coverage", "classes"] rfl (by kernel_rfl) (by kernel_rfl) (by kernel_rfl) (len6 fun a0 a1 a2 a3 a4 a5 S => by kernel_rfl) (by kernel_rfl) (by kernel_rfl) hw
theorem e_Contexts_new3c {x0 x1 x2 x3 : V} (hw : WB (cx w B) k (mtAt 73 0).scope [("self", x0), ("form", x1), ("is_chained", x2), ("sets", x3), ("coverage", .none), ("classes", .none)] (mtAt 73 0).body σ fun fl _ σ' => Q (retV fl) σ') : WCc (cx w B) (k + 1) (.glob 683) [x0, x1, x2, x3] σ Q :=
  WCc_ind (xs := [x0, x1, x2, x3]) ["self", "form", "is_chained", "sets"] [("coverage", (.none : Value)), ("classes", (.none : Value))] [("coverage", (.none : V)), ("classes", (.none : V))] rfl (fun z => ⟨_, _, rfl, VR_none.mpr rfl, ⟨_, _, rfl, VR_none.mpr rfl, rfl⟩⟩) (by kernel_rfl) (by kernel_rfl) (by kernel_rfl) (len4 fun a0 a1 a2 a3 S => by kernel_rfl) (by kernel_rfl) (by kernel_rfl) hw
theorem e_Contexts_rules {x0 : V} (hw : WB (cx w B) k (mtAt 73 3).scope [("self", x0)] (mtAt 73 3).body σ fun fl _ σ' => Q (retV fl) σ') : WC (cx w B) (k + 1) (.glob 702) [x0] σ Q :=
  WC_in ["self"] rfl (by kernel_rfl) (by kernel_rfl) (by kernel_rfl) (len1 fun a0 S => by kernel_rfl) (by kernel_rfl) (by kernel_rfl) hw
theorem e_tests_of {x0 x1 x2 : V} (hw : WB (cx w B) k (fnAt 76).scope [("row", x0), ("word", x1), ("classdef", x2)] (fnAt 76).body σ fun fl _ σ' => Q (retV fl) σ') : WC (cx w B) (k + 1) (.glob 719) [x0, x1, x2] σ Q :=
  WC_in ["row", "word", "classdef"] rfl (by kernel_rfl) (by kernel_rfl) (by kernel_rfl) (len3 fun a0 a1 a2 S => by kernel_rfl) (by kernel_rfl) (by kernel_rfl) hw
theorem e_rule_tests {x0 x1 : V} (hw : WB (cx w B) k (fnAt 77).scope [("table", x0), ("rule", x1)] (fnAt 77).body σ fun fl _ σ' => Q (retV fl) σ') : WC (cx w B) (k + 1) (.glob 726) [x0, x1] σ Q :=
  WC_in ["table", "rule"] rfl (by kernel_rfl) (by kernel_rfl) (by kernel_rfl) (len2 fun a0 a1 S => by kernel_rfl) (by kernel_rfl) (by kernel_rfl) hw
theorem e_rules_at {x0 x1 : V} (hw : WB (cx w B) k (fnAt 78).scope [("table", x0), ("glyph", x1)] (fnAt 78).body σ fun fl _ σ' => Q (retV fl) σ') : WC (cx w B) (k + 1) (.glob 731) [x0, x1] σ Q :=
  WC_in ["table", "glyph"] rfl (by kernel_rfl) (by kernel_rfl) (by kernel_rfl) (len2 fun a0 a1 S => by kernel_rfl) (by kernel_rfl) (by kernel_rfl) hw
theorem e_Places_newc {x0 x1 x2 : V} (hw : WB (cx w B) k (mtAt 83 0).scope [("self", x0), ("row", x1), ("end", x2)] (mtAt 83 0).body σ fun fl _ σ' => Q (retV fl) σ') : WCc (cx w B) (k + 1) (.glob 745) [x0, x1, x2] σ Q :=
  WCc_in ["self", "row", "end"] rfl (by kernel_rfl) (by kernel_rfl) (by kernel_rfl) (len3 fun a0 a1 a2 S => by kernel_rfl) (by kernel_rfl) (by kernel_rfl) hw
theorem e_match_rule {x0 x1 x2 : V} (hw : WB (cx w B) k (fnAt 84).scope [("scene", x0), ("at", x1), ("tests", x2)] (fnAt 84).body σ fun fl _ σ' => Q (retV fl) σ') : WC (cx w B) (k + 1) (.glob 759) [x0, x1, x2] σ Q :=
  WC_in ["scene", "at", "tests"] rfl (by kernel_rfl) (by kernel_rfl) (by kernel_rfl) (len3 fun a0 a1 a2 S => by kernel_rfl) (by kernel_rfl) (by kernel_rfl) hw
theorem e_inner_scene {x0 x1 : V} (hw : WB (cx w B) k (fnAt 85).scope [("scene", x0), ("number", x1)] (fnAt 85).body σ fun fl _ σ' => Q (retV fl) σ') : WC (cx w B) (k + 1) (.glob 766) [x0, x1] σ Q :=
  WC_in ["scene", "number"] rfl (by kernel_rfl) (by kernel_rfl) (by kernel_rfl) (len2 fun a0 a1 S => by kernel_rfl) (by kernel_rfl) (by kernel_rfl) hw
theorem e_do_action {x0 x1 x2 x3 : V} (hw : WB (cx w B) k (fnAt 89).scope [("scene", x0), ("places", x1), ("action", x2), ("apply_at", x3)] (fnAt 89).body σ fun fl _ σ' => Q (retV fl) σ') : WC (cx w B) (k + 1) (.glob 790) [x0, x1, x2, x3] σ Q :=
  WC_in ["scene", "places", "action", "apply_at"] rfl (by kernel_rfl) (by kernel_rfl) (by kernel_rfl) (len4 fun a0 a1 a2 a3 S => by kernel_rfl) (by kernel_rfl) (by kernel_rfl) hw
theorem e_do_actions {x0 x1 x2 x3 : V} (hw : WB (cx w B) k (fnAt 90).scope [("scene", x0), ("places", x1), ("actions", x2), ("apply_at", x3)] (fnAt 90).body σ fun fl _ σ' => Q (retV fl) σ') : WC (cx w B) (k + 1) (.glob 797) [x0, x1, x2, x3] σ Q :=
  WC_in ["scene", "places", "actions", "apply_at"] rfl (by kernel_rfl) (by kernel_rfl) (by kernel_rfl) (len4 fun a0 a1 a2 a3 S => by kernel_rfl) (by kernel_rfl) (by kernel_rfl) hw
theorem e_apply_context {x0 x1 x2 x3 : V} (hw : WB (cx w B) k (fnAt 91).scope [("scene", x0), ("table", x1), ("at", x2), ("apply_at", x3)] (fnAt 91).body σ fun fl _ σ' => Q (retV fl) σ') : WC (cx w B) (k + 1) (.glob 804) [x0, x1, x2, x3] σ Q :=
  WC_in ["scene", "table", "at", "apply_at"] rfl (by kernel_rfl) (by kernel_rfl) (by kernel_rfl) (len4 fun a0 a1 a2 a3 S => by kernel_rfl) (by kernel_rfl) (by kernel_rfl) hw
theorem e_Value_newc {x0 x1 x2 x3 x4 : V} (hw : WB (cx w B) k (mtAt 93 0).scope [("self", x0), ("x_offset", x1), ("y_offset", x2), ("x_advance", x3), ("y_advance", x4)] (mtAt 93 0).body σ fun fl _ σ' => Q (retV fl) σ') : WCc (cx w B) (k + 1) (.glob 818) [x0, x1, x2, x3, x4] σ Q :=
  WCc_in ["self", "x_offset", "y_offset", "x_advance", "y_advance"] rfl (by kernel_rfl) (by kernel_rfl) (by kernel_rfl) (len5 fun a0 a1 a2 a3 a4 S => by kernel_rfl) (by kernel_rfl) (by kernel_rfl) hw
theorem e_Value_told {x0 : V} (hw : WB (cx w B) k (mtAt 93 1).scope [("self", x0)] (mtAt 93 1).body σ fun fl _ σ' => Q (retV fl) σ') : WC (cx w B) (k + 1) (.glob 825) [x0] σ Q :=
  WC_in ["self"] rfl (by kernel_rfl) (by kernel_rfl) (by kernel_rfl) (len1 fun a0 S => by kernel_rfl) (by kernel_rfl) (by kernel_rfl) hw
theorem e_Value_is_nothing {x0 : V} (hw : WB (cx w B) k (mtAt 93 2).scope [("self", x0)] (mtAt 93 2).body σ fun fl _ σ' => Q (retV fl) σ') : WC (cx w B) (k + 1) (.glob 832) [x0] σ Q :=
  WC_in ["self"] rfl (by kernel_rfl) (by kernel_rfl) (by kernel_rfl) (len1 fun a0 S => by kernel_rfl) (by kernel_rfl) (by kernel_rfl) hw
theorem e_add_value {x0 x1 x2 : V} (hw : WB (cx w B) k (fnAt 94).scope [("info", x0), ("value", x1), ("is_backward", x2)] (fnAt 94).body σ fun fl _ σ' => Q (retV fl) σ') : WC (cx w B) (k + 1) (.glob 846) [x0, x1, x2] σ Q :=
  WC_in ["info", "value", "is_backward"] rfl (by kernel_rfl) (by kernel_rfl) (by kernel_rfl) (len3 fun a0 a1 a2 S => by kernel_rfl) (by kernel_rfl) (by kernel_rfl) hw
theorem e_Adjust_newc {x0 x1 : V} (hw : WB (cx w B) k (mtAt 95 0).scope [("self", x0), ("values", x1)] (mtAt 95 0).body σ fun fl _ σ' => Q (retV fl) σ') : WCc (cx w B) (k + 1) (.glob 860) [x0, x1] σ Q :=
  WCc_in ["self", "values"] rfl (by kernel_rfl) (by kernel_rfl) (by kernel_rfl) (len2 fun a0 a1 S => by kernel_rfl) (by kernel_rfl) (by kernel_rfl) hw
theorem e_apply_adjust {x0 x1 x2 : V} (hw : WB (cx w B) k (fnAt 96).scope [("scene", x0), ("table", x1), ("at", x2)] (fnAt 96).body σ fun fl _ σ' => Q (retV fl) σ') : WC (cx w B) (k + 1) (.glob 879) [x0, x1, x2] σ Q :=
  WC_in ["scene", "table", "at"] rfl (by kernel_rfl) (by kernel_rfl) (by kernel_rfl) (len3 fun a0 a1 a2 S => by kernel_rfl) (by kernel_rfl) (by kernel_rfl) hw
theorem e_moves_second {x0 : V} (hw : WB (cx w B) k (fnAt 99).scope [("pairs", x0)] (fnAt 99).body σ fun fl _ σ' => Q (retV fl) σ') : WC (cx w B) (k + 1) (.glob 891) [x0] σ Q :=
  WC_in ["pairs"] rfl (by kernel_rfl) (by kernel_rfl) (by kernel_rfl) (len1 fun a0 S => by kernel_rfl) (by kernel_rfl) (by kernel_rfl) hw
theorem e_PairGlyphs_newc {x0 x1 x2 : V} (hw : WB (cx w B) k (mtAt 100 0).scope [("self", x0), ("pairs", x1), ("is_second", x2)] (mtAt 100 0).body σ fun fl _ σ' => Q (retV fl) σ') : WCc (cx w B) (k + 1) (.glob 906) [x0, x1, x2] σ Q :=
  WCc_in ["self", "pairs", "is_second"] rfl (by kernel_rfl) (by kernel_rfl) (by kernel_rfl) (len3 fun a0 a1 a2 S => by kernel_rfl) (by kernel_rfl) (by kernel_rfl) hw
theorem e_PairGlyphs_new1c {x0 x1 : V} (hw : WB (cx w B) k (mtAt 100 0).scope [("self", x0), ("pairs", x1), ("is_second", .bool false)] (mtAt 100 0).body σ fun fl _ σ' => Q (retV fl) σ') : WCc (cx w B) (k + 1) (.glob 906) [x0, x1] σ Q :=
  WCc_ind (xs := [x0, x1]) ["self", "pairs"] [("is_second", (.bool false : Value))] [("is_second", (.bool false : V))] rfl (fun z => ⟨_, _, rfl, VR_bool.mpr rfl, rfl⟩) (by kernel_rfl) (by kernel_rfl) (by kernel_rfl) (len2 fun a0 a1 S => by kernel_rfl) (by kernel_rfl) (by kernel_rfl) hw
theorem e_PairGlyphs_find {x0 x1 x2 : V} (hw : WB (cx w B) k (mtAt 100 1).scope [("self", x0), ("first", x1), ("second", x2)] (mtAt 100 1).body σ fun fl _ σ' => Q (retV fl) σ') : WC (cx w B) (k + 1) (.glob 913) [x0, x1, x2] σ Q :=
  WC_in ["self", "first", "second"] rfl (by kernel_rfl) (by kernel_rfl) (by kernel_rfl) (len3 fun a0 a1 a2 S => by kernel_rfl) (by kernel_rfl) (by kernel_rfl) hw
theorem e_has_second {x0 : V} (hw : WB (cx w B) k (fnAt 102).scope [("table", x0)] (fnAt 102).body σ fun fl _ σ' => Q (retV fl) σ') : WC (cx w B) (k + 1) (.glob 964) [x0] σ Q :=
  WC_in ["table"] rfl (by kernel_rfl) (by kernel_rfl) (by kernel_rfl) (len1 fun a0 S => by kernel_rfl) (by kernel_rfl) (by kernel_rfl) hw
theorem e_apply_pair {x0 x1 x2 : V} (hw : WB (cx w B) k (fnAt 103).scope [("scene", x0), ("table", x1), ("at", x2)] (fnAt 103).body σ fun fl _ σ' => Q (retV fl) σ') : WC (cx w B) (k + 1) (.glob 971) [x0, x1, x2] σ Q :=
  WC_in ["scene", "table", "at"] rfl (by kernel_rfl) (by kernel_rfl) (by kernel_rfl) (len3 fun a0 a1 a2 S => by kernel_rfl) (by kernel_rfl) (by kernel_rfl) hw
theorem e_apply_position {x0 x1 x2 x3 : V} (hw : WB (cx w B) k (fnAt 105).scope [("kind", x0), ("scene", x1), ("table", x2), ("at", x3)] (fnAt 105).body σ fun fl _ σ' => Q (retV fl) σ') : WC (cx w B) (k + 1) (.glob 978) [x0, x1, x2, x3] σ Q :=
  WC_in ["kind", "scene", "table", "at"] rfl (by kernel_rfl) (by kernel_rfl) (by kernel_rfl) (len4 fun a0 a1 a2 a3 S => by kernel_rfl) (by kernel_rfl) (by kernel_rfl) hw
theorem e_position_at {x0 x1 : V} (hw : WB (cx w B) k (fnAt 106).scope [("scene", x0), ("at", x1)] (fnAt 106).body σ fun fl _ σ' => Q (retV fl) σ') : WC (cx w B) (k + 1) (.glob 985) [x0, x1] σ Q :=
  WC_in ["scene", "at"] rfl (by kernel_rfl) (by kernel_rfl) (by kernel_rfl) (len2 fun a0 a1 S => by kernel_rfl) (by kernel_rfl) (by kernel_rfl) hw
theorem e_beginnings_of_context {x0 : V} (hw : WB (cx w B) k (fnAt 107).scope [("table", x0)] (fnAt 107).body σ fun fl _ σ' => Q (retV fl) σ') : WC (cx w B) (k + 1) (.glob 992) [x0] σ Q :=
  WC_in ["table"] rfl (by kernel_rfl) (by kernel_rfl) (by kernel_rfl) (len1 fun a0 S => by kernel_rfl) (by kernel_rfl) (by kernel_rfl) hw
theorem e_beginnings_of_pair {x0 : V} (hw : WB (cx w B) k (fnAt 108).scope [("table", x0)] (fnAt 108).body σ fun fl _ σ' => Q (retV fl) σ') : WC (cx w B) (k + 1) (.glob 997) [x0] σ Q :=
  WC_in ["table"] rfl (by kernel_rfl) (by kernel_rfl) (by kernel_rfl) (len1 fun a0 S => by kernel_rfl) (by kernel_rfl) (by kernel_rfl) hw
theorem e_beginnings {x0 x1 : V} (hw : WB (cx w B) k (fnAt 109).scope [("kind", x0), ("table", x1)] (fnAt 109).body σ fun fl _ σ' => Q (retV fl) σ') : WC (cx w B) (k + 1) (.glob 1004) [x0, x1] σ Q :=
  WC_in ["kind", "table"] rfl (by kernel_rfl) (by kernel_rfl) (by kernel_rfl) (len2 fun a0 a1 S => by kernel_rfl) (by kernel_rfl) (by kernel_rfl) hw
theorem e_run_position {x0 x1 x2 x3 x4 : V} (hw : WB (cx w B) k (fnAt 110).scope [("buffer", x0), ("gdef", x1), ("lookups", x2), ("number", x3), ("mask", x4)] (fnAt 110).body σ fun fl _ σ' => Q (retV fl) σ') : WC (cx w B) (k + 1) (.glob 1011) [x0, x1, x2, x3, x4] σ Q :=
  WC_in ["buffer", "gdef", "lookups", "number", "mask"] rfl (by kernel_rfl) (by kernel_rfl) (by kernel_rfl) (len5 fun a0 a1 a2 a3 a4 S => by kernel_rfl) (by kernel_rfl) (by kernel_rfl) hw
theorem e_ClassDef_newc {x0 x1 : V} (hw : WB (cx w B) k (mtAt 112 0).scope [("self", x0), ("classes", x1)] (mtAt 112 0).body σ fun fl _ σ' => Q (retV fl) σ') : WCc (cx w B) (k + 1) (.glob 1025) [x0, x1] σ Q :=
  WCc_in ["self", "classes"] rfl (by kernel_rfl) (by kernel_rfl) (by kernel_rfl) (len2 fun a0 a1 S => by kernel_rfl) (by kernel_rfl) (by kernel_rfl) hw
theorem e_ClassDef_class_of {x0 x1 : V} (hw : WB (cx w B) k (mtAt 112 1).scope [("self", x0), ("glyph", x1)] (mtAt 112 1).body σ fun fl _ σ' => Q (retV fl) σ') : WC (cx w B) (k + 1) (.glob 1032) [x0, x1] σ Q :=
  WC_in ["self", "glyph"] rfl (by kernel_rfl) (by kernel_rfl) (by kernel_rfl) (len2 fun a0 a1 S => by kernel_rfl) (by kernel_rfl) (by kernel_rfl) hw
theorem e_Gdef_newc {x0 x1 x2 x3 x4 x5 : V} (hw : WB (cx w B) k (mtAt 117 0).scope [("self", x0), ("classes", x1), ("attach", x2), ("sets", x3), ("points", x4), ("carets", x5)] (mtAt 117 0).body σ fun fl _ σ' => Q (retV fl) σ') : WCc (cx w B) (k + 1) (.glob 1073) [x0, x1, x2, x3, x4, x5] σ Q :=
  WCc_in ["self", "classes", "attach", "sets", "points", "carets"] rfl (by kernel_rfl) (by kernel_rfl) (by kernel_rfl) (len6 fun a0 a1 a2 a3 a4 a5 S => by kernel_rfl) (by kernel_rfl) (by kernel_rfl) hw
theorem e_Gdef_new3c {x0 x1 x2 x3 : V} (hw : WB (cx w B) k (mtAt 117 0).scope [("self", x0), ("classes", x1), ("attach", x2), ("sets", x3), ("points", .none), ("carets", .none)] (mtAt 117 0).body σ fun fl _ σ' => Q (retV fl) σ') : WCc (cx w B) (k + 1) (.glob 1073) [x0, x1, x2, x3] σ Q :=
  WCc_ind (xs := [x0, x1, x2, x3]) ["self", "classes", "attach", "sets"] [("points", (.none : Value)), ("carets", (.none : Value))] [("points", (.none : V)), ("carets", (.none : V))] rfl (fun z => ⟨_, _, rfl, VR_none.mpr rfl, ⟨_, _, rfl, VR_none.mpr rfl, rfl⟩⟩) (by kernel_rfl) (by kernel_rfl) (by kernel_rfl) (len4 fun a0 a1 a2 a3 S => by kernel_rfl) (by kernel_rfl) (by kernel_rfl) hw
theorem e_Gdef_glyph_class {x0 x1 : V} (hw : WB (cx w B) k (mtAt 117 1).scope [("self", x0), ("glyph", x1)] (mtAt 117 1).body σ fun fl _ σ' => Q (retV fl) σ') : WC (cx w B) (k + 1) (.glob 1080) [x0, x1] σ Q :=
  WC_in ["self", "glyph"] rfl (by kernel_rfl) (by kernel_rfl) (by kernel_rfl) (len2 fun a0 a1 S => by kernel_rfl) (by kernel_rfl) (by kernel_rfl) hw
theorem e_law_pen {x0 : V} (hw : WB (cx w B) k (fnAt 119).scope [("script", x0)] (fnAt 119).body σ fun fl _ σ' => Q (retV fl) σ') : WC (cx w B) (k + 1) (.glob 1111) [x0] σ Q :=
  WC_in ["script"] rfl (by kernel_rfl) (by kernel_rfl) (by kernel_rfl) (len1 fun a0 S => by kernel_rfl) (by kernel_rfl) (by kernel_rfl) hw
theorem e_law_draw {x0 x1 : V} (hw : WB (cx w B) k (fnAt 120).scope [("pen", x0), ("many", x1)] (fnAt 120).body σ fun fl _ σ' => Q (retV fl) σ') : WC (cx w B) (k + 1) (.glob 1118) [x0, x1] σ Q :=
  WC_in ["pen", "many"] rfl (by kernel_rfl) (by kernel_rfl) (by kernel_rfl) (len2 fun a0 a1 S => by kernel_rfl) (by kernel_rfl) (by kernel_rfl) hw
theorem e_law_pick {x0 x1 : V} (hw : WB (cx w B) k (fnAt 121).scope [("pen", x0), ("some", x1)] (fnAt 121).body σ fun fl _ σ' => Q (retV fl) σ') : WC (cx w B) (k + 1) (.glob 1125) [x0, x1] σ Q :=
  WC_in ["pen", "some"] rfl (by kernel_rfl) (by kernel_rfl) (by kernel_rfl) (len2 fun a0 a1 S => by kernel_rfl) (by kernel_rfl) (by kernel_rfl) hw
theorem e_law_some {x0 : V} (hw : WB (cx w B) k (fnAt 122).scope [("pen", x0)] (fnAt 122).body σ fun fl _ σ' => Q (retV fl) σ') : WC (cx w B) (k + 1) (.glob 1130) [x0] σ Q :=
  WC_in ["pen"] rfl (by kernel_rfl) (by kernel_rfl) (by kernel_rfl) (len1 fun a0 S => by kernel_rfl) (by kernel_rfl) (by kernel_rfl) hw
theorem e_law_row {x0 : V} (hw : WB (cx w B) k (fnAt 123).scope [("pen", x0)] (fnAt 123).body σ fun fl _ σ' => Q (retV fl) σ') : WC (cx w B) (k + 1) (.glob 1137) [x0] σ Q :=
  WC_in ["pen"] rfl (by kernel_rfl) (by kernel_rfl) (by kernel_rfl) (len1 fun a0 S => by kernel_rfl) (by kernel_rfl) (by kernel_rfl) hw
theorem e_law_marks {x0 : V} (hw : WB (cx w B) k (fnAt 124).scope [("pen", x0)] (fnAt 124).body σ fun fl _ σ' => Q (retV fl) σ') : WC (cx w B) (k + 1) (.glob 1142) [x0] σ Q :=
  WC_in ["pen"] rfl (by kernel_rfl) (by kernel_rfl) (by kernel_rfl) (len1 fun a0 S => by kernel_rfl) (by kernel_rfl) (by kernel_rfl) hw
theorem e_law_table {x0 x1 : V} (hw : WB (cx w B) k (fnAt 125).scope [("pen", x0), ("kind", x1)] (fnAt 125).body σ fun fl _ σ' => Q (retV fl) σ') : WC (cx w B) (k + 1) (.glob 1147) [x0, x1] σ Q :=
  WC_in ["pen", "kind"] rfl (by kernel_rfl) (by kernel_rfl) (by kernel_rfl) (len2 fun a0 a1 S => by kernel_rfl) (by kernel_rfl) (by kernel_rfl) hw
theorem e_law_told {x0 : V} (hw : WB (cx w B) k (fnAt 126).scope [("buffer", x0)] (fnAt 126).body σ fun fl _ σ' => Q (retV fl) σ') : WC (cx w B) (k + 1) (.glob 1152) [x0] σ Q :=
  WC_in ["buffer"] rfl (by kernel_rfl) (by kernel_rfl) (by kernel_rfl) (len1 fun a0 S => by kernel_rfl) (by kernel_rfl) (by kernel_rfl) hw
theorem e_law {x0 : V} (hw : WB (cx w B) k (fnAt 127).scope [("script", x0)] (fnAt 127).body σ fun fl _ σ' => Q (retV fl) σ') : WC (cx w B) (k + 1) (.glob 1157) [x0] σ Q :=
  WC_in ["script"] rfl (by kernel_rfl) (by kernel_rfl) (by kernel_rfl) (len1 fun a0 S => by kernel_rfl) (by kernel_rfl) (by kernel_rfl) hw
end Mine
end
section
namespace Mine
inductive CV where
  | gl (a : Addr)
  | it (i : Int) (t : Nat)
  | st (x : Str) (t : Nat)
noncomputable def CV.v : CV → V
  | .gl a => .glob a
  | .it i _ => .int i
  | .st x _ => .str x
noncomputable def CV.val : CV → Value
  | .gl a => .ref a
  | .it i t => .int i t
  | .st x t => .str x t
inductive BV where
  | b
  | t
noncomputable def BV.v (x : String) : BV → V
  | .b => .bi x
  | .t => .ty x
noncomputable abbrev cg (x : String) (a : Addr) : Str × CV := (Str.ofString x, .gl a)
noncomputable abbrev ci (x : String) (i : Int) (t : Nat) : Str × CV := (Str.ofString x, .it i t)
noncomputable abbrev cs (x y : String) (t : Nat) : Str × CV := (Str.ofString x, .st (Str.ofString y) t)
noncomputable abbrev cb (x : String) (b : BV) : Str × String × BV := (Str.ofString x, x, b)
noncomputable def cT : List (Str × CV) := [cg "Lookup" 43, cg "Scene" 65, cg "attach_wanted" 76, cg "class_bit" 83, cg "is_ignored" 90, cg "passes" 97, cg "nested_scene" 104, cg "Info" 135, cg "Buffer" 188, cg "hang" 197, cg "fits" 206, cg "neighbour" 213, cg "next_at" 220, cg "before_at" 227, cg "is_borne" 234, cg "found_at" 241, cg "input_at" 248, cg "last_at" 255, cg "ahead_at" 262, cg "back_at" 269, cg "Anchor" 293, cg "told_anchor" 304, cg "difference" 311, cg "told_marks" 316, cg "Cursive" 357, cg "join_forward" 368, cg "join_backward" 375, cg "loosen" 382, cg "turn_chain" 389, cg "break_ring" 396, cg "tie" 403, cg "apply_cursive" 410, cg "classes_of" 415, cg "told_row" 714, cg "told_row_marks" 420, cg "has_anchor" 425, cg "told_by_glyph" 432, cg "MarkBase" 456, cg "MarkComponent" 482, cg "MarkMark" 510, cg "scene_with" 521, cg "is_mark_at" 528, cg "is_later_part" 535, cg "base_ahead" 542, cg "set_on" 549, cg "apply_base" 556, cg "component_of" 563, cg "apply_component" 570, cg "are_of_one" 577, cg "apply_mark" 584, cg "Coverage" 622, cg "coverage_of" 633, cg "Rule" 664, cg "Contexts" 705, cg "told_row_contexts" 714, cg "tests_of" 719, cg "rule_tests" 726, cg "rules_at" 731, cg "Places" 748, cg "match_rule" 759, cg "inner_scene" 766, cg "grow" 771, cg "shrink" 776, cg "move" 783, cg "do_action" 790, cg "do_actions" 797, cg "apply_context" 804, cg "Value" 835, cg "add_value" 846, cg "Adjust" 868, cg "apply_adjust" 879, cg "pair_told" 886, cg "moves_second" 891, cg "PairGlyphs" 921, cg "PairClasses" 953, cg "has_second" 964, cg "apply_pair" 971, cg "apply_position" 978, cg "position_at" 985, cg "beginnings_of_context" 992, cg "beginnings_of_pair" 997, cg "beginnings" 1004, cg "run_position" 1011, cg "ClassDef" 1054, cg "Gdef" 1102, cg "_law_pen" 1111, cg "_law_draw" 1118, cg "_law_pick" 1125, cg "_law_some" 1130, cg "_law_row" 1137, cg "_law_marks" 1142, cg "_law_table" 1147, cg "_law_told" 1152, cg "law" 1157, ci "IGNORE_BASES" 2 198, ci "IGNORE_LIGATURES" 4 200, ci "IGNORE_MARKS" 8 202, ci "USE_SET" 16 204, ci "RIGHT_TO_LEFT" 1 196, ci "MARK_GLYPH" 3 773, ci "NO_CLASS" 0 1719, ci "BASE" 1 1721, ci "COMPONENT" 4 1723, ci "BY_GLYPHS" 1 1090, ci "BY_CLASSES" 2 1092, ci "MOST_DEPTH" 6 1236, ci "MOST_ACTIONS" 256 1240, cs "BOND" "cursive" 635]
noncomputable def bT : List (Str × String × BV) := [cb "len" .b, cb "sorted" .b, cb "max" .b, cb "min" .b, cb "abs" .b, cb "sum" .b, cb "isinstance" .b, cb "range" .t, cb "set" .t, cb "list" .t, cb "tuple" .t, cb "dict" .t, cb "int" .t]
noncomputable def aT : List (Addr × List Str) := [(43, ["flag", "kind", "mark_set", "tables"]), (65, ["buffer", "depth", "gdef", "lookup", "lookups", "mask", "steps"]), (135, ["bond", "cluster", "code", "glyph", "is_unsafe", "kind", "lig_count", "lig_id", "lig_part", "mask", "parent", "split_id", "x_advance", "x_offset", "y_advance", "y_offset"]), (188, ["is_backward", "last_lig", "last_split", "row"]), (293, ["x", "y"]), (357, ["ends"]), (456, ["bases", "marks"]), (482, ["ligatures", "marks"]), (510, ["marks", "others"]), (622, ["glyphs"]), (664, ["actions", "ahead", "back", "inside"]), (705, ["classes", "coverage", "form", "is_chained", "sets"]), (748, ["end", "row"]), (835, ["x_advance", "x_offset", "y_advance", "y_offset"]), (868, ["values"]), (921, ["is_second", "pairs"]), (1054, ["classes"]), (1102, ["attach", "carets", "classes", "points", "sets"])]
noncomputable def getAll (K : Frag) (C : Addr) : List Str → Bool
  | [] => true
  | n :: r => getOk K C n && getAll K C r
noncomputable def setAll (K : Frag) (C : Addr) : List Str → Bool
  | [] => true
  | n :: r => setOk K C n && setAll K C r
theorem getOf {K : Frag} {C : Addr} {n : Str} : ∀ {l : List Str}, getAll K C l = true → l.contains n = true → getOk K C n = true
  | [], _, h => by cases h
  | m :: r, g, h => by
    simp only [getAll, Bool.and_eq_true] at g
    rw [List.contains_cons, Bool.or_eq_true] at h
    rcases h with h | h
    · rw [beq_iff_eq.mp h]; exact g.1
    · exact getOf g.2 h
theorem setOf {K : Frag} {C : Addr} {n : Str} : ∀ {l : List Str}, setAll K C l = true → l.contains n = true → setOk K C n = true
  | [], _, h => by cases h
  | m :: r, g, h => by
    simp only [setAll, Bool.and_eq_true] at g
    rw [List.contains_cons, Bool.or_eq_true] at h
    rcases h with h | h
    · rw [beq_iff_eq.mp h]; exact g.1
    · exact setOf g.2 h
noncomputable def dbg (x : Str) : Bool := x == ("__debug__" : Str) || x == ("__classdict__" : Str)
noncomputable def nameV (sc : Scope) (ρ : Loc) (x : Str) : Option V :=
  match dbg x with
  | true => none
  | false => match sc.names.lookup x with
    | some .local => ρ.lookup x
    | some .cell => ρ.lookup x
    | some .free => ρ.lookup x
    | some .globalImplicit => match cT.lookup x with
      | some v => some v.v
      | none => none
    | _ => none
noncomputable def callV (sc : Scope) (x : Str) : Option V :=
  match dbg x with
  | true => none
  | false => match sc.names.lookup x with
    | some .globalImplicit => match bT.lookup x with
      | some b => some (b.2.v b.1)
      | none => match cT.lookup x with
        | some (.gl a) => some (.glob a)
        | _ => none
    | _ => none
theorem VR_cv {c : Cx} {z : Heap} (v : CV) : VR c z v.v v.val := by
  cases v with
  | gl a => exact VR_glob.mpr rfl
  | it i t => exact VR_int.mpr ⟨t, rfl⟩
  | st x t => exact VR_str.mpr ⟨t, rfl⟩
noncomputable def cOk (K : Frag) (p : Str × CV) : Bool := nsIn K mainGlobals p.1 == some (some p.2.val) && (match p.2 with | .gl a => keepIn K (.ref a) | _ => true)
noncomputable def bOk (K : Frag) (p : Str × String × BV) : Bool := nsIn K mainGlobals p.1 == some none && (match p.2.2 with | .b => bootBuiltins p.1 == some (.builtin p.2.1) | .t => bootBuiltins p.1 == some (.type p.2.1)) && !(p.1 == ("__name__" : Str))
noncomputable def aOk (K : Frag) (p : Addr × List Str) : Bool := getAll K p.1 p.2
theorem cT_ok (P : Params) : cT.all (cOk (myK P)) = true := by kernel_rfl
theorem bT_ok (P : Params) : bT.all (bOk (myK P)) = true := by kernel_rfl
theorem aT_ok (P : Params) : aT.all (aOk (myK P)) = true := by kernel_rfl
theorem lookup_all {α β : Type} [BEq α] [LawfulBEq α] {l : List (α × β)} {f : α × β → Bool} (h : l.all f = true) {x : α} {y : β} (e : l.lookup x = some y) : f (x, y) = true := by
  induction l with
  | nil => cases e
  | cons p r ih =>
    obtain ⟨a, b⟩ := p
    rw [List.all_cons, Bool.and_eq_true] at h
    by_cases q : (x == a) = true
    · have := beq_iff_eq.mp q
      subst this
      simp only [List.lookup, beq_self_eq_true, Option.some.injEq] at e
      subst e; exact h.1
    · simp only [List.lookup, q] at e
      exact ih h.2 e
noncomputable def okBase (e : Expr) : Bool := inR 1 3 (eCode e)
noncomputable def okSub (e : Expr) : Bool := !Nat.beq (eCode e) 6
noncomputable def okTru (e : Expr) : Bool := inR 1 4 (eCode e)
noncomputable def okVal (e : Expr) : Bool := !inR 7 9 (eCode e)
noncomputable def okTup (e : Expr) : Bool := Nat.beq (eCode e) 5
noncomputable def okTgt (t v : Expr) : Bool := inR 1 3 (eCode t) || (okTup t && !okTup v)
noncomputable def vAt (c : Cx) (ov : V) (a : Str) (σ : Sto) (K : V → Prop) : Prop :=
  match ov with
  | .inst cl fs => match aT.lookup cl with
    | some ns => match ns.contains a with
      | true => match fs.lookup a with
        | some x => match canIs x with
          | true => K x
          | false => AtE c ov a σ K
        | none => AtE c ov a σ K
      | false => AtE c ov a σ K
    | none => AtE c ov a σ K
  | _ => AtE c ov a σ K
noncomputable def vCmpI (K : Bool → Prop) (i j : Int) (e : Prop) : CmpOp → Prop
  | .Eq => K (i == j)
  | .NotEq => K (i != j)
  | .Lt => K (decide (i < j))
  | .LtE => K (decide (i ≤ j))
  | .Gt => K (decide (i > j))
  | .GtE => K (decide (i ≥ j))
  | _ => e
noncomputable def vCmp (c : Cx) (op : CmpOp) (a b : V) (σ : Sto) (K : Bool → Prop) : Prop :=
  match a with
  | .int i => match b with
    | .int j => vCmpI K i j (CmpP c op a b σ K) op
    | _ => CmpP c op a b σ K
  | _ => CmpP c op a b σ K
noncomputable def vTru (c : Cx) (v : V) (σ : Sto) (K : Bool → Prop) : Prop :=
  match v with
  | .bool b => K b
  | .int i => K (i != 0)
  | .none => K false
  | _ => TruP c v σ K
noncomputable def nx (W : Loc → Sto → Prop) (QS : Fl → Loc → Sto → Prop) (fl : Fl) (ρ : Loc) (σ : Sto) : Prop :=
  match fl with
  | .next => W ρ σ
  | fl => QS fl ρ σ
noncomputable abbrev PE := Expr → Loc → Sto → (V → Sto → Prop) → Prop
noncomputable abbrev PEs := List Expr → Loc → Sto → (List V → Sto → Prop) → Prop
noncomputable abbrev PT := Expr → Loc → Sto → (Bool → Sto → Prop) → Prop
structure VF where
  E : PE
  Es : PEs
  T : PT
noncomputable def vAn (o : Option NameKind) (A B : Prop) : Prop := match o with
  | some .local => A
  | some .cell => A
  | _ => B
section
variable (c : Cx) (k : Nat) (sc : Scope) (F : VF)
noncomputable def oElse {α : Type} (o : Option α) (P : Prop) (f : α → Prop) : Prop :=
  match o with
  | some v => f v
  | none => P
noncomputable def bElse (b : Bool) (P q : Prop) : Prop :=
  match b with
  | true => q
  | false => P
noncomputable def sConst (P : Prop) (x : Const) (σ : Sto) (Q : V → Sto → Prop) : Prop :=
  match x with
  | .int i => Q (.int i) σ
  | .str x => Q (.str x) σ
  | .bool b => Q (.bool b) σ
  | .none => Q .none σ
  | _ => P
noncomputable def sUn (op : UnaryOp) (o : Expr) (ρ : Loc) (σ : Sto) (Q : V → Sto → Prop) : Prop :=
  match op with
  | .Not => F.E o ρ σ fun v σ₁ => vTru c v σ₁ fun b => Q (.bool (!b)) σ₁
  | op => F.E o ρ σ fun a σ₁ => UnS op a fun x => Q x σ₁
noncomputable def sCmp (P : Prop) (l : Expr) (ops : List CmpOp) (rs : List Expr) (ρ : Loc) (σ : Sto) (Q : V → Sto → Prop) : Prop :=
  match ops, rs with
  | [op], [r] => bElse (!behindInMarks op r) P (F.E l ρ σ fun a σ₁ => F.E r ρ σ₁ fun b σ₂ => vCmp c op a b σ₂ fun t => Q (.bool t) σ₂)
  | _, _ => P
noncomputable def sBool (P : Prop) (op : BoolOp) (es : List Expr) (p : Pos) (ρ : Loc) (σ : Sto) (Q : V → Sto → Prop) : Prop :=
  match es with
  | [] => P
  | a :: r => match r with
    | [] => F.E a ρ σ Q
    | b :: r => match op with
      | .And => F.E a ρ σ fun v σ₁ => vTru c v σ₁ fun t => (t = true → F.E (.BoolOp .And (b :: r) p) ρ σ₁ Q) ∧ (t = false → Q v σ₁)
      | .Or => F.E a ρ σ fun v σ₁ => vTru c v σ₁ fun t => (t = false → F.E (.BoolOp .Or (b :: r) p) ρ σ₁ Q) ∧ (t = true → Q v σ₁)
noncomputable def sCall (P : Prop) (f : Expr) (as : List Expr) (ks : List Keyword) (p : Pos) (ρ : Loc) (σ : Sto) (Q : V → Sto → Prop) : Prop :=
  match ks with
  | _ :: _ => P
  | [] => match f with
    | .Name f _ => match as with
      | [] => P
      | a :: r => bElse (noStars (a :: r)) P (oElse (callV sc f) P fun y => F.Es (a :: r) ρ σ fun xs σ₂ => WC c k y xs σ₂ Q)
    | .Attribute o a ap => match as with
      | [] => bElse (okBase o && (ap.endLine == p.line)) P (F.E o ρ σ fun ov σ₁ => ∃ f, MetP c ov a σ₁ f ∧ KeepV c f = true ∧ WC c k f [ov] σ₁ Q)
      | x :: r => bElse (okBase o && (ap.endLine == p.line) && noStars (x :: r) && decide ((x :: r).length < 29)) P
          (F.E o ρ σ fun ov σ₁ => ∃ f, MetP c ov a σ₁ f ∧ KeepV c f = true ∧ F.Es (x :: r) ρ σ₁ fun xs σ₂ => WC c k f (ov :: xs) σ₂ Q)
    | _ => P
noncomputable def stE : PE := fun e ρ σ Q => match e with
  | .Name x _ => oElse (nameV sc ρ x) (WE c k sc ρ e σ Q) fun v => Q v σ
  | .Constant x _ _ => sConst (WE c k sc ρ e σ Q) x σ Q
  | .Attribute o a _ => bElse (okBase o) (WE c k sc ρ e σ Q) (F.E o ρ σ fun ov σ₁ => vAt c ov a σ₁ fun x => Q x σ₁)
  | .BinOp l op r _ => F.E l ρ σ fun a σ₁ => F.E r ρ σ₁ fun b σ₂ => BinS op a b fun x => Q x σ₂
  | .UnaryOp op o _ => sUn c F op o ρ σ Q
  | .Tuple es _ _ => F.Es es ρ σ fun xs σ₁ => xs.length ≤ 16777216 ∧ Q (.tup xs) σ₁
  | .List es _ => F.Es es ρ σ fun xs σ₁ => xs.length ≤ 16777216 ∧ Q (.lst xs) σ₁
  | .Subscript v s _ => bElse (okSub s) (WE c k sc ρ e σ Q) (F.E v ρ σ fun ov σ₁ => F.E s ρ σ₁ fun iv σ₂ => ∃ x, IxP c ov iv σ₂ x ∧ Q x σ₂)
  | .IfExp t a b _ => F.T t ρ σ fun r σ₁ => (r = true → F.E a ρ σ₁ Q) ∧ (r = false → F.E b ρ σ₁ Q)
  | .Compare l ops rs _ => sCmp c F (WE c k sc ρ e σ Q) l ops rs ρ σ Q
  | .BoolOp op es p => sBool c F (WE c k sc ρ e σ Q) op es p ρ σ Q
  | .Call f as ks p => sCall c k sc F (WE c k sc ρ e σ Q) f as ks p ρ σ Q
  | _ => WE c k sc ρ e σ Q
noncomputable def stEs : PEs := fun es ρ σ Q => match es with
  | [] => Q [] σ
  | e :: r => bElse (noStars (e :: r)) (WEs c k sc ρ (e :: r) σ Q) (F.E e ρ σ fun x σ₁ => F.Es r ρ σ₁ fun xs σ₂ => Q (x :: xs) σ₂)
noncomputable def sBoolT (op : BoolOp) (es : List Expr) (p : Pos) (ρ : Loc) (σ : Sto) (Q : Bool → Sto → Prop) : Prop :=
  match es with
  | [] => match op with
    | .And => Q true σ
    | .Or => Q false σ
  | a :: r => match op with
    | .And => F.T a ρ σ fun b σ₁ => (b = true → F.T (.BoolOp .And r p) ρ σ₁ Q) ∧ (b = false → Q false σ₁)
    | .Or => F.T a ρ σ fun b σ₁ => (b = false → F.T (.BoolOp .Or r p) ρ σ₁ Q) ∧ (b = true → Q true σ₁)
noncomputable def sCmpT (P : Prop) (l : Expr) (ops : List CmpOp) (rs : List Expr) (ρ : Loc) (σ : Sto) (Q : Bool → Sto → Prop) : Prop :=
  match ops, rs with
  | [op], [r] => bElse (!behindInMarks op r) P (F.E l ρ σ fun a σ₁ => F.E r ρ σ₁ fun b σ₂ => vCmp c op a b σ₂ fun t => Q t σ₂)
  | [o1, o2], [r1, r2] => bElse (!behindInMarks o2 r2) P (F.E l ρ σ fun a σ₁ => F.E r1 ρ σ₁ fun b σ₂ => vCmp c o1 a b σ₂ fun t => (t = false → Q false σ₂) ∧ (t = true → F.E r2 ρ σ₂ fun d σ₃ => vCmp c o2 b d σ₃ fun t => Q t σ₃))
  | _, _ => P
noncomputable def sUnT (P : Prop) (op : UnaryOp) (o : Expr) (ρ : Loc) (σ : Sto) (Q : Bool → Sto → Prop) : Prop :=
  match op with
  | .Not => F.T o ρ σ fun b σ₁ => Q (!b) σ₁
  | _ => P
noncomputable def stT : PT := fun e ρ σ Q => match e with
  | .UnaryOp op o _ => sUnT F (WT c k sc ρ e σ Q) op o ρ σ Q
  | .BoolOp op es p => sBoolT F op es p ρ σ Q
  | .Compare l ops rs _ => sCmpT c F (WT c k sc ρ e σ Q) l ops rs ρ σ Q
  | e => bElse (okTru e) (WT c k sc ρ e σ Q) (F.E e ρ σ fun v σ₁ => vTru c v σ₁ fun b => Q b σ₁)
noncomputable def vF : Nat → VF
  | 0 => ⟨fun e ρ σ Q => WE c k sc ρ e σ Q, fun es ρ σ Q => WEs c k sc ρ es σ Q, fun e ρ σ Q => WT c k sc ρ e σ Q⟩
  | n + 1 => ⟨stE c k sc (vF n), stEs c k sc (vF n), stT c k sc (vF n)⟩
noncomputable def vA (t : Expr) (x : V) (ρ : Loc) (σ : Sto) (Q : Loc → Sto → Prop) : Prop :=
  match t with
  | .Name n _ => vAn (sc.names.lookup n) (Q (putF n x ρ) σ) (WA c k sc ρ t x σ Q)
  | _ => WA c k sc ρ t x σ Q
end
noncomputable abbrev PB := List Stmt → Loc → Sto → (Fl → Loc → Sto → Prop) → Prop
noncomputable def sAsg (c : Cx) (k : Nat) (sc : Scope) (P : Prop) (ts : List Expr) (v : Expr) (ρ : Loc) (σ : Sto) (Q : Fl → Loc → Sto → Prop) : Prop :=
  match ts with
  | [t] => bElse (okVal v && okTgt t v) P ((vF c k sc 40).E v ρ σ fun x σ₁ => vA c k sc t x ρ σ₁ fun ρ₁ σ₂ => Q .next ρ₁ σ₂)
  | _ => P
noncomputable def vS (c : Cx) (k : Nat) (sc : Scope) (G : PB) (s : Stmt) (ρ : Loc) (σ : Sto) (Q : Fl → Loc → Sto → Prop) : Prop :=
  match s with
  | .Return e _ => match e with
    | some e => (vF c k sc 40).E e ρ σ fun x σ₁ => Q (.ret x) ρ σ₁
    | none => Q (.ret .none) ρ σ
  | .If t a b _ => (vF c k sc 40).T t ρ σ fun r σ₁ => (r = true → G a ρ σ₁ Q) ∧ (r = false → G b ρ σ₁ Q)
  | .Assign ts v _ => sAsg c k sc (WS c k sc ρ s σ Q) ts v ρ σ Q
  | .Expr e _ => match e with
    | .Call f as ks cp => (vF c k sc 40).E (.Call f as ks cp) ρ σ fun x σ₁ => x = .none ∧ Q .next ρ σ₁
    | _ => WS c k sc ρ s σ Q
  | _ => WS c k sc ρ s σ Q
noncomputable def vB (c : Cx) (k : Nat) (sc : Scope) : Nat → PB
  | 0, b, ρ, σ, Q => WB c k sc ρ b σ Q
  | n + 1, b, ρ, σ, Q => match b with
    | [] => Q .next ρ σ
    | s :: r => vS c k sc (vB c k sc n) s ρ σ (nx (fun ρ₁ σ₁ => vB c k sc n r ρ₁ σ₁ Q) Q)
end Mine
end
section
namespace Mine
variable {w : World} {B : Heap} {k : Nat} {sc : Scope} {ρ : Loc} {σ : Sto}
theorem base_ok {o : Expr} {a : Str} (h : okBase o = true) : ∀ env whole, attributeBase o a env whole = whole := fun env whole => by
  cases o <;> first | rfl | (exact absurd h (by decide)) | cases h
theorem sEach_cons {e : Expr} {r : List Expr} {env : Env} (h : isStar e = false) : starEach (e :: r) env = (false, eval e env) :: starEach r env := by
  cases e <;> first | rfl | cases h
theorem stars_ok : ∀ {r : List Expr}, noStars r = true → ∀ env, starEach r env = r.map fun e => (false, eval e env)
  | [], _, _ => rfl
  | _ :: _, h, env => (sEach_cons (noStars_cons h).1).trans (congrArg _ (stars_ok (noStars_cons h).2 env))
theorem noStars_tail {e : Expr} {r : List Expr} (h : noStars (e :: r) = true) : noStars r = true := (noStars_cons h).2
theorem star_he {e : Expr} {r : List Expr} (h : noStars (e :: r) = true) (env : Env) : starEach (e :: r) env = (false, eval e env) :: starEach r env := sEach_cons (noStars_cons h).1
theorem back_any {p : Pos} {env : Env} {r : List Expr} (h : noStars r = true) : (backTo p (starEach r env)).any (·.1) = false := by
  rw [stars_ok h]
  unfold backTo
  rw [List.map_map, List.any_map, List.any_eq_false]
  intro x _
  simp
theorem form_ok {p : Pos} {env : Env} {r : List Expr} (h : noStars r = true) (hl : r.length < 29) : methodCallForm (r.length + 0) (backTo p (starEach r env)) [] = true := by
  unfold methodCallForm
  rw [stars_ok h]
  unfold backTo
  rw [List.map_map]
  simp only [List.all_map, List.all_nil, Bool.and_true, Bool.and_eq_true, List.all_eq_true, decide_eq_true_eq, List.isEmpty_nil]
  exact ⟨fun x _ => rfl, by simp; lia⟩
theorem dbg1 {x : Str} (h : dbg x = false) : (x == ("__debug__" : Str)) = false := (Bool.or_eq_false_iff.mp h).1
theorem dbg2 {x : Str} (h : dbg x = false) : (x == ("__classdict__" : Str)) = false := (Bool.or_eq_false_iff.mp h).2
theorem nameV_ok {x : Str} {pos : Pos} {v : V} {Q : V → Sto → Prop} (h : nameV sc ρ x = some v) (q : Q v σ) : WE (cx w B) k sc ρ (.Name x pos) σ Q := by
  unfold nameV at h
  cases hd : dbg x with
  | true => rw [hd] at h; cases h
  | false =>
    have hd := dbg1 hd
    have hd2 := dbg2 ‹dbg x = false›
    rw [‹dbg x = false›] at h
    dsimp only at h
    cases hk : sc.names.lookup x with
    | none => rw [hk] at h; cases h
    | some kd =>
      rw [hk] at h
      cases kd with
      | «local» => exact WE_local hk h q hd
      | cell => exact WE_cell hk h q hd
      | free => exact WE_free hk h q hd hd2
      | globalExplicit => cases h
      | globalImplicit =>
        dsimp only at h
        cases hc : cT.lookup x with
        | none => rw [hc] at h; cases h
        | some cv =>
          rw [hc] at h
          cases h
          have ok := lookup_all (cT_ok w.params) hc
          unfold cOk at ok
          rw [Bool.and_eq_true] at ok
          exact WE_globV hk (beq_iff_eq.mp ok.1) (fun z _ => VR_cv cv) q hd
theorem callV_ok {f : Str} {np pos : Pos} {y : V} {a : Expr} {r : List Expr} {Q : V → Sto → Prop} (h : callV sc f = some y) (hs : noStars (a :: r) = true) (q : WEs (cx w B) k sc ρ (a :: r) σ fun xs σ₂ => WC (cx w B) k y xs σ₂ Q) : WE (cx w B) k sc ρ (.Call (.Name f np) (a :: r) [] pos) σ Q := by
  unfold callV at h
  cases hd : dbg f with
  | true => rw [hd] at h; cases h
  | false =>
    rw [hd] at h
    have hd := dbg1 hd
    dsimp only at h
    cases hk : sc.names.lookup f with
    | none => rw [hk] at h; cases h
    | some kd =>
      rw [hk] at h
      have hkg : kd = .globalImplicit := by cases kd <;> first | rfl | cases h
      subst hkg
      dsimp only at h
      cases hb : bT.lookup f with
      | some b =>
        rw [hb] at h
        obtain ⟨nm, bv⟩ := b
        have ok := lookup_all (bT_ok w.params) hb
        unfold bOk at ok
        rw [Bool.and_eq_true, Bool.and_eq_true] at ok
        obtain ⟨⟨o1, o2⟩, o3⟩ := ok
        have hn : f ≠ "__name__" := fun e => by rw [show (f == ("__name__" : Str)) = true from by rw [e]; exact beq_self_eq_true _] at o3; cases o3
        have o1 := beq_iff_eq.mp o1
        cases bv with
        | b =>
          cases h
          exact WE_call (WE_builtin hk o1 (beq_iff_eq.mp o2) (fun z => VR_bi.mpr rfl) ⟨rfl, q⟩ hn hd) (star_he hs) (fun env => back_any (noStars_tail hs))
        | t =>
          cases h
          exact WE_call (WE_builtin hk o1 (beq_iff_eq.mp o2) (fun z => VR_ty.mpr rfl) ⟨rfl, q⟩ hn hd) (star_he hs) (fun env => back_any (noStars_tail hs))
      | none =>
        rw [hb] at h
        dsimp only at h
        cases hc : cT.lookup f with
        | none => rw [hc] at h; cases h
        | some cv =>
          rw [hc] at h
          have ok := lookup_all (cT_ok w.params) hc
          unfold cOk at ok
          rw [Bool.and_eq_true] at ok
          cases cv with
          | gl b =>
            cases h
            exact WE_call (WE_glob hk (beq_iff_eq.mp ok.1) ⟨ok.2, q⟩ hd) (star_he hs) (fun env => back_any (noStars_tail hs))
          | it i t => cases h
          | st x t => cases h
theorem vAt_ok {ov : V} {a : Str} {K : V → Prop} (h : vAt (cx w B) ov a σ K) : AtE (cx w B) ov a σ K := by
  cases ov <;> try exact h
  rename_i cl fs
  unfold vAt at h
  dsimp only at h
  cases hns : aT.lookup cl with
  | none => rw [hns] at h; exact h
  | some ns =>
    rw [hns] at h
    dsimp only at h
    cases hc : ns.contains a with
    | false => rw [hc] at h; exact h
    | true =>
      rw [hc] at h
      dsimp only at h
      cases hx : fs.lookup a with
      | none => rw [hx] at h; exact h
      | some x =>
        rw [hx] at h
        dsimp only at h
        cases hb : canIs x with
        | false => rw [hb] at h; exact h
        | true =>
          rw [hb] at h
          exact AtE_inst (getOf (lookup_all (aT_ok w.params) hns) hc) hx h hb
theorem vCmp_ok {c : Cx} {op : CmpOp} {a b : V} {K : Bool → Prop} (h : vCmp c op a b σ K) : CmpP c op a b σ K := by
  cases a <;> try exact h
  cases b <;> try exact h
  cases op <;> first
    | exact h
    | exact CmpP_eq h
    | exact CmpP_ne h
    | exact CmpP_lt h
    | exact CmpP_le h
    | exact CmpP_gt h
    | exact CmpP_ge h
theorem vTru_ok {c : Cx} {v : V} {K : Bool → Prop} (h : vTru c v σ K) : TruP c v σ K := by
  cases v with
  | bool b => exact TruP_bool h
  | int i => exact TruP_int h
  | none => exact TruP_none h
  | _ => exact h
theorem sub_ok {s : Expr} (h : okSub s = true) : ∀ o i, subscripted s false o i = operate [o, i] (getItem o i) := fun o i => by
  cases s <;> first | rfl | cases h
theorem tru_ok {e : Expr} (h : okTru e = true) : ∀ env whole, isTrue e env whole = (do let v ← whole; standAt e.pos; holding [v] (truthy v)) := fun env whole => by
  cases e <;> first | rfl | cases h
theorem vA_ok {c : Cx} {t : Expr} {x : V} {Q : Loc → Sto → Prop} (h : vA c k sc t x ρ σ Q) : WA c k sc ρ t x σ Q := by
  cases t with
  | Name n np =>
    replace h : vAn (sc.names.lookup n) _ _ := h
    cases hk : sc.names.lookup n with
    | none => rw [hk] at h; exact h
    | some kk =>
      rw [hk] at h
      cases kk with
      | «local» => exact WA_local hk h
      | cell => exact WA_cell hk h
      | _ => exact h
  | _ => exact h
theorem TruP.mono {c : Cx} {v : V} {K K' : Bool → Prop} (h : TruP c v σ K) (q : ∀ b, K b → K' b) : TruP c v σ K' := .mk fun G A z s va a I r => wpAny_mono (h.run G A z s va a I r) (fun b s' hp => hp.elim fun z' e h => ⟨z', e, q _ h⟩) fun _ _ y => y
theorem CmpP.mono {c : Cx} {op : CmpOp} {a b : V} {K K' : Bool → Prop} (h : CmpP c op a b σ K) (q : ∀ b, K b → K' b) : CmpP c op a b σ K' := .mk fun G A z s va vb ao I ra rb => wpAny_mono (h.run G A z s va vb ao I ra rb) (fun v s' hp => hp.elim fun z' t e r h => ⟨z', t, e, r, q _ h⟩) fun _ _ y => y
theorem WA.mono {c : Cx} {t : Expr} {x : V} {Q Q' : Loc → Sto → Prop} (h : WA c k sc ρ t x σ Q) (q : ∀ ρ' σ', Q ρ' σ' → Q' ρ' σ') : WA c k sc ρ t x σ Q' := .mk fun G A z s env v a b I F r =>
  wpAny_mono (h.run G A z s env v a b I F r) (fun _ s' hp => hp.elim fun z' σ' ρ' e F h => ⟨z', σ', ρ', e, F, q _ _ h⟩) fun _ _ y => y
theorem assign_ok {t v : Expr} {pos : Pos} {QS : Fl → Loc → Sto → Prop} {c : Cx} (h : (okVal v && okTgt t v) = true) (q : WE c k sc ρ v σ fun x σ₁ => WA c k sc ρ t x σ₁ fun ρ₁ σ₂ => QS .next ρ₁ σ₂) : WS c k sc ρ (.Assign [t] v pos) σ QS := by
  rw [Bool.and_eq_true] at h
  refine WS_assign q (fun env n b => ?_) (fun env => ?_) (fun env => ?_)
  · cases v <;> first | rfl | cases h.1
  · cases t <;> first | rfl | (cases v <;> first | rfl | cases h.2) | cases h.2
  · cases t <;> first | rfl | cases h.2
theorem oElse_ok {α : Type} {o : Option α} {P R : Prop} {f : α → Prop} (h : oElse o P f) (hp : P → R) (hf : ∀ v, o = some v → f v → R) : R := by
  cases o with
  | none => exact hp h
  | some v => exact hf v rfl h
theorem bElse_ok {b : Bool} {P q R : Prop} (h : bElse b P q) (hp : P → R) (hf : b = true → q → R) : R := by
  cases b with
  | false => exact hp h
  | true => exact hf rfl h
structure VOk (c : Cx) (k : Nat) (sc : Scope) (F : VF) : Prop where
  E : ∀ {e ρ σ Q}, F.E e ρ σ Q → WE c k sc ρ e σ Q
  Es : ∀ {es ρ σ Q}, F.Es es ρ σ Q → WEs c k sc ρ es σ Q
  T : ∀ {e ρ σ Q}, F.T e ρ σ Q → WT c k sc ρ e σ Q
section
variable {F : VF}
theorem stE_ok (H : VOk (cx w B) k sc F) {e : Expr} {Q : V → Sto → Prop} (h : stE (cx w B) k sc F e ρ σ Q) : WE (cx w B) k sc ρ e σ Q := by
  cases e with
  | Name x p => exact oElse_ok h id fun v hv q => nameV_ok hv q
  | Constant x n p => cases x <;> first | exact WE_int h | exact WE_str h | exact WE_bool h | exact WE_none h | exact h
  | Attribute o a p => exact bElse_ok h id fun hb q => WE_attr ((H.E q).mono fun ov σ₁ q => vAt_ok q) (base_ok hb)
  | BinOp l op r p => exact WE_bin ((H.E h).mono fun a σ₁ q => H.E q)
  | UnaryOp op o p => cases op <;> first | exact WE_not ((H.E h).mono fun a σ₁ q => vTru_ok q) | exact WE_un (H.E h)
  | Tuple es n p => exact WE_tuple (H.Es h)
  | List es p => exact WE_list (H.Es h)
  | Subscript v s p => exact bElse_ok h id fun hs q => WE_sub ((H.E q).mono fun a σ₁ q => H.E q) (sub_ok hs)
  | IfExp t a b p => exact WE_ifexp ((H.T h).mono fun b σ₁ q => ⟨fun e => H.E (q.1 e), fun e => H.E (q.2 e)⟩)
  | Compare l ops rs p =>
    match ops, rs, h with
    | [op], [r], h => exact bElse_ok h id fun hm q => WE_cmp ((H.E q).mono fun a σ₁ q => (H.E q).mono fun b σ₂ q => vCmp_ok q) (by cases hb : behindInMarks op r <;> rw [hb] at hm <;> first | rfl | cases hm)
    | [], _, h => exact h
    | [_], [], h => exact h
    | [_], _ :: _ :: _, h => exact h
    | _ :: _ :: _, _, h => exact h
  | BoolOp op es p =>
    match es, h with
    | [], h => exact h
    | [a], h => exact WE_bone (H.E h)
    | a :: b :: r, h =>
      cases op with
      | And => exact WE_and ((H.E h).mono fun v σ₁ q => (vTru_ok q).mono fun b q => ⟨fun e => H.E (q.1 e), q.2⟩)
      | Or => exact WE_or ((H.E h).mono fun v σ₁ q => (vTru_ok q).mono fun b q => ⟨fun e => H.E (q.1 e), q.2⟩)
  | Call f as ks p =>
    cases ks with
    | cons a b => exact h
    | nil =>
      cases f <;> try exact h
      case Name f np =>
        cases as with
        | nil => exact h
        | cons a r => exact bElse_ok h id fun hs q => oElse_ok q id fun y hc q => callV_ok hc hs (H.Es q)
      case Attribute o a ap =>
        cases as with
        | nil => exact bElse_ok h id fun hc q => WE_meth0 (H.E q) (base_ok (Bool.and_eq_true_iff.mp hc).1) (Bool.and_eq_true_iff.mp hc).2
        | cons x r =>
          refine bElse_ok h id fun hc q => ?_
          have h1 := Bool.and_eq_true_iff.mp hc
          have h2 := Bool.and_eq_true_iff.mp h1.1
          have h3 := Bool.and_eq_true_iff.mp h2.1
          have q' : WE (cx w B) k sc ρ o σ fun ov σ₁ => ∃ f, MetP (cx w B) ov a σ₁ f ∧ KeepV (cx w B) f = true ∧ WEs (cx w B) k sc ρ (x :: r) σ₁ fun xs σ₂ => WC (cx w B) k f (ov :: xs) σ₂ Q :=
            (H.E q).mono fun ov σ₁ q => q.elim fun f q => ⟨f, q.1, q.2.1, H.Es q.2.2⟩
          exact WE_meth q' (base_ok h3.1) h3.2 (star_he h2.2) (fun env => back_any (noStars_tail h2.2)) (fun env => form_ok h2.2 (of_decide_eq_true h1.2))
  | _ => exact h
theorem stEs_ok (H : VOk (cx w B) k sc F) {es : List Expr} {Q : List V → Sto → Prop} (h : stEs (cx w B) k sc F es ρ σ Q) : WEs (cx w B) k sc ρ es σ Q := by
  cases es with
  | nil => exact WEs_nil h
  | cons e r => exact bElse_ok h id fun hs q => WEs_cons ((H.E q).mono fun x σ₁ q => H.Es q) (star_he hs)
theorem tElse_ok (H : VOk (cx w B) k sc F) {e : Expr} {Q : Bool → Sto → Prop} (h : bElse (okTru e) (WT (cx w B) k sc ρ e σ Q) (F.E e ρ σ fun v σ₁ => vTru (cx w B) v σ₁ fun b => Q b σ₁)) : WT (cx w B) k sc ρ e σ Q :=
  bElse_ok h id fun ht q => WT_of ((H.E q).mono fun v σ₁ q => vTru_ok q) (tru_ok ht)
theorem stT_ok (H : VOk (cx w B) k sc F) {e : Expr} {Q : Bool → Sto → Prop} (h : stT (cx w B) k sc F e ρ σ Q) : WT (cx w B) k sc ρ e σ Q := by
  cases e with
  | UnaryOp op o p => cases op <;> first | exact WT_not (H.T h) | exact h
  | BoolOp op es p =>
    cases es with
    | nil => cases op with
      | And => exact WT_and_nil h
      | Or => exact WT_or_nil h
    | cons a r => cases op with
      | And => exact WT_and ((H.T h).mono fun b σ₁ q => ⟨fun e => H.T (q.1 e), q.2⟩)
      | Or => exact WT_or ((H.T h).mono fun b σ₁ q => ⟨fun e => H.T (q.1 e), q.2⟩)
  | Compare l ops rs p =>
    match ops, rs, h with
    | [op], [r], h => exact bElse_ok h id fun hm q => WT_cmp ((H.E q).mono fun a σ₁ q => (H.E q).mono fun b σ₂ q => vCmp_ok q) (by cases hb : behindInMarks op r <;> rw [hb] at hm <;> first | rfl | cases hm)
    | [o1, o2], [r1, r2], h => exact bElse_ok h id fun hm q => WT_chain ((H.E q).mono fun a σ₁ q => (H.E q).mono fun b σ₂ q => (vCmp_ok q).mono fun t q => ⟨q.1, fun e => (H.E (q.2 e)).mono fun d σ₃ q => vCmp_ok q⟩) (by show behindInMarks o2 r2 = false; cases hb : behindInMarks o2 r2 <;> rw [hb] at hm <;> first | rfl | cases hm)
    | [], _, h => exact h
    | [_], [], h => exact h
    | [_], _ :: _ :: _, h => exact h
    | [_, _], [], h => exact h
    | [_, _], [_], h => exact h
    | [_, _], _ :: _ :: _ :: _, h => exact h
    | _ :: _ :: _ :: _, _, h => exact h
  | _ => exact tElse_ok H h
end
theorem vF_ok : ∀ n, VOk (cx w B) k sc (vF (cx w B) k sc n)
  | 0 => ⟨id, id, id⟩
  | n + 1 => ⟨stE_ok (vF_ok n), stEs_ok (vF_ok n), stT_ok (vF_ok n)⟩
theorem vS_ok {G : PB} (HG : ∀ {b ρ σ Q}, G b ρ σ Q → WB (cx w B) k sc ρ b σ Q) {s : Stmt} {Q : Fl → Loc → Sto → Prop} (h : vS (cx w B) k sc G s ρ σ Q) : WS (cx w B) k sc ρ s σ Q := by
  cases s <;> try exact h
  case Return e p => cases e with
    | none => exact WS_return0 h
    | some e => exact WS_return ((vF_ok 40).E h)
  case If t a b p => exact WS_if (((vF_ok 40).T h).mono fun b σ₁ q => ⟨fun e => HG (q.1 e), fun e => HG (q.2 e)⟩)
  case Assign ts v p =>
    cases ts with
    | nil => exact h
    | cons t r => cases r with
      | cons _ _ => exact h
      | nil => exact bElse_ok h id fun ht q => assign_ok ht (((vF_ok 40).E q).mono fun x σ₁ q => vA_ok q)
  case Expr e p =>
    cases e <;> try exact h
    exact WS_expr ((vF_ok 40).E h) (fun _ h => notInter h)
theorem vB_ok : ∀ (n : Nat) {b : List Stmt} {ρ : Loc} {σ : Sto} {Q : Fl → Loc → Sto → Prop}, vB (cx w B) k sc n b ρ σ Q → WB (cx w B) k sc ρ b σ Q
  | 0, b, ρ, σ, Q, h => h
  | n + 1, [], ρ, σ, Q, h => WB_nil h
  | n + 1, s :: r, ρ, σ, Q, h => WB_cons ((vS_ok (vB_ok n) h).mono fun fl ρ₁ σ₁ q => by
        cases fl with
        | next => exact vB_ok n q
        | brk => exact q
        | cont => exact q
        | ret x => exact q)
end Mine
end
section
namespace Mine
variable {w : World} {B : Heap} {k : Nat} {σ : Sto} {Q : V → Sto → Prop}
theorem WA_self {c : Cx} {sc : Scope} {ρ : Loc} {pos : Pos} {o : Expr} {name : Str} {x : V} {τ : Sto} {QA : Loc → Sto → Prop} {d : Addr} {fs : List (Str × V)}
    (h : WE c k sc ρ o (τ.set d (.flds fs)) fun ov σ₁ => ∃ cl y, ov = .obj cl y d ∧ σ₁ = τ.set d (.flds fs) ∧ setOk c.K cl name = true ∧ fs.length.ble 1000 = true ∧ QA ρ (τ.set d (.flds (putF name x fs)))) :
    WA c k sc ρ (.Attribute o name pos) x (τ.set d (.flds fs)) QA := WA_attr (h.mono fun ov σ₁ ⟨cl, y, h1, h2, h3, h4, h5⟩ => ⟨cl, y, d, fs, h1, by rw [h2]; exact Sto.set_at .., h3, Nat.le_of_ble_eq_true h4, by rw [h2, Sto.set_set]; exact h5⟩)
theorem WC_new {c : Cx} {C fI : Addr} {xs : List V} {fs : List (Str × V)} (hm : makesIn c.K C = true) (hi : findIn c.K (.ref C) "__init__" = some (some (.ref fI))) (hf : typeIn c.K (.ref fI) = some (.type "function"))
    (h : ∀ x d, σ d = .none → WCc c k (.glob fI) (.obj C x d :: xs) (σ.set d (.flds [])) fun r σ' => r = .none ∧ σ' = σ.set d (.flds fs)) (hq : Q (.inst C fs) σ) : WC c (k + 1) (.glob C) xs σ Q :=
  WC_fzo (WC_class hm hi hf fun x d hd => WCc.mk fun G A z s vf vs ao I rf rs => codeAny_mono ((h x d hd).run G A z s vf vs ao I rf rs) fun r s' hr => by
    rcases r with e | (v | _ | _ | _)
    · exact hr
    all_goals try exact hr
    obtain ⟨z', σ', y, e, r, h1, h2⟩ := hr
    exact ⟨z', σ', y, e, r, h1, C, x, d, fs, rfl, by rw [h2]; exact Sto.set_at .., by rw [h2, Sto.del_set _ _ _ hd]; exact hq⟩)
theorem tupK {c : Cx} {a : Addr} {vs : Array Value} {n : Nat} {l : List V} (hK : c.K.lookup a = some ⟨.type "tuple", none, .seq vs n, #[]⟩) (hv : ∀ z, VRs c z l vs.toList) : ∀ z, c.K.In z → VR c z (.tup l) (.ref a) := fun z X =>
  VR_tup.mpr ⟨a, vs, rfl, ⟨_, X _ _ hK, rfl, n, rfl⟩, hv z⟩
noncomputable abbrev vLookup (a b c d : V) : V := .inst 43 [("kind", a), ("flag", b), ("mark_set", c), ("tables", d)]
noncomputable abbrev vBuffer (a : V) : V := .inst 188 [("row", a), ("is_backward", .bool false), ("last_lig", .int 0), ("last_split", .int 0)]
noncomputable abbrev vAnchor (a b : V) : V := .inst 293 [("x", a), ("y", b)]
noncomputable abbrev vCursive (a : V) : V := .inst 357 [("ends", a)]
noncomputable abbrev vMarkBase (a b : V) : V := .inst 456 [("marks", a), ("bases", b)]
noncomputable abbrev vMarkComponent (a b : V) : V := .inst 482 [("marks", a), ("ligatures", b)]
noncomputable abbrev vMarkMark (a b : V) : V := .inst 510 [("marks", a), ("others", b)]
noncomputable abbrev vCoverage (a : V) : V := .inst 622 [("glyphs", a)]
noncomputable abbrev vRule (a b c d : V) : V := .inst 664 [("back", a), ("inside", b), ("ahead", c), ("actions", d)]
noncomputable abbrev vContexts3 (a b c : V) : V := .inst 705 [("form", a), ("is_chained", b), ("sets", c), ("coverage", .none), ("classes", .none)]
noncomputable abbrev vContexts5 (a b c d e : V) : V := .inst 705 [("form", a), ("is_chained", b), ("sets", c), ("coverage", d), ("classes", e)]
noncomputable abbrev vPlaces (a b : V) : V := .inst 748 [("row", a), ("end", b)]
noncomputable abbrev vValue (a b c d : V) : V := .inst 835 [("x_offset", a), ("y_offset", b), ("x_advance", c), ("y_advance", d)]
noncomputable abbrev vAdjust (a : V) : V := .inst 868 [("values", a)]
noncomputable abbrev vClassDef (a : V) : V := .inst 1054 [("classes", a)]
end Mine
end
section
namespace Mine
variable {w : World} {B : Heap}
theorem sk_65 : setAll (cx w B).K 65 ["buffer", "depth", "gdef", "lookup", "lookups", "mask", "steps"] = true := by kernel_rfl
theorem ok_135 : getAll (cx w B).K 135 ["bond", "cluster", "code", "glyph", "is_unsafe", "kind", "lig_count", "lig_id", "lig_part", "mask", "parent", "split_id", "x_advance", "x_offset", "y_advance", "y_offset"] = true := by kernel_rfl
theorem sk_135 : setAll (cx w B).K 135 ["bond", "cluster", "code", "glyph", "is_unsafe", "kind", "lig_count", "lig_id", "lig_part", "mask", "parent", "split_id", "x_advance", "x_offset", "y_advance", "y_offset"] = true := by kernel_rfl
theorem m_Info_copied : metOk (cx w B).K 135 "copied" 125 = true ∧ KeepV (cx w B) (.glob 125) = true := ⟨by kernel_rfl, by kernel_rfl⟩
theorem m_Info_told : metOk (cx w B).K 135 "told" 132 = true ∧ KeepV (cx w B) (.glob 132) = true := ⟨by kernel_rfl, by kernel_rfl⟩
theorem m_Cursive_entry : metOk (cx w B).K 357 "entry" 337 = true ∧ KeepV (cx w B) (.glob 337) = true := ⟨by kernel_rfl, by kernel_rfl⟩
theorem m_Cursive_exit : metOk (cx w B).K 357 "exit" 344 = true ∧ KeepV (cx w B) (.glob 344) = true := ⟨by kernel_rfl, by kernel_rfl⟩
theorem m_Coverage_index : metOk (cx w B).K 622 "index" 605 = true ∧ KeepV (cx w B) (.glob 605) = true := ⟨by kernel_rfl, by kernel_rfl⟩
theorem m_Coverage_has : metOk (cx w B).K 622 "has" 612 = true ∧ KeepV (cx w B) (.glob 612) = true := ⟨by kernel_rfl, by kernel_rfl⟩
theorem m_Contexts_rules : metOk (cx w B).K 705 "rules" 702 = true ∧ KeepV (cx w B) (.glob 702) = true := ⟨by kernel_rfl, by kernel_rfl⟩
theorem m_Value_told : metOk (cx w B).K 835 "told" 825 = true ∧ KeepV (cx w B) (.glob 825) = true := ⟨by kernel_rfl, by kernel_rfl⟩
theorem m_Value_is_nothing : metOk (cx w B).K 835 "is_nothing" 832 = true ∧ KeepV (cx w B) (.glob 832) = true := ⟨by kernel_rfl, by kernel_rfl⟩
theorem m_PairGlyphs_find : metOk (cx w B).K 921 "find" 913 = true ∧ KeepV (cx w B) (.glob 913) = true := ⟨by kernel_rfl, by kernel_rfl⟩
theorem m_ClassDef_class_of : metOk (cx w B).K 1054 "class_of" 1032 = true ∧ KeepV (cx w B) (.glob 1032) = true := ⟨by kernel_rfl, by kernel_rfl⟩
theorem m_Gdef_glyph_class : metOk (cx w B).K 1102 "glyph_class" 1080 = true ∧ KeepV (cx w B) (.glob 1080) = true := ⟨by kernel_rfl, by kernel_rfl⟩
end Mine
end
section
namespace Mine
variable {w : World} {B : Heap} {k : Nat} {σ : Sto} {Q : V → Sto → Prop}
structure Rec where
  glyph : Int
  cluster : Int
  mask : Int
  uns : Bool
  ligId : Int
  ligPart : Int
  xAdv : Int
  yAdv : Int
  xOff : Int
  yOff : Int
  parent : Int
  bond : Str
noncomputable def recF (r : Rec) : List (Str × V) := [("code", .int 65), ("glyph", .int r.glyph), ("cluster", .int r.cluster), ("mask", .int r.mask), ("is_unsafe", .bool r.uns), ("lig_id", .int r.ligId), ("lig_part", .int r.ligPart), ("lig_count", .int 0), ("split_id", .int 0), ("kind", .str ""),
  ("x_advance", .int r.xAdv), ("y_advance", .int r.yAdv), ("x_offset", .int r.xOff), ("y_offset", .int r.yOff), ("parent", .int r.parent), ("bond", .str r.bond)]
noncomputable def updR : Sto → List Addr → List Rec → Sto
  | σ, d :: ds, r :: rs => (updR σ ds rs).set d (.flds (recF r))
  | σ, _, _ => σ
theorem updR_off {a : Addr} : ∀ {ds : List Addr} {rs : List Rec}, a ∉ ds → updR σ ds rs a = σ a
  | [], _, _ => rfl
  | d :: ds, [], _ => rfl
  | d :: ds, r :: rs, h => by
    rw [List.mem_cons, not_or] at h
    exact (Sto.set_ne _ _ h.1).trans (updR_off h.2)
theorem updR_at : ∀ {ds : List Addr} {rs : List Rec} {i : Nat} {d : Addr} {r : Rec}, ds.Nodup → ds[i]? = some d → rs[i]? = some r → updR σ ds rs d = some (.flds (recF r))
  | [], _, _, _, _, _, h, _ => by simp at h
  | _ :: _, [], _, _, _, _, _, h => by simp at h
  | d :: ds, r :: rs, 0, _, _, _, h1, h2 => by
    simp at h1 h2; subst h1 h2
    exact Sto.set_at ..
  | d :: ds, r :: rs, i + 1, e, r', nd, h1, h2 => by
    rw [List.nodup_cons] at nd
    simp only [List.getElem?_cons_succ] at h1 h2
    exact (Sto.set_ne _ _ (by rintro rfl; exact nd.1 (List.mem_of_getElem? h1))).trans (updR_at nd.2 h1 h2)
theorem Sto.set_comm (σ : Sto) {a b : Addr} (h : a ≠ b) (x y : O) : (σ.set a x).set b y = (σ.set b y).set a x := by
  funext e
  by_cases h1 : e = a <;> by_cases h2 : e = b
  · subst h1; exact absurd h2 h
  · subst h1; rw [Sto.set_ne _ _ h2, Sto.set_at, Sto.set_at]
  · subst h2; rw [Sto.set_at, Sto.set_ne _ _ h1, Sto.set_at]
  · rw [Sto.set_ne _ _ h2, Sto.set_ne _ _ h1, Sto.set_ne _ _ h1, Sto.set_ne _ _ h2]
theorem updR_set : ∀ {ds : List Addr} {rs : List Rec} {i : Nat} {d : Addr} {r r' : Rec}, ds.Nodup → ds[i]? = some d → rs[i]? = some r → (updR σ ds rs).set d (.flds (recF r')) = updR σ ds (rs.set i r')
  | [], _, _, _, _, _, _, h, _ => by simp at h
  | _ :: _, [], _, _, _, _, _, _, h => by simp at h
  | d :: ds, r :: rs, 0, _, _, _, _, h1, h2 => by
    simp at h1; subst h1
    show ((updR σ ds rs).set d _).set d _ = (updR σ ds rs).set d _
    rw [Sto.set_set]
  | d :: ds, r :: rs, i + 1, e, _, r', nd, h1, h2 => by
    rw [List.nodup_cons] at nd
    simp only [List.getElem?_cons_succ] at h1 h2
    have hne : d ≠ e := by rintro rfl; exact nd.1 (List.mem_of_getElem? h1)
    show ((updR σ ds rs).set d _).set e _ = (updR σ ds (rs.set i r')).set d _
    rw [Sto.set_comm _ hne, updR_set nd.2 h1 h2]
noncomputable abbrev gdefV (G : List (Int × V)) : V := .inst 1102 [("classes", vClassDef (.dcI G)), ("attach", vClassDef (.dcI [])), ("sets", .lst []), ("points", .dcI []), ("carets", .dcI [])]
noncomputable abbrev bufV (row : List V) : V := vBuffer (.lst row)
noncomputable abbrev sceneV (b g ls l m d st : V) : V := .inst 65 [("buffer", b), ("gdef", g), ("lookups", ls), ("lookup", l), ("mask", m), ("depth", d), ("steps", st)]
theorem putF_twice {n : Str} {x y : V} : ∀ (l : List (Str × V)), putF n y (putF n x l) = putF n y l
  | [] => by show (if n == n then _ else _ : Loc) = _; rw [if_pos (beq_self_eq_true n)]; rfl
  | (m, z) :: r => by
    by_cases h : (m == n) = true
    · rw [putF_cons, if_pos h, putF_cons, if_pos h, putF_cons, if_pos h]
    · have e1 : ∀ (u : V) (l : List (Str × V)), putF n u ((m, z) :: l) = (m, z) :: putF n u l := fun u l => by rw [putF_cons, if_neg h]
      rw [e1, e1, e1, putF_twice r]
theorem CompL.ix {c : Cx} {sc : Scope} {nm : Str} {elt : Expr} {ifs : List Expr} {QL : List V → Loc → Sto → Prop} {ρ : Loc} (ρ₀ : Loc) (l : List V) (J : Nat → List V → Sto → Prop) (hn : ∀ acc ρ σ, J l.length acc σ → QL acc ρ σ)
    (hc : ∀ j x acc σ, l[j]? = some x → J j acc σ → WIf c k sc ifs (putF nm x ρ₀) σ fun b σ₂ => (b = true → acc.length ≤ 1000 ∧ WE c k sc (putF nm x ρ₀) elt σ₂ fun y σ₃ => J (j + 1) (acc ++ [y]) σ₃) ∧ (b = false → J (j + 1) acc σ₂))
    (acc : List V) (h0 : J 0 acc σ) (hρ : ρ = ρ₀) : CompL c k sc nm ifs (stepE c k sc elt) QL l acc ρ σ := by
  refine CompL.inv (fun items acc ρ σ => ∃ j, items = l.drop j ∧ j ≤ l.length ∧ (∀ x, putF nm x ρ = putF nm x ρ₀) ∧ J j acc σ) ?_ stepE_mono WIf.mono ?_ _ _ _ _ ⟨0, rfl, Nat.zero_le _, fun _ => by rw [hρ], h0⟩
  · rintro acc ρ σ ⟨j, hj, hl, -, h⟩
    exact hn _ _ _ (Nat.le_antisymm hl (List.drop_eq_nil_iff.mp hj.symm) ▸ h)
  · rintro x r acc ρ σ ⟨j, hj, hl, hρ, h⟩
    have hx : l[j]? = some x := by rw [← Nat.add_zero j, ← List.getElem?_drop, ← hj]; rfl
    have hr : ∀ σ acc, J (j + 1) acc σ → ∃ j, r = l.drop j ∧ j ≤ l.length ∧ (∀ x', putF nm x' (putF nm x ρ₀) = putF nm x' ρ₀) ∧ J j acc σ := fun σ acc h => ⟨j + 1, by rw [← List.drop_drop, ← hj]; rfl, (List.getElem?_eq_some_iff.mp hx).1, fun _ => putF_twice _, h⟩
    rw [hρ]
    exact WIf.mono _ _ _ _ (fun b d q => ⟨fun e => ⟨(q.1 e).1, (q.1 e).2.mono fun y d h => hr _ _ h⟩, fun e => hr _ _ (q.2 e)⟩) (hc j x acc σ hx h)
theorem intsV_at {N j : Nat} {x : V} (h : (intsV N)[j]? = some x) : j < N ∧ x = .int (j : Nat) := by
  unfold intsV at h
  rw [List.getElem?_map] at h
  by_cases e : j < N
  · rw [List.getElem?_range e] at h; exact ⟨e, (Option.some.inj h).symm⟩
  · rw [List.getElem?_eq_none (by rw [List.length_range]; exact Nat.le_of_not_lt e)] at h; cases h
theorem CompL.rng {c : Cx} {sc : Scope} {nm : Str} {elt : Expr} {ifs : List Expr} {QL : List V → Loc → Sto → Prop} {ρ : Loc} (ρ₀ : Loc) (N : Nat) (J : Nat → List V → Sto → Prop) (hn : ∀ acc ρ σ, J N acc σ → QL acc ρ σ)
    (hc : ∀ j acc σ, j < N → J j acc σ → WIf c k sc ifs (putF nm (.int (j : Nat)) ρ₀) σ fun b σ₂ => (b = true → acc.length ≤ 1000 ∧ WE c k sc (putF nm (.int (j : Nat)) ρ₀) elt σ₂ fun y σ₃ => J (j + 1) (acc ++ [y]) σ₃) ∧ (b = false → J (j + 1) acc σ₂))
    (acc : List V) (h0 : J 0 acc σ) (hρ : ρ = ρ₀) : CompL c k sc nm ifs (stepE c k sc elt) QL (intsV N) acc ρ σ :=
  CompL.ix ρ₀ _ J (fun acc ρ σ h => hn acc ρ σ (by unfold intsV at h; rwa [List.length_map, List.length_range] at h)) (fun j x acc σ e h => (intsV_at e).2 ▸ hc j acc σ (intsV_at e).1 h) acc h0 hρ
theorem ForL.ix {c : Cx} {sc : Scope} {QS : Fl → Loc → Sto → Prop} {target : Expr} {body orelse : List Stmt} {ρ : Loc} (ρ₀ : Loc) (l : List V) (J : Nat → Sto → Prop) (hn : ∀ σ, J l.length σ → WB c k sc ρ₀ orelse σ QS)
    (hc : ∀ j x σ, l[j]? = some x → J j σ → WA c k sc ρ₀ target x σ fun ρ₁ σ₁ => WB c k sc ρ₁ body σ₁ fun fl ρ₂ σ₂ => match fl with
      | .next => SubL ρ₀ ρ₂ ∧ J (j + 1) σ₂ | .cont => SubL ρ₀ ρ₂ ∧ J (j + 1) σ₂ | .brk => QS .next ρ₂ σ₂ | .ret x => QS (.ret x) ρ₂ σ₂)
    (h0 : J 0 σ) (hρ : ρ = ρ₀) : ForL c k sc target body orelse QS l ρ σ := by
  refine ForL.invW (fun items ρ σ => ρ = ρ₀ ∧ ∃ j, items = l.drop j ∧ j ≤ l.length ∧ J j σ) ?_ ?_ _ _ _ ⟨hρ, 0, rfl, Nat.zero_le _, h0⟩
  · rintro ρ σ ⟨rfl, j, hj, hl, h⟩
    exact hn _ (Nat.le_antisymm hl (List.drop_eq_nil_iff.mp hj.symm) ▸ h)
  · rintro x r ρ σ ⟨rfl, j, hj, hl, h⟩
    have hx : l[j]? = some x := by rw [← Nat.add_zero j, ← List.getElem?_drop, ← hj]; rfl
    have hr : ∀ ρ₂ σ, SubL ρ ρ₂ ∧ J (j + 1) σ → ∃ ρ', SubL ρ' ρ₂ ∧ ρ' = ρ ∧ ∃ j, r = l.drop j ∧ j ≤ l.length ∧ J j σ := fun ρ₂ σ h => ⟨ρ, h.1, rfl, j + 1, by rw [← List.drop_drop, ← hj]; rfl, (List.getElem?_eq_some_iff.mp hx).1, h.2⟩
    refine WA.mono (hc j x σ hx h) fun ρ₁ σ₁ h => WB.mono h fun fl ρ₂ σ₂ h => ?_
    cases fl with
    | next => exact hr _ _ h
    | cont => exact hr _ _ h
    | brk => exact h
    | ret x => exact h
end Mine
end
section
namespace Mine
variable {w : World} {B : Heap} {k : Nat} {σ : Sto} {Q : V → Sto → Prop}
local macro_rules | `(tactic| walk_at "na") => `(tactic| first
  | refine (?_ : And ..)
  | refine (?_ : WC ..)
  | refine (?_ : Exists ..))
local macro_rules | `(tactic| walk_at "nc") => `(tactic| ((conv => whnf); fail_if_success (with_reducible first | show WE .. | show WT .. | show WEs .. | show WS .. | show WB .. | show VF.E .. | show VF.Es .. | show VF.T .. | show oElse .. | show bElse .. | show vB .. | show vA .. | show vAt .. | show vCmp .. | show vTru ..)))
local macro_rules | `(tactic| walk_at "nv") => `(tactic| first | walk_at "na" | walk_at "nc")
local macro_rules | `(tactic| walk_at "nw") => `(tactic| first
  | walk_at "na"
  | refine (?_ : WE ..)
  | refine (?_ : WS ..)
  | refine (?_ : WA ..)
  | refine (?_ : WT ..)
  | refine (?_ : WEs ..)
  | walk_at "nc")
local macro_rules | `(tactic| walk_at "st") => `(tactic| first
  | ((with_reducible first | show VF.E .. | show VF.Es .. | show VF.T .. | show vB .. | show nx .. | show vA .. | show vAt .. | show vCmp .. | show vTru .. | show BinS .. | show UnS ..); walk_at "nw")
  | ((with_reducible show WB ..); refine vB_ok 60 ?_; walk_at "nw")
  | ((with_reducible show WEs ..); refine (vF_ok 40).Es ?_; walk_at "nv")
  | ((with_reducible show WT ..); refine (vF_ok 40).T ?_; walk_at "nv")
  | ((with_reducible show WE (e := .Constant ..) ..); refine (vF_ok 40).E ?_; walk_at "nw")
  | ((with_reducible show WE (e := .Name ..) ..); refine (vF_ok 40).E ?_; walk_at "nw"; fail_if_success (with_reducible show WE (e := .Name ..) ..))
  | ((with_reducible show WE (e := .Attribute ..) ..); refine (vF_ok 40).E ?_; walk_at "nw"; fail_if_success (with_reducible show WE (e := .Attribute ..) ..))
  | ((with_reducible show WE ..); refine (vF_ok 40).E ?_; walk_at "nv")
  | ((with_reducible show WPairs ..); refine (?_ : WE ..))
  | refine WB_cons ?_
  | refine WB_nil ?_
  | refine WS_assign ?_
  | (show WA (t := .Name ..) ..; first | refine WA_local (by kernel_rfl!) ?_ | refine WA_cell (by kernel_rfl!) ?_)
  | (show WE (e := .Name ..) ..; first
    | refine WE_local (by kernel_rfl!) rfl ?_
    | refine WE_cell (by kernel_rfl!) rfl ?_
    | refine WE_free (by kernel_rfl!) rfl ?_)
  | refine WE_attr ?_
  | refine WEs_cons ?_
  | refine WE_meth ?_
  | refine TruP_int ?_
  | refine WT_cmp ?_
  | (show AtE _ (.obj 135 _ _) _ _ _; refine AtE_obj (getOf ok_135 (by kernel_rfl)) (by assumption) rfl ?_)
  | refine WT_of ?_)
local macro_rules | `(tactic| walk_at "cls") => `(tactic| ((repeat (first | walk_at "st" | (refine WA_self ?_; refine WE_local (by kernel_rfl!) rfl ?_; refine ⟨_, _, rfl, rfl, by kernel_rfl, by kernel_rfl, ?_⟩))); exact ⟨rfl, by kernel_rfl⟩))
theorem n_Lookup {a b c d : V} (h : Q (vLookup a b c d) σ) : WC (cx w B) (k + 2) (.glob 43) [a, b, c, d] σ Q :=
  WC_new (fI := 35) (by kernel_rfl) (by kernel_rfl) (by kernel_rfl) (fun ox od hd => e_Lookup_newc (by walk_at "cls")) h
theorem n_Buffer {a : V} (h : Q (vBuffer a) σ) : WC (cx w B) (k + 2) (.glob 188) [a] σ Q :=
  WC_new (fI := 154) (by kernel_rfl) (by kernel_rfl) (by kernel_rfl) (fun ox od hd => e_Buffer_new1c (by walk_at "cls")) h
theorem n_Anchor {a b : V} (h : Q (vAnchor a b) σ) : WC (cx w B) (k + 2) (.glob 293) [a, b] σ Q :=
  WC_new (fI := 283) (by kernel_rfl) (by kernel_rfl) (by kernel_rfl) (fun ox od hd => e_Anchor_newc (by walk_at "cls")) h
theorem n_Cursive {a : V} (h : Q (vCursive a) σ) : WC (cx w B) (k + 2) (.glob 357) [a] σ Q :=
  WC_new (fI := 330) (by kernel_rfl) (by kernel_rfl) (by kernel_rfl) (fun ox od hd => e_Cursive_newc (by walk_at "cls")) h
theorem n_MarkBase {a b : V} (h : Q (vMarkBase a b) σ) : WC (cx w B) (k + 2) (.glob 456) [a, b] σ Q :=
  WC_new (fI := 446) (by kernel_rfl) (by kernel_rfl) (by kernel_rfl) (fun ox od hd => e_MarkBase_newc (by walk_at "cls")) h
theorem n_MarkComponent {a b : V} (h : Q (vMarkComponent a b) σ) : WC (cx w B) (k + 2) (.glob 482) [a, b] σ Q :=
  WC_new (fI := 474) (by kernel_rfl) (by kernel_rfl) (by kernel_rfl) (fun ox od hd => e_MarkComponent_newc (by walk_at "cls")) h
theorem n_MarkMark {a b : V} (h : Q (vMarkMark a b) σ) : WC (cx w B) (k + 2) (.glob 510) [a, b] σ Q :=
  WC_new (fI := 500) (by kernel_rfl) (by kernel_rfl) (by kernel_rfl) (fun ox od hd => e_MarkMark_newc (by walk_at "cls")) h
theorem n_Coverage {a : V} (h : Q (vCoverage a) σ) : WC (cx w B) (k + 2) (.glob 622) [a] σ Q :=
  WC_new (fI := 598) (by kernel_rfl) (by kernel_rfl) (by kernel_rfl) (fun ox od hd => e_Coverage_newc (by walk_at "cls")) h
theorem n_Rule {a b c d : V} (h : Q (vRule a b c d) σ) : WC (cx w B) (k + 2) (.glob 664) [a, b, c, d] σ Q :=
  WC_new (fI := 647) (by kernel_rfl) (by kernel_rfl) (by kernel_rfl) (fun ox od hd => e_Rule_newc (by walk_at "cls")) h
theorem n_Contexts3 {a b c : V} (h : Q (vContexts3 a b c) σ) : WC (cx w B) (k + 2) (.glob 705) [a, b, c] σ Q :=
  WC_new (fI := 683) (by kernel_rfl) (by kernel_rfl) (by kernel_rfl) (fun ox od hd => e_Contexts_new3c (by walk_at "cls")) h
theorem n_Contexts5 {a b c d e : V} (h : Q (vContexts5 a b c d e) σ) : WC (cx w B) (k + 2) (.glob 705) [a, b, c, d, e] σ Q :=
  WC_new (fI := 683) (by kernel_rfl) (by kernel_rfl) (by kernel_rfl) (fun ox od hd => e_Contexts_newc (by walk_at "cls")) h
theorem n_Places {a b : V} (h : Q (vPlaces a b) σ) : WC (cx w B) (k + 2) (.glob 748) [a, b] σ Q :=
  WC_new (fI := 745) (by kernel_rfl) (by kernel_rfl) (by kernel_rfl) (fun ox od hd => e_Places_newc (by walk_at "cls")) h
theorem n_Value {a b c d : V} (h : Q (vValue a b c d) σ) : WC (cx w B) (k + 2) (.glob 835) [a, b, c, d] σ Q :=
  WC_new (fI := 818) (by kernel_rfl) (by kernel_rfl) (by kernel_rfl) (fun ox od hd => e_Value_newc (by walk_at "cls")) h
theorem n_Adjust {a : V} (h : Q (vAdjust a) σ) : WC (cx w B) (k + 2) (.glob 868) [a] σ Q :=
  WC_new (fI := 860) (by kernel_rfl) (by kernel_rfl) (by kernel_rfl) (fun ox od hd => e_Adjust_newc (by walk_at "cls")) h
theorem n_ClassDef {a : V} (h : Q (vClassDef a) σ) : WC (cx w B) (k + 2) (.glob 1054) [a] σ Q :=
  WC_new (fI := 1025) (by kernel_rfl) (by kernel_rfl) (by kernel_rfl) (fun ox od hd => e_ClassDef_newc (by walk_at "cls")) h
theorem tT {b : Bool} {p q : Prop} (h : b = true) (g : p) : (b = true → p) ∧ (b = false → q) := ⟨fun _ => g, fun e => by rw [h] at e; cases e⟩
theorem tF {b : Bool} {p q : Prop} (h : b = false) (g : q) : (b = true → p) ∧ (b = false → q) := ⟨fun e => (by rw [h] at e; cases e), fun _ => g⟩
theorem tT' {b : Bool} {p q : Prop} (h : b = true) (g : p) : (b = false → q) ∧ (b = true → p) := ⟨(fun e => by rw [h] at e; cases e), fun _ => g⟩
theorem tF' {b : Bool} {p q : Prop} (h : b = false) (g : q) : (b = false → q) ∧ (b = true → p) := ⟨fun _ => g, fun e => by rw [h] at e; cases e⟩
theorem c_class_of {G : List (Int × V)} {g : Int} (h : Q ((lkI G g).getD (.int 0)) σ) : WC (cx w B) (k + 1) (.glob 1032) [vClassDef (.dcI G), .int g] σ Q := by
  refine e_ClassDef_class_of ?_
  repeat walk_at "st"
  refine ⟨_, MetP_get, rfl, ?_⟩
  repeat walk_at "st"
  exact WC_get h
theorem c_glyph_class {G : List (Int × V)} {g n : Int} (hG : lkI G g = some (.int n)) (hn : 1 ≤ n ∧ n ≤ 4) (h : Q (.int n) σ) : WC (cx w B) (k + 2) (.glob 1080) [gdefV G, .int g] σ Q := by
  refine e_Gdef_glyph_class ?_
  repeat walk_at "st"
  refine ⟨_, MetP_inst m_ClassDef_class_of.1 rfl, m_ClassDef_class_of.2, ?_⟩
  repeat walk_at "st"
  refine c_class_of ?_
  rw [hG]
  repeat walk_at "st"
  refine tT' (by simp; lia) ?_
  repeat walk_at "st"
  refine tT (by simp; lia) ?_
  repeat walk_at "st"
  exact h
theorem c_class_bit {n : Int} (hn : n = 1 ∨ n = 3) (h : Q (.int (if n = 1 then 2 else 8)) σ) : WC (cx w B) (k + 1) (.glob 83) [.int n] σ Q := by
  refine e_class_bit ?_
  repeat walk_at "st"
  refine WE_dict ?_
  repeat (first | walk_at "st" | refine ⟨_, rfl, ?_⟩)
  refine ⟨_, MetP_get, rfl, ?_⟩
  repeat walk_at "st"
  refine WC_get ?_
  rcases hn with rfl | rfl <;> exact h
theorem c_attach_wanted {f : Int} (hf : f = 0 ∨ f = 8) (h : Q (.int 0) σ) : WC (cx w B) (k + 1) (.glob 76) [.int f] σ Q :=
  attach_wanted f (by rcases hf with rfl | rfl <;> exact h) (by rcases hf with rfl | rfl <;> decide +kernel)
noncomputable def ign (f n : Int) : Bool := f == 8 && n == 3
theorem c_is_ignored {G : List (Int × V)} {kd ms tb : V} {f g n : Int} (hG : lkI G g = some (.int n)) (hn : n = 1 ∨ n = 3) (hf : f = 0 ∨ f = 8) (h : Q (.bool (ign f n)) σ) : WC (cx w B) (k + 3) (.glob 90) [gdefV G, vLookup kd (.int f) ms tb, .int g] σ Q := by
  refine e_is_ignored ?_
  repeat walk_at "st"
  refine ⟨_, MetP_inst m_Gdef_glyph_class.1 rfl, m_Gdef_glyph_class.2, ?_⟩
  repeat walk_at "st"
  refine c_glyph_class hG (by lia) ?_
  repeat walk_at "st"
  repeat walk_at "st"
  refine c_class_bit hn ?_
  repeat walk_at "st"
  refine ⟨fun e => ?_, fun e => ?_⟩
  · repeat walk_at "st"
    have : ign f n = true := by rcases hn with rfl | rfl <;> rcases hf with rfl | rfl <;> revert e <;> decide +kernel
    rw [this] at h; exact h
  · repeat walk_at "st"
    have hi : ign f n = false := by rcases hn with rfl | rfl <;> rcases hf with rfl | rfl <;> revert e <;> decide +kernel
    rw [hi] at h
    refine ⟨fun _ => ?_, fun _ => ?_⟩
    · repeat walk_at "st"
      exact h
    · repeat walk_at "st"
      refine tF (by rcases hf with rfl | rfl <;> decide +kernel) ?_
      repeat walk_at "st"
      repeat walk_at "st"
      refine c_attach_wanted hf ?_
      repeat walk_at "st"
      refine tF rfl ?_
      exact h
theorem c_passes {G : List (Int × V)} {ls m d st kd ms tb : V} {f n : Int} {row : List V} {i : Nat} {x dd : Addr} {r : Rec} (hi : i < 2 ^ 63) (hrow : row[i]? = some (.obj 135 x dd)) (hσ : σ dd = some (.flds (recF r))) (hG : lkI G r.glyph = some (.int n)) (hn : n = 1 ∨ n = 3) (hf : f = 0 ∨ f = 8)
    (h : Q (.bool (ign f n)) σ) : WC (cx w B) (k + 4) (.glob 97) [sceneV (bufV row) (gdefV G) ls (vLookup kd (.int f) ms tb) m d st, .int i] σ Q := by
  refine e_passes ?_
  repeat walk_at "st"
  repeat walk_at "st"
  refine ⟨_, IxP_lst hrow hi, ?_⟩
  repeat walk_at "st"
  exact c_is_ignored hG hn hf h
noncomputable def prevF (ig : Nat → Bool) : Nat → Int
  | 0 => -1
  | n + 1 => if ig n then prevF ig n else n
theorem prevF_lt {ig : Nat → Bool} : ∀ n, prevF ig n < n ∧ -1 ≤ prevF ig n
  | 0 => ⟨by unfold prevF; lia, by unfold prevF; lia⟩
  | n + 1 => by
    unfold prevF
    split
    · have := prevF_lt (ig := ig) n; lia
    · lia
theorem WE_around {sc : Scope} {ρ : Loc} {pos : Pos} (hk : sc.names.lookup ("KINDS_AROUND" : Str) = some .globalImplicit) (h : Q (.tup [.str "zwj", .str "zwnj", .str "hidden"]) σ) : WE (cx w B) k sc ρ (.Name "KINDS_AROUND" pos) σ Q :=
  WE_globV hk (v := .ref 199) (by kernel_rfl) (tupK (vs := #[vs "zwj" 470, vs "zwnj" 471, vs "hidden" 472]) (n := 0) (by kernel_rfl) fun z => VRs_cons.mpr ⟨_, _, rfl, VR_str.mpr ⟨_, rfl⟩, VRs_cons.mpr ⟨_, _, rfl, VR_str.mpr ⟨_, rfl⟩, VRs_cons.mpr ⟨_, _, rfl, VR_str.mpr ⟨_, rfl⟩, VRs_nil.mpr rfl⟩⟩⟩) h
theorem CmpP_inD {c : Cx} {K : Bool → Prop} {a b : V} {d : PyData} {xs : List PyData} (ha : dV a = some d) (hb : dV b = some (.list xs) ∨ dV b = some (.tuple xs)) (sx : SeqAt.shaped (.list xs) = true) (sd : SeqAt.shaped d = true) (hm : ∀ y ∈ xs, SeqAt.noMix y d = true) (h : K (decide (Spec.countIn d xs ≠ 0))) : CmpP c .In a b σ K := .mk fun G A z s va vb ao I ra rb => by
  obtain ⟨as, r1⟩ := reads_dV a ha (ra.sub I.keep)
  have hu : A.units + 65 < cLine := by have := ao.units; have := cLine_is; lia
  rcases hb with hb | hb
  · obtain ⟨bs, r2⟩ := reads_dV b hb (rb.sub I.keep)
    exact in_list_dataH r2 r1 sx sd hu hm ⟨z, _, Ext.refl I, rfl, h⟩
  · obtain ⟨bs, r2⟩ := reads_dV b hb (rb.sub I.keep)
    exact in_tuple_dataH r2 r1 (by simpa [SeqAt.shaped, PyData.canLay0, PyData.depth] using sx) sd hu hm ⟨z, _, Ext.refl I, rfl, h⟩
theorem CmpP_notinD {c : Cx} {K : Bool → Prop} {a b : V} {d : PyData} {xs : List PyData} (ha : dV a = some d) (hb : dV b = some (.list xs) ∨ dV b = some (.tuple xs)) (sx : SeqAt.shaped (.list xs) = true) (sd : SeqAt.shaped d = true) (hm : ∀ y ∈ xs, SeqAt.noMix y d = true) (h : K (!decide (Spec.countIn d xs ≠ 0))) : CmpP c .NotIn a b σ K := .mk fun G A z s va vb ao I ra rb => by
  obtain ⟨as, r1⟩ := reads_dV a ha (ra.sub I.keep)
  have hu : A.units + 65 < cLine := by have := ao.units; have := cLine_is; lia
  rcases hb with hb | hb
  · obtain ⟨bs, r2⟩ := reads_dV b hb (rb.sub I.keep)
    exact notIn_list_dataH r2 r1 sx sd hu hm ⟨z, _, Ext.refl I, rfl, h⟩
  · obtain ⟨bs, r2⟩ := reads_dV b hb (rb.sub I.keep)
    exact notIn_tuple_dataH r2 r1 (by simpa [SeqAt.shaped, PyData.canLay0, PyData.depth] using sx) sd hu hm ⟨z, _, Ext.refl I, rfl, h⟩
theorem notin_around {K : Bool → Prop} (h : K true) : CmpP (cx w B) .NotIn (.str "") (.tup [.str "zwj", .str "zwnj", .str "hidden"]) σ K :=
  CmpP_notinD (d := .str "") (xs := [.str "zwj", .str "zwnj", .str "hidden"]) rfl (.inr rfl) (by decide +kernel) (by decide +kernel) (fun y hy => by
    simp only [List.mem_cons, List.not_mem_nil, or_false] at hy
    rcases hy with rfl | rfl | rfl <;> rfl) (by
    have : (!decide (Spec.countIn (PyData.str "") [.str "zwj", .str "zwnj", .str "hidden"] ≠ 0)) = true := by decide +kernel
    rw [this]; exact h)
structure RowAt (σ : Sto) (G : List (Int × V)) (row : List V) (rs : List Rec) (cls : Nat → Int) : Prop where
  len : row.length = rs.length
  at_ : ∀ i r, rs[i]? = some r → ∃ x d, row[i]? = some (.obj 135 x d) ∧ σ d = some (.flds (recF r)) ∧ lkI G r.glyph = some (.int (cls i)) ∧ (cls i = 1 ∨ cls i = 3)
  few : rs.length ≤ 5
theorem c_neighbourB {G : List (Int × V)} {ls m d st kd ms tb : V} {f : Int} {row : List V} {rs : List Rec} {cls : Nat → Int} {i : Nat} (R : RowAt σ G row rs cls) (hi : i ≤ rs.length) (hf : f = 0 ∨ f = 8)
    (h : Q (.int (prevF (fun j => ign f (cls j)) i)) σ) : WC (cx w B) (k + 5) (.glob 213) [sceneV (bufV row) (gdefV G) ls (vLookup kd (.int f) ms tb) m d st, .int i, .int (-1)] σ Q := by
  refine e_neighbour ?_
  repeat walk_at "st"
  refine WS_while (fun n ρ σ' => σ' = σ ∧ ρ = ([("scene", sceneV (bufV row) (gdefV G) ls (vLookup kd (.int f) ms tb) m d st), ("at", .int i), ("step", .int (-1)), ("here", .int ((n : Int) + -1))] : Loc) ∧ n ≤ rs.length ∧ prevF (fun j => ign f (cls j)) n = prevF (fun j => ign f (cls j)) i) i
    ⟨rfl, by kernel_rfl, hi, rfl⟩ ?_
  rintro n ρ σ' ⟨rfl, rfl, hn, hp⟩
  have hlen := R.len
  have hfew := R.few
  repeat walk_at "st"
  cases n with
  | zero =>
    refine tF' (by decide) ?_
    refine tF (by decide) ?_
    repeat walk_at "st"
    rw [← hp] at h
    exact h
  | succ n =>
    refine tT' (by simp; lia) ?_
    repeat walk_at "st"
    refine WC_len_lst (by lia) ?_
    repeat walk_at "st"
    refine tT (by simp; lia) ?_
    obtain ⟨r, hr⟩ : ∃ r, rs[n]? = some r := ⟨_, List.getElem?_eq_getElem (by lia)⟩
    obtain ⟨x, dd, hrow, hσ, hG, hc⟩ := R.at_ n r hr
    have en : ((n + 1 : Nat) : Int) + -1 = (n : Nat) := by lia
    rw [en]
    repeat walk_at "st"
    repeat walk_at "st"
    refine c_passes (by lia) hrow hσ hG hc hf ?_
    repeat walk_at "st"
    have hp' : (if ign f (cls n) = true then prevF (fun j => ign f (cls j)) n else (n : Int)) = prevF (fun j => ign f (cls j)) i := hp
    cases hig : ign f (cls n) with
    | true =>
      rw [hig, if_pos rfl] at hp'
      refine tF rfl ?_
      refine tF rfl ?_
      repeat walk_at "st"
      exact ⟨n, by lia, rfl, by kernel_rfl, by lia, hp'⟩
    | false =>
      rw [hig, if_neg (by decide)] at hp'
      refine tT rfl ?_
      repeat walk_at "st"
      refine ⟨_, IxP_lst hrow (by lia), ?_⟩
      repeat walk_at "st"
      refine WE_around (by kernel_rfl!) ?_
      refine notin_around ?_
      refine tT rfl ?_
      repeat walk_at "st"
      refine tT rfl ?_
      repeat walk_at "st"
      rw [← hp'] at h
      exact h
theorem c_before {G : List (Int × V)} {ls m d st kd ms tb : V} {f : Int} {row : List V} {rs : List Rec} {cls : Nat → Int} {i : Nat} (R : RowAt σ G row rs cls) (hi : i ≤ rs.length) (hf : f = 0 ∨ f = 8)
    (h : Q (.int (prevF (fun j => ign f (cls j)) i)) σ) : WC (cx w B) (k + 6) (.glob 227) [sceneV (bufV row) (gdefV G) ls (vLookup kd (.int f) ms tb) m d st, .int i] σ Q := by
  refine e_before_at ?_
  repeat walk_at "st"
  repeat walk_at "st"
  exact c_neighbourB R hi hf h
noncomputable def nextF (n i : Nat) : Int := if i + 1 < n then (i + 1 : Nat) else -1
theorem c_neighbourN {G : List (Int × V)} {ls m d st kd ms tb : V} {row : List V} {rs : List Rec} {cls : Nat → Int} {i : Nat} (R : RowAt σ G row rs cls) (hi : i < rs.length)
    (h : Q (.int (nextF rs.length i)) σ) : WC (cx w B) (k + 5) (.glob 213) [sceneV (bufV row) (gdefV G) ls (vLookup kd (.int 0) ms tb) m d st, .int i, .int 1] σ Q := by
  refine e_neighbour ?_
  repeat walk_at "st"
  refine WS_while (fun n ρ σ' => σ' = σ ∧ ρ = ([("scene", sceneV (bufV row) (gdefV G) ls (vLookup kd (.int 0) ms tb) m d st), ("at", .int i), ("step", .int 1), ("here", .int ((i : Int) + 1))] : Loc)) 0
    ⟨rfl, by kernel_rfl⟩ ?_
  rintro n ρ σ' ⟨rfl, rfl⟩
  have hlen := R.len
  have hfew := R.few
  repeat walk_at "st"
  refine tT' (by simp; lia) ?_
  repeat walk_at "st"
  refine WC_len_lst (by lia) ?_
  repeat walk_at "st"
  by_cases hlt : i + 1 < rs.length
  · refine tT (by simp; lia) ?_
    obtain ⟨r, hr⟩ : ∃ r, rs[i + 1]? = some r := ⟨_, List.getElem?_eq_getElem hlt⟩
    obtain ⟨x, dd, hrow, hσ, hG, hc⟩ := R.at_ (i + 1) r hr
    have en : (i : Int) + 1 = ((i + 1 : Nat) : Int) := by lia
    rw [en]
    repeat walk_at "st"
    repeat walk_at "st"
    refine c_passes (by lia) hrow hσ hG hc (.inl rfl) ?_
    repeat walk_at "st"
    refine tT rfl ?_
    repeat walk_at "st"
    refine ⟨_, IxP_lst hrow (by lia), ?_⟩
    repeat walk_at "st"
    refine WE_around (by kernel_rfl!) ?_
    refine notin_around ?_
    refine tT rfl ?_
    repeat walk_at "st"
    refine tT rfl ?_
    repeat walk_at "st"
    unfold nextF at h
    rw [if_pos hlt] at h
    exact h
  · refine tF (by simp; lia) ?_
    repeat walk_at "st"
    unfold nextF at h
    rw [if_neg hlt] at h
    exact h
theorem c_next {G : List (Int × V)} {ls m d st kd ms tb : V} {row : List V} {rs : List Rec} {cls : Nat → Int} {i : Nat} (R : RowAt σ G row rs cls) (hi : i < rs.length)
    (h : Q (.int (nextF rs.length i)) σ) : WC (cx w B) (k + 6) (.glob 220) [sceneV (bufV row) (gdefV G) ls (vLookup kd (.int 0) ms tb) m d st, .int i] σ Q := by
  refine e_next_at ?_
  repeat walk_at "st"
  repeat walk_at "st"
  exact c_neighbourN R hi h
structure RLay (row : List V) (ds : List Addr) (n : Nat) : Prop where
  rl : row.length = n
  dl : ds.length = n
  nd : ds.Nodup
  at_ : ∀ (i : Nat) (d : Addr), ds[i]? = some d → ∃ x, row[i]? = some (V.obj 135 x d)
theorem RLay.get {row : List V} {ds : List Addr} {rs : List Rec} {i : Nat} {r : Rec} (L : RLay row ds rs.length) (h : rs[i]? = some r) : ∃ x d, ds[i]? = some d ∧ row[i]? = some (V.obj 135 x d) ∧ updR σ ds rs d = some (.flds (recF r)) := by
  have hi : i < rs.length := by
    rcases Nat.lt_or_ge i rs.length with g | g
    · exact g
    · rw [List.getElem?_eq_none g] at h; cases h
  have hd : ds[i]? = some (ds[i]'(by rw [L.dl]; exact hi)) := List.getElem?_eq_getElem _
  obtain ⟨x, hx⟩ := L.at_ i _ hd
  exact ⟨x, _, hd, hx, updR_at L.nd hd h⟩
theorem RLay.rowAt {G : List (Int × V)} {row : List V} {ds : List Addr} {rs : List Rec} {cls : Nat → Int} (L : RLay row ds rs.length) (hf : rs.length ≤ 5) (hc : ∀ i r, rs[i]? = some r → lkI G r.glyph = some (.int (cls i)) ∧ (cls i = 1 ∨ cls i = 3)) : RowAt (updR σ ds rs) G row rs cls :=
  ⟨L.rl, fun i r h => by
    obtain ⟨x, d, h1, h2, h3⟩ := L.get (σ := σ) h
    exact ⟨x, d, h2, h3, hc i r h⟩, hf⟩
noncomputable abbrev infoN : List Str := ["bond", "cluster", "code", "glyph", "is_unsafe", "kind", "lig_count", "lig_id", "lig_part", "mask", "parent", "split_id", "x_advance", "x_offset", "y_advance", "y_offset"]
inductive InfoS (τ : Sto) (ds : List Addr) (rs : List Rec) (name : Str) (x : V) (K : Sto → Prop) (ov : V) (σ₁ : Sto) : Prop
  | mk (xo d : Addr) (i : Nat) (r r' : Rec) : ov = .obj 135 xo d → σ₁ = updR τ ds rs → ds.Nodup → ds[i]? = some d → rs[i]? = some r → infoN.contains name = true → putF name x (recF r) = recF r' → K (updR τ ds (rs.set i r')) → InfoS τ ds rs name x K ov σ₁
theorem WA_info {sc : Scope} {ρ : Loc} {pos : Pos} {o : Expr} {name : Str} {x : V} {τ : Sto} {ds : List Addr} {rs : List Rec} {QA : Loc → Sto → Prop}
    (h : WE (cx w B) k sc ρ o (updR τ ds rs) fun ov σ₁ => InfoS τ ds rs name x (fun σ₂ => QA ρ σ₂) ov σ₁) :
    WA (cx w B) k sc ρ (.Attribute o name pos) x (updR τ ds rs) QA := WA_attr (h.mono fun ov σ₁ q => by
      obtain ⟨xo, d, i, r, r', h1, h2, h3, h4, h5, h6, h7, h8⟩ := q
      exact ⟨135, xo, d, recF r, h1, by rw [h2]; exact updR_at h3 h4 h5, setOf sk_135 h6, by show 16 ≤ 1000; decide, by rw [h2, h7, updR_set h3 h4 h5]; exact h8⟩)
theorem c_info_told {r : Rec} {x d : Addr} (hσ : σ d = some (.flds (recF r))) (h : Q (.tup [.int r.glyph, .int r.cluster, .int r.xAdv, .int r.yAdv, .int r.xOff, .int r.yOff]) σ) : WC (cx w B) (k + 1) (.glob 132) [.obj 135 x d] σ Q := by
  refine e_Info_told ?_
  repeat walk_at "st"
  refine ⟨by show 6 ≤ 16777216; decide, ?_⟩
  exact h
noncomputable def unsafeF (rs : List Rec) (b e : Nat) : List Rec := rs.mapIdx fun i r => if b ≤ i ∧ i < e ∧ (∃ s ∈ (rs.drop b).take (e - b), s.cluster < r.cluster) then { r with uns := true } else r
theorem CompL_each {c : Cx} {sc : Scope} {n : Str} {elt : Expr} {Q : List V → Sto → Prop} {ρ₀ : Loc} : ∀ (items acc ys : List V) (ρ : Loc), (∀ x, putF n x ρ = putF n x ρ₀) → acc.length + items.length ≤ 1000 → ys.length = items.length →
    (∀ (i : Nat) (x y : V), items[i]? = some x → ys[i]? = some y → ∀ Q' : V → Sto → Prop, Q' y σ → WE c k sc (putF n x ρ₀) elt σ Q') → Q (acc ++ ys) σ → CompL c k sc n [] (stepE c k sc elt) (fun a _ s => Q a s) items acc ρ σ
  | [], acc, ys, ρ, _, _, hy, _, h => by
    cases ys with
    | nil => rw [List.append_nil] at h; exact h
    | cons _ _ => simp at hy
  | x :: r, acc, [], ρ, _, _, hy, _, h => by simp at hy
  | x :: r, acc, y :: ys, ρ, hρ, hl, hy, he, h => by
    refine And.intro (fun _ => ⟨by simp at hl; lia, ?_⟩) (fun e => nomatch e)
    rw [hρ]
    refine he 0 x y rfl rfl _ ?_
    refine CompL_each r (acc ++ [y]) ys _ (fun x' => putF_twice _) (by simp at hl ⊢; lia) (by simp at hy; exact hy) (fun i a b h1 h2 => he (i + 1) a b h1 h2) ?_
    rw [List.append_assoc]; exact h
noncomputable def markF (m : Int) (b j : Nat) (rs : List Rec) : List Rec := rs.mapIdx fun i r => if b ≤ i ∧ i < b + j ∧ r.cluster ≠ m then { r with uns := true } else r
theorem markF_len {m : Int} {b j : Nat} {rs : List Rec} : (markF m b j rs).length = rs.length := by simp [markF]
theorem markF_at {m : Int} {b j i : Nat} {rs : List Rec} : (markF m b j rs)[i]? = (rs[i]?).map fun r => if b ≤ i ∧ i < b + j ∧ r.cluster ≠ m then { r with uns := true } else r := by simp [markF, List.getElem?_mapIdx]
theorem markF_zero {m : Int} {b : Nat} {rs : List Rec} : markF m b 0 rs = rs := by
  apply List.ext_getElem? ; intro i
  rw [markF_at]
  cases h : rs[i]? with
  | none => rfl
  | some r => simp only [Option.map_some]; rw [if_neg (by lia)]
theorem markF_yes {m : Int} {b j : Nat} {rs : List Rec} {r : Rec} (h : rs[b + j]? = some r) (hm : r.cluster ≠ m) : markF m b (j + 1) rs = (markF m b j rs).set (b + j) { r with uns := true } := by
  apply List.ext_getElem? ; intro i
  rw [List.getElem?_set, markF_at, markF_at, markF_len]
  by_cases e : b + j = i
  · subst e
    have hl : b + j < rs.length := (List.getElem?_eq_some_iff.mp h).1
    rw [h, if_pos rfl, if_pos hl]
    simp only [Option.map_some]
    rw [if_pos ⟨by lia, by lia, hm⟩]
  · rw [if_neg e]
    cases h' : rs[i]? with
    | none => rfl
    | some r' =>
      simp only [Option.map_some]
      by_cases q : b ≤ i ∧ i < b + j ∧ r'.cluster ≠ m
      · rw [if_pos q, if_pos ⟨q.1, by lia, q.2.2⟩]
      · rw [if_neg q, if_neg (fun q' => q ⟨q'.1, by lia, q'.2.2⟩)]
theorem markF_no {m : Int} {b j : Nat} {rs : List Rec} {r : Rec} (h : rs[b + j]? = some r) (hm : r.cluster = m) : markF m b (j + 1) rs = markF m b j rs := by
  apply List.ext_getElem? ; intro i
  rw [markF_at, markF_at]
  cases h' : rs[i]? with
  | none => rfl
  | some r' =>
    simp only [Option.map_some]
    by_cases q : b ≤ i ∧ i < b + j ∧ r'.cluster ≠ m
    · rw [if_pos q, if_pos ⟨q.1, by lia, q.2.2⟩]
    · rw [if_neg q, if_neg (fun q' => q ⟨q'.1, by
        have : i ≠ b + j := by rintro rfl; rw [h] at h'; cases h'; exact q'.2.2 hm
        lia, q'.2.2⟩)]
theorem unsafeF_is {m : Int} {b e : Nat} {rs : List Rec} (he : e ≤ rs.length) (h1 : ∃ r ∈ (rs.drop b).take (e - b), r.cluster = m) (h2 : ∀ r ∈ (rs.drop b).take (e - b), m ≤ r.cluster) : unsafeF rs b e = markF m b (e - b) rs := by
  apply List.ext_getElem? ; intro i
  rw [markF_at]
  unfold unsafeF
  rw [List.getElem?_mapIdx]
  cases h' : rs[i]? with
  | none => rfl
  | some r =>
    simp only [Option.map_some]
    by_cases q : b ≤ i ∧ i < e
    · have hm : r ∈ (rs.drop b).take (e - b) := by
        apply List.mem_of_getElem? (i := i - b)
        rw [List.getElem?_take_of_lt (by lia), List.getElem?_drop, show b + (i - b) = i by lia, h']
      obtain ⟨s, hs, hsm⟩ := h1
      have := h2 r hm
      by_cases g : r.cluster = m
      · rw [if_neg (by rintro ⟨-, -, s', hs', g'⟩; have := h2 s' hs'; lia), if_neg (fun q' => q'.2.2 g)]
      · rw [if_pos ⟨q.1, q.2, s, hs, by lia⟩, if_pos ⟨q.1, by lia, g⟩]
    · rw [if_neg (fun q' => q ⟨q'.1, q'.2.1⟩), if_neg (fun q' => q ⟨q'.1, by lia⟩)]
theorem unsafeF_one {b e : Nat} {rs : List Rec} (h : e - b < 2) : unsafeF rs b e = rs := by
  apply List.ext_getElem? ; intro i
  unfold unsafeF
  rw [List.getElem?_mapIdx]
  cases h' : rs[i]? with
  | none => rfl
  | some r =>
    simp only [Option.map_some]
    rw [if_neg]
    rintro ⟨q1, q2, s, hs, g⟩
    obtain ⟨j, hj, e'⟩ := List.mem_iff_getElem.mp hs
    rw [List.length_take, List.length_drop] at hj
    have : j = 0 := by lia
    subst this
    have hi : i = b := by lia
    subst hi
    have : (((rs.drop i).take (e - i))[0]?) = some s := by rw [← e']; exact List.getElem?_eq_getElem _
    rw [List.getElem?_take_of_lt (by lia), List.getElem?_drop, Nat.add_zero, h'] at this
    cases this
    lia
theorem unsafeF_len {b e : Nat} {rs : List Rec} : (unsafeF rs b e).length = rs.length := by simp [unsafeF]
noncomputable abbrev hangL (row : List V) (b e : Nat) (m : Int) : Loc := [("buffer", bufV row), ("begin", .int b), ("end", .int e), ("stretch", .lst (List.take (e - b) (List.drop b row))), ("least_cluster", .int m)]
theorem c_hang {row : List V} {ds : List Addr} {rs : List Rec} {b e : Nat} {τ : Sto} (L : RLay row ds rs.length) (hf : rs.length ≤ 5) (hb : b ≤ e) (he : e ≤ rs.length) (h : Q .none (updR τ ds (unsafeF rs b e))) :
    WC (cx w B) (k + 1) (.glob 197) [bufV row, .int b, .int e] (updR τ ds rs) Q := by
  refine e_hang ?_
  repeat walk_at "st"
  refine WE_slice ?_
  repeat walk_at "st"
  have hlen := L.rl
  refine ⟨_, rfl, ?_⟩
  try show WE _ _ _ _ _ _ _
  repeat walk_at "st"
  refine ⟨_, rfl, _, _, rfl, by lia, by show (if b ≤ e ∧ e ≤ row.length then _ else _) = _; rw [if_pos ⟨hb, by lia⟩], ?_⟩
  repeat walk_at "st"
  refine WC_len_lst (by rw [List.length_take, List.length_drop]; lia) ?_
  repeat walk_at "st"
  have hst : (List.take (e - b) (List.drop b row)).length = e - b := by rw [List.length_take, List.length_drop]; lia
  rw [hst]
  rcases Nat.lt_or_ge (e - b) 2 with hlt | hge
  · refine tT (by simp; lia) ?_
    repeat walk_at "st"
    rw [unsafeF_one hlt] at h
    exact h
  · refine tF (by simp; lia) ?_
    repeat walk_at "st"
    refine WE_comp1 (by kernel_rfl) (by kernel_rfl) ?_
    repeat walk_at "st"
    refine ⟨_, IterP_lst, ?_⟩
    have hat : ∀ (i : Nat) (x : V), (List.take (e - b) (List.drop b row))[i]? = some x → ∃ x' d r, i < e - b ∧ x = .obj 135 x' d ∧ ds[b + i]? = some d ∧ rs[b + i]? = some r := by
      intro i x hx
      have hi : i < e - b := by have := (List.getElem?_eq_some_iff.mp hx).1; lia
      rw [List.getElem?_take_of_lt hi, List.getElem?_drop] at hx
      have hr : b + i < rs.length := by lia
      obtain ⟨x', d, h1, h2, -⟩ := L.get (σ := τ) (List.getElem?_eq_getElem hr)
      rw [hx] at h2; cases h2
      exact ⟨x', d, _, hi, rfl, h1, List.getElem?_eq_getElem hr⟩
    refine CompL_each _ [] (iV (((rs.drop b).take (e - b)).map (·.cluster))) _ (fun _ => rfl) (by simp only [List.length_nil]; lia) (by simp [iV]; lia) ?_ ?_
    · intro i x y hx hy Q' hQ
      obtain ⟨x', d, r, hi, rfl, hd, hr⟩ := hat i x hx
      have hσ := updR_at (σ := τ) L.nd hd hr
      have ey : y = .int r.cluster := by
        simp only [iV, List.getElem?_map, List.getElem?_take_of_lt hi, List.getElem?_drop, hr, Option.map_some, Option.some.injEq] at hy
        exact hy.symm
      subst ey
      repeat walk_at "st"
      exact hQ
    · rw [List.nil_append]
      have hne : List.map (·.cluster) ((rs.drop b).take (e - b)) ≠ [] := by
        intro q
        have := congrArg List.length q
        simp at this; lia
      repeat walk_at "st"
      refine WC_minL hne (fun m hm hmin => ?_)
      rw [unsafeF_is he (by
        obtain ⟨r, hr, e'⟩ := List.mem_map.mp hm
        exact ⟨r, hr, e'⟩) (fun r hr => hmin _ (List.mem_map.mpr ⟨r, hr, rfl⟩))] at h
      repeat walk_at "st"
      refine WS_for ?_
      repeat walk_at "st"
      refine ⟨_, IterP_lst, .inr (fun _ _ => rfl), ?_⟩
      refine ForL.ix (hangL row b e m) _ (fun j σ => σ = updR τ ds (markF m b j rs)) ?_ ?_ (by rw [markF_zero]) (by kernel_rfl)
      · rintro σ rfl
        rw [hst]
        repeat walk_at "st"
        exact h
      · rintro j x σ hx rfl
        obtain ⟨x', d, rc, hj', rfl, hd, hr⟩ := hat j x hx
        have hm' : (markF m b j rs)[b + j]? = some rc := by
          rw [markF_at, hr]; simp
        have hσ := updR_at (σ := τ) L.nd hd hm'
        repeat walk_at "st"
        repeat walk_at "st"
        by_cases hc : rc.cluster = m
        · refine tF (by simp [hc]) ?_
          repeat walk_at "st"
          exact ⟨SubL.app (l := hangL row b e m) [("info", _)], by rw [markF_no hr hc]⟩
        · refine tT (by simp [hc]) ?_
          repeat walk_at "st"
          refine WA_info ?_
          repeat walk_at "st"
          refine ⟨x', d, b + j, rc, { rc with uns := true }, rfl, rfl, L.nd, hd, hm', by kernel_rfl, rfl, ?_⟩
          repeat walk_at "st"
          exact ⟨SubL.app (l := hangL row b e m) [("info", _)], by rw [markF_yes hr hc]⟩
theorem updR_here {τ : Sto} {ds : List Addr} {rs : List Rec} {i : Nat} {d : Addr} {r r' : Rec} (nd : ds.Nodup) (hd : ds[i]? = some d) (hr : rs[i]? = some r) : updR τ ds (rs.set i r') d = some (.flds (recF r')) :=
  updR_at nd hd (by rw [List.getElem?_set, if_pos rfl, if_pos (List.getElem?_eq_some_iff.mp hr).1])
theorem set_here {rs : List Rec} {i : Nat} {r r' : Rec} (hr : rs[i]? = some r) : (rs.set i r')[i]? = some r' := by
  rw [List.getElem?_set, if_pos rfl, if_pos (List.getElem?_eq_some_iff.mp hr).1]
noncomputable def addV (r : Rec) (xo yo xa : Int) : Rec := { r with xOff := r.xOff + xo, yOff := r.yOff + yo, xAdv := r.xAdv + xa }
theorem c_add_value {ds : List Addr} {rs : List Rec} {i : Nat} {τ : Sto} {x d : Addr} {r : Rec} {xo yo xa ya : Int} {bk : V} (nd : ds.Nodup) (hd : ds[i]? = some d) (hr : rs[i]? = some r) (h : Q .none (updR τ ds (rs.set i (addV r xo yo xa)))) :
    WC (cx w B) (k + 1) (.glob 846) [.obj 135 x d, vValue (.int xo) (.int yo) (.int xa) (.int ya), bk] (updR τ ds rs) Q := by
  refine e_add_value ?_
  have h0 := updR_at (σ := τ) nd hd hr
  have h1 := updR_here (τ := τ) (r' := { r with xOff := r.xOff + xo }) nd hd hr
  have h2 := updR_here (τ := τ) (r' := { r with xOff := r.xOff + xo, yOff := r.yOff + yo }) nd hd hr
  repeat walk_at "st"
  refine WA_info ?_
  repeat walk_at "st"
  refine ⟨x, d, i, r, { r with xOff := r.xOff + xo }, rfl, rfl, nd, hd, hr, by kernel_rfl, rfl, ?_⟩
  repeat walk_at "st"
  refine WA_info ?_
  repeat walk_at "st"
  refine ⟨x, d, i, _, { r with xOff := r.xOff + xo, yOff := r.yOff + yo }, rfl, rfl, nd, hd, set_here hr, by kernel_rfl, rfl, ?_⟩
  rw [List.set_set]
  repeat walk_at "st"
  refine WA_info ?_
  repeat walk_at "st"
  refine ⟨x, d, i, _, addV r xo yo xa, rfl, rfl, nd, hd, set_here hr, by kernel_rfl, rfl, ?_⟩
  rw [List.set_set]
  repeat walk_at "st"
  exact h
theorem c_apply_adjust {row : List V} {ds : List Addr} {rs : List Rec} {τ : Sto} {i : Nat} {r : Rec} {g ls l m d st : V} {D : List (Int × V)} (L : RLay row ds rs.length) (hf : rs.length ≤ 5) (hr : rs[i]? = some r)
    (h0 : lkI D r.glyph = none → Q (.int (-1)) (updR τ ds rs)) (h1 : ∀ y, lkI D r.glyph = some y → ∃ xo yo xa ya, y = vValue (.int xo) (.int yo) (.int xa) (.int ya) ∧ Q (.int ((i : Int) + 1)) (updR τ ds (rs.set i (addV r xo yo xa)))) :
    WC (cx w B) (k + 2) (.glob 879) [sceneV (bufV row) g ls l m d st, vAdjust (.dcI D), .int i] (updR τ ds rs) Q := by
  refine e_apply_adjust ?_
  obtain ⟨x, dd, hd, hrow, hσ⟩ := L.get (σ := τ) hr
  have hi : i < rs.length := (List.getElem?_eq_some_iff.mp hr).1
  repeat walk_at "st"
  refine ⟨_, IxP_lst hrow (by lia), ?_⟩
  repeat walk_at "st"
  refine ⟨_, MetP_get, rfl, ?_⟩
  repeat walk_at "st"
  refine WC_get1 ?_
  repeat walk_at "st"
  cases hg : lkI D r.glyph with
  | none =>
    refine CmpP_is ?_
    refine tT rfl ?_
    repeat walk_at "st"
    exact h0 hg
  | some y =>
    obtain ⟨xo, yo, xa, ya, rfl, h'⟩ := h1 y hg
    refine CmpP_is ?_
    refine tF rfl ?_
    repeat walk_at "st"
    repeat walk_at "st"
    refine c_add_value L.nd hd hr ?_
    repeat walk_at "st"
    refine ⟨rfl, ?_⟩
    repeat walk_at "st"
    exact h'
theorem small5 {n : Nat} (h : n ≤ 8) : Builtin.Range.small 0 n 1 = true := by
  have : n = 0 ∨ n = 1 ∨ n = 2 ∨ n = 3 ∨ n = 4 ∨ n = 5 ∨ n = 6 ∨ n = 7 ∨ n = 8 := by lia
  rcases this with rfl | rfl | rfl | rfl | rfl | rfl | rfl | rfl | rfl <;> decide
noncomputable def Back (rs : List Rec) (n : Nat) : Prop := ∀ (j : Nat) (r : Rec), j < n → rs[j]? = some r → r.parent ≤ 0 ∧ 0 ≤ (j : Int) + r.parent
theorem c_break_ring {row : List V} {ds : List Addr} {rs : List Rec} {τ : Sto} {n p c : Nat} (L : RLay row ds rs.length) (hf : rs.length ≤ 5) (hn : n ≤ rs.length) (hp : p < n) (hc : n ≤ c) (HB : Back rs n) (h : Q .none (updR τ ds rs)) :
    WC (cx w B) (k + 1) (.glob 396) [.lst row, .int c, .int p] (updR τ ds rs) Q := by
  refine e_break_ring ?_
  have hlen := L.rl
  repeat walk_at "st"
  refine WS_for ?_
  repeat walk_at "st"
  refine WC_len_lst (by lia) ?_
  repeat walk_at "st"
  refine WC_range ?_
  refine ⟨_, IterP_rng (small5 (by lia)), .inr (fun _ _ => rfl), ?_⟩
  refine ForL.inv (fun items ρ σ => ∃ j : Nat, j < n ∧ σ = updR τ ds rs ∧ ∀ x, putF "turn" x ρ = ([("row", .lst row), ("child", .int c), ("parent", .int p), ("here", .int j), ("turn", x)] : Loc)) ?_ ?_ _ _ _ ⟨p, hp, rfl, fun _ => by kernel_rfl⟩
  · rintro ρ σ ⟨j, -, rfl, -⟩
    repeat walk_at "st"
    exact h
  · rintro x r ρ σ ⟨j, hj, rfl, hρ⟩
    obtain ⟨rc, hr⟩ : ∃ r, rs[j]? = some r := ⟨_, List.getElem?_eq_getElem (by lia)⟩
    obtain ⟨x', d, hd, hrow, hσ⟩ := L.get (σ := τ) hr
    obtain ⟨hb1, hb2⟩ := HB j rc hj hr
    repeat walk_at "st"
    rw [hρ]
    repeat walk_at "st"
    refine ⟨_, IxP_lst hrow (by lia), ?_⟩
    repeat walk_at "st"
    by_cases h0 : rc.parent = 0
    · refine tT (by simp [h0]) ?_
      repeat walk_at "st"
      exact h
    · refine tF (by simp [h0]) ?_
      repeat walk_at "st"
      refine ⟨_, IxP_lst hrow (by lia), ?_⟩
      repeat walk_at "st"
      refine tF (by simp; lia) ?_
      repeat walk_at "st"
      refine ⟨_, IxP_lst hrow (by lia), ?_⟩
      repeat walk_at "st"
      have e : (j : Int) + rc.parent = ((j : Int) + rc.parent).toNat := by lia
      rw [e]
      repeat walk_at "st"
      exact ⟨((j : Int) + rc.parent).toNat, by lia, rfl, fun _ => by kernel_rfl⟩
theorem c_turn_chain {row : List V} {ds : List Addr} {rs : List Rec} {τ : Sto} {c : Nat} {r : Rec} {p : V} (L : RLay row ds rs.length) (hf : rs.length ≤ 5) (hr : rs[c]? = some r) (h0 : r.parent = 0) (h : Q .none (updR τ ds rs)) :
    WC (cx w B) (k + 1) (.glob 389) [.lst row, .int c, p] (updR τ ds rs) Q := by
  refine e_turn_chain ?_
  obtain ⟨x', d, hd, hrow, hσ⟩ := L.get (σ := τ) hr
  have hc : c < rs.length := (List.getElem?_eq_some_iff.mp hr).1
  repeat walk_at "st"
  refine ⟨by show 0 ≤ 16777216; decide, ?_⟩
  repeat walk_at "st"
  refine WS_while (fun _ ρ σ => σ = updR τ ds rs ∧ ρ = ([("row", .lst row), ("child", .int c), ("parent", p), ("links", .lst []), ("here", .int c)] : Loc)) 0 ⟨rfl, by kernel_rfl⟩ ?_
  rintro n ρ σ ⟨rfl, rfl⟩
  repeat walk_at "st"
  refine ⟨_, IxP_lst hrow (by lia), ?_⟩
  repeat walk_at "st"
  refine tF (by simp [h0]) ?_
  refine tF rfl ?_
  repeat walk_at "st"
  refine WS_for ?_
  repeat walk_at "st"
  refine ⟨_, IterP_lst, .inl rfl, ?_⟩
  try show WB _ _ _ _ _ _ _
  repeat walk_at "st"
  exact h
theorem c_tie {row : List V} {ds : List Addr} {rs : List Rec} {τ : Sto} {n p : Nat} {r : Rec} {off : Int} (L : RLay row ds rs.length) (hf : rs.length ≤ 5) (hp : p < n) (HB : Back rs n) (hr : rs[n]? = some r) (h0 : r.parent = 0)
    (h : Q .none (updR τ ds (rs.set n { r with parent := (p : Int) - n, bond := "cursive", yOff := off }))) : WC (cx w B) (k + 2) (.glob 403) [.lst row, .int n, .int p, .int off] (updR τ ds rs) Q := by
  refine e_tie ?_
  have hn : n < rs.length := (List.getElem?_eq_some_iff.mp hr).1
  obtain ⟨x, d, hd, hrow, hσ⟩ := L.get (σ := τ) hr
  repeat walk_at "st"
  repeat walk_at "st"
  refine c_turn_chain L hf hr h0 ?_
  refine ⟨rfl, ?_⟩
  repeat walk_at "st"
  repeat walk_at "st"
  refine c_break_ring L hf (by lia) hp (Nat.le_refl _) HB ?_
  refine ⟨rfl, ?_⟩
  repeat walk_at "st"
  refine WA_info ?_
  repeat walk_at "st"
  refine ⟨_, IxP_lst hrow (by lia), ?_⟩
  refine ⟨x, d, n, r, { r with parent := (p : Int) - n }, rfl, rfl, L.nd, hd, hr, by kernel_rfl, rfl, ?_⟩
  repeat walk_at "st"
  refine WA_info ?_
  repeat walk_at "st"
  refine ⟨_, IxP_lst hrow (by lia), ?_⟩
  refine ⟨x, d, n, _, { r with parent := (p : Int) - n, bond := "cursive" }, rfl, rfl, L.nd, hd, set_here hr, by kernel_rfl, rfl, ?_⟩
  rw [List.set_set]
  repeat walk_at "st"
  refine WA_info ?_
  repeat walk_at "st"
  refine ⟨_, IxP_lst hrow (by lia), ?_⟩
  refine ⟨x, d, n, _, { r with parent := (p : Int) - n, bond := "cursive", yOff := off }, rfl, rfl, L.nd, hd, set_here hr, by kernel_rfl, rfl, ?_⟩
  rw [List.set_set]
  repeat walk_at "st"
  exact h
theorem c_join_forward {ds : List Addr} {rs : List Rec} {τ : Sto} {i j : Nat} {x d x' d' : Addr} {r r' : Rec} {lx ly ex ey : Int} (nd : ds.Nodup) (hne : i ≠ j) (hd : ds[i]? = some d) (hr : rs[i]? = some r) (hd' : ds[j]? = some d') (hr' : rs[j]? = some r')
    (h : Q .none (updR τ ds ((rs.set i { r with xAdv := lx + r.xOff }).set j { r' with xAdv := r'.xAdv - (ex + r'.xOff), xOff := r'.xOff - (ex + r'.xOff) }))) : WC (cx w B) (k + 1) (.glob 368) [.obj 135 x d, .obj 135 x' d', vAnchor (.int lx) (.int ly), vAnchor (.int ex) (.int ey)] (updR τ ds rs) Q := by
  refine e_join_forward ?_
  have h0 := updR_at (σ := τ) nd hd hr
  have hr1 : (rs.set i { r with xAdv := lx + r.xOff })[j]? = some r' := by rw [List.getElem?_set_ne hne, hr']
  have h1 := updR_at (σ := τ) nd hd' hr1
  have h2 := updR_here (τ := τ) (r' := { r' with xAdv := r'.xAdv - (ex + r'.xOff) }) nd hd' hr1
  repeat walk_at "st"
  refine WA_info ?_
  repeat walk_at "st"
  refine ⟨x, d, i, r, { r with xAdv := lx + r.xOff }, rfl, rfl, nd, hd, hr, by kernel_rfl, rfl, ?_⟩
  repeat walk_at "st"
  refine WA_info ?_
  repeat walk_at "st"
  refine ⟨x', d', j, _, { r' with xAdv := r'.xAdv - (ex + r'.xOff) }, rfl, rfl, nd, hd', hr1, by kernel_rfl, rfl, ?_⟩
  repeat walk_at "st"
  refine WA_info ?_
  repeat walk_at "st"
  refine ⟨x', d', j, _, { r' with xAdv := r'.xAdv - (ex + r'.xOff), xOff := r'.xOff - (ex + r'.xOff) }, rfl, rfl, nd, hd', set_here hr1, by kernel_rfl, rfl, ?_⟩
  rw [List.set_set]
  repeat walk_at "st"
  exact h
theorem unsafeF_at {b e i : Nat} {rs : List Rec} {r : Rec} (h : rs[i]? = some r) : ∃ u, (unsafeF rs b e)[i]? = some { r with uns := u } := by
  unfold unsafeF
  rw [List.getElem?_mapIdx, h]
  simp only [Option.map_some]
  split
  · exact ⟨true, rfl⟩
  · exact ⟨r.uns, rfl⟩
theorem unsafeF_par {b e i : Nat} {rs : List Rec} {r : Rec} (h : rs[i]? = some r) : ∃ r', (unsafeF rs b e)[i]? = some r' ∧ r'.parent = r.parent := by
  obtain ⟨u, hu⟩ := unsafeF_at (b := b) (e := e) h
  exact ⟨_, hu, rfl⟩
noncomputable def ParS (rs rs' : List Rec) : Prop := ∀ (j : Nat) (r' : Rec), rs'[j]? = some r' → ∃ r, rs[j]? = some r ∧ r'.parent = r.parent
theorem Back.par {rs rs' : List Rec} {n : Nat} (h : Back rs n) (p : ParS rs rs') : Back rs' n := fun j r' hj hr => by
  obtain ⟨r, h1, h2⟩ := p j r' hr
  rw [h2]; exact h j r hj h1
theorem ParS.uns {rs : List Rec} {b e : Nat} : ParS rs (unsafeF rs b e) := fun j r' h => by
  cases hr : rs[j]? with
  | none =>
    unfold unsafeF at h
    rw [List.getElem?_mapIdx, hr] at h; cases h
  | some r =>
    obtain ⟨u, hu⟩ := unsafeF_at (b := b) (e := e) hr
    rw [hu] at h; cases h
    exact ⟨r, rfl, rfl⟩
theorem ParS.set {rs rs' : List Rec} {i : Nat} {r r' : Rec} (p : ParS rs rs') (hr : rs'[i]? = some r) (e : r'.parent = r.parent) : ParS rs (rs'.set i r') := fun j q h => by
  rw [List.getElem?_set] at h
  by_cases hij : i = j
  · subst hij
    rw [if_pos rfl, if_pos (List.getElem?_eq_some_iff.mp hr).1] at h
    cases h
    obtain ⟨r0, h1, h2⟩ := p i r hr
    exact ⟨r0, h1, e.trans h2⟩
  · rw [if_neg hij] at h
    exact p j q h
noncomputable abbrev endsV (y : Option V) : V := match y with | some _ => vAnchor (.int 1) (.int 2) | none => .none
theorem c_entry {D : List (Int × V)} {g : Int} (hD : ∀ y, lkI D g = some y → y = .tup [vAnchor (.int 1) (.int 2), vAnchor (.int 30) (.int 4)])
    (h : Q (if (lkI D g).isSome then vAnchor (.int 1) (.int 2) else .none) σ) : WC (cx w B) (k + 1) (.glob 337) [vCursive (.dcI D), .int g] σ Q := by
  refine e_Cursive_entry ?_
  repeat walk_at "st"
  refine ⟨_, MetP_get, rfl, ?_⟩
  repeat walk_at "st"
  refine ⟨by show 2 ≤ 16777216; decide, ?_⟩
  repeat walk_at "st"
  refine WC_get ?_
  repeat walk_at "st"
  cases hg : lkI D g with
  | none =>
    rw [hg] at h
    exact ⟨_, IxP_tup (i := 0) rfl, h⟩
  | some y =>
    rw [hg] at h
    have := hD y hg; subst this
    exact ⟨_, IxP_tup (i := 0) rfl, h⟩
theorem c_exit {D : List (Int × V)} {g : Int} (hD : ∀ y, lkI D g = some y → y = .tup [vAnchor (.int 1) (.int 2), vAnchor (.int 30) (.int 4)])
    (h : Q (if (lkI D g).isSome then vAnchor (.int 30) (.int 4) else .none) σ) : WC (cx w B) (k + 1) (.glob 344) [vCursive (.dcI D), .int g] σ Q := by
  refine e_Cursive_exit ?_
  repeat walk_at "st"
  refine ⟨_, MetP_get, rfl, ?_⟩
  repeat walk_at "st"
  refine ⟨by show 2 ≤ 16777216; decide, ?_⟩
  repeat walk_at "st"
  refine WC_get ?_
  repeat walk_at "st"
  cases hg : lkI D g with
  | none =>
    rw [hg] at h
    exact ⟨_, IxP_tup (i := 1) rfl, h⟩
  | some y =>
    rw [hg] at h
    have := hD y hg; subst this
    exact ⟨_, IxP_tup (i := 1) rfl, h⟩
noncomputable def joinF (rs : List Rec) (n : Nat) (p r : Rec) : List Rec :=
  ((rs.set n { p with xAdv := 30 + p.xOff }).set (n + 1) { r with xAdv := r.xAdv - (1 + r.xOff), xOff := r.xOff - (1 + r.xOff), yOff := 2, parent := -1, bond := "cursive" })
noncomputable def curF (D : List (Int × V)) (rs : List Rec) : Nat → Int × List Rec
  | 0 => (-1, rs)
  | n + 1 => match rs[n]?, rs[n + 1]?, (unsafeF rs n (n + 2))[n]?, (unsafeF rs n (n + 2))[n + 1]? with
    | some p, some r, some p', some r' => if (lkI D r.glyph).isSome ∧ (lkI D p.glyph).isSome then (((n + 2 : Nat) : Int), joinF (unsafeF rs n (n + 2)) n p' r') else (-1, rs)
    | _, _, _, _ => (-1, rs)
theorem curF_is {D : List (Int × V)} {rs : List Rec} {n : Nat} {p r p' r' : Rec} (h1 : rs[n]? = some p) (h2 : rs[n + 1]? = some r) (h3 : (unsafeF rs n (n + 2))[n]? = some p') (h4 : (unsafeF rs n (n + 2))[n + 1]? = some r') :
    curF D rs (n + 1) = if (lkI D r.glyph).isSome ∧ (lkI D p.glyph).isSome then (((n + 2 : Nat) : Int), joinF (unsafeF rs n (n + 2)) n p' r') else (-1, rs) := by
  simp only [curF, h1, h2, h3, h4]
theorem c_apply_cursive {G D : List (Int × V)} {row : List V} {ds : List Addr} {rs : List Rec} {τ : Sto} {i : Nat} {r : Rec} {ls kd ms tb m d st : V} {cls : Nat → Int} (L : RLay row ds rs.length) (hf : rs.length ≤ 5)
    (hc : ∀ i r, rs[i]? = some r → lkI G r.glyph = some (.int (cls i)) ∧ (cls i = 1 ∨ cls i = 3)) (hr : rs[i]? = some r) (h0 : r.parent = 0) (HB : Back rs i)
    (hD : ∀ g y, lkI D g = some y → y = .tup [vAnchor (.int 1) (.int 2), vAnchor (.int 30) (.int 4)])
    (h : Q (.int (curF D rs i).1) (updR τ ds (curF D rs i).2)) :
    WC (cx w B) (k + 7) (.glob 410) [sceneV (bufV row) (gdefV G) ls (vLookup kd (.int 0) ms tb) m d st, vCursive (.dcI D), .int i] (updR τ ds rs) Q := by
  refine e_apply_cursive ?_
  obtain ⟨x, dd, hd, hrow, hσ⟩ := L.get (σ := τ) hr
  have hi : i < rs.length := (List.getElem?_eq_some_iff.mp hr).1
  repeat walk_at "st"
  refine ⟨_, MetP_inst m_Cursive_entry.1 rfl, m_Cursive_entry.2, ?_⟩
  repeat walk_at "st"
  refine ⟨_, IxP_lst hrow (by lia), ?_⟩
  repeat walk_at "st"
  refine c_entry (hD _) ?_
  repeat walk_at "st"
  cases hg : lkI D r.glyph with
  | none =>
    have ec : curF D rs i = (-1, rs) := by
      cases i with
      | zero => rfl
      | succ n =>
        obtain ⟨p, hp⟩ : ∃ p, rs[n]? = some p := ⟨_, List.getElem?_eq_getElem (by lia)⟩
        obtain ⟨p', hp', hpp⟩ := unsafeF_par (b := n) (e := n + 2) hp
        obtain ⟨r', hr', hrr⟩ := unsafeF_par (b := n) (e := n + 2) hr
        rw [curF_is hp hr hp' hr', hg, if_neg (by simp)]
    rw [ec] at h
    refine CmpP_is ?_
    refine tT rfl ?_
    repeat walk_at "st"
    exact h
  | some y =>
    refine CmpP_is ?_
    refine tF rfl ?_
    repeat walk_at "st"
    repeat walk_at "st"
    refine c_before (L.rowAt hf hc) (by lia) (.inl rfl) ?_
    repeat walk_at "st"
    cases i with
    | zero =>
      refine tT (by kernel_rfl) ?_
      repeat walk_at "st"
      refine CmpP_is ?_
      refine tT rfl ?_
      repeat walk_at "st"
      exact h
    | succ n =>
      have ep : prevF (fun j => ign 0 (cls j)) (n + 1) = (n : Nat) := by
        show (if ign 0 (cls n) = true then _ else _) = _
        rw [if_neg (by simp [ign])]
      rw [ep]
      refine tF (by simp) ?_
      obtain ⟨p, hp⟩ : ∃ p, rs[n]? = some p := ⟨_, List.getElem?_eq_getElem (by lia)⟩
      obtain ⟨xp, dp, hdp, hrowp, hσp⟩ := L.get (σ := τ) hp
      obtain ⟨p', hp', hpp⟩ := unsafeF_par (b := n) (e := n + 2) hp
      obtain ⟨r', hr', hrr⟩ := unsafeF_par (b := n) (e := n + 2) hr
      repeat walk_at "st"
      refine ⟨_, MetP_inst m_Cursive_exit.1 rfl, m_Cursive_exit.2, ?_⟩
      repeat walk_at "st"
      refine ⟨_, IxP_lst hrowp (by lia), ?_⟩
      repeat walk_at "st"
      refine c_exit (hD _) ?_
      repeat walk_at "st"
      rw [curF_is hp hr hp' hr', hg] at h
      cases hq : lkI D p.glyph with
      | none =>
        rw [hq] at h
        rw [if_neg (by simp)] at h
        refine CmpP_is ?_
        refine tT rfl ?_
        repeat walk_at "st"
        exact h
      | some y' =>
        rw [hq] at h
        rw [if_pos (by simp)] at h
        refine CmpP_is ?_
        refine tF rfl ?_
        repeat walk_at "st"
        repeat walk_at "st"
        have e2 : ((n + 1 : Nat) : Int) + 1 = ((n + 2 : Nat) : Int) := by lia
        rw [e2]
        refine c_hang L hf (by lia) (by lia) ?_
        refine ⟨rfl, ?_⟩
        repeat walk_at "st"
        refine tF rfl ?_
        repeat walk_at "st"
        repeat walk_at "st"
        refine ⟨_, IxP_lst hrowp (by lia), ?_⟩
        repeat walk_at "st"
        refine ⟨_, IxP_lst hrow (by lia), ?_⟩
        repeat walk_at "st"
        refine c_join_forward L.nd (by lia) hdp hp' hd hr' ?_
        refine ⟨rfl, ?_⟩
        repeat walk_at "st"
        refine tF rfl ?_
        repeat walk_at "st"
        repeat walk_at "st"
        have hr2 : ((unsafeF rs n (n + 2)).set n { p' with xAdv := 30 + p'.xOff })[n + 1]? = some r' := by rw [List.getElem?_set_ne (by lia), hr']
        refine c_tie (by rw [List.length_set, List.length_set, unsafeF_len]; exact L) (by rw [List.length_set, List.length_set, unsafeF_len]; exact hf) (Nat.lt_succ_self n) (HB.par ((ParS.uns.set hp' (by rfl)).set hr2 (by rfl))) (set_here hr2) (hrr.trans h0) ?_
        refine ⟨rfl, ?_⟩
        repeat walk_at "st"
        have e3 : (n : Int) - ((n + 1 : Nat) : Int) = -1 := by lia
        rw [e3, List.set_set]
        have h' : Q (.int (((n + 1 : Nat) : Int) + 1)) (updR τ ds (joinF (unsafeF rs n (n + 2)) n p' r')) := by rw [e2]; exact h
        exact h'
noncomputable abbrev vPairs (P : List ((Int × Int) × V)) : V := .inst 921 [("pairs", .dcP P), ("is_second", .bool false)]
theorem c_find {P : List ((Int × Int) × V)} {a b : Int} (h : Q ((lkP P a b).getD .none) σ) : WC (cx w B) (k + 1) (.glob 913) [vPairs P, .int a, .int b] σ Q := by
  refine e_PairGlyphs_find ?_
  repeat walk_at "st"
  refine ⟨_, MetP_getP, rfl, ?_⟩
  repeat walk_at "st"
  refine ⟨by show 2 ≤ 16777216; decide, ?_⟩
  repeat walk_at "st"
  refine WC_getP ?_
  repeat walk_at "st"
  exact h
theorem c_has_second {P : List ((Int × Int) × V)} (h : Q (.bool false) σ) : WC (cx w B) (k + 1) (.glob 964) [vPairs P] σ Q := by
  refine e_has_second ?_
  repeat walk_at "st"
  exact h
noncomputable def pairF (P : List ((Int × Int) × V)) (rs : List Rec) (n : Nat) : Int × List Rec :=
  match rs[n]?, rs[n + 1]?, (unsafeF rs n (n + 2))[n]?, (unsafeF rs n (n + 2))[n + 1]? with
    | some p, some r, some p', some r' => if (lkP P p.glyph r.glyph).isSome then (((n + 1 : Nat) : Int), ((unsafeF rs n (n + 2)).set n (addV p' 1 2 30)).set (n + 1) (addV r' 0 0 0)) else (-1, rs)
    | _, _, _, _ => (-1, rs)
theorem pairF_is {P : List ((Int × Int) × V)} {rs : List Rec} {n : Nat} {p r p' r' : Rec} (h1 : rs[n]? = some p) (h2 : rs[n + 1]? = some r) (h3 : (unsafeF rs n (n + 2))[n]? = some p') (h4 : (unsafeF rs n (n + 2))[n + 1]? = some r') :
    pairF P rs n = if (lkP P p.glyph r.glyph).isSome then (((n + 1 : Nat) : Int), ((unsafeF rs n (n + 2)).set n (addV p' 1 2 30)).set (n + 1) (addV r' 0 0 0)) else (-1, rs) := by
  simp only [pairF, h1, h2, h3, h4]
theorem c_apply_pair {G : List (Int × V)} {P : List ((Int × Int) × V)} {row : List V} {ds : List Addr} {rs : List Rec} {τ : Sto} {i : Nat} {r : Rec} {ls kd ms tb m d st : V} {cls : Nat → Int} (L : RLay row ds rs.length) (hf : rs.length ≤ 5)
    (hc : ∀ i r, rs[i]? = some r → lkI G r.glyph = some (.int (cls i)) ∧ (cls i = 1 ∨ cls i = 3)) (hr : rs[i]? = some r)
    (hP : ∀ a b y, lkP P a b = some y → y = .tup [vValue (.int 1) (.int 2) (.int 30) (.int 0), vValue (.int 0) (.int 0) (.int 0) (.int 0)])
    (h : Q (.int (pairF P rs i).1) (updR τ ds (pairF P rs i).2)) :
    WC (cx w B) (k + 7) (.glob 971) [sceneV (bufV row) (gdefV G) ls (vLookup kd (.int 0) ms tb) m d st, vPairs P, .int i] (updR τ ds rs) Q := by
  refine e_apply_pair ?_
  obtain ⟨x, dd, hd, hrow, hσ⟩ := L.get (σ := τ) hr
  have hi : i < rs.length := (List.getElem?_eq_some_iff.mp hr).1
  repeat walk_at "st"
  repeat walk_at "st"
  refine c_next (L.rowAt hf hc) (by lia) ?_
  repeat walk_at "st"
  unfold nextF
  by_cases hl : i + 1 < rs.length
  · rw [if_pos hl]
    obtain ⟨q, hq⟩ : ∃ q, rs[i + 1]? = some q := ⟨_, List.getElem?_eq_getElem hl⟩
    obtain ⟨xq, dq, hdq, hrowq, hσq⟩ := L.get (σ := τ) hq
    obtain ⟨p', hp', hpp⟩ := unsafeF_par (b := i) (e := i + 2) hr
    obtain ⟨q', hq', hqq⟩ := unsafeF_par (b := i) (e := i + 2) hq
    rw [pairF_is hr hq hp' hq'] at h
    refine tF (by simp; lia) ?_
    repeat walk_at "st"
    refine ⟨_, MetP_inst m_PairGlyphs_find.1 rfl, m_PairGlyphs_find.2, ?_⟩
    repeat walk_at "st"
    refine ⟨_, IxP_lst hrow (by lia), ?_⟩
    repeat walk_at "st"
    refine ⟨_, IxP_lst hrowq (by lia), ?_⟩
    repeat walk_at "st"
    refine c_find ?_
    repeat walk_at "st"
    cases hg : lkP P r.glyph q.glyph with
    | none =>
      rw [hg, if_neg (by simp)] at h
      refine CmpP_is ?_
      refine tT rfl ?_
      repeat walk_at "st"
      exact h
    | some y =>
      rw [hg, if_pos (by simp)] at h
      have := hP _ _ y hg; subst this
      refine CmpP_is ?_
      refine tF rfl ?_
      repeat walk_at "st"
      repeat walk_at "st"
      have e2 : ((i + 1 : Nat) : Int) + 1 = ((i + 2 : Nat) : Int) := by lia
      rw [e2]
      refine c_hang L hf (by lia) (by lia) ?_
      refine ⟨rfl, ?_⟩
      repeat walk_at "st"
      repeat walk_at "st"
      refine ⟨_, IxP_lst hrow (by lia), ?_⟩
      repeat walk_at "st"
      refine ⟨_, IxP_tup (i := 0) rfl, ?_⟩
      repeat walk_at "st"
      refine c_add_value L.nd hd hp' ?_
      refine ⟨rfl, ?_⟩
      repeat walk_at "st"
      repeat walk_at "st"
      refine ⟨_, IxP_lst hrowq (by lia), ?_⟩
      repeat walk_at "st"
      refine ⟨_, IxP_tup (i := 1) rfl, ?_⟩
      repeat walk_at "st"
      have hq2 : ((unsafeF rs i (i + 2)).set i (addV p' 1 2 30))[i + 1]? = some q' := by rw [List.getElem?_set_ne (by lia), hq']
      refine c_add_value L.nd hdq hq2 ?_
      refine ⟨rfl, ?_⟩
      repeat walk_at "st"
      repeat walk_at "st"
      refine c_has_second ?_
      repeat walk_at "st"
      refine tF rfl ?_
      repeat walk_at "st"
      exact h
  · rw [if_neg hl]
    have hn : rs[i + 1]? = none := List.getElem?_eq_none (by lia)
    have e : pairF P rs i = (-1, rs) := by
      simp only [pairF, hr, hn]
    rw [e] at h
    refine tT (by decide) ?_
    repeat walk_at "st"
    exact h
theorem c_difference {a b c d : Int} (h : Q (.tup [.int (a - c), .int (b - d)]) σ) : WC (cx w B) (k + 1) (.glob 311) [vAnchor (.int a) (.int b), vAnchor (.int c) (.int d)] σ Q := by
  refine e_difference ?_
  repeat walk_at "st"
  refine ⟨by show 2 ≤ 16777216; decide, ?_⟩
  exact h
noncomputable def compOf (m l : Rec) : Int := if l.ligId ≠ 0 ∧ l.ligId = m.ligId ∧ m.ligPart > 0 then (if m.ligPart < 2 then m.ligPart else 2) - 1 else 1
theorem c_component_of {m l : Rec} {x d x' d' : Addr} (h1 : σ d = some (.flds (recF m))) (h2 : σ d' = some (.flds (recF l))) (h : Q (.int (compOf m l)) σ) : WC (cx w B) (k + 1) (.glob 563) [.obj 135 x d, .obj 135 x' d', .int 2] σ Q := by
  refine e_component_of ?_
  repeat walk_at "st"
  by_cases a1 : l.ligId = 0
  · refine tF (by simp [a1]) ?_
    refine tF rfl ?_
    repeat walk_at "st"
    unfold compOf at h
    rw [if_neg (by simp [a1])] at h
    exact h
  · refine tT (by simp [a1]) ?_
    repeat walk_at "st"
    by_cases a2 : l.ligId = m.ligId
    · refine tT (by simp [a2]) ?_
      repeat walk_at "st"
      by_cases a3 : m.ligPart > 0
      · refine tT (by simp; lia) ?_
        repeat walk_at "st"
        refine tT rfl ?_
        repeat walk_at "st"
        refine WC_min ?_
        repeat walk_at "st"
        unfold compOf at h
        rw [if_pos ⟨a1, a2, a3⟩] at h
        exact h
      · refine tF (by simp; lia) ?_
        refine tF rfl ?_
        repeat walk_at "st"
        unfold compOf at h
        rw [if_neg (fun q => a3 q.2.2)] at h
        exact h
    · refine tF (by simp [a2]) ?_
      refine tF rfl ?_
      repeat walk_at "st"
      unfold compOf at h
      rw [if_neg (fun q => a2 q.2.1)] at h
      exact h
theorem c_is_mark_at {G : List (Int × V)} {ls m d st l : V} {n : Int} {row : List V} {i : Nat} {x dd : Addr} {r : Rec} (hi : i < 2 ^ 63) (hrow : row[i]? = some (.obj 135 x dd)) (hσ : σ dd = some (.flds (recF r))) (hG : lkI G r.glyph = some (.int n)) (hn : n = 1 ∨ n = 3)
    (h : Q (.bool (n == 3)) σ) : WC (cx w B) (k + 4) (.glob 528) [sceneV (bufV row) (gdefV G) ls l m d st, .int i] σ Q := by
  refine e_is_mark_at ?_
  repeat walk_at "st"
  refine ⟨_, MetP_inst m_Gdef_glyph_class.1 rfl, m_Gdef_glyph_class.2, ?_⟩
  repeat walk_at "st"
  refine ⟨_, IxP_lst hrow hi, ?_⟩
  repeat walk_at "st"
  refine c_glyph_class hG (by lia) ?_
  repeat walk_at "st"
  exact h
noncomputable def oneOf (m o : Rec) : Bool := if m.ligId = o.ligId then m.ligId == 0 || m.ligPart == o.ligPart else (decide (m.ligId > 0) && m.ligPart == 0) || (decide (o.ligId > 0) && o.ligPart == 0)
theorem c_are_of_one {m l : Rec} {x d x' d' : Addr} (h1 : σ d = some (.flds (recF m))) (h2 : σ d' = some (.flds (recF l))) (h : Q (.bool (oneOf m l)) σ) : WC (cx w B) (k + 1) (.glob 577) [.obj 135 x d, .obj 135 x' d'] σ Q := by
  refine e_are_of_one ?_
  repeat walk_at "st"
  unfold oneOf at h
  by_cases a1 : m.ligId = l.ligId
  · rw [if_pos a1] at h
    refine tT (by simp [a1]) ?_
    repeat walk_at "st"
    cases b1 : (m.ligId == 0) <;> rw [b1] at h <;> repeat (first | walk_at "st" | refine tT' rfl ?_ | refine tF' rfl ?_ | refine tT rfl ?_ | refine tF rfl ?_)
    all_goals exact h
  · rw [if_neg a1] at h
    refine tF (by simp [a1]) ?_
    repeat walk_at "st"
    cases b1 : (decide (m.ligId > 0)) <;> cases b2 : (m.ligPart == 0) <;> cases b3 : (decide (l.ligId > 0)) <;> cases b4 : (l.ligPart == 0) <;> rw [b1, b2, b3, b4] at h <;> repeat (first | walk_at "st" | refine tT' rfl ?_ | refine tF' rfl ?_ | refine tT rfl ?_ | refine tF rfl ?_ | rw [b2] | rw [b3] | rw [b4])
    all_goals exact h
theorem n_Scene {a b c d e f : V} (h : Q (sceneV a b c d e f (.lst [.int 0])) σ) : WC (cx w B) (k + 2) (.glob 65) [a, b, c, d, e, f] σ Q :=
  WC_new (fI := 62) (by kernel_rfl) (by kernel_rfl) (by kernel_rfl) (fun ox od hd => e_Scene_newc (by
    repeat (first | walk_at "st" | (refine WA_self ?_; refine WE_local (by kernel_rfl) rfl ?_; refine ⟨_, _, rfl, rfl, by kernel_rfl, by kernel_rfl, ?_⟩) | refine ⟨by show 1 ≤ 16777216; decide, ?_⟩)
    exact ⟨rfl, by kernel_rfl⟩)) h
theorem n_SceneM {a b c d e : V} (h : ∀ s, σ s = .none → Q (sceneV a b c d e (.int 0) (.ref s)) (σ.set s (.lst [.int 0]))) : WC (cx w B) (k + 2) (.glob 65) [a, b, c, d, e] σ Q :=
  WC_fzo (WC_class (fI := 62) (by kernel_rfl) (by kernel_rfl) (by kernel_rfl) (fun ox od hd => e_Scene_new5c (by
    refine vB_ok 6 ?_
    iterate 6 ((conv => whnf); refine WA_self ?_; refine WE_local (by kernel_rfl) rfl ?_; refine ⟨_, _, rfl, rfl, by kernel_rfl, by kernel_rfl, ?_⟩)
    (conv => whnf)
    refine WB_cons ?_
    refine WS_assign ?_
    refine WE_listM ?_
    repeat walk_at "st"
    refine ⟨by show 1 ≤ 16777216; decide, fun s hs => ?_⟩
    have hne : s ≠ od := by rintro rfl; rw [Sto.set_at] at hs; cases hs
    rw [Sto.set_ne _ _ hne] at hs
    rw [Sto.set_comm _ (Ne.symm hne)]
    refine WA_self ?_
    refine WE_local (by kernel_rfl) rfl ?_
    refine ⟨_, _, rfl, rfl, by kernel_rfl, by kernel_rfl, ?_⟩
    repeat walk_at "st"
    refine ⟨rfl, _, _, _, _, rfl, Sto.set_at .., ?_⟩
    rw [Sto.del_set _ _ _ (by rw [Sto.set_ne _ _ (Ne.symm hne)]; exact hd)]
    exact h s hs)))
theorem c_scene_with {G : List (Int × V)} {row ll : List V} {kd : Str} {mk dp : Int} {f0 ms0 tb st f ms : V} (h : Q (sceneV (bufV row) (gdefV G) (.lst ll) (vLookup (.str kd) f ms (.lst [])) (.int mk) (.int dp) (.lst [.int 0])) σ) : WC (cx w B) (k + 3) (.glob 521) [sceneV (bufV row) (gdefV G) (.lst ll) (vLookup (.str kd) f0 ms0 tb) (.int mk) (.int dp) st, f, ms] σ Q := by
  refine e_scene_with ?_
  repeat walk_at "st"
  repeat walk_at "st"
  refine ⟨by show 0 ≤ 16777216; decide, ?_⟩
  repeat walk_at "st"
  refine n_Lookup ?_
  repeat walk_at "st"
  repeat walk_at "st"
  refine n_Scene ?_
  repeat walk_at "st"
  exact h
theorem c_is_later_part {g ls l m d st : V} {row : List V} {i : Nat} {x dd : Addr} {r : Rec} (hi : i < 2 ^ 63) (hrow : row[i]? = some (.obj 135 x dd)) (hσ : σ dd = some (.flds (recF r)))
    (h : Q (.bool false) σ) : WC (cx w B) (k + 1) (.glob 535) [sceneV (bufV row) g ls l m d st, .int i] σ Q := by
  refine e_is_later_part ?_
  repeat walk_at "st"
  refine ⟨_, IxP_lst hrow hi, ?_⟩
  repeat walk_at "st"
  by_cases h0 : i = 0
  · refine tT' (by simp [h0]) ?_
    refine tT rfl ?_
    repeat walk_at "st"
    exact h
  · refine tF' (by simp [h0]) ?_
    repeat walk_at "st"
    refine tT' rfl ?_
    refine tT rfl ?_
    repeat walk_at "st"
    exact h
theorem c_base_ahead {G : List (Int × V)} {ll : List V} {kd : Str} {mk dp : Int} {f0 ms0 tb st : V} {row : List V} {rs : List Rec} {cls : Nat → Int} {i : Nat} (R : RowAt σ G row rs cls) (hi : i ≤ rs.length)
    (h : Q (.int (prevF (fun j => ign 8 (cls j)) i)) σ) : WC (cx w B) (k + 7) (.glob 542) [sceneV (bufV row) (gdefV G) (.lst ll) (vLookup (.str kd) f0 ms0 tb) (.int mk) (.int dp) st, .int i] σ Q := by
  refine e_base_ahead ?_
  repeat walk_at "st"
  repeat walk_at "st"
  refine c_scene_with ?_
  repeat walk_at "st"
  repeat walk_at "st"
  refine c_before R hi (.inr rfl) ?_
  repeat walk_at "st"
  refine WS_while (fun _ ρ σ' => σ' = σ ∧ ρ = ([("scene", sceneV (bufV row) (gdefV G) (.lst ll) (vLookup (.str kd) f0 ms0 tb) (.int mk) (.int dp) st), ("at", .int i), ("looking", sceneV (bufV row) (gdefV G) (.lst ll) (vLookup (.str kd) (.int 8) (.int 0) (.lst [])) (.int mk) (.int dp) (.lst [.int 0])), ("here", .int (prevF (fun j => ign 8 (cls j)) i))] : Loc)) 0
    ⟨rfl, by kernel_rfl⟩ ?_
  rintro n ρ σ' ⟨rfl, rfl⟩
  have hp := prevF_lt (ig := fun j => ign 8 (cls j)) i
  repeat walk_at "st"
  by_cases h0 : prevF (fun j => ign 8 (cls j)) i ≥ 0
  · refine tT (by simpa using h0) ?_
    obtain ⟨j, hj⟩ : ∃ j : Nat, prevF (fun j => ign 8 (cls j)) i = j := ⟨(prevF (fun j => ign 8 (cls j)) i).toNat, by lia⟩
    obtain ⟨r, hr⟩ : ∃ r, rs[j]? = some r := ⟨_, List.getElem?_eq_getElem (by lia)⟩
    obtain ⟨x, dd, hrow, hσ, hG, hc⟩ := R.at_ j r hr
    have hf := R.few
    rw [hj] at h ⊢
    repeat walk_at "st"
    repeat walk_at "st"
    refine c_is_later_part (by lia) hrow hσ ?_
    repeat walk_at "st"
    refine tF rfl ?_
    refine tF rfl ?_
    repeat walk_at "st"
    exact h
  · refine tF (by simpa using h0) ?_
    refine tF rfl ?_
    repeat walk_at "st"
    exact h
noncomputable def setOnF (rs : List Rec) (i p : Nat) (ax ay ox oy : Int) : List Rec :=
  match rs[i]? with
  | some r => unsafeF (rs.set i { r with xOff := ax - ox, yOff := ay - oy, parent := (p : Int) - i, bond := "mark" }) p (i + 1)
  | none => rs
theorem setOnF_is {rs : List Rec} {i p : Nat} {ax ay ox oy : Int} {r : Rec} (h : rs[i]? = some r) : setOnF rs i p ax ay ox oy = unsafeF (rs.set i { r with xOff := ax - ox, yOff := ay - oy, parent := (p : Int) - i, bond := "mark" }) p (i + 1) := by
  unfold setOnF; rw [h]
theorem c_set_on {G D : List (Int × V)} {row : List V} {ds : List Addr} {rs : List Rec} {τ : Sto} {i p : Nat} {r : Rec} {g ls l m d st : V} {ax ay ox oy : Int} (L : RLay row ds rs.length) (hf : rs.length ≤ 5)
    (hr : rs[i]? = some r) (hp : p < i) (HB : Back rs i) (hD : lkI D r.glyph = some (.tup [.int 0, vAnchor (.int ox) (.int oy)]))
    (h : Q (.int ((i + 1 : Nat) : Int)) (updR τ ds (setOnF rs i p ax ay ox oy))) :
    WC (cx w B) (k + 2) (.glob 549) [sceneV (bufV row) g ls l m d st, .dcI D, .tup [vAnchor (.int ax) (.int ay)], .int i, .int p] (updR τ ds rs) Q := by
  refine e_set_on ?_
  obtain ⟨x, dd, hd, hrow, hσ⟩ := L.get (σ := τ) hr
  have hi : i < rs.length := (List.getElem?_eq_some_iff.mp hr).1
  rw [setOnF_is hr] at h
  repeat walk_at "st"
  refine ⟨_, IxP_lst hrow (by lia), ?_⟩
  repeat walk_at "st"
  refine ⟨_, IxP_dcI hD, ?_⟩
  refine WA_tuple ⟨_, rfl, rfl, ?_⟩
  try refine WA_local (by kernel_rfl!) ?_
  try refine WA_local (by kernel_rfl!) ?_
  try show WB _ _ _ _ _ _ _
  repeat walk_at "st"
  refine WC_len_tup (by show 1 ≤ 16777216; decide) ?_
  repeat walk_at "st"
  refine tT rfl ?_
  repeat walk_at "st"
  refine ⟨_, IxP_tup (i := 0) rfl, ?_⟩
  repeat walk_at "st"
  refine CmpP_is ?_
  refine tF rfl ?_
  repeat walk_at "st"
  repeat walk_at "st"
  refine c_break_ring L hf (by lia) hp (Nat.le_refl _) HB ?_
  refine ⟨rfl, ?_⟩
  repeat walk_at "st"
  repeat walk_at "st"
  refine c_difference ?_
  refine WA_tuple ⟨_, rfl, rfl, ?_⟩
  refine WA_info ?_
  repeat walk_at "st"
  refine ⟨x, dd, i, r, { r with xOff := ax - ox }, rfl, rfl, L.nd, hd, hr, by kernel_rfl, rfl, ?_⟩
  refine WA_info ?_
  repeat walk_at "st"
  refine ⟨x, dd, i, _, { r with xOff := ax - ox, yOff := ay - oy }, rfl, rfl, L.nd, hd, set_here hr, by kernel_rfl, rfl, ?_⟩
  rw [List.set_set]
  try show WB _ _ _ _ _ _ _
  repeat walk_at "st"
  refine WA_info ?_
  repeat walk_at "st"
  refine ⟨x, dd, i, _, { r with xOff := ax - ox, yOff := ay - oy, parent := (p : Int) - i }, rfl, rfl, L.nd, hd, set_here hr, by kernel_rfl, rfl, ?_⟩
  rw [List.set_set]
  repeat walk_at "st"
  refine WA_info ?_
  repeat walk_at "st"
  refine ⟨x, dd, i, _, { r with xOff := ax - ox, yOff := ay - oy, parent := (p : Int) - i, bond := "mark" }, rfl, rfl, L.nd, hd, set_here hr, by kernel_rfl, rfl, ?_⟩
  rw [List.set_set]
  repeat walk_at "st"
  repeat walk_at "st"
  have e2 : (i : Int) + 1 = ((i + 1 : Nat) : Int) := by lia
  rw [e2]
  refine c_hang (by rw [List.length_set]; exact L) (by rw [List.length_set]; exact hf) (by lia) (by rw [List.length_set]; lia) ?_
  refine ⟨rfl, ?_⟩
  repeat walk_at "st"
  rw [← e2] at h
  exact h
noncomputable def MarkT (D : List (Int × V)) : Prop := ∀ g y, lkI D g = some y → ∃ ox, y = .tup [.int 0, vAnchor (.int ox) (.int 1)]
noncomputable def OneRow (y : V) (ax ay : Int) : Prop := y = .tup [vAnchor (.int ax) (.int ay)]
noncomputable def anOf : V → Int × Int
  | .tup [.inst _ [(_, .int a), (_, .int b)]] => (a, b)
  | .tup [_, .inst _ [(_, .int a), (_, .int b)]] => (a, b)
  | _ => (0, 0)
noncomputable def baseF (D E : List (Int × V)) (ig : Nat → Bool) (rs : List Rec) (i : Nat) : Int × List Rec :=
  match rs[i]? with
  | none => (-1, rs)
  | some r => match lkI D r.glyph with
    | none => (-1, rs)
    | some y => if prevF ig i < 0 then (-1, rs) else match rs[(prevF ig i).toNat]? with
      | none => (-1, rs)
      | some q => match lkI E q.glyph with
        | none => (-1, rs)
        | some u => (((i + 1 : Nat) : Int), setOnF rs i (prevF ig i).toNat (anOf u).1 (anOf u).2 (anOf y).1 (anOf y).2)
theorem c_apply_base {G D E : List (Int × V)} {row : List V} {ds : List Addr} {rs : List Rec} {τ : Sto} {i : Nat} {r : Rec} {ll : List V} {kd : Str} {mk dp : Int} {ms tb st : V} {cls : Nat → Int} (L : RLay row ds rs.length) (hf : rs.length ≤ 5)
    (hc : ∀ i r, rs[i]? = some r → lkI G r.glyph = some (.int (cls i)) ∧ (cls i = 1 ∨ cls i = 3)) (hr : rs[i]? = some r) (HB : Back rs i)
    (hD : MarkT D) (hE : ∀ g y, lkI E g = some y → ∃ ax ay, OneRow y ax ay)
    (h : Q (.int (baseF D E (fun j => ign 8 (cls j)) rs i).1) (updR τ ds (baseF D E (fun j => ign 8 (cls j)) rs i).2)) :
    WC (cx w B) (k + 8) (.glob 556) [sceneV (bufV row) (gdefV G) (.lst ll) (vLookup (.str kd) (.int 0) ms tb) (.int mk) (.int dp) st, .inst 456 [("marks", .dcI D), ("bases", .dcI E)], .int i] (updR τ ds rs) Q := by
  refine e_apply_base ?_
  obtain ⟨x, dd, hd, hrow, hσ⟩ := L.get (σ := τ) hr
  have hi : i < rs.length := (List.getElem?_eq_some_iff.mp hr).1
  repeat walk_at "st"
  refine ⟨_, IxP_lst hrow (by lia), ?_⟩
  repeat walk_at "st"
  refine CmpP_notin ?_
  unfold baseF at h
  rw [hr] at h
  dsimp only at h
  cases hg : lkI D r.glyph with
  | none =>
    rw [hg] at h
    refine tT rfl ?_
    repeat walk_at "st"
    exact h
  | some y =>
    rw [hg] at h
    dsimp only at h
    obtain ⟨ox, rfl⟩ := hD _ _ hg
    refine tF rfl ?_
    repeat walk_at "st"
    repeat walk_at "st"
    refine c_base_ahead (L.rowAt hf hc) (by lia) ?_
    repeat walk_at "st"
    have hp := prevF_lt (ig := fun j => ign 8 (cls j)) i
    by_cases h0 : prevF (fun j => ign 8 (cls j)) i < 0
    · rw [if_pos h0] at h
      refine tT' (by simpa using h0) ?_
      refine tT rfl ?_
      repeat walk_at "st"
      exact h
    · rw [if_neg h0] at h
      refine tF' (by simpa using h0) ?_
      obtain ⟨p, hpp⟩ : ∃ j : Nat, prevF (fun j => ign 8 (cls j)) i = j := ⟨(prevF (fun j => ign 8 (cls j)) i).toNat, by lia⟩
      obtain ⟨q, hq⟩ : ∃ r, rs[p]? = some r := ⟨_, List.getElem?_eq_getElem (by lia)⟩
      obtain ⟨xq, dq, hdq, hrowq, hσq⟩ := L.get (σ := τ) hq
      rw [hpp] at h ⊢
      rw [Int.toNat_natCast, hq] at h
      dsimp only at h
      repeat walk_at "st"
      refine ⟨_, IxP_lst hrowq (by lia), ?_⟩
      repeat walk_at "st"
      refine CmpP_notin ?_
      cases hu : lkI E q.glyph with
      | none =>
        rw [hu] at h
        refine tT' rfl ?_
        refine tT rfl ?_
        repeat walk_at "st"
        exact h
      | some u =>
        rw [hu] at h
        obtain ⟨ax, ay, rfl⟩ := hE _ _ hu
        refine tF' rfl ?_
        repeat walk_at "st"
        refine tF rfl ?_
        repeat walk_at "st"
        repeat walk_at "st"
        refine ⟨_, IxP_lst hrowq (by lia), ?_⟩
        repeat walk_at "st"
        refine ⟨_, IxP_dcI hu, ?_⟩
        repeat walk_at "st"
        exact c_set_on (G := G) L hf hr (by lia) HB hg h
noncomputable def partsAt (u : V) (n : Int) : V := match u with
  | .lst [a, b] => if n = 0 then a else b
  | _ => .none
noncomputable def compF (D E : List (Int × V)) (ig : Nat → Bool) (rs : List Rec) (i : Nat) : Int × List Rec :=
  match rs[i]? with
  | none => (-1, rs)
  | some r => match lkI D r.glyph with
    | none => (-1, rs)
    | some y => if prevF ig i < 0 then (-1, rs) else match rs[(prevF ig i).toNat]? with
      | none => (-1, rs)
      | some q => match lkI E q.glyph with
        | none => (-1, rs)
        | some u => (((i + 1 : Nat) : Int), setOnF rs i (prevF ig i).toNat (anOf (partsAt u (compOf r q))).1 (anOf (partsAt u (compOf r q))).2 (anOf y).1 (anOf y).2)
theorem compOf_two (m l : Rec) : compOf m l = ((0 : Nat) : Int) ∨ compOf m l = ((1 : Nat) : Int) := by
  unfold compOf
  split
  · rename_i h
    split <;> lia
  · right; rfl
theorem c_apply_component {G D E : List (Int × V)} {row : List V} {ds : List Addr} {rs : List Rec} {τ : Sto} {i : Nat} {r : Rec} {ll : List V} {kd : Str} {mk dp : Int} {ms tb st : V} {cls : Nat → Int} (L : RLay row ds rs.length) (hf : rs.length ≤ 5)
    (hc : ∀ i r, rs[i]? = some r → lkI G r.glyph = some (.int (cls i)) ∧ (cls i = 1 ∨ cls i = 3)) (hr : rs[i]? = some r) (HB : Back rs i)
    (hD : MarkT D) (hE : ∀ g y, lkI E g = some y → ∃ ax ay bx bz, y = .lst [.tup [vAnchor (.int ax) (.int ay)], .tup [vAnchor (.int bx) (.int bz)]])
    (h : Q (.int (compF D E (fun j => ign 8 (cls j)) rs i).1) (updR τ ds (compF D E (fun j => ign 8 (cls j)) rs i).2)) :
    WC (cx w B) (k + 8) (.glob 570) [sceneV (bufV row) (gdefV G) (.lst ll) (vLookup (.str kd) (.int 0) ms tb) (.int mk) (.int dp) st, .inst 482 [("marks", .dcI D), ("ligatures", .dcI E)], .int i] (updR τ ds rs) Q := by
  refine e_apply_component ?_
  obtain ⟨x, dd, hd, hrow, hσ⟩ := L.get (σ := τ) hr
  have hi : i < rs.length := (List.getElem?_eq_some_iff.mp hr).1
  repeat walk_at "st"
  refine ⟨_, IxP_lst hrow (by lia), ?_⟩
  repeat walk_at "st"
  refine CmpP_notin ?_
  unfold compF at h
  rw [hr] at h
  dsimp only at h
  cases hg : lkI D r.glyph with
  | none =>
    rw [hg] at h
    refine tT rfl ?_
    repeat walk_at "st"
    exact h
  | some y =>
    rw [hg] at h
    dsimp only at h
    obtain ⟨ox, rfl⟩ := hD _ _ hg
    refine tF rfl ?_
    repeat walk_at "st"
    repeat walk_at "st"
    repeat walk_at "st"
    refine c_scene_with ?_
    repeat walk_at "st"
    refine c_before (L.rowAt hf hc) (by lia) (.inr rfl) ?_
    repeat walk_at "st"
    have hp := prevF_lt (ig := fun j => ign 8 (cls j)) i
    by_cases h0 : prevF (fun j => ign 8 (cls j)) i < 0
    · rw [if_pos h0] at h
      refine tT' (by simpa using h0) ?_
      refine tT rfl ?_
      repeat walk_at "st"
      exact h
    · rw [if_neg h0] at h
      refine tF' (by simpa using h0) ?_
      obtain ⟨p, hpp⟩ : ∃ j : Nat, prevF (fun j => ign 8 (cls j)) i = j := ⟨(prevF (fun j => ign 8 (cls j)) i).toNat, by lia⟩
      obtain ⟨q, hq⟩ : ∃ r, rs[p]? = some r := ⟨_, List.getElem?_eq_getElem (by lia)⟩
      obtain ⟨xq, dq, hdq, hrowq, hσq⟩ := L.get (σ := τ) hq
      rw [hpp] at h ⊢
      rw [Int.toNat_natCast, hq] at h
      dsimp only at h
      repeat walk_at "st"
      refine ⟨_, IxP_lst hrowq (by lia), ?_⟩
      repeat walk_at "st"
      refine CmpP_notin ?_
      cases hu : lkI E q.glyph with
      | none =>
        rw [hu] at h
        refine tT' rfl ?_
        refine tT rfl ?_
        repeat walk_at "st"
        exact h
      | some u =>
        rw [hu] at h
        obtain ⟨ax, ay, bx, bz, rfl⟩ := hE _ _ hu
        refine tF' rfl ?_
        repeat walk_at "st"
        refine tF rfl ?_
        repeat walk_at "st"
        refine ⟨_, IxP_lst hrowq (by lia), ?_⟩
        repeat walk_at "st"
        refine ⟨_, IxP_dcI hu, ?_⟩
        repeat walk_at "st"
        refine WC_len_lst (by show 2 ≤ 16777216; decide) ?_
        repeat walk_at "st"
        refine tF rfl ?_
        repeat walk_at "st"
        repeat walk_at "st"
        repeat walk_at "st"
        refine ⟨_, IxP_lst hrow (by lia), ?_⟩
        repeat walk_at "st"
        refine ⟨_, IxP_lst hrowq (by lia), ?_⟩
        repeat walk_at "st"
        refine WC_len_lst (by show 2 ≤ 16777216; decide) ?_
        repeat walk_at "st"
        refine c_component_of hσ hσq ?_
        rcases compOf_two r q with hn | hn
        · rw [hn] at h ⊢
          refine ⟨_, IxP_lst (i := 0) rfl, ?_⟩
          repeat walk_at "st"
          exact c_set_on (G := G) L hf hr (by lia) HB hg h
        · rw [hn] at h ⊢
          refine ⟨_, IxP_lst (i := 1) rfl, ?_⟩
          repeat walk_at "st"
          exact c_set_on (G := G) L hf hr (by lia) HB hg h
noncomputable def markM (D E : List (Int × V)) (cls : Nat → Int) (rs : List Rec) (i : Nat) : Int × List Rec :=
  match rs[i]? with
  | none => (-1, rs)
  | some r => match lkI D r.glyph with
    | none => (-1, rs)
    | some y => match i with
      | 0 => (-1, rs)
      | p + 1 => match rs[p]? with
        | none => (-1, rs)
        | some q => if cls p = 3 ∧ oneOf r q = true then match lkI E q.glyph with
          | none => (-1, rs)
          | some u => (((i + 1 : Nat) : Int), setOnF rs i p (anOf u).1 (anOf u).2 (anOf y).1 (anOf y).2)
          else (-1, rs)
theorem c_apply_mark {G D E : List (Int × V)} {row : List V} {ds : List Addr} {rs : List Rec} {τ : Sto} {i : Nat} {r : Rec} {ll : List V} {kd : Str} {mk dp : Int} {tb st : V} {cls : Nat → Int} (L : RLay row ds rs.length) (hf : rs.length ≤ 5)
    (hc : ∀ i r, rs[i]? = some r → lkI G r.glyph = some (.int (cls i)) ∧ (cls i = 1 ∨ cls i = 3)) (hr : rs[i]? = some r) (HB : Back rs i)
    (hD : MarkT D) (hE : ∀ g y, lkI E g = some y → ∃ ax ay, OneRow y ax ay)
    (h : Q (.int (markM D E cls rs i).1) (updR τ ds (markM D E cls rs i).2)) :
    WC (cx w B) (k + 8) (.glob 584) [sceneV (bufV row) (gdefV G) (.lst ll) (vLookup (.str kd) (.int 0) (.int 0) tb) (.int mk) (.int dp) st, .inst 510 [("marks", .dcI D), ("others", .dcI E)], .int i] (updR τ ds rs) Q := by
  refine e_apply_mark ?_
  obtain ⟨x, dd, hd, hrow, hσ⟩ := L.get (σ := τ) hr
  have hi : i < rs.length := (List.getElem?_eq_some_iff.mp hr).1
  repeat walk_at "st"
  refine ⟨_, IxP_lst hrow (by lia), ?_⟩
  repeat walk_at "st"
  refine CmpP_notin ?_
  unfold markM at h
  rw [hr] at h
  dsimp only at h
  cases hg : lkI D r.glyph with
  | none =>
    rw [hg] at h
    refine tT rfl ?_
    repeat walk_at "st"
    exact h
  | some y =>
    rw [hg] at h
    dsimp only at h
    obtain ⟨ox, rfl⟩ := hD _ _ hg
    refine tF rfl ?_
    repeat walk_at "st"
    repeat walk_at "st"
    repeat walk_at "st"
    refine c_scene_with ?_
    repeat walk_at "st"
    refine c_before (L.rowAt hf hc) (by lia) (.inl (by decide +kernel)) ?_
    repeat walk_at "st"
    have e8 : Builtin.bitAnd 0 (Builtin.bitNot (Builtin.bitOr (Builtin.bitOr 2 4) 8)) = 0 := by decide +kernel
    rw [e8]
    cases i with
    | zero =>
      refine tT' rfl ?_
      refine tT rfl ?_
      repeat walk_at "st"
      exact h
    | succ p =>
      have ep : prevF (fun j => ign 0 (cls j)) (p + 1) = (p : Nat) := by
        show (if ign 0 (cls p) = true then _ else _) = _
        rw [if_neg (by simp [ign])]
      rw [ep]
      obtain ⟨q, hq⟩ : ∃ r, rs[p]? = some r := ⟨_, List.getElem?_eq_getElem (by lia)⟩
      obtain ⟨xq, dq, hdq, hrowq, hσq⟩ := L.get (σ := τ) hq
      obtain ⟨hGq, hcq⟩ := hc p q hq
      dsimp only at h
      rw [hq] at h
      dsimp only at h
      refine tF' (by simp) ?_
      repeat walk_at "st"
      repeat walk_at "st"
      refine c_is_mark_at (by lia) hrowq hσq hGq hcq ?_
      repeat walk_at "st"
      by_cases h3 : cls p = 3
      · refine tF' (by simp [h3]) ?_
        repeat walk_at "st"
        repeat walk_at "st"
        refine ⟨_, IxP_lst hrow (by lia), ?_⟩
        repeat walk_at "st"
        refine ⟨_, IxP_lst hrowq (by lia), ?_⟩
        repeat walk_at "st"
        refine c_are_of_one hσ hσq ?_
        repeat walk_at "st"
        cases h1 : oneOf r q with
        | false =>
          rw [if_neg (by simp [h1])] at h
          refine tT' rfl ?_
          refine tT rfl ?_
          repeat walk_at "st"
          exact h
        | true =>
          rw [if_pos ⟨h3, h1⟩] at h
          refine tF' rfl ?_
          repeat walk_at "st"
          refine tF rfl ?_
          repeat walk_at "st"
          refine ⟨_, IxP_lst hrowq (by lia), ?_⟩
          repeat walk_at "st"
          refine CmpP_notin ?_
          cases hu : lkI E q.glyph with
          | none =>
            rw [hu] at h
            refine tT rfl ?_
            repeat walk_at "st"
            exact h
          | some u =>
            rw [hu] at h
            obtain ⟨ax, ay, rfl⟩ := hE _ _ hu
            refine tF rfl ?_
            repeat walk_at "st"
            repeat walk_at "st"
            refine ⟨_, IxP_lst hrowq (by lia), ?_⟩
            repeat walk_at "st"
            refine ⟨_, IxP_dcI hu, ?_⟩
            repeat walk_at "st"
            exact c_set_on (G := G) L hf hr (by lia) HB hg h
      · rw [if_neg (fun q => h3 q.1)] at h
        refine tT' (by simp [h3]) ?_
        refine tT rfl ?_
        repeat walk_at "st"
        exact h
theorem ap_adjust {S T : V} {i : Int} (h : WC (cx w B) k (.glob 879) [S, T, .int i] σ Q) : WC (cx w B) (k + 1) (.glob 978) [.str "adjust", S, T, .int i] σ Q := by
  refine e_apply_position ?_
  repeat (first | walk_at "st" | refine CmpP_seq ?_ | refine tF (by kernel_rfl!) ?_)
  refine tT (by kernel_rfl!) ?_
  repeat walk_at "st"
  repeat walk_at "st"
  exact h
theorem ap_pair {S T : V} {i : Int} (h : WC (cx w B) k (.glob 971) [S, T, .int i] σ Q) : WC (cx w B) (k + 1) (.glob 978) [.str "pair", S, T, .int i] σ Q := by
  refine e_apply_position ?_
  repeat (first | walk_at "st" | refine CmpP_seq ?_ | refine tF (by kernel_rfl!) ?_)
  refine tT (by kernel_rfl!) ?_
  repeat walk_at "st"
  repeat walk_at "st"
  exact h
theorem ap_cursive {S T : V} {i : Int} (h : WC (cx w B) k (.glob 410) [S, T, .int i] σ Q) : WC (cx w B) (k + 1) (.glob 978) [.str "cursive", S, T, .int i] σ Q := by
  refine e_apply_position ?_
  repeat (first | walk_at "st" | refine CmpP_seq ?_ | refine tF (by kernel_rfl!) ?_)
  refine tT (by kernel_rfl!) ?_
  repeat walk_at "st"
  repeat walk_at "st"
  exact h
theorem ap_base {S T : V} {i : Int} (h : WC (cx w B) k (.glob 556) [S, T, .int i] σ Q) : WC (cx w B) (k + 1) (.glob 978) [.str "base", S, T, .int i] σ Q := by
  refine e_apply_position ?_
  repeat (first | walk_at "st" | refine CmpP_seq ?_ | refine tF (by kernel_rfl!) ?_)
  refine tT (by kernel_rfl!) ?_
  repeat walk_at "st"
  repeat walk_at "st"
  exact h
theorem ap_component {S T : V} {i : Int} (h : WC (cx w B) k (.glob 570) [S, T, .int i] σ Q) : WC (cx w B) (k + 1) (.glob 978) [.str "component", S, T, .int i] σ Q := by
  refine e_apply_position ?_
  repeat (first | walk_at "st" | refine CmpP_seq ?_ | refine tF (by kernel_rfl!) ?_)
  refine tT (by kernel_rfl!) ?_
  repeat walk_at "st"
  repeat walk_at "st"
  exact h
theorem ap_mark {S T : V} {i : Int} (h : WC (cx w B) k (.glob 584) [S, T, .int i] σ Q) : WC (cx w B) (k + 1) (.glob 978) [.str "mark", S, T, .int i] σ Q := by
  refine e_apply_position ?_
  repeat (first | walk_at "st" | refine CmpP_seq ?_ | refine tF (by kernel_rfl!) ?_)
  refine tT (by kernel_rfl!) ?_
  repeat walk_at "st"
  repeat walk_at "st"
  exact h
theorem ap_ctx {S T : V} {i : Int} {kd : Str} (hk : kd = "context" ∨ kd = "chain") (h : WC (cx w B) k (.glob 804) [S, T, .int i, .glob 985] σ Q) : WC (cx w B) (k + 1) (.glob 978) [.str kd, S, T, .int i] σ Q := by
  refine e_apply_position ?_
  rcases hk with rfl | rfl
  all_goals
    repeat (first | walk_at "st" | refine CmpP_seq ?_ | refine tF (by kernel_rfl!) ?_)
    repeat walk_at "st"
    try refine WE_glob (a := 985) (by kernel_rfl!) (by kernel_rfl!) ?_
    repeat walk_at "st"
    exact h
theorem c_position_at {kd : Str} {b g ls f ms m d st T : V} {i : Int}
    (h : WC (cx w B) k (.glob 978) [.str kd, sceneV b g ls (vLookup (.str kd) f ms (.lst [T])) m d st, T, .int i] σ fun x σ' => ∃ n : Int, x = .int n ∧ Q (.int (if n ≥ 0 then n else -1)) σ') :
    WC (cx w B) (k + 1) (.glob 985) [sceneV b g ls (vLookup (.str kd) f ms (.lst [T])) m d st, .int i] σ Q := by
  refine e_position_at ?_
  repeat walk_at "st"
  refine WS_for ?_
  repeat walk_at "st"
  refine ⟨_, IterP_lst, .inr (fun _ _ => rfl), ?_⟩
  refine (?_ : WA _ _ _ _ _ _ _ _)
  refine WA_local (by kernel_rfl!) ?_
  repeat walk_at "st"
  repeat walk_at "st"
  refine h.mono ?_
  rintro x σ' ⟨n, rfl, hq⟩
  repeat walk_at "st"
  by_cases hn : n ≥ 0
  · rw [if_pos hn] at hq
    refine tT (by simpa using hn) ?_
    repeat walk_at "st"
    exact hq
  · rw [if_neg hn] at hq
    refine tF (by simpa using hn) ?_
    refine (?_ : WB _ _ _ _ _ _ _)
    repeat walk_at "st"
    exact hq
noncomputable abbrev upS (S : List Int) : Prop := S.Pairwise (· < ·)
theorem up_lt {S : List Int} (h : upS S) {i j : Nat} {a b : Int} (hi : S[i]? = some a) (hj : S[j]? = some b) (hlt : i < j) : a < b := by
  obtain ⟨h1, rfl⟩ := List.getElem?_eq_some_iff.mp hi
  obtain ⟨h2, rfl⟩ := List.getElem?_eq_some_iff.mp hj
  exact List.pairwise_iff_getElem.mp h i j h1 h2 hlt
theorem iV_at {S : List Int} {i : Nat} {a : Int} (h : S[i]? = some a) : (iV S)[i]? = some (.int a) := by
  unfold iV; rw [List.getElem?_map, h]; rfl
theorem iV_len {S : List Int} : (iV S).length = S.length := by unfold iV; rw [List.length_map]
theorem c_index {S : List Int} {g : Int} (hS : upS S) (hl : S.length ≤ 1000) (h : ∀ n : Int, (n ≥ 0 ↔ g ∈ S) → Q (.int n) σ) :
    WC (cx w B) (k + 1) (.glob 605) [vCoverage (.tup (iV S)), .int g] σ Q := by
  refine e_Coverage_index ?_
  repeat walk_at "st"
  refine WC_len_tup (by rw [iV_len]; lia) ?_
  repeat walk_at "st"
  rw [iV_len]
  refine WS_whileW (fun n ρ σ' => σ' = σ ∧ ∃ (lo hi : Nat), ρ = ([("self", vCoverage (.tup (iV S))), ("glyph", .int g), ("low", .int lo), ("high", .int hi)] : Loc) ∧ n = hi - lo ∧ lo ≤ hi ∧ hi ≤ S.length ∧ (∀ i a, i < lo → S[i]? = some a → a < g) ∧ (∀ i a, hi ≤ i → S[i]? = some a → g ≤ a)) (S.length - 0)
    ⟨rfl, 0, S.length, by kernel_rfl, rfl, Nat.zero_le _, Nat.le_refl _, fun i a hi => absurd hi (Nat.not_lt_zero _), fun i a hi e => by rw [List.getElem?_eq_none hi] at e; cases e⟩ ?_
  rintro n ρ σ' ⟨rfl, lo, hi, rfl, rfl, h1, h2, h3, h4⟩
  repeat walk_at "st"
  by_cases hlt : lo < hi
  · refine tT (by simpa using hlt) ?_
    repeat walk_at "st"
    refine ⟨by decide, PyProof.noPylong_small (by decide), ?_⟩
    have em : ((lo : Int) + hi).fdiv 2 = ((((lo + hi) / 2 : Nat)) : Int) := by
      rw [Int.fdiv_eq_ediv_of_nonneg _ (by decide)]; lia
    rw [em]
    generalize hm : (lo + hi) / 2 = m
    have hm1 : lo ≤ m := by lia
    have hm2 : m < hi := by lia
    obtain ⟨a, ha⟩ : ∃ a, S[m]? = some a := ⟨_, List.getElem?_eq_getElem (by lia)⟩
    repeat walk_at "st"
    refine ⟨_, IxP_tup (iV_at ha) (by lia), ?_⟩
    repeat walk_at "st"
    by_cases hag : a < g
    · refine tT (by simpa using hag) ?_
      repeat walk_at "st"
      refine ⟨hi - (m + 1), _, by lia, SubL.app (l := [("self", vCoverage (.tup (iV S))), ("glyph", .int g), ("low", .int ((m : Int) + 1)), ("high", .int hi)]) [("middle", .int m)], rfl, m + 1, hi, rfl, rfl, by lia, h2, fun i b hi' e => ?_, h4⟩
      rcases Nat.lt_or_ge i m with q | q
      · have := up_lt hS e ha q; lia
      · have : i = m := by lia
        subst this; rw [ha] at e; cases e; exact hag
    · refine tF (by simpa using hag) ?_
      repeat walk_at "st"
      refine ⟨m - lo, _, by lia, SubL.app (l := [("self", vCoverage (.tup (iV S))), ("glyph", .int g), ("low", .int lo), ("high", .int m)]) [("middle", .int m)], rfl, lo, m, rfl, rfl, hm1, by lia, h3, fun i b hi' e => ?_⟩
      rcases Nat.lt_or_ge m i with q | q
      · have := up_lt hS ha e q; lia
      · have : i = m := by lia
        subst this; rw [ha] at e; cases e; lia
  · refine tF (by simpa using hlt) ?_
    have hlh : hi = lo := by lia
    subst hlh
    repeat walk_at "st"
    refine WC_len_tup (by rw [iV_len]; lia) ?_
    rw [iV_len]
    repeat walk_at "st"
    by_cases hin : hi < S.length
    · obtain ⟨a, ha⟩ : ∃ a, S[hi]? = some a := ⟨_, List.getElem?_eq_getElem hin⟩
      refine tT (by simpa using hin) ?_
      repeat walk_at "st"
      refine ⟨_, IxP_tup (iV_at ha) (by lia), ?_⟩
      repeat walk_at "st"
      by_cases he : a = g
      · refine tT (by simpa using he) ?_
        repeat walk_at "st"
        refine tT rfl ?_
        repeat walk_at "st"
        exact h _ ⟨fun _ => he ▸ List.mem_of_getElem? ha, fun _ => by lia⟩
      · refine tF (by simpa using he) ?_
        refine tF rfl ?_
        repeat walk_at "st"
        refine h _ ⟨fun q => absurd q (by decide), fun q => ?_⟩
        obtain ⟨i, hi', e'⟩ := List.mem_iff_getElem.mp q
        have e : S[i]? = some g := by rw [List.getElem?_eq_getElem hi', e']
        rcases Nat.lt_trichotomy i hi with q | q | q
        · have := h3 i g q e; lia
        · subst q; rw [ha] at e; cases e; exact absurd rfl he
        · have := up_lt hS ha e q
          have := h4 hi a (Nat.le_refl _) ha; lia
    · refine tF (by simpa using hin) ?_
      refine tF rfl ?_
      repeat walk_at "st"
      refine h _ ⟨fun q => absurd q (by decide), fun q => ?_⟩
      obtain ⟨i, hi', e'⟩ := List.mem_iff_getElem.mp q
      have e : S[i]? = some g := by rw [List.getElem?_eq_getElem hi', e']
      have := h3 i g (by lia) e; lia
theorem c_has {S : List Int} {g : Int} (hS : upS S) (hl : S.length ≤ 1000) (h : Q (.bool (decide (g ∈ S))) σ) :
    WC (cx w B) (k + 2) (.glob 612) [vCoverage (.tup (iV S)), .int g] σ Q := by
  refine e_Coverage_has ?_
  repeat walk_at "st"
  refine ⟨_, MetP_inst m_Coverage_index.1 rfl, m_Coverage_index.2, ?_⟩
  repeat walk_at "st"
  refine c_index hS hl fun n hn => ?_
  repeat walk_at "st"
  have e : decide (n ≥ 0) = decide (g ∈ S) := by
    rw [decide_eq_decide]; exact hn
  rw [e]
  exact h
noncomputable abbrev actV : V := .tup [.tup [.int 0, .int 0]]
noncomputable abbrev ruleV (x : V) : V := vRule (.tup []) (.tup [x]) (.tup []) actV
noncomputable abbrev testV (t : V) : V := .tup [.lst [], .lst [t], .lst [], actV]
theorem c_tests0 {wd : Str} {cd : V} (h : Q (.lst []) σ) : WC (cx w B) (k + 1) (.glob 719) [.tup [], .str wd, cd] σ Q := by
  refine e_tests_of ?_
  repeat walk_at "st"
  refine CmpP_seq ?_
  refine ⟨fun _ => ?_, fun _ => ?_⟩
  · repeat walk_at "st"
    refine WE_comp1 (by kernel_rfl) (by kernel_rfl) ?_
    repeat walk_at "st"
    refine ⟨_, IterP_tup, ?_⟩
    exact h
  · repeat walk_at "st"
    refine WE_comp1 (by kernel_rfl) (by kernel_rfl) ?_
    repeat walk_at "st"
    refine ⟨_, IterP_tup, ?_⟩
    exact h
theorem c_tests1 {wd : Str} {x : V} (hw : wd = "glyph" ∨ wd = "cover") (h : Q (.lst [.tup [.str wd, x]]) σ) : WC (cx w B) (k + 1) (.glob 719) [.tup [x], .str wd, .none] σ Q := by
  refine e_tests_of ?_
  rcases hw with rfl | rfl
  all_goals
    repeat walk_at "st"
    refine CmpP_seq ?_
    refine tF (by kernel_rfl!) ?_
    repeat walk_at "st"
    refine WE_comp1 (by kernel_rfl) (by kernel_rfl) ?_
    repeat walk_at "st"
    refine ⟨_, IterP_tup, ?_⟩
    refine CompL_each _ [] [.tup [.str _, x]] _ (fun _ => rfl) (by show 1 ≤ 1000; decide) rfl ?_ h
    intro i a b ha hb Q' hQ
    cases i with
    | zero =>
      simp only [List.getElem?_cons_zero, Option.some.injEq] at ha hb
      subst ha hb
      repeat walk_at "st"
      refine ⟨by show 2 ≤ 16777216; decide, ?_⟩
      exact hQ
    | succ i => simp at ha
theorem c_testsC {x cd : V} (h : Q (.lst [.tup [.str "class", cd, x]]) σ) : WC (cx w B) (k + 1) (.glob 719) [.tup [x], .str "class", cd] σ Q := by
  refine e_tests_of ?_
  repeat walk_at "st"
  refine CmpP_seq ?_
  refine tT (by kernel_rfl!) ?_
  repeat walk_at "st"
  refine WE_comp1 (by kernel_rfl) (by kernel_rfl) ?_
  repeat walk_at "st"
  refine ⟨_, IterP_tup, ?_⟩
  refine CompL_each _ [] [.tup [.str "class", cd, x]] _ (fun _ => rfl) (by show 1 ≤ 1000; decide) rfl ?_ h
  intro i a b ha hb Q' hQ
  cases i with
  | zero =>
    simp only [List.getElem?_cons_zero, Option.some.injEq] at ha hb
    subst ha hb
    repeat walk_at "st"
    refine ⟨by show 3 ≤ 16777216; decide, ?_⟩
    exact hQ
  | succ i => simp at ha
theorem c_rule_tests13 {n : Int} {wd : Str} {ch x : V} {D : List (Int × V)} (hn : (n = 1 ∧ wd = "glyph") ∨ (n = 3 ∧ wd = "cover")) (h : Q (testV (.tup [.str wd, x])) σ) : WC (cx w B) (k + 2) (.glob 726) [vContexts3 (.int n) ch (.dcI D), ruleV x] σ Q := by
  refine e_rule_tests ?_
  rcases hn with ⟨rfl, rfl⟩ | ⟨rfl, rfl⟩
  · repeat walk_at "st"
    refine ⟨by show 4 ≤ 16777216; decide, ?_⟩
    repeat walk_at "st"
    refine ⟨_, IxP_lst (i := 1) rfl, ?_⟩
    repeat walk_at "st"
    refine tF rfl ?_
    repeat walk_at "st"
    refine ⟨by show 3 ≤ 16777216; decide, ?_⟩
    refine WA_tuple ⟨_, rfl, rfl, ?_⟩
    try refine WA_local (by kernel_rfl!) ?_
    try refine WA_local (by kernel_rfl!) ?_
    try refine WA_local (by kernel_rfl!) ?_
    try show WB _ _ _ _ _ _ _
    repeat walk_at "st"
    repeat walk_at "st"
    refine c_tests0 ?_
    repeat walk_at "st"
    repeat walk_at "st"
    refine c_tests1 (.inl rfl) ?_
    repeat walk_at "st"
    repeat walk_at "st"
    refine c_tests0 ?_
    repeat walk_at "st"
    refine ⟨by show 4 ≤ 16777216; decide, ?_⟩
    exact h
  · repeat walk_at "st"
    refine ⟨by show 4 ≤ 16777216; decide, ?_⟩
    repeat walk_at "st"
    refine ⟨_, IxP_lst (i := 3) rfl, ?_⟩
    repeat walk_at "st"
    refine tF rfl ?_
    repeat walk_at "st"
    refine ⟨by show 3 ≤ 16777216; decide, ?_⟩
    refine WA_tuple ⟨_, rfl, rfl, ?_⟩
    try refine WA_local (by kernel_rfl!) ?_
    try refine WA_local (by kernel_rfl!) ?_
    try refine WA_local (by kernel_rfl!) ?_
    try show WB _ _ _ _ _ _ _
    repeat walk_at "st"
    repeat walk_at "st"
    refine c_tests0 ?_
    repeat walk_at "st"
    repeat walk_at "st"
    refine c_tests1 (.inr rfl) ?_
    repeat walk_at "st"
    repeat walk_at "st"
    refine c_tests0 ?_
    repeat walk_at "st"
    refine ⟨by show 4 ≤ 16777216; decide, ?_⟩
    exact h
theorem c_rule_tests2 {ch cov x c0 c1 c2 : V} {D : List (Int × V)} (h : Q (testV (.tup [.str "class", c1, x])) σ) : WC (cx w B) (k + 2) (.glob 726) [vContexts5 (.int 2) ch (.dcI D) cov (.tup [c0, c1, c2]), ruleV x] σ Q := by
  refine e_rule_tests ?_
  repeat walk_at "st"
  refine ⟨by show 4 ≤ 16777216; decide, ?_⟩
  repeat walk_at "st"
  refine ⟨_, IxP_lst (i := 2) rfl, ?_⟩
  repeat walk_at "st"
  refine tT rfl ?_
  repeat walk_at "st"
  refine WA_tuple ⟨_, rfl, rfl, ?_⟩
  try refine WA_local (by kernel_rfl!) ?_
  try refine WA_local (by kernel_rfl!) ?_
  try refine WA_local (by kernel_rfl!) ?_
  try show WB _ _ _ _ _ _ _
  repeat walk_at "st"
  repeat walk_at "st"
  refine c_tests0 ?_
  repeat walk_at "st"
  repeat walk_at "st"
  refine c_testsC ?_
  repeat walk_at "st"
  repeat walk_at "st"
  refine c_tests0 ?_
  repeat walk_at "st"
  refine ⟨by show 4 ≤ 16777216; decide, ?_⟩
  exact h
theorem c_rules {ch x : V} (h : Q (.lst [x]) σ) : WC (cx w B) (k + 1) (.glob 702) [vContexts3 (.int 3) ch (.dcI [(0, .lst [x])])] σ Q := by
  refine e_Contexts_rules ?_
  try refine WB_cons ?_
  try refine WS_assign ?_
  refine WE_listA fun a ha => ?_
  refine WA_local (by kernel_rfl!) ?_
  refine WB_cons ?_
  refine WS_for ?_
  repeat walk_at "st"
  refine WC_sortedD (by show 1 < 64; decide) fun ns' hp hs => ?_
  have e : ns' = [0] := List.perm_singleton.mp hp
  subst e
  refine ⟨_, IterP_lst, .inr (fun _ _ => rfl), ?_⟩
  unfold iV
  refine (?_ : WA _ _ _ _ _ _ _ _)
  refine WA_local (by kernel_rfl!) ?_
  repeat walk_at "st"
  refine WS_for ?_
  repeat walk_at "st"
  refine ⟨_, IxP_dcI (x := .lst [x]) rfl, ?_⟩
  refine ⟨_, IterP_lst, .inr (fun _ _ => rfl), ?_⟩
  refine (?_ : WA _ _ _ _ _ _ _ _)
  refine WA_local (by kernel_rfl!) ?_
  repeat walk_at "st"
  refine ⟨_, MetP_append (Sto.set_at ..), rfl, ?_⟩
  repeat walk_at "st"
  refine WC_append (Sto.set_at ..) (by decide) ?_
  refine ⟨rfl, ?_⟩
  repeat (first | refine WB_cons (WS_return (WE_fz ?_)) | walk_at "st")
  refine ⟨_, _, _, rfl, Sto.set_at .., rfl, ?_⟩
  rw [Sto.set_set, Sto.del_set _ _ _ ha]
  exact h
theorem c_rules_at1 {D : List (Int × V)} {ch : V} {g : Int} (hD : ∀ y, lkI D g = some y → y = .lst [ruleV (.int g)])
    (h : Q (.lst (if (lkI D g).isSome then [testV (.tup [.str "glyph", .int g])] else [])) σ) : WC (cx w B) (k + 3) (.glob 731) [vContexts3 (.int 1) ch (.dcI D), .int g] σ Q := by
  refine e_rules_at ?_
  repeat walk_at "st"
  refine tT rfl ?_
  repeat walk_at "st"
  refine ⟨_, MetP_get, rfl, ?_⟩
  repeat walk_at "st"
  refine ⟨by show 0 ≤ 16777216; decide, ?_⟩
  repeat walk_at "st"
  refine WC_get ?_
  repeat walk_at "st"
  refine WE_comp1 (by kernel_rfl) (by kernel_rfl) ?_
  repeat walk_at "st"
  cases hg : lkI D g with
  | none =>
    rw [hg] at h
    refine ⟨_, IterP_lst, ?_⟩
    exact h
  | some y =>
    have := hD y hg; subst this
    rw [hg] at h
    refine ⟨_, IterP_lst, ?_⟩
    refine CompL_each _ [] [testV (.tup [.str "glyph", .int g])] _ (fun _ => rfl) (by show 1 ≤ 1000; decide) rfl ?_ h
    intro i a b ha hb Q' hQ
    cases i with
    | zero =>
      simp only [List.getElem?_cons_zero, Option.some.injEq] at ha hb
      subst ha hb
      repeat walk_at "st"
      repeat walk_at "st"
      exact c_rule_tests13 (.inl ⟨rfl, rfl⟩) hQ
    | succ i => simp at ha
theorem c_rules_at2 {S : List Int} {C : List (Int × V)} {c0 c2 : List (Int × V)} {ch : V} {g : Int} (hS : upS S) (hl : S.length ≤ 1000) (hC : ∀ y, lkI C g = some y → y = .int 1)
    (h : Q (.lst (if g ∈ S ∧ (lkI C g).isSome then [testV (.tup [.str "class", vClassDef (.dcI C), .int 1])] else [])) σ) :
    WC (cx w B) (k + 3) (.glob 731) [vContexts5 (.int 2) ch (.dcI [(1, .lst [ruleV (.int 1)])]) (vCoverage (.tup (iV S))) (.tup [vClassDef (.dcI c0), vClassDef (.dcI C), vClassDef (.dcI c2)]), .int g] σ Q := by
  refine e_rules_at ?_
  repeat walk_at "st"
  refine tF rfl ?_
  repeat walk_at "st"
  refine tT rfl ?_
  repeat walk_at "st"
  refine ⟨_, MetP_inst m_Coverage_has.1 rfl, m_Coverage_has.2, ?_⟩
  repeat walk_at "st"
  refine c_has hS hl ?_
  repeat walk_at "st"
  by_cases hg : g ∈ S
  · refine tT (by simpa using hg) ?_
    repeat walk_at "st"
    refine ⟨_, MetP_get, rfl, ?_⟩
    repeat walk_at "st"
    refine ⟨_, IxP_tup (i := 1) rfl, ?_⟩
    refine ⟨_, MetP_inst m_ClassDef_class_of.1 rfl, m_ClassDef_class_of.2, ?_⟩
    repeat walk_at "st"
    refine c_class_of ?_
    repeat walk_at "st"
    cases hc : lkI C g with
    | none =>
      rw [hc, if_neg (by simp)] at h
      repeat walk_at "st"
      refine ⟨by show 0 ≤ 16777216; decide, ?_⟩
      repeat walk_at "st"
      refine WC_get ?_
      repeat walk_at "st"
      refine WE_comp1 (by kernel_rfl) (by kernel_rfl) ?_
      repeat walk_at "st"
      exact ⟨_, IterP_lst, h⟩
    | some y =>
      have := hC y hc; subst this
      rw [hc, if_pos ⟨hg, rfl⟩] at h
      repeat walk_at "st"
      refine ⟨by show 0 ≤ 16777216; decide, ?_⟩
      repeat walk_at "st"
      refine WC_get ?_
      repeat walk_at "st"
      refine WE_comp1 (by kernel_rfl) (by kernel_rfl) ?_
      repeat walk_at "st"
      refine ⟨_, IterP_lst, ?_⟩
      refine CompL_each _ [] [testV (.tup [.str "class", vClassDef (.dcI C), .int 1])] _ (fun _ => rfl) (by show 1 ≤ 1000; decide) rfl ?_ h
      intro i a b ha hb Q' hQ
      cases i with
      | zero =>
        simp only [List.getElem?_cons_zero, Option.some.injEq] at ha hb
        subst ha hb
        repeat walk_at "st"
        repeat walk_at "st"
        exact c_rule_tests2 hQ
      | succ i => simp at ha
  · rw [if_neg (fun q => hg q.1)] at h
    refine tF (by simpa using hg) ?_
    repeat walk_at "st"
    refine ⟨by show 0 ≤ 16777216; decide, ?_⟩
    repeat walk_at "st"
    refine WE_comp1 (by kernel_rfl) (by kernel_rfl) ?_
    repeat walk_at "st"
    exact ⟨_, IterP_lst, h⟩
theorem c_rules_at3 {S : List Int} {ch : V} {g : Int} (hS : upS S) (hl : S.length ≤ 1000)
    (h : Q (.lst (if g ∈ S then [testV (.tup [.str "cover", vCoverage (.tup (iV S))])] else [])) σ) : WC (cx w B) (k + 3) (.glob 731) [vContexts3 (.int 3) ch (.dcI [(0, .lst [ruleV (vCoverage (.tup (iV S)))])]), .int g] σ Q := by
  refine e_rules_at ?_
  repeat walk_at "st"
  refine tF rfl ?_
  repeat walk_at "st"
  refine tF rfl ?_
  try refine WB_cons ?_
  refine WS_assignC (by kernel_rfl) (by kernel_rfl) (by kernel_rfl!) ?_
  repeat walk_at "st"
  refine ⟨_, MetP_inst m_Contexts_rules.1 rfl, m_Contexts_rules.2, ?_⟩
  refine c_rules ?_
  refine ⟨_, IterP_lst, ?_⟩
  refine (?_ : WT _ _ _ _ _ _ _)
  repeat walk_at "st"
  refine ⟨_, IxP_tup (i := 0) rfl, ?_⟩
  refine ⟨_, MetP_inst m_Coverage_has.1 rfl, m_Coverage_has.2, ?_⟩
  repeat walk_at "st"
  refine c_has hS hl ?_
  repeat walk_at "st"
  by_cases hg : g ∈ S
  · rw [if_pos hg] at h
    refine tT (by simpa using hg) ?_
    refine ⟨by decide, ?_⟩
    repeat walk_at "st"
    refine WE_comp1 (by kernel_rfl) (by kernel_rfl) ?_
    repeat walk_at "st"
    refine ⟨_, IterP_lst, ?_⟩
    refine CompL_each _ [] [testV (.tup [.str "cover", vCoverage (.tup (iV S))])] _ (fun _ => rfl) (by show 1 ≤ 1000; decide) rfl ?_ h
    intro i a b ha hb Q' hQ
    cases i with
    | zero =>
      simp only [List.nil_append, List.getElem?_cons_zero, Option.some.injEq] at ha hb
      subst ha hb
      repeat walk_at "st"
      repeat walk_at "st"
      exact c_rule_tests13 (.inr ⟨rfl, rfl⟩) hQ
    | succ i => simp at ha
  · rw [if_neg hg] at h
    refine tF (by simpa using hg) ?_
    repeat walk_at "st"
    refine WE_comp1 (by kernel_rfl) (by kernel_rfl) ?_
    repeat walk_at "st"
    exact ⟨_, IterP_lst, h⟩
theorem c_fits1 {g g' : Int} (h : Q (.bool (g == g')) σ) : WC (cx w B) (k + 4) (.glob 206) [.tup [.str "glyph", .int g], .int g'] σ Q := by
  refine e_fits ?_
  repeat walk_at "st"
  refine ⟨_, IxP_tup (i := 0) rfl, ?_⟩
  repeat walk_at "st"
  refine CmpP_seq ?_
  refine tT (by kernel_rfl!) ?_
  repeat walk_at "st"
  refine ⟨_, IxP_tup (i := 1) rfl, ?_⟩
  repeat walk_at "st"
  exact h
theorem c_fits2 {C : List (Int × V)} {g : Int} (hC : lkI C g = some (.int 1)) (h : Q (.bool true) σ) : WC (cx w B) (k + 4) (.glob 206) [.tup [.str "class", vClassDef (.dcI C), .int 1], .int g] σ Q := by
  refine e_fits ?_
  repeat walk_at "st"
  refine ⟨_, IxP_tup (i := 0) rfl, ?_⟩
  repeat walk_at "st"
  refine CmpP_seq ?_
  refine tF (by kernel_rfl!) ?_
  repeat walk_at "st"
  refine ⟨_, IxP_tup (i := 0) rfl, ?_⟩
  repeat walk_at "st"
  refine CmpP_seq ?_
  refine tT (by kernel_rfl!) ?_
  repeat walk_at "st"
  refine ⟨_, IxP_tup (i := 1) rfl, ?_⟩
  refine ⟨_, MetP_inst m_ClassDef_class_of.1 rfl, m_ClassDef_class_of.2, ?_⟩
  repeat walk_at "st"
  refine c_class_of ?_
  rw [hC]
  repeat walk_at "st"
  refine ⟨_, IxP_tup (i := 2) rfl, ?_⟩
  repeat walk_at "st"
  exact h
theorem c_fits3 {S : List Int} {g : Int} (hS : upS S) (hl : S.length ≤ 1000) (h : Q (.bool (decide (g ∈ S))) σ) : WC (cx w B) (k + 4) (.glob 206) [.tup [.str "cover", vCoverage (.tup (iV S))], .int g] σ Q := by
  refine e_fits ?_
  repeat walk_at "st"
  refine ⟨_, IxP_tup (i := 0) rfl, ?_⟩
  repeat walk_at "st"
  refine CmpP_seq ?_
  refine tF (by kernel_rfl!) ?_
  repeat walk_at "st"
  refine ⟨_, IxP_tup (i := 0) rfl, ?_⟩
  repeat walk_at "st"
  refine CmpP_seq ?_
  refine tF (by kernel_rfl!) ?_
  repeat walk_at "st"
  refine ⟨_, IxP_tup (i := 1) rfl, ?_⟩
  refine ⟨_, MetP_inst m_Coverage_has.1 rfl, m_Coverage_has.2, ?_⟩
  repeat walk_at "st"
  exact c_has hS hl h
theorem c_input_at {g ls l m d st t : V} {row : List V} {i : Nat} {x dd : Addr} {r : Rec} (hi : i < 2 ^ 63) (hrow : row[i]? = some (.obj 135 x dd)) (hσ : σ dd = some (.flds (recF r)))
    (HF : ∀ Q' : V → Sto → Prop, Q' (.bool true) σ → WC (cx w B) (k + 4) (.glob 206) [t, .int r.glyph] σ Q') (h : Q (.lst [.int i]) σ) :
    WC (cx w B) (k + 5) (.glob 248) [sceneV (bufV row) g ls l m d st, .int i, .lst [t]] σ Q := by
  refine e_input_at ?_
  repeat walk_at "st"
  repeat walk_at "st"
  refine ⟨_, IxP_lst (i := 0) rfl, ?_⟩
  repeat walk_at "st"
  refine ⟨_, IxP_lst hrow hi, ?_⟩
  repeat walk_at "st"
  refine HF _ ?_
  repeat walk_at "st"
  refine tF rfl ?_
  repeat walk_at "st"
  refine ⟨by show 1 ≤ 16777216; decide, ?_⟩
  repeat walk_at "st"
  refine WS_for ?_
  refine WE_slice ?_
  repeat walk_at "st"
  refine ⟨1, rfl, ?_⟩
  refine ⟨[t], [], rfl, by show 1 ≤ 16777216; decide, rfl, ?_⟩
  refine ⟨_, IterP_lst, .inr (fun _ _ => rfl), ?_⟩
  refine (?_ : WB _ _ _ _ _ _ _)
  repeat walk_at "st"
  exact h
theorem c_last_at {s : V} {i : Int} {st : V} (h : Q (.int i) σ) : WC (cx w B) (k + 1) (.glob 255) [s, .int i, st, .lst []] σ Q := by
  refine e_last_at ?_
  repeat walk_at "st"
  refine WS_for ?_
  repeat walk_at "st"
  refine ⟨_, IterP_lst, .inr (fun _ _ => rfl), ?_⟩
  refine (?_ : WB _ _ _ _ _ _ _)
  repeat walk_at "st"
  exact h
theorem c_ahead_at {s : V} {i : Int} (h : Q (.int i) σ) : WC (cx w B) (k + 2) (.glob 262) [s, .int i, .lst []] σ Q := by
  refine e_ahead_at ?_
  repeat walk_at "st"
  repeat walk_at "st"
  exact c_last_at h
theorem c_back_at {s : V} {i : Int} (h : Q (.int i) σ) : WC (cx w B) (k + 2) (.glob 269) [s, .int i, .lst []] σ Q := by
  refine e_back_at ?_
  repeat walk_at "st"
  repeat walk_at "st"
  exact c_last_at h
theorem c_match_rule {g ls l m d st t : V} {row : List V} {i : Nat} {x dd : Addr} {r : Rec} (hi : i < 2 ^ 63) (hrow : row[i]? = some (.obj 135 x dd)) (hσ : σ dd = some (.flds (recF r)))
    (HF : ∀ Q' : V → Sto → Prop, Q' (.bool true) σ → WC (cx w B) (k + 4) (.glob 206) [t, .int r.glyph] σ Q') (h : Q (.tup [.lst [.int i], .int i, .int i]) σ) :
    WC (cx w B) (k + 6) (.glob 759) [sceneV (bufV row) g ls l m d st, .int i, testV t] σ Q := by
  refine e_match_rule ?_
  repeat walk_at "st"
  refine WA_tuple ⟨_, rfl, rfl, ?_⟩
  try refine WA_local (by kernel_rfl!) ?_
  try refine WA_local (by kernel_rfl!) ?_
  try refine WA_local (by kernel_rfl!) ?_
  try refine WA_local (by kernel_rfl!) ?_
  try show WB _ _ _ _ _ _ _
  repeat walk_at "st"
  repeat walk_at "st"
  refine c_input_at hi hrow hσ HF ?_
  repeat walk_at "st"
  refine CmpP_is ?_
  refine tF rfl ?_
  repeat walk_at "st"
  repeat walk_at "st"
  refine c_back_at ?_
  repeat walk_at "st"
  refine tF (by simp) ?_
  repeat walk_at "st"
  repeat walk_at "st"
  refine ⟨_, IxP_last (l := [.int i]) rfl, ?_⟩
  repeat walk_at "st"
  refine c_ahead_at ?_
  repeat walk_at "st"
  refine tF (by simp) ?_
  repeat walk_at "st"
  refine ⟨by show 3 ≤ 16777216; decide, ?_⟩
  exact h
theorem n_SceneO {a b c d e f : V} (h : ∀ x o, σ o = .none → Q (.obj 65 x o) (σ.set o (.flds [("buffer", a), ("gdef", b), ("lookups", c), ("lookup", d), ("mask", e), ("depth", f), ("steps", .lst [.int 0])]))) : WC (cx w B) (k + 2) (.glob 65) [a, b, c, d, e, f] σ Q :=
  WC_class (fI := 62) (by kernel_rfl) (by kernel_rfl) (by kernel_rfl) (fun ox od hd => e_Scene_newc (by
    repeat (first | walk_at "st" | (refine WA_self ?_; refine WE_local (by kernel_rfl) rfl ?_; refine ⟨_, _, rfl, rfl, by kernel_rfl, by kernel_rfl, ?_⟩) | refine ⟨by show 1 ≤ 16777216; decide, ?_⟩)
    exact ⟨rfl, h ox od hd⟩))
theorem c_nested {row : List V} {G : List (Int × V)} {l1 l2 l : V} {s : Addr} (h : Q (sceneV (bufV row) (gdefV G) (.lst [l1, l2]) l1 (.int 1) (.int 1) (.ref s)) σ) : WC (cx w B) (k + 3) (.glob 104) [sceneV (bufV row) (gdefV G) (.lst [l1, l2]) l (.int 1) (.int 0) (.ref s), .int 0] σ Q := by
  refine WC_fzo ?_
  refine e_nested_scene ?_
  repeat walk_at "st"
  refine tT' (by decide) ?_
  repeat walk_at "st"
  refine WC_len_lst (by show 2 ≤ 16777216; decide) ?_
  repeat walk_at "st"
  refine tF (by simp) ?_
  repeat walk_at "st"
  repeat walk_at "st"
  refine ⟨_, IxP_lst (i := 0) rfl, ?_⟩
  repeat walk_at "st"
  refine n_SceneO fun x o ho => ?_
  repeat walk_at "st"
  refine WA_self ?_
  refine WE_local (by kernel_rfl!) rfl ?_
  refine ⟨_, _, rfl, rfl, setOf sk_65 (by kernel_rfl), by kernel_rfl, ?_⟩
  repeat walk_at "st"
  refine ⟨_, _, _, _, rfl, Sto.set_at .., ?_⟩
  rw [Sto.del_set _ _ _ ho]
  exact h
theorem c_inner {row : List V} {G : List (Int × V)} {l1 l2 l : V} {s : Addr} (h : Q (sceneV (bufV row) (gdefV G) (.lst [l1, l2]) l1 (.int 1) (.int 1) (.ref s)) σ) : WC (cx w B) (k + 4) (.glob 766) [sceneV (bufV row) (gdefV G) (.lst [l1, l2]) l (.int 1) (.int 0) (.ref s), .int 0] σ Q := by
  refine e_inner_scene ?_
  repeat walk_at "st"
  refine tF (by decide) ?_
  repeat walk_at "st"
  repeat walk_at "st"
  exact c_nested h
theorem updR_out {τ : Sto} {s : Addr} {o : O} : ∀ {ds : List Addr} {rs : List Rec}, s ∉ ds → (updR τ ds rs).set s o = updR (τ.set s o) ds rs
  | [], _, _ => rfl
  | d :: ds, [], _ => rfl
  | d :: ds, r :: rs, h => by
    rw [List.mem_cons, not_or] at h
    show ((updR τ ds rs).set d _).set s o = (updR (τ.set s o) ds rs).set d _
    rw [Sto.set_comm _ (Ne.symm h.1), updR_out h.2]
noncomputable def allG : List Int := [0, 1, 2, 3, 4, 5, 6, 7]
noncomputable abbrev adjD : List (Int × V) := allG.map fun g => (g, vValue (.int 5) (.int 0) (.int 0) (.int 0))
noncomputable abbrev lk0 : V := vLookup (.str "adjust") (.int 0) (.int 0) (.lst [vAdjust (.dcI adjD)])
theorem adjD_at {g : Int} (h : 0 ≤ g ∧ g < 8) : lkI adjD g = some (vValue (.int 5) (.int 0) (.int 0) (.int 0)) := by
  have : g = 0 ∨ g = 1 ∨ g = 2 ∨ g = 3 ∨ g = 4 ∨ g = 5 ∨ g = 6 ∨ g = 7 := by lia
  rcases this with rfl | rfl | rfl | rfl | rfl | rfl | rfl | rfl <;> rfl
theorem c_do_action {G : List (Int × V)} {row : List V} {ds : List Addr} {rs : List Rec} {τ : Sto} {i : Nat} {r : Rec} {l2 l : V} {s : Addr} {n : Int} (L : RLay row ds rs.length) (hf : rs.length ≤ 5) (hr : rs[i]? = some r) (hg : 0 ≤ r.glyph ∧ r.glyph < 8)
    (hs : s ∉ ds) (hτ : τ s = some (.lst [.int n])) (hn : n < 256) (h : Q (.bool true) (updR (τ.set s (.lst [.int (n + 1)])) ds (rs.set i (addV r 5 0 0)))) :
    WC (cx w B) (k + 5) (.glob 790) [sceneV (bufV row) (gdefV G) (.lst [lk0, l2]) l (.int 1) (.int 0) (.ref s), vPlaces (.lst [.int i]) (.int ((i : Int) + 1)), .tup [.int 0, .int 0], .glob 985] (updR τ ds rs) Q := by
  refine e_do_action ?_
  have hi : i < rs.length := (List.getElem?_eq_some_iff.mp hr).1
  have hlen := L.rl
  have hs' : updR τ ds rs s = some (.lst [.int n]) := by rw [updR_off hs]; exact hτ
  repeat walk_at "st"
  refine WA_tuple ⟨_, rfl, rfl, ?_⟩
  try refine WA_local (by kernel_rfl!) ?_
  try refine WA_local (by kernel_rfl!) ?_
  try show WB _ _ _ _ _ _ _
  repeat walk_at "st"
  refine WC_len_lst (by show 1 ≤ 16777216; decide) ?_
  repeat walk_at "st"
  refine tF' (by simp) ?_
  repeat walk_at "st"
  refine ⟨_, IxP_lst (i := 0) rfl, ?_⟩
  repeat walk_at "st"
  refine WC_len_lst (by lia) ?_
  repeat walk_at "st"
  refine tF' (by simp; lia) ?_
  repeat walk_at "st"
  refine tF rfl ?_
  repeat walk_at "st"
  repeat walk_at "st"
  refine c_inner ?_
  repeat walk_at "st"
  refine CmpP_is ?_
  refine tF' rfl ?_
  repeat walk_at "st"
  refine ⟨_, IxP_ref (i := 0) hs' rfl, ?_⟩
  repeat walk_at "st"
  refine tF' (by simp; lia) ?_
  repeat walk_at "st"
  refine tF rfl ?_
  repeat walk_at "st"
  refine ⟨_, IxP_ref (i := 0) hs' rfl, ?_⟩
  repeat walk_at "st"
  refine WA_sub ?_
  repeat walk_at "st"
  refine ⟨_, StIP_lst (i := 0) hs' (by show 0 < 1; decide), ?_⟩
  rw [updR_out hs]
  show nx _ _ _ _ (updR (τ.set s (.lst [.int (n + 1)])) ds rs)
  repeat walk_at "st"
  refine WC_len_lst (by lia) ?_
  repeat walk_at "st"
  refine WE_call ?_
  refine WE_local (by kernel_rfl!) rfl ?_
  refine ⟨by kernel_rfl, ?_⟩
  repeat walk_at "st"
  refine ⟨_, IxP_lst (i := 0) rfl, ?_⟩
  repeat walk_at "st"
  refine c_position_at ?_
  refine ap_adjust ?_
  refine c_apply_adjust L hf hr (fun q => by rw [adjD_at hg] at q; cases q) (fun y hy => ?_)
  rw [adjD_at hg] at hy
  cases hy
  refine ⟨5, 0, 0, 0, rfl, _, rfl, ?_⟩
  rw [if_pos (by lia)]
  repeat walk_at "st"
  refine tF (by simp; lia) ?_
  repeat walk_at "st"
  refine WC_len_lst (by lia) ?_
  repeat walk_at "st"
  rw [Int.sub_self]
  refine tF rfl ?_
  repeat walk_at "st"
  refine tF rfl ?_
  repeat walk_at "st"
  refine tF rfl ?_
  repeat walk_at "st"
  exact h
theorem c_do_actions {G : List (Int × V)} {row : List V} {ds : List Addr} {rs : List Rec} {τ : Sto} {i : Nat} {r : Rec} {l2 l : V} {s : Addr} {n : Int} (L : RLay row ds rs.length) (hf : rs.length ≤ 5) (hr : rs[i]? = some r) (hg : 0 ≤ r.glyph ∧ r.glyph < 8)
    (hs : s ∉ ds) (hτ : τ s = some (.lst [.int n])) (hn : n < 256) (h : Q (.int ((i : Int) + 1)) (updR (τ.set s (.lst [.int (n + 1)])) ds (rs.set i (addV r 5 0 0)))) :
    WC (cx w B) (k + 6) (.glob 797) [sceneV (bufV row) (gdefV G) (.lst [lk0, l2]) l (.int 1) (.int 0) (.ref s), vPlaces (.lst [.int i]) (.int ((i : Int) + 1)), actV, .glob 985] (updR τ ds rs) Q := by
  refine e_do_actions ?_
  repeat walk_at "st"
  refine WS_for ?_
  repeat walk_at "st"
  refine ⟨_, IterP_tup, .inr (fun _ _ => rfl), ?_⟩
  refine (?_ : WA _ _ _ _ _ _ _ _)
  refine WA_local (by kernel_rfl!) ?_
  repeat walk_at "st"
  repeat walk_at "st"
  refine c_do_action L hf hr hg hs hτ hn ?_
  repeat walk_at "st"
  refine tF rfl ?_
  refine (?_ : WB _ _ _ _ _ _ _)
  repeat walk_at "st"
  exact h
noncomputable def ctxF (hit : Int → Bool) (rs : List Rec) (i : Nat) : Int × List Rec :=
  match rs[i]? with
  | some r => if hit r.glyph = true then (((i + 1 : Nat) : Int), rs.set i (addV r 5 0 0)) else (-1, rs)
  | none => (-1, rs)
theorem c_apply_context {G : List (Int × V)} {row : List V} {ds : List Addr} {rs : List Rec} {τ : Sto} {i : Nat} {r : Rec} {l2 l T : V} {s : Addr} {n : Int} {hit : Int → Bool} {tst : Int → V} (L : RLay row ds rs.length) (hf : rs.length ≤ 5) (hr : rs[i]? = some r) (hg : 0 ≤ r.glyph ∧ r.glyph < 8)
    (HR : ∀ (k : Nat) (σ : Sto) (g : Int) (Q : V → Sto → Prop), Q (.lst (if hit g = true then [testV (tst g)] else [])) σ → WC (cx w B) (k + 3) (.glob 731) [T, .int g] σ Q)
    (HF : ∀ (k : Nat) (σ : Sto) (g : Int) (Q : V → Sto → Prop), hit g = true → Q (.bool true) σ → WC (cx w B) (k + 4) (.glob 206) [tst g, .int g] σ Q)
    (hs : s ∉ ds) (hτ : τ s = some (.lst [.int n])) (h : ∀ n', Q (.int (ctxF hit rs i).1) (updR (τ.set s (.lst [.int n'])) ds (ctxF hit rs i).2)) :
    WC (cx w B) (k + 7) (.glob 804) [sceneV (bufV row) (gdefV G) (.lst [lk0, l2]) l (.int 1) (.int 0) (.ref s), T, .int i, .glob 985] (updR τ ds rs) Q := by
  refine e_apply_context ?_
  have hi : i < rs.length := (List.getElem?_eq_some_iff.mp hr).1
  have hlen := L.rl
  have hs' : updR τ ds rs s = some (.lst [.int n]) := by rw [updR_off hs]; exact hτ
  obtain ⟨x, dd, hd, hrow, hσ⟩ := L.get (σ := τ.set s (.lst [.int 0])) hr
  unfold ctxF at h
  rw [hr] at h
  dsimp only at h
  repeat walk_at "st"
  refine tT rfl ?_
  repeat walk_at "st"
  refine WA_sub ?_
  repeat walk_at "st"
  refine ⟨_, StIP_lst (i := 0) hs' (by show 0 < 1; decide), ?_⟩
  rw [updR_out hs]
  show nx _ _ _ _ (updR (τ.set s (.lst [.int 0])) ds rs)
  repeat walk_at "st"
  refine WS_for ?_
  repeat walk_at "st"
  repeat walk_at "st"
  refine ⟨_, IxP_lst hrow (by lia), ?_⟩
  repeat walk_at "st"
  refine HR _ _ _ _ ?_
  refine ⟨_, IterP_lst, .inr (fun _ _ => rfl), ?_⟩
  cases hh : hit r.glyph with
  | false =>
    rw [hh, if_neg (by decide)] at h
    rw [if_neg (by decide)]
    refine (?_ : WB _ _ _ _ _ _ _)
    repeat walk_at "st"
    exact h 0
  | true =>
    rw [hh, if_pos rfl] at h
    rw [if_pos rfl]
    refine (?_ : WA _ _ _ _ _ _ _ _)
    refine WA_local (by kernel_rfl!) ?_
    repeat walk_at "st"
    repeat walk_at "st"
    refine c_match_rule (by lia) hrow hσ (fun Q' hQ => HF _ _ _ _ hh hQ) ?_
    repeat walk_at "st"
    refine CmpP_isnot ?_
    refine tT rfl ?_
    repeat walk_at "st"
    repeat walk_at "st"
    refine ⟨_, IxP_tup (i := 1) rfl, ?_⟩
    repeat walk_at "st"
    refine ⟨_, IxP_tup (i := 2) rfl, ?_⟩
    repeat walk_at "st"
    have e2 : (i : Int) + 1 = ((i + 1 : Nat) : Int) := by lia
    rw [e2]
    refine c_hang L hf (by lia) (by lia) ?_
    rw [unsafeF_one (by lia)]
    refine ⟨rfl, ?_⟩
    repeat walk_at "st"
    repeat walk_at "st"
    repeat walk_at "st"
    refine ⟨_, IxP_tup (i := 0) rfl, ?_⟩
    repeat walk_at "st"
    refine ⟨_, IxP_tup (i := 0) rfl, ?_⟩
    repeat walk_at "st"
    refine ⟨_, IxP_last (l := [.int i]) rfl, ?_⟩
    repeat walk_at "st"
    refine n_Places ?_
    repeat walk_at "st"
    refine ⟨_, IxP_tup (i := 3) rfl, ?_⟩
    repeat walk_at "st"
    refine c_do_actions L hf hr hg hs (Sto.set_at ..) (by decide) ?_
    rw [Sto.set_set, e2]
    exact h _
structure Fresh (rs : List Rec) (i : Nat) : Prop where
  zero : ∀ (j : Nat) (r : Rec), i ≤ j → rs[j]? = some r → r.parent = 0
  back : Back rs i
noncomputable abbrev ClsOK (G : List (Int × V)) (cls : Nat → Int) (rs : List Rec) : Prop := ∀ i r, rs[i]? = some r → lkI G r.glyph = some (.int (cls i)) ∧ (cls i = 1 ∨ cls i = 3)
noncomputable abbrev GlyOK (rs : List Rec) : Prop := ∀ (i : Nat) (r : Rec), rs[i]? = some r → 0 ≤ r.glyph ∧ r.glyph < 8
noncomputable abbrev lkV (kd : Str) (T : V) : V := vLookup (.str kd) (.int 0) (.int 0) (.lst [T])
noncomputable abbrev FT := (Nat → Int) → List Rec → Nat → Int × List Rec
noncomputable def PosOK (kd : Str) (T : V) (F : FT) : Prop :=
  ∀ (w : World) (B : Heap) (k : Nat) (Q : V → Sto → Prop) (G : List (Int × V)) (row : List V) (ds : List Addr) (rs : List Rec) (τ : Sto) (i : Nat) (cls : Nat → Int) (s : Addr) (n : Int),
    RLay row ds rs.length → rs.length ≤ 5 → ClsOK G cls rs → GlyOK rs → i < rs.length → Fresh rs i → s ∉ ds → τ s = some (.lst [.int n]) →
    (∀ n', Q (.int (F cls rs i).1) (updR (τ.set s (.lst [.int n'])) ds (F cls rs i).2)) →
    WC (cx w B) (k + 10) (.glob 985) [sceneV (bufV row) (gdefV G) (.lst [lk0, lkV kd T]) (lkV kd T) (.int 1) (.int 0) (.ref s), .int i] (updR τ ds rs) Q
theorem Sto.set_same {τ : Sto} {s : Addr} {o : O} (h : τ s = some o) : τ.set s o = τ := by
  funext b
  by_cases e : b = s
  · subst e; rw [Sto.set_at, h]
  · rw [Sto.set_ne _ _ e]
theorem val1 {n : Int} (h : n = -1 ∨ 0 ≤ n) : (if n ≥ 0 then n else -1) = n := by
  rcases h with rfl | h
  · rfl
  · rw [if_pos h]
structure FOK (S : List Int) (F : FT) : Prop where
  val : ∀ cls rs i, (F cls rs i).1 = -1 ∨ (F cls rs i).1 = ((i + 1 : Nat) : Int)
  len : ∀ cls rs i, (F cls rs i).2.length = rs.length
  same : ∀ cls rs i (j : Nat) r, (F cls rs i).2[j]? = some r → ∃ r0, rs[j]? = some r0 ∧ r.glyph = r0.glyph ∧ r.mask = r0.mask ∧ (PyData.strOk r0.bond = true → PyData.strOk r.bond = true)
  fresh : ∀ cls rs i, i < rs.length → Fresh rs i → Fresh (F cls rs i).2 (i + 1)
  miss : ∀ cls rs i r, rs[i]? = some r → r.glyph ∉ S → F cls rs i = (-1, rs)
theorem FOK.v1 {S : List Int} {F : FT} (h : FOK S F) (cls : Nat → Int) (rs : List Rec) (i : Nat) : (if (F cls rs i).1 ≥ 0 then (F cls rs i).1 else -1) = (F cls rs i).1 := val1 (by
  rcases h.val cls rs i with e | e
  · exact .inl e
  · right; rw [e]; lia)
noncomputable def Ch (rs rs' : List Rec) (P : Nat → Rec → Rec → Prop) : Prop := rs'.length = rs.length ∧ ∀ (j : Nat) r', rs'[j]? = some r' → ∃ r, rs[j]? = some r ∧ r'.glyph = r.glyph ∧ r'.mask = r.mask ∧ (PyData.strOk r.bond = true → PyData.strOk r'.bond = true) ∧ P j r r'
theorem Ch.refl {rs : List Rec} {P : Nat → Rec → Rec → Prop} (h : ∀ j r, P j r r) : Ch rs rs P := ⟨rfl, fun j r' e => ⟨r', e, rfl, rfl, id, h j r'⟩⟩
theorem Ch.trans {rs rs' rs'' : List Rec} {P P' P'' : Nat → Rec → Rec → Prop} (a : Ch rs rs' P) (b : Ch rs' rs'' P') (h : ∀ j r r' r'', P j r r' → P' j r' r'' → P'' j r r'') : Ch rs rs'' P'' := ⟨b.1.trans a.1, fun j r'' e => by
  obtain ⟨r', e1, g1, m1, b1, p1⟩ := b.2 j r'' e
  obtain ⟨r, e2, g2, m2, b2, p2⟩ := a.2 j r' e1
  exact ⟨r, e2, g1.trans g2, m1.trans m2, fun q => b1 (b2 q), h j r r' r'' p2 p1⟩⟩
theorem Ch.set {rs : List Rec} {i : Nat} {r q : Rec} {P : Nat → Rec → Rec → Prop} (hr : rs[i]? = some r) (hg : q.glyph = r.glyph) (hm : q.mask = r.mask) (hb : PyData.strOk r.bond = true → PyData.strOk q.bond = true) (hP : P i r q) (h : ∀ j r, j ≠ i → P j r r) : Ch rs (rs.set i q) P := ⟨List.length_set, fun j r' e => by
  rw [List.getElem?_set] at e
  by_cases hj : i = j
  · subst hj
    rw [if_pos rfl, if_pos (List.getElem?_eq_some_iff.mp hr).1] at e; cases e
    exact ⟨r, hr, hg, hm, hb, hP⟩
  · rw [if_neg hj] at e
    exact ⟨r', e, rfl, rfl, id, h j r' (Ne.symm hj)⟩⟩
theorem Ch.uns {rs : List Rec} {b e : Nat} : Ch rs (unsafeF rs b e) fun _ r r' => r'.parent = r.parent := ⟨unsafeF_len, fun j r' h => by
  cases hr : rs[j]? with
  | none =>
    unfold unsafeF at h
    rw [List.getElem?_mapIdx, hr] at h; cases h
  | some r =>
    obtain ⟨u, hu⟩ := unsafeF_at (b := b) (e := e) hr
    rw [hu] at h; cases h
    exact ⟨r, rfl, rfl, rfl, id, rfl⟩⟩
noncomputable def Hang (i : Nat) (j : Nat) (r r' : Rec) : Prop := r'.parent = r.parent ∨ (j = i ∧ r'.parent ≤ 0 ∧ 0 ≤ (j : Int) + r'.parent)
theorem Ch.fresh {rs rs' : List Rec} {i : Nat} (h : Ch rs rs' (Hang i)) (f : Fresh rs i) : Fresh rs' (i + 1) := ⟨fun j r' hj e => by
    obtain ⟨r, e1, _, _, _, p⟩ := h.2 j r' e
    rcases p with p | ⟨p, -⟩
    · rw [p]; exact f.zero j r (by lia) e1
    · lia, fun j r' hj e => by
    obtain ⟨r, e1, _, _, _, p⟩ := h.2 j r' e
    rcases p with p | ⟨-, p⟩
    · rw [p]
      rcases Nat.lt_or_ge j i with q | q
      · exact f.back j r q e1
      · have := f.zero j r q e1
        rw [this]; lia
    · exact p⟩
theorem FOK.mk' {S : List Int} {F : FT} (val : ∀ cls rs i, (F cls rs i).1 = -1 ∨ (F cls rs i).1 = ((i + 1 : Nat) : Int)) (ch : ∀ cls rs i, Ch rs (F cls rs i).2 (Hang i)) (miss : ∀ cls rs i r, rs[i]? = some r → r.glyph ∉ S → F cls rs i = (-1, rs)) : FOK S F :=
  ⟨val, fun cls rs i => (ch cls rs i).1, fun cls rs i j r e => by
    obtain ⟨r0, h1, h2, h3, h4, _⟩ := (ch cls rs i).2 j r e
    exact ⟨r0, h1, h2, h3, h4⟩, fun cls rs i _ f => (ch cls rs i).fresh f, miss⟩
theorem Hang.refl {i : Nat} : ∀ j r, Hang i j r r := fun _ _ => .inl rfl
theorem lk_some {D : List (Int × V)} {g : Int} {y : V} (h : lkI D g = some y) : g ∈ D.map (·.1) := by
  unfold lkI at h
  cases q : D.find? fun p => p.1 = g with
  | none => rw [q] at h; cases h
  | some p =>
    have := List.find?_some q
    simp at this
    exact List.mem_map.mpr ⟨p, List.mem_of_find?_eq_some q, this⟩
theorem lk_miss {D : List (Int × V)} {g : Int} (h : g ∉ D.map (·.1)) : lkI D g = none := by
  cases q : lkI D g with
  | none => rfl
  | some y => exact absurd (lk_some q) h
noncomputable def adjF (D : List (Int × V)) : FT := fun _ rs i => match rs[i]? with
  | some r => match lkI D r.glyph with
    | some _ => (((i + 1 : Nat) : Int), rs.set i (addV r 1 2 30))
    | none => (-1, rs)
  | none => (-1, rs)
theorem adjF_ok (D : List (Int × V)) : FOK (D.map (·.1)) (adjF D) := .mk' (fun cls rs i => by
    unfold adjF; split
    · split
      · right; rfl
      · left; rfl
    · left; rfl) (fun cls rs i => by
    unfold adjF; split
    · rename_i r hr
      split
      · exact Ch.set hr rfl rfl id (.inl rfl) fun j r _ => Hang.refl j r
      · exact Ch.refl Hang.refl
    · exact Ch.refl Hang.refl) (fun cls rs i r hr hm => by
    unfold adjF; rw [hr]; dsimp only; rw [lk_miss hm])
theorem pos_adjust {D : List (Int × V)} (hD : ∀ g y, lkI D g = some y → y = vValue (.int 1) (.int 2) (.int 30) (.int 0)) : PosOK "adjust" (vAdjust (.dcI D)) (adjF D) := fun w B k Q G row ds rs τ i cls s n L hf hc hg hi fr hs hτ h => by
  obtain ⟨r, hr⟩ : ∃ r, rs[i]? = some r := ⟨_, List.getElem?_eq_getElem hi⟩
  have h' := h n
  rw [Sto.set_same hτ, ← (adjF_ok D).v1] at h'
  refine WC.more (k := k + 4) (c_position_at (ap_adjust (c_apply_adjust L hf hr (fun hn => ⟨_, rfl, ?_⟩) (fun y hy => ?_)))) (by lia)
  · have e : adjF D cls rs i = (-1, rs) := by unfold adjF; rw [hr]; dsimp only; rw [hn]
    rw [e] at h'; exact h'
  · have := hD _ _ hy; subst this
    have e : adjF D cls rs i = (((i + 1 : Nat) : Int), rs.set i (addV r 1 2 30)) := by unfold adjF; rw [hr]; dsimp only; rw [hy]
    rw [e] at h'
    exact ⟨_, _, _, _, rfl, _, rfl, h'⟩
theorem pairF_ok (P : List ((Int × Int) × V)) (S : List Int) (hS : ∀ a b y, lkP P a b = some y → a ∈ S) : FOK S (fun _ rs i => pairF P rs i) := .mk' (fun cls rs i => by
    unfold pairF; split
    · split
      · right; rfl
      · left; rfl
    · left; rfl) (fun cls rs i => by
    unfold pairF; split
    · rename_i p r p' r' h1 h2 h3 h4
      split
      · have c1 := Ch.uns (rs := rs) (b := i) (e := i + 2)
        have c2 : Ch (unsafeF rs i (i + 2)) ((unsafeF rs i (i + 2)).set i (addV p' 1 2 30)) (fun _ r r' => r'.parent = r.parent) := Ch.set h3 rfl rfl id rfl fun _ _ _ => rfl
        have c3 : Ch ((unsafeF rs i (i + 2)).set i (addV p' 1 2 30)) (((unsafeF rs i (i + 2)).set i (addV p' 1 2 30)).set (i + 1) (addV r' 0 0 0)) (fun _ r r' => r'.parent = r.parent) := Ch.set (r := r') (by rw [List.getElem?_set_ne (by lia), h4]) rfl rfl id rfl fun _ _ _ => rfl
        have c4 : Ch rs _ (fun _ r r' => r'.parent = r.parent) := c1.trans c2 fun _ _ _ _ x y => Eq.trans y x
        exact c4.trans c3 fun _ _ _ _ x y => .inl (Eq.trans y x)
      · exact Ch.refl Hang.refl
    · exact Ch.refl Hang.refl) (fun cls rs i r hr hm => by
    unfold pairF; split
    · rename_i p q p' r' h1 h2 h3 h4
      rw [hr] at h1; cases h1
      have : lkP P r.glyph q.glyph = none := by
        cases e : lkP P r.glyph q.glyph with
        | none => rfl
        | some y => exact absurd (hS _ _ _ e) hm
      rw [this, if_neg (by simp)]
    · rfl)
theorem pos_pair {P : List ((Int × Int) × V)} (hP : ∀ a b y, lkP P a b = some y → y = .tup [vValue (.int 1) (.int 2) (.int 30) (.int 0), vValue (.int 0) (.int 0) (.int 0) (.int 0)]) : PosOK "pair" (vPairs P) (fun _ rs i => pairF P rs i) := fun w B k Q G row ds rs τ i cls s n L hf hc hg hi fr hs hτ h => by
  obtain ⟨r, hr⟩ : ∃ r, rs[i]? = some r := ⟨_, List.getElem?_eq_getElem hi⟩
  have h' := h n
  rw [Sto.set_same hτ, ← (pairF_ok P (P.map (·.1.1)) (fun a b y e => by
    unfold lkP at e
    cases q : P.find? fun p => p.1 = (a, b) with
    | none => rw [q] at e; cases e
    | some p =>
      have := List.find?_some q
      simp at this
      exact List.mem_map.mpr ⟨p, List.mem_of_find?_eq_some q, by rw [this]⟩)).v1 cls rs i] at h'
  exact WC.more (k := k + 9) (c_position_at (ap_pair (c_apply_pair L hf hc hr hP ⟨_, rfl, h'⟩))) (by lia)
theorem curF_ok (D : List (Int × V)) : FOK (D.map (·.1)) (fun _ rs i => curF D rs i) := .mk' (fun cls rs i => by
    cases i with
    | zero => left; rfl
    | succ n =>
      simp only [curF]; split
      · split
        · right; rfl
        · left; rfl
      · left; rfl) (fun cls rs i => by
    cases i with
    | zero => exact Ch.refl Hang.refl
    | succ n =>
      simp only [curF]; split
      · rename_i p r p' r' h1 h2 h3 h4
        split
        · unfold joinF
          have c1 := Ch.uns (rs := rs) (b := n) (e := n + 2)
          have c2 : Ch (unsafeF rs n (n + 2)) ((unsafeF rs n (n + 2)).set n { p' with xAdv := 30 + p'.xOff }) (fun _ r r' => r'.parent = r.parent) := Ch.set h3 rfl rfl id rfl fun _ _ _ => rfl
          have c3 : Ch ((unsafeF rs n (n + 2)).set n { p' with xAdv := 30 + p'.xOff }) _ (Hang (n + 1)) := Ch.set (i := n + 1) (r := r') (q := { r' with xAdv := r'.xAdv - (1 + r'.xOff), xOff := r'.xOff - (1 + r'.xOff), yOff := 2, parent := -1, bond := "cursive" }) (by rw [List.getElem?_set_ne (by lia), h4]) rfl rfl (fun _ => by show PyData.strOk "cursive" = true; decide +kernel) (.inr ⟨rfl, by show (-1 : Int) ≤ 0; decide, by show 0 ≤ ((n + 1 : Nat) : Int) + -1; lia⟩) fun j r _ => Hang.refl j r
          have c4 : Ch rs _ (fun _ r r' => r'.parent = r.parent) := c1.trans c2 fun _ _ _ _ x y => Eq.trans y x
          exact c4.trans c3 fun _ _ _ _ x y => by unfold Hang at y ⊢; rw [← x]; exact y
        · exact Ch.refl Hang.refl
      · exact Ch.refl Hang.refl) (fun cls rs i r hr hm => by
    cases i with
    | zero => rfl
    | succ n =>
      simp only [curF]; split
      · rename_i p q p' r' h1 h2 h3 h4
        rw [hr] at h2; cases h2
        rw [lk_miss hm, if_neg (by simp)]
      · rfl)
theorem pos_cursive {D : List (Int × V)} (hD : ∀ g y, lkI D g = some y → y = .tup [vAnchor (.int 1) (.int 2), vAnchor (.int 30) (.int 4)]) : PosOK "cursive" (vCursive (.dcI D)) (fun _ rs i => curF D rs i) := fun w B k Q G row ds rs τ i cls s n L hf hc hg hi fr hs hτ h => by
  obtain ⟨r, hr⟩ : ∃ r, rs[i]? = some r := ⟨_, List.getElem?_eq_getElem hi⟩
  have h' := h n
  rw [Sto.set_same hτ, ← (curF_ok D).v1 cls rs i] at h'
  exact WC.more (k := k + 9) (c_position_at (ap_cursive (c_apply_cursive L hf hc hr (fr.zero i r (Nat.le_refl _) hr) fr.back hD ⟨_, rfl, h'⟩))) (by lia)
theorem setOnF_ch {rs : List Rec} {i p : Nat} {ax ay ox oy : Int} {r : Rec} (hr : rs[i]? = some r) (hp : p < i) : Ch rs (setOnF rs i p ax ay ox oy) (Hang i) := by
  rw [setOnF_is hr]
  have c1 : Ch rs (rs.set i { r with xOff := ax - ox, yOff := ay - oy, parent := (p : Int) - i, bond := "mark" }) (Hang i) := Ch.set hr rfl rfl (fun _ => by show PyData.strOk "mark" = true; decide +kernel) (.inr ⟨rfl, by show (p : Int) - i ≤ 0; lia, by show 0 ≤ (i : Int) + ((p : Int) - i); lia⟩) fun j r _ => Hang.refl j r
  exact c1.trans Ch.uns fun _ _ _ _ x y => by unfold Hang at x ⊢; rw [y]; exact x
theorem baseF_ok (D E : List (Int × V)) : FOK (D.map (·.1)) (fun cls rs i => baseF D E (fun j => ign 8 (cls j)) rs i) := .mk' (fun cls rs i => by
    unfold baseF
    repeat (first | (left; rfl) | (right; rfl) | split)) (fun cls rs i => by
    unfold baseF
    have hp := prevF_lt (ig := fun j => ign 8 (cls j)) i
    split
    · exact Ch.refl Hang.refl
    · rename_i r hr
      split
      · exact Ch.refl Hang.refl
      · split
        · exact Ch.refl Hang.refl
        · split
          · exact Ch.refl Hang.refl
          · split
            · exact Ch.refl Hang.refl
            · exact setOnF_ch hr (by lia)) (fun cls rs i r hr hm => by
    unfold baseF; rw [hr]; dsimp only; rw [lk_miss hm])
theorem pos_base {D E : List (Int × V)} (hD : MarkT D) (hE : ∀ g y, lkI E g = some y → ∃ ax ay, OneRow y ax ay) : PosOK "base" (.inst 456 [("marks", .dcI D), ("bases", .dcI E)]) (fun cls rs i => baseF D E (fun j => ign 8 (cls j)) rs i) := fun w B k Q G row ds rs τ i cls s n L hf hc hg hi fr hs hτ h => by
  obtain ⟨r, hr⟩ : ∃ r, rs[i]? = some r := ⟨_, List.getElem?_eq_getElem hi⟩
  have h' := h n
  rw [Sto.set_same hτ, ← (baseF_ok D E).v1 cls rs i] at h'
  exact WC.more (k := k + 10) (c_position_at (ap_base (c_apply_base L hf hc hr fr.back hD hE ⟨_, rfl, h'⟩))) (by lia)
theorem compF_ok (D E : List (Int × V)) : FOK (D.map (·.1)) (fun cls rs i => compF D E (fun j => ign 8 (cls j)) rs i) := .mk' (fun cls rs i => by
    unfold compF
    repeat (first | (left; rfl) | (right; rfl) | split)) (fun cls rs i => by
    unfold compF
    have hp := prevF_lt (ig := fun j => ign 8 (cls j)) i
    split
    · exact Ch.refl Hang.refl
    · rename_i r hr
      split
      · exact Ch.refl Hang.refl
      · split
        · exact Ch.refl Hang.refl
        · split
          · exact Ch.refl Hang.refl
          · split
            · exact Ch.refl Hang.refl
            · exact setOnF_ch hr (by lia)) (fun cls rs i r hr hm => by
    unfold compF; rw [hr]; dsimp only; rw [lk_miss hm])
theorem pos_component {D E : List (Int × V)} (hD : MarkT D) (hE : ∀ g y, lkI E g = some y → ∃ ax ay bx bz, y = .lst [.tup [vAnchor (.int ax) (.int ay)], .tup [vAnchor (.int bx) (.int bz)]]) : PosOK "component" (.inst 482 [("marks", .dcI D), ("ligatures", .dcI E)]) (fun cls rs i => compF D E (fun j => ign 8 (cls j)) rs i) := fun w B k Q G row ds rs τ i cls s n L hf hc hg hi fr hs hτ h => by
  obtain ⟨r, hr⟩ : ∃ r, rs[i]? = some r := ⟨_, List.getElem?_eq_getElem hi⟩
  have h' := h n
  rw [Sto.set_same hτ, ← (compF_ok D E).v1 cls rs i] at h'
  exact WC.more (k := k + 10) (c_position_at (ap_component (c_apply_component L hf hc hr fr.back hD hE ⟨_, rfl, h'⟩))) (by lia)
theorem markM_ok (D E : List (Int × V)) : FOK (D.map (·.1)) (fun cls rs i => markM D E cls rs i) := .mk' (fun cls rs i => by
    cases i with
    | zero =>
      simp only [markM]
      repeat (first | (left; rfl) | (right; rfl) | split)
    | succ p =>
      simp only [markM]
      repeat (first | (left; rfl) | (right; rfl) | split)) (fun cls rs i => by
    cases i with
    | zero =>
      simp only [markM]
      repeat (first | exact Ch.refl Hang.refl | split)
    | succ p =>
      simp only [markM]
      split
      · exact Ch.refl Hang.refl
      · rename_i r hr
        split
        · exact Ch.refl Hang.refl
        · split
          · exact Ch.refl Hang.refl
          · split
            · split
              · exact Ch.refl Hang.refl
              · exact setOnF_ch hr (by lia)
            · exact Ch.refl Hang.refl) (fun cls rs i r hr hm => by
    unfold markM; rw [hr]; dsimp only; rw [lk_miss hm])
theorem pos_mark {D E : List (Int × V)} (hD : MarkT D) (hE : ∀ g y, lkI E g = some y → ∃ ax ay, OneRow y ax ay) : PosOK "mark" (.inst 510 [("marks", .dcI D), ("others", .dcI E)]) (fun cls rs i => markM D E cls rs i) := fun w B k Q G row ds rs τ i cls s n L hf hc hg hi fr hs hτ h => by
  obtain ⟨r, hr⟩ : ∃ r, rs[i]? = some r := ⟨_, List.getElem?_eq_getElem hi⟩
  have h' := h n
  rw [Sto.set_same hτ, ← (markM_ok D E).v1 cls rs i] at h'
  exact WC.more (k := k + 10) (c_position_at (ap_mark (c_apply_mark L hf hc hr fr.back hD hE ⟨_, rfl, h'⟩))) (by lia)
theorem ctxF_ok (hit : Int → Bool) (S : List Int) (hS : ∀ g, hit g = true → g ∈ S) : FOK S (fun _ rs i => ctxF hit rs i) := .mk' (fun cls rs i => by
    unfold ctxF
    repeat (first | (left; rfl) | (right; rfl) | split)) (fun cls rs i => by
    unfold ctxF
    split
    · rename_i r hr
      split
      · exact Ch.set hr rfl rfl id (.inl rfl) fun j r _ => Hang.refl j r
      · exact Ch.refl Hang.refl
    · exact Ch.refl Hang.refl) (fun cls rs i r hr hm => by
    unfold ctxF; rw [hr]; dsimp only; rw [if_neg (fun q => hm (hS _ q))])
theorem pos_ctx {kd : Str} (hkd : kd = "context" ∨ kd = "chain") {T : V} {hit : Int → Bool} {tst : Int → V}
    (HR : ∀ (w : World) (B : Heap) (k : Nat) (σ : Sto) (g : Int) (Q : V → Sto → Prop), Q (.lst (if hit g = true then [testV (tst g)] else [])) σ → WC (cx w B) (k + 3) (.glob 731) [T, .int g] σ Q)
    (HF : ∀ (w : World) (B : Heap) (k : Nat) (σ : Sto) (g : Int) (Q : V → Sto → Prop), hit g = true → Q (.bool true) σ → WC (cx w B) (k + 4) (.glob 206) [tst g, .int g] σ Q) : PosOK kd T (fun _ rs i => ctxF hit rs i) := fun w B k Q G row ds rs τ i cls s n L hf hc hg hi fr hs hτ h => by
  obtain ⟨r, hr⟩ : ∃ r, rs[i]? = some r := ⟨_, List.getElem?_eq_getElem hi⟩
  refine WC.more (k := k + 9) (c_position_at (ap_ctx hkd (c_apply_context L hf hr (hg i r hr) (HR w B) (HF w B) hs hτ fun n' => ⟨_, rfl, ?_⟩))) (by lia)
  have hv : (ctxF hit rs i).1 = -1 ∨ 0 ≤ (ctxF hit rs i).1 := by
    unfold ctxF
    repeat (first | (left; rfl) | (right; exact Int.natCast_nonneg _) | split)
  rw [val1 hv]
  exact h n'
theorem up_unique : ∀ {S S' : List Int}, upS S → upS S' → (∀ i, i ∈ S' ↔ i ∈ S) → S' = S
  | [], [], _, _, _ => rfl
  | [], b :: s', _, _, he => absurd ((he b).mp List.mem_cons_self) List.not_mem_nil
  | a :: s, [], _, _, he => absurd ((he a).mpr List.mem_cons_self) List.not_mem_nil
  | a :: s, b :: s', h, h', he => by
    have h1 := List.pairwise_cons.mp h
    have h2 := List.pairwise_cons.mp h'
    have e : b = a := by
      rcases List.mem_cons.mp ((he b).mp List.mem_cons_self) with q | q
      · exact q
      · have g1 := h1.1 b q
        rcases List.mem_cons.mp ((he a).mpr List.mem_cons_self) with q' | q'
        · exact q'.symm
        · have := h2.1 a q'; lia
    subst e
    rw [up_unique h1.2 h2.2 fun i => ⟨fun q => ?_, fun q => ?_⟩]
    · rcases List.mem_cons.mp ((he i).mp (List.mem_cons_of_mem _ q)) with g | g
      · subst g; have := h2.1 i q; lia
      · exact g
    · rcases List.mem_cons.mp ((he i).mpr (List.mem_cons_of_mem _ q)) with g | g
      · subst g; have := h1.1 i q; lia
      · exact g
structure GS (S : List Int) : Prop where
  up : upS S
  in8 : ∀ g ∈ S, 0 ≤ g ∧ g < 8
theorem GS.len {S : List Int} (h : GS S) : S.length ≤ 8 := (sub_of_up (l := eight) (by decide) h.up fun i hi => by
  have := h.in8 i hi
  have : i = 0 ∨ i = 1 ∨ i = 2 ∨ i = 3 ∨ i = 4 ∨ i = 5 ∨ i = 6 ∨ i = 7 := by lia
  unfold eight; simp; lia).length_le
noncomputable def BegOK (kd : Str) (T : V) (S : List Int) : Prop := ∀ (w : World) (B : Heap) (k : Nat) (Q : V → Sto → Prop) (σ : Sto), Q (.lst (iV S)) σ → WC (cx w B) (k + 3) (.glob 1004) [.str kd, T] σ Q
theorem set_sorted {c : Cx} {S ns : List Int} (hS : GS S) (hm : ∀ i, i ∈ ns ↔ i ∈ S) (h : Q (.lst (iV S)) σ) : WC c k (.ty "set") [.lst (iV ns)] σ fun x σ' => x = .set S ∧ σ' = σ :=
  WC_set (fun i hi => hS.in8 i ((hm i).mp hi)) fun S' h1 h2 => ⟨by rw [up_unique hS.up h1 fun i => (h2 i).trans (hm i)], rfl⟩
theorem ctx_in {c : Cx} {K : Bool → Prop} {kd : Str} {b : Bool} (ho : PyData.strOk kd = true) (hb : decide (Spec.countIn (PyData.str kd) [.str "context", .str "chain"] ≠ 0) = b) (h : K b) :
    CmpP c .In (.str kd) (.tup [.str "context", .str "chain"]) σ K :=
  CmpP_inD (d := .str kd) (xs := [.str "context", .str "chain"]) rfl (.inr rfl) (by decide +kernel) (by unfold SeqAt.shaped; simp [PyData.canLay0, PyData.depth, ho]) (fun y hy => by
    simp only [List.mem_cons, List.not_mem_nil, or_false] at hy
    rcases hy with rfl | rfl <;> rfl) (by rw [hb]; exact h)
theorem beg_adjust {D : List (Int × V)} (hS : GS (D.map (·.1))) : BegOK "adjust" (vAdjust (.dcI D)) (D.map (·.1)) := fun w B k Q σ h => by
  have hl := hS.len
  rw [List.length_map] at hl
  refine e_beginnings ?_
  repeat walk_at "st"
  refine CmpP_seq ?_
  refine tT (by kernel_rfl!) ?_
  repeat walk_at "st"
  refine WC_list_dcI (by lia) ?_
  repeat walk_at "st"
  refine (set_sorted hS (fun i => Iff.rfl) h).mono ?_
  rintro x σ' ⟨rfl, rfl⟩
  repeat walk_at "st"
  exact WC_sortedS h
theorem beg_cursive {D : List (Int × V)} (hS : GS (D.map (·.1))) : BegOK "cursive" (vCursive (.dcI D)) (D.map (·.1)) := fun w B k Q σ h => by
  have hl := hS.len
  rw [List.length_map] at hl
  refine e_beginnings ?_
  repeat (first | walk_at "st" | refine CmpP_seq ?_ | refine tF (by kernel_rfl!) ?_)
  refine tT (by kernel_rfl!) ?_
  repeat walk_at "st"
  refine WC_list_dcI (by lia) ?_
  repeat walk_at "st"
  refine (set_sorted hS (fun i => Iff.rfl) h).mono ?_
  rintro x σ' ⟨rfl, rfl⟩
  repeat walk_at "st"
  exact WC_sortedS h
theorem beg_marks {D : List (Int × V)} {kd : Str} {cl : Addr} {n : Str} {E : V} (hk : (kd = "base" ∧ cl = 456 ∧ n = "bases") ∨ (kd = "component" ∧ cl = 482 ∧ n = "ligatures") ∨ (kd = "mark" ∧ cl = 510 ∧ n = "others")) (hS : GS (D.map (·.1))) : BegOK kd (.inst cl [("marks", .dcI D), (n, E)]) (D.map (·.1)) := fun w B k Q σ h => by
  have hl := hS.len
  rw [List.length_map] at hl
  refine e_beginnings ?_
  rcases hk with ⟨rfl, rfl, rfl⟩ | ⟨rfl, rfl, rfl⟩ | ⟨rfl, rfl, rfl⟩
  all_goals
    repeat (first | walk_at "st" | refine CmpP_seq ?_ | refine tF (by kernel_rfl!) ?_)
    refine ⟨by show 2 ≤ 16777216; decide, ?_⟩
    refine ctx_in (b := false) (by decide +kernel) (by decide +kernel) ?_
    refine tF rfl ?_
    repeat walk_at "st"
    refine WC_list_dcI (by lia) ?_
    repeat walk_at "st"
    refine (set_sorted hS (fun i => Iff.rfl) h).mono ?_
    rintro x σ' ⟨rfl, rfl⟩
    repeat walk_at "st"
    exact WC_sortedS h
theorem beg_pair {P : List ((Int × Int) × V)} {S : List Int} (hS : GS S) (hl : P.length ≤ 100) (hm : ∀ i, i ∈ P.map (·.1.1) ↔ i ∈ S) : BegOK "pair" (vPairs P) S := fun w B k Q σ h => by
  refine e_beginnings ?_
  repeat (first | walk_at "st" | refine CmpP_seq ?_ | refine tF (by kernel_rfl!) ?_)
  refine tT (by kernel_rfl!) ?_
  repeat walk_at "st"
  repeat walk_at "st"
  refine e_beginnings_of_pair ?_
  repeat walk_at "st"
  try refine WE_glob (a := 953) (by kernel_rfl!) (by kernel_rfl!) ?_
  repeat walk_at "st"
  refine WC_notInst (by kernel_rfl) ?_
  repeat walk_at "st"
  refine tF rfl ?_
  repeat walk_at "st"
  refine WE_comp1 (by kernel_rfl) (by kernel_rfl) ?_
  repeat walk_at "st"
  refine ⟨_, IterP_dcP, ?_⟩
  refine CompL_each _ [] (iV (P.map (·.1.1))) _ (fun _ => rfl) (by simp; lia) (by simp [iV]) ?_ ?_
  · intro i x y hx hy Q' hQ
    rw [List.getElem?_map] at hx
    unfold iV at hy
    rw [List.map_map, List.getElem?_map] at hy
    cases hp : P[i]? with
    | none => rw [hp] at hx; cases hx
    | some p =>
      rw [hp] at hx hy
      cases hx; cases hy
      repeat walk_at "st"
      exact ⟨_, IxP_tup (i := 0) rfl, hQ⟩
  · rw [List.nil_append]
    repeat walk_at "st"
    refine (set_sorted hS hm h).mono ?_
    rintro x σ' ⟨rfl, rfl⟩
    repeat walk_at "st"
    exact WC_sortedS h
theorem beg_ctx {kd : Str} {T : V} {S : List Int} (hkd : kd = "context" ∨ kd = "chain") (hS : GS S)
    (hB : ∀ (w : World) (B : Heap) (k : Nat) (Q : V → Sto → Prop) (σ : Sto), Q (.lst (iV S)) σ → WC (cx w B) (k + 2) (.glob 992) [T] σ Q) : BegOK kd T S := fun w B k Q σ h => by
  refine e_beginnings ?_
  rcases hkd with rfl | rfl
  all_goals
    repeat (first | walk_at "st" | refine CmpP_seq ?_ | refine tF (by kernel_rfl!) ?_)
    refine ⟨by show 2 ≤ 16777216; decide, ?_⟩
    refine ctx_in (b := true) (by decide +kernel) (by decide +kernel) ?_
    refine tT rfl ?_
    repeat walk_at "st"
    repeat walk_at "st"
    refine hB _ _ _ _ _ ?_
    repeat walk_at "st"
    refine (set_sorted hS (fun i => Iff.rfl) h).mono ?_
    rintro x σ' ⟨rfl, rfl⟩
    repeat walk_at "st"
    exact WC_sortedS h
theorem boc1 {D : List (Int × V)} {ch : V} (hl : D.length ≤ 1000) (w : World) (B : Heap) (k : Nat) (Q : V → Sto → Prop) (σ : Sto) (h : Q (.lst (iV (D.map (·.1)))) σ) : WC (cx w B) (k + 2) (.glob 992) [vContexts3 (.int 1) ch (.dcI D)] σ Q := by
  refine e_beginnings_of_context ?_
  repeat walk_at "st"
  refine tT rfl ?_
  repeat walk_at "st"
  exact WC_list_dcI hl h
theorem boc2 {S : List Int} {D : List (Int × V)} {ch cl : V} (hl : S.length ≤ 1000) (w : World) (B : Heap) (k : Nat) (Q : V → Sto → Prop) (σ : Sto) (h : Q (.lst (iV S)) σ) : WC (cx w B) (k + 2) (.glob 992) [vContexts5 (.int 2) ch (.dcI D) (vCoverage (.tup (iV S))) cl] σ Q := by
  refine e_beginnings_of_context ?_
  repeat walk_at "st"
  refine tF rfl ?_
  repeat walk_at "st"
  refine tT rfl ?_
  repeat walk_at "st"
  exact WC_list_tup (by rw [iV_len]; exact hl) h
theorem boc3 {S : List Int} {ch : V} (hl : S.length ≤ 1000) (w : World) (B : Heap) (k : Nat) (Q : V → Sto → Prop) (σ : Sto) (h : Q (.lst (iV S)) σ) : WC (cx w B) (k + 2) (.glob 992) [vContexts3 (.int 3) ch (.dcI [(0, .lst [ruleV (vCoverage (.tup (iV S)))])])] σ Q := by
  refine e_beginnings_of_context ?_
  refine WB_cons ?_
  refine WS_if ?_
  repeat walk_at "st"
  refine tF rfl ?_
  refine WB_nil ?_
  refine WB_cons ?_
  refine WS_if ?_
  repeat walk_at "st"
  refine tF rfl ?_
  refine WB_nil ?_
  refine WB_cons ?_
  refine WS_assign ?_
  refine WE_listA fun a ha => ?_
  refine WA_local (by kernel_rfl!) ?_
  refine WB_cons ?_
  refine WS_for ?_
  repeat walk_at "st"
  refine ⟨_, MetP_get, rfl, ?_⟩
  repeat walk_at "st"
  refine ⟨by show 0 ≤ 16777216; decide, ?_⟩
  repeat walk_at "st"
  refine WC_get ?_
  refine ⟨_, IterP_lst, .inr (fun _ _ => rfl), ?_⟩
  refine (?_ : WA _ _ _ _ _ _ _ _)
  refine WA_local (by kernel_rfl!) ?_
  repeat walk_at "st"
  refine ⟨_, MetP_extend (Sto.set_at ..), rfl, ?_⟩
  repeat walk_at "st"
  refine ⟨_, IxP_tup (i := 0) rfl, ?_⟩
  repeat walk_at "st"
  refine WC_extendT (Sto.set_at ..) (by rw [iV_len]; simp; exact hl) ?_
  refine ⟨rfl, ?_⟩
  repeat (first | refine WB_cons (WS_return (WE_fz ?_)) | walk_at "st")
  refine ⟨_, _, _, rfl, Sto.set_at .., rfl, ?_⟩
  rw [Sto.set_set, Sto.del_set _ _ _ ha, List.nil_append]
  exact h
theorem vB_nilR {c : Cx} {sc : Scope} {ρ : Loc} {n : Nat} {QS : Fl → Loc → Sto → Prop} (h : QS .next ρ σ) : vB c k sc (n + 1) [] ρ σ QS := h
theorem vA_loc {c : Cx} {sc : Scope} {ρ : Loc} {n : Str} {np : Pos} {x : V} {Q : Loc → Sto → Prop} (hk : sc.names.lookup n = some .local) (h : Q (putF n x ρ) σ) : vA c k sc (.Name n np) x ρ σ Q := by
  show vAn _ _ _
  rw [hk]
  exact h
theorem nx_next {ρ : Loc} {W : Loc → Sto → Prop} {QS : Fl → Loc → Sto → Prop} (h : W ρ σ) : nx W QS .next ρ σ := h
theorem iV_get {S : List Int} {j : Nat} {x : V} (h : (iV S)[j]? = some x) : ∃ g, S[j]? = some g ∧ x = .int g := by
  unfold iV at h
  rw [List.getElem?_map] at h
  obtain ⟨g, h1, h2⟩ := Option.map_eq_some_iff.mp h
  exact ⟨g, h1, h2.symm⟩
noncomputable def PenS (cells : List Int) (N : Nat) (o : O) : Prop := ∃ s g : Int, o = .lst [.lst (iV cells), .int s, .int g] ∧ 0 ≤ s ∧ s ≤ N ∧ 0 ≤ g
theorem dV_iV : ∀ (ns : List Int), dVs (iV ns) = some (ns.map .int)
  | [] => rfl
  | _ :: r => dVs_some rfl (dV_iV r)
theorem lay_ints : ∀ (ns : List Int), PyData.canLayAll0 (ns.map .int) = true
  | [] => rfl
  | n :: r => by simp [PyData.canLayAll0, PyData.canLay0, lay_ints r]
theorem lay_list {xs : List PyData} (h : PyData.canLayAll0 xs = true) : (PyData.list xs).canLay0 = true := by simp [PyData.canLay0, h]
theorem powOk {a b : Int} (hb : 0 < b) (hb' : b ≤ 20) (h0 : 0 ≤ a) (h : a < 2 ^ 64) : PowOk a b := ⟨hb, h0, fun q => by
  have h1 := PySem.intBits_le_64 (k := a) (by lia) h
  unfold Builtin.Int.intTooBig at q
  have h2 := of_decide_eq_true q
  have h3 : ((Builtin.Int.intBits a : Nat) : Int) * b ≤ 64 * 20 := Int.mul_le_mul (by lia) hb' (by lia) (by decide)
  have h4 : (bitsLine : Int) ≥ 1280 := by decide +kernel
  lia⟩
theorem c_draw {p : Addr} {cells : List Int} {N : Nat} {o : O} {m : Int} (hp : σ p = some o) (ho : PenS cells N o) (hN : N ≤ 100000) (hl : cells.length ≤ 40) (hm : 0 < m) (hm' : m ≤ 9)
    (h : ∀ d o', 0 ≤ d → d < m → PenS cells (N + 1) o' → Q (.int d) (σ.set p o')) : WC (cx w B) (k + 1) (.glob 1118) [.ref p, .int m] σ Q := by
  obtain ⟨s, g, rfl, hs0, hsN, hg⟩ := ho
  refine e_law_draw ?_
  have hmod : ∀ a : Int, 0 ≤ a.fmod m ∧ a.fmod m < m := fun a => ⟨Int.fmod_nonneg_of_pos a hm, Int.fmod_lt_of_pos a hm⟩
  repeat walk_at "st"
  refine ⟨_, IxP_ref (i := 2) hp rfl, ?_⟩
  repeat walk_at "st"
  refine ⟨fun _ => ?_, fun hg0 => ?_⟩
  · repeat walk_at "st"
    refine ⟨_, IxP_ref (i := 2) hp rfl, ?_⟩
    repeat walk_at "st"
    refine WC_int ?_
    repeat walk_at "st"
    refine ⟨by lia, ?_⟩
    repeat walk_at "st"
    refine ⟨_, IxP_ref (i := 2) hp rfl, ?_⟩
    repeat walk_at "st"
    refine WC_int ?_
    repeat walk_at "st"
    refine ⟨by lia, PyProof.noPylong_small (by lia), ?_⟩
    refine WA_sub ?_
    repeat walk_at "st"
    refine ⟨_, StIP_lst (i := 2) hp (by show 2 < 3; decide), ?_⟩
    try show WB _ _ _ _ _ _ _
    repeat walk_at "st"
    exact h _ _ (hmod g).1 (hmod g).2 ⟨s, g.fdiv m, rfl, hs0, by lia, Int.fdiv_nonneg hg (by lia)⟩
  · repeat walk_at "st"
    refine ⟨_, IxP_ref (i := 1) hp rfl, ?_⟩
    repeat walk_at "st"
    refine WA_sub ?_
    repeat walk_at "st"
    refine ⟨_, StIP_lst (i := 1) hp (by show 1 < 3; decide), ?_⟩
    show nx _ _ _ _ (σ.set p (.lst [.lst (iV cells), .int (s + 1), .int g]))
    have hp1 : (σ.set p (.lst [.lst (iV cells), .int (s + 1), .int g])) p = some (.lst [.lst (iV cells), .int (s + 1), .int g]) := Sto.set_at ..
    have key2 : ∀ cv : Int, vB (cx w B) k (fnAt 120).scope 54 ((fnAt 120).body.drop 6) [("pen", .ref p), ("many", .int m), ("spot", .int s), ("cell", .int cv)] (σ.set p (.lst [.lst (iV cells), .int (s + 1), .int g])) (fun fl _ σ' => Q (retV fl) σ') := fun cv => by
      have h1 := Int.fmod_nonneg_of_pos cv (b := 2147483587) (by decide)
      have h2 := Int.fmod_lt_of_pos cv (b := 2147483587) (by decide)
      repeat walk_at "st"
      refine WC_int ?_
      repeat walk_at "st"
      refine ⟨by decide, ?_⟩
      repeat walk_at "st"
      refine ⟨IntMulOk.of_left (by decide +kernel), ?_⟩
      repeat walk_at "st"
      refine ⟨powOk (by decide) (by decide) (by lia) (by lia), ?_⟩
      repeat walk_at "st"
      refine WC_int ?_
      repeat walk_at "st"
      refine ⟨by decide, ?_⟩
      repeat walk_at "st"
      generalize hx : Int.fmod ((cv.fmod 2147483587 + 20947 * s + 3571) ^ (5 : Int).toNat) 2147483629 = x
      have h3 : 0 ≤ x := by rw [← hx]; exact Int.fmod_nonneg_of_pos _ (by decide)
      have h4 : x < 2147483629 := by rw [← hx]; exact Int.fmod_lt_of_pos _ (by decide)
      refine ⟨IntMulOk.of_left (by decide +kernel), ?_⟩
      repeat walk_at "st"
      refine ⟨IntMulOk.of_left (PySem.intBits_le_64 (by lia) (by lia)), ?_⟩
      repeat walk_at "st"
      refine ⟨IntMulOk.of_left (by decide +kernel), ?_⟩
      repeat walk_at "st"
      refine ⟨IntMulOk.of_right (PySem.intBits_le_64 (by lia) (by lia)), ?_⟩
      repeat walk_at "st"
      have b1 : x * (2 * s + 7207) ≤ 2147483629 * 300000 := Int.mul_le_mul (by lia) (by lia) (by lia) (by decide)
      have b2 : 0 ≤ x * (2 * s + 7207) := Int.mul_nonneg h3 (by lia)
      have b3 : 20947 * s * s ≤ 20947 * 100000 * 100000 := Int.mul_le_mul (by lia) (by lia) (by lia) (by decide)
      have b4 : 0 ≤ 20947 * s * s := Int.mul_nonneg (by lia) (by lia)
      refine ⟨powOk (by decide) (by decide) (by lia) (by lia), ?_⟩
      repeat walk_at "st"
      refine WC_int ?_
      repeat walk_at "st"
      refine ⟨by decide, ?_⟩
      repeat walk_at "st"
      refine ⟨by decide, PyProof.noPylong_small (by decide), ?_⟩
      repeat walk_at "st"
      refine WC_int ?_
      repeat walk_at "st"
      refine ⟨by lia, ?_⟩
      exact h _ _ (hmod _).1 (hmod _).2 ⟨s + 1, g, rfl, by lia, by lia, hg⟩
    have key1 : ∀ cv : Int, vB (cx w B) k (fnAt 120).scope 55 ((fnAt 120).body.drop 5) [("pen", .ref p), ("many", .int m), ("spot", .int s), ("cell", .int cv)] (σ.set p (.lst [.lst (iV cells), .int (s + 1), .int g])) (fun fl _ σ' => Q (retV fl) σ') := fun cv => by
      try refine WB_cons ?_
      try refine WS_if ?_
      repeat walk_at "st"
      refine ⟨_, IxP_ref (i := 0) hp1 rfl, ?_⟩
      repeat walk_at "st"
      refine WC_len_lst (by rw [iV_len]; lia) ?_
      repeat walk_at "st"
      refine ⟨fun _ => ?_, fun _ => ?_⟩
      · repeat walk_at "st"
        refine WC_abs ?_
        repeat walk_at "st"
        refine ⟨powOk (by decide) (by decide) (by decide) (by decide), ?_⟩
        repeat walk_at "st"
        refine ⟨fun hge => ?_, fun _ => ?_⟩
        · repeat walk_at "st"
          refine ⟨fun _ => ?_, fun e => nomatch e⟩
          have hab := of_decide_eq_true hge
          repeat walk_at "st"
          refine WC_abs ?_
          repeat walk_at "st"
          refine ⟨powOk (by decide) (by decide) (by decide) (by decide), ?_⟩
          repeat walk_at "st"
          refine ⟨IntMulOk.of_left (by decide +kernel), ?_⟩
          repeat walk_at "st"
          refine WC_intB ?_
          repeat walk_at "st"
          refine WC_int ?_
          repeat walk_at "st"
          refine ⟨by lia, PyProof.noPylong_small (by lia), ?_⟩
          refine WA_sub ?_
          repeat walk_at "st"
          refine ⟨_, StIP_lst (i := 2) hp1 (by show 2 < 3; decide), ?_⟩
          rw [Sto.set_set]
          try show WB _ _ _ _ _ _ _
          repeat walk_at "st"
          refine WC_int ?_
          repeat walk_at "st"
          refine ⟨by lia, ?_⟩
          refine h _ _ (hmod _).1 (hmod _).2 ⟨s + 1, _, rfl, by lia, by lia, Int.fdiv_nonneg ?_ (by lia)⟩
          refine Int.add_nonneg (Int.mul_nonneg (by decide) (by lia)) ?_
          split <;> decide
        · refine ⟨(fun e => nomatch e), fun _ => ?_⟩
          refine vB_nilR (nx_next ?_)
          exact key2 cv
      · refine ⟨(fun e => nomatch e), fun _ => ?_⟩
        refine vB_nilR (nx_next ?_)
        exact key2 cv
    repeat walk_at "st"
    refine ⟨IntMulOk.of_left (by decide +kernel), ?_⟩
    repeat walk_at "st"
    refine WE_slice ?_
    repeat walk_at "st"
    refine ⟨_, IxP_ref (i := 0) hp1 rfl, ?_⟩
    try show WE _ _ _ _ _ _ _
    repeat walk_at "st"
    refine ⟨1, rfl, ?_⟩
    refine ⟨_, _, rfl, by rw [iV_len]; lia, rfl, ?_⟩
    have et : List.take 1 (iV cells) = iV (cells.take 1) := by unfold iV; rw [List.map_take]
    rw [et]
    repeat walk_at "st"
    refine WC_sum fun sm => ?_
    repeat walk_at "st"
    refine WC_int ?_
    repeat walk_at "st"
    refine ⟨by decide, ?_⟩
    repeat walk_at "st"
    refine ⟨_, IxP_ref (i := 0) hp1 rfl, ?_⟩
    repeat walk_at "st"
    refine ⟨by show 0 ≤ 16777216; decide, ?_⟩
    refine CmpP_neD (da := .list (cells.map .int)) (db := .list []) (dV_lst (dV_iV _)) rfl (lay_list (lay_ints _)) rfl (Nat.le_trans (Nat.min_le_right _ _) (by decide +kernel)) ?_
    cases cells with
    | nil =>
      refine tF (by decide +kernel) ?_
      refine vB_nilR (nx_next ?_)
      exact key1 _
    | cons c0 cr =>
      refine tT (by simp [PyData.eqv, PyData.eqvAll]) ?_
      repeat walk_at "st"
      refine ⟨_, IxP_ref (i := 0) hp1 rfl, ?_⟩
      repeat walk_at "st"
      refine WC_int ?_
      repeat walk_at "st"
      refine ⟨_, IxP_ref (i := 0) hp1 rfl, ?_⟩
      repeat walk_at "st"
      refine WC_len_lst (by rw [iV_len]; lia) ?_
      repeat walk_at "st"
      have hlen : (0 : Int) < ((iV (c0 :: cr)).length : Int) := by rw [iV_len]; simp
      refine ⟨by lia, ?_⟩
      have h1 := Int.fmod_nonneg_of_pos s hlen
      have h2 := Int.fmod_lt_of_pos s hlen
      obtain ⟨i, hi⟩ : ∃ i : Nat, s.fmod ((iV (c0 :: cr)).length : Int) = i := ⟨(s.fmod ((iV (c0 :: cr)).length : Int)).toNat, by lia⟩
      rw [hi] at h1 h2 ⊢
      rw [iV_len] at h2
      obtain ⟨cv, hcv⟩ : ∃ a, (c0 :: cr)[i]? = some a := ⟨_, List.getElem?_eq_getElem (by lia)⟩
      refine ⟨_, IxP_lst (iV_at hcv) (by lia), ?_⟩
      show vA _ _ _ _ _ _ _ _
      refine vA_loc (by kernel_rfl!) ?_
      refine nx_next ?_
      refine vB_nilR (nx_next ?_)
      exact key1 cv
theorem PenS.le {cells : List Int} {N N' : Nat} {o : O} (h : PenS cells N o) (l : N ≤ N') : PenS cells N' o := by
  obtain ⟨s, g, e, h1, h2, h3⟩ := h
  exact ⟨s, g, e, h1, by lia, h3⟩
theorem c_drawS {p : Addr} {cells : List Int} {N : Nat} {o : O} {m : Int} (ho : PenS cells N o) (hN : N ≤ 100000) (hl : cells.length ≤ 40) (hm : 0 < m) (hm' : m ≤ 9)
    (h : ∀ d o', 0 ≤ d → d < m → PenS cells (N + 1) o' → Q (.int d) (σ.set p o')) : WC (cx w B) (k + 1) (.glob 1118) [.ref p, .int m] (σ.set p o) Q :=
  c_draw (Sto.set_at ..) ho hN hl hm hm' fun d o' h1 h2 h3 => by rw [Sto.set_set]; exact h d o' h1 h2 h3
theorem c_pick {p : Addr} {cells : List Int} {N : Nat} {o : O} {l : List V} (ho : PenS cells N o) (hN : N ≤ 100000) (hl : cells.length ≤ 40) (hn : 0 < l.length) (hn' : l.length ≤ 9)
    (h : ∀ (i : Nat) x o', l[i]? = some x → PenS cells (N + 1) o' → Q x (σ.set p o')) : WC (cx w B) (k + 2) (.glob 1125) [.ref p, .lst l] (σ.set p o) Q := by
  refine e_law_pick ?_
  repeat walk_at "st"
  repeat walk_at "st"
  refine WC_len_lst (by lia) ?_
  repeat walk_at "st"
  refine c_drawS ho hN hl (by lia) (by lia) fun d o' h1 h2 h3 => ?_
  obtain ⟨i, rfl⟩ : ∃ i : Nat, d = i := ⟨d.toNat, by lia⟩
  have hi : l[i]? = some l[i] := List.getElem?_eq_getElem (by lia)
  exact ⟨_, IxP_lst hi (by lia), h i _ o' hi h3⟩
theorem eqv_nil (ns : List Int) : (!PyData.eqv (.list (ns.map .int)) (.list [])) = !ns.isEmpty := by
  cases ns with
  | nil => decide +kernel
  | cons => simp [PyData.eqv, PyData.eqvAll]
inductive SomeI (cells : List Int) (N : Nat) (p : Addr) (σ : Sto) (j : Nat) (acc : List V) (σ' : Sto) : Prop
  | mk (gs : List Int) (o' : O) : acc = iV gs → upS gs → (∀ g ∈ gs, 0 ≤ g ∧ g < j) → PenS cells (N + j) o' → σ' = σ.set p o' → SomeI cells N p σ j acc σ'
theorem c_some {p : Addr} {cells : List Int} {N : Nat} {o : O} (ho : PenS cells N o) (hN : N ≤ 90000) (hl : cells.length ≤ 40)
    (h : ∀ gs o', GS gs → gs ≠ [] → PenS cells (N + 9) o' → Q (.lst (iV gs)) (σ.set p o')) : WC (cx w B) (k + 2) (.glob 1130) [.ref p] (σ.set p o) Q := by
  refine e_law_some ?_
  try refine WB_cons ?_
  refine WS_assignC (by kernel_rfl) (by kernel_rfl) (by kernel_rfl!) ?_
  repeat walk_at "st"
  refine WC_range ?_
  refine ⟨_, IterP_rng (n := 8) (small5 (by decide)), ?_⟩
  refine CompL.rng [("pen", .ref p)] 8 (SomeI cells N p σ) ?_ ?_ _ ⟨[], o, rfl, List.Pairwise.nil, fun g hg => absurd hg List.not_mem_nil, ho, rfl⟩ (by kernel_rfl)
  · rintro acc ρ σ' ⟨gs, o', rfl, hup, hin, ho', rfl⟩
    have hG : GS gs := ⟨hup, fun g hg => by have := hin g hg; lia⟩
    have hgl := hG.len
    try refine WB_cons ?_
    try refine WS_return ?_
    try refine WE_ifexp ?_
    repeat walk_at "st"
    refine ⟨by show 0 ≤ 16777216; decide, ?_⟩
    refine CmpP_neD (da := .list (gs.map .int)) (db := .list []) (dV_lst (dV_iV _)) rfl (lay_list (lay_ints _)) rfl (Nat.le_trans (Nat.min_le_right _ _) (by decide +kernel)) ?_
    rw [eqv_nil]
    cases gs with
    | nil =>
      refine tF rfl ?_
      repeat walk_at "st"
      repeat walk_at "st"
      refine c_drawS ho' (by lia) hl (by decide) (by decide) fun d o'' h1 h2 h3 => ?_
      repeat walk_at "st"
      refine ⟨by show 1 ≤ 16777216; decide, ?_⟩
      exact h [d] o'' ⟨List.pairwise_singleton _ _, fun g hg => by rw [List.mem_singleton.mp hg]; exact ⟨h1, h2⟩⟩ (List.cons_ne_nil _ _) h3
    | cons a r =>
      refine tT rfl ?_
      repeat walk_at "st"
      exact h _ _ hG (List.cons_ne_nil _ _) (ho'.le (by lia))
  · rintro j acc σ' hj8 ⟨gs, o', rfl, hup, hin, ho', rfl⟩
    refine (?_ : WT _ _ _ _ _ _ _)
    repeat walk_at "st"
    repeat walk_at "st"
    refine c_drawS ho' (by lia) hl (by decide) (by decide) fun d o'' h1 h2 h3 => ?_
    repeat walk_at "st"
    refine ⟨fun _ => ?_, fun _ => ?_⟩
    · have hgl : gs.length ≤ 8 := (GS.len ⟨hup, fun g hg => by have := hin g hg; lia⟩)
      refine ⟨by rw [iV_len]; lia, ?_⟩
      repeat walk_at "st"
      refine ⟨gs ++ [(j : Int)], o'', by unfold iV; rw [List.map_append]; rfl, ?_, ?_, h3, rfl⟩
      · refine List.pairwise_append.mpr ⟨hup, List.pairwise_singleton _ _, fun a ha b hb => ?_⟩
        rw [List.mem_singleton.mp hb]; exact (hin a ha).2
      · intro g hg
        rcases List.mem_append.mp hg with q | q
        · have := hin g q; lia
        · rw [List.mem_singleton.mp q]; lia
    · exact ⟨gs, o'', rfl, hup, fun g hg => by have := hin g hg; lia, h3, rfl⟩
theorem c_row {p : Addr} {cells : List Int} {N : Nat} {o : O} (ho : PenS cells N o) (hN : N ≤ 90000) (hl : cells.length ≤ 40)
    (h : ∀ a b o', PenS cells (N + 2) o' → Q (.tup [vAnchor (.int a) (.int b)]) (σ.set p o')) : WC (cx w B) (k + 3) (.glob 1137) [.ref p] (σ.set p o) Q := by
  refine e_law_row ?_
  repeat walk_at "st"
  repeat walk_at "st"
  repeat walk_at "st"
  refine c_drawS ho (by lia) hl (by decide) (by decide) fun d o' _ _ h3 => ?_
  repeat walk_at "st"
  repeat walk_at "st"
  refine c_drawS h3 (by lia) hl (by decide) (by decide) fun d' o'' _ _ h3' => ?_
  repeat walk_at "st"
  refine n_Anchor ?_
  repeat walk_at "st"
  refine ⟨by show 1 ≤ 16777216; decide, ?_⟩
  exact h _ _ _ h3'
theorem CompL_pen {c : Cx} {sc : Scope} {n : Str} {elt : Expr} {QL : List V → Sto → Prop} {ρ₀ : Loc} {p : Addr} {cells : List Int} {m NN : Nat} (R : V → Prop) : ∀ (gs : List Int) (acc : List V) (ρ : Loc) (o : O) (N : Nat), (∀ x, putF n x ρ = putF n x ρ₀) → acc.length + gs.length ≤ 1000 → PenS cells N o → N + m * gs.length ≤ NN →
    (∀ g N' o', N' + m ≤ NN → PenS cells N' o' → ∀ Q' : V → Sto → Prop, (∀ v o'', R v → PenS cells (N' + m) o'' → Q' (pairI (g, v)) (σ.set p o'')) → WE c k sc (putF n (.int g) ρ₀) elt (σ.set p o') Q') →
    (∀ (D : List (Int × V)) (o' : O), D.map (·.1) = gs → (∀ q ∈ D, R q.2) → PenS cells (N + m * gs.length) o' → QL (acc ++ D.map pairI) (σ.set p o')) →
    CompL c k sc n [] (stepE c k sc elt) (fun a _ s => QL a s) (iV gs) acc ρ (σ.set p o)
  | [], acc, ρ, o, N, _, _, ho, _, _, h => by
    have := h [] o rfl (fun q hq => absurd hq List.not_mem_nil) ho
    rw [List.map_nil, List.append_nil] at this
    exact this
  | g :: r, acc, ρ, o, N, hρ, hl, ho, hN, he, h => by
    show CompL c k sc n [] _ _ (.int g :: iV r) acc ρ _
    have hml : m * (r.length + 1) = m * r.length + m := Nat.mul_succ _ _
    simp only [List.length_cons] at hl hN h
    refine And.intro (fun _ => ⟨by lia, ?_⟩) (fun e => nomatch e)
    rw [hρ]
    refine he g N o (by lia) ho _ fun v o'' hv ho'' => ?_
    refine CompL_pen R r (acc ++ [pairI (g, v)]) _ o'' (N + m) (fun x' => putF_twice _) (by simp; lia) ho'' (by lia) he fun D o' hD hR hP => ?_
    have := h ((g, v) :: D) o' (by simp [hD]) (fun q hq => by
      rcases List.mem_cons.mp hq with rfl | hq
      · exact hv
      · exact hR q hq) (hP.le (by lia))
    rw [List.append_assoc]
    exact this
theorem mgI_nodup : ∀ (more l : List (Int × V)), ((l ++ more).map (·.1)).Nodup → mgI l more = l ++ more
  | [], l, _ => by unfold mgI; simp
  | (i, x) :: r, l, h => by
    have hn : (l.any fun p => p.1 = i) = false := by
      rw [List.any_eq_false]
      intro q hq
      simp only [decide_eq_true_eq]
      rintro rfl
      rw [List.map_append, List.nodup_append] at h
      exact h.2.2 q.1 (List.mem_map_of_mem hq) q.1 (by simp) rfl
    have e : mgI l ((i, x) :: r) = mgI (l ++ [(i, x)]) r := by
      unfold mgI
      rw [List.foldl_cons]
      congr 1
      unfold stI
      rw [if_neg (by rw [hn]; decide)]
    rw [e, mgI_nodup r (l ++ [(i, x)]) (by rw [List.append_assoc]; exact h), List.append_assoc]
    rfl
theorem up_nodup {S : List Int} (h : upS S) : S.Nodup := h.imp fun hab => by lia
theorem WC_dictG {D : List (Int × V)} {gs : List Int} (hG : GS gs) (hD : D.map (·.1) = gs) (h : Q (.dcI D) σ) : WC (cx w B) k (.ty "dict") [.lst (D.map pairI)] σ Q :=
  WC_dict (by have := hG.len; rw [← hD, List.length_map] at this; lia) (by rw [mgI_nodup D [] (by rw [List.nil_append, hD]; exact up_nodup hG.up), List.nil_append]; exact h)
theorem lk_mem {D : List (Int × V)} {R : V → Prop} (hR : ∀ q ∈ D, R q.2) {g : Int} {y : V} (h : lkI D g = some y) : R y := by
  unfold lkI at h
  cases q : D.find? fun p => p.1 = g with
  | none => rw [q] at h; cases h
  | some p =>
    rw [q] at h; cases h
    exact hR p (List.mem_of_find?_eq_some q)
theorem c_marks {p : Addr} {cells : List Int} {N : Nat} {o : O} (ho : PenS cells N o) (hN : N ≤ 90000) (hl : cells.length ≤ 40)
    (h : ∀ (D : List (Int × V)) (o' : O), GS (D.map (·.1)) → D.map (·.1) ≠ [] → MarkT D → PenS cells (N + 17) o' → Q (.dcI D) (σ.set p o')) : WC (cx w B) (k + 3) (.glob 1142) [.ref p] (σ.set p o) Q := by
  refine e_law_marks ?_
  repeat walk_at "st"
  refine WE_comp1 (by kernel_rfl) (by kernel_rfl) ?_
  repeat walk_at "st"
  repeat walk_at "st"
  refine c_some ho (by lia) hl fun gs o' hG hne h3 => ?_
  have hgl := hG.len
  refine ⟨_, IterP_lst, ?_⟩
  refine CompL_pen (m := 1) (NN := 99000) (fun v => ∃ ox, v = .tup [.int 0, vAnchor (.int ox) (.int 1)]) gs [] _ o' (N + 9) (fun _ => rfl) (by simp; lia) h3 (by lia) ?_ ?_
  · intro g N' o' hN' ho' Q' hQ
    repeat walk_at "st"
    repeat walk_at "st"
    repeat walk_at "st"
    refine c_drawS ho' (by lia) hl (by decide) (by decide) fun d o'' _ _ h3 => ?_
    repeat walk_at "st"
    refine n_Anchor ?_
    repeat walk_at "st"
    refine ⟨by show 2 ≤ 16777216; decide, ?_⟩
    repeat walk_at "st"
    refine ⟨by show 2 ≤ 16777216; decide, ?_⟩
    exact hQ _ _ ⟨d, rfl⟩ h3
  · intro D o' hD hR hP
    rw [List.nil_append]
    repeat walk_at "st"
    refine WC_dictG hG hD ?_
    exact h D o' (by rw [hD]; exact hG) (by rw [hD]; exact hne) (fun g y hy => lk_mem (R := fun v => ∃ ox, v = .tup [.int 0, vAnchor (.int ox) (.int 1)]) hR hy) (hP.le (by lia))
theorem known_few {S : List Int} {j : Nat} (h : S.length ≤ 8) : ((S.take j).map fun g => (g, V.bool true)).length ≤ 1000 := by
  rw [List.length_map]; exact Nat.le_trans (List.length_take_le' _ _) (Nat.le_trans h (by decide))
theorem stI_known {S : List Int} {j : Nat} {g : Int} (hS : upS S) (hg : S[j]? = some g) : stI ((S.take j).map fun g => (g, V.bool true)) g (.bool true) = (S.take (j + 1)).map fun g => (g, V.bool true) := by
  have hnd : g ∉ S.take j := fun q => by
    have n := up_nodup hS
    rw [← List.take_append_drop j S, List.nodup_append] at n
    exact n.2.2 g q g (by rw [drop_at hg]; exact .head _) rfl
  rw [List.take_succ, hg]
  unfold stI
  rw [if_neg, List.map_append]
  · rfl
  · intro q
    rw [List.any_eq_true] at q
    obtain ⟨y, hy, hy'⟩ := q
    obtain ⟨g', hg', rfl⟩ := List.mem_map.mp hy
    cases of_decide_eq_true hy'
    exact hnd hg'
noncomputable def TabOK (kd : Str) (T : V) : Prop := ∃ (F : FT) (S : List Int), PosOK kd T F ∧ FOK S F ∧ BegOK kd T S ∧ GS S ∧ S ≠ []
theorem c_coverage_of {gs : List Int} (hG : GS gs) (h : Q (vCoverage (.tup (iV gs))) σ) : WC (cx w B) (k + 3) (.glob 633) [.lst (iV gs)] σ Q := by
  refine e_coverage_of ?_
  have hgl := hG.len
  refine WB_cons ?_
  refine WS_assign ?_
  refine WE_dictM fun a ha => ?_
  refine WA_local (by kernel_rfl!) ?_
  refine WB_cons ?_
  refine WS_for ?_
  repeat walk_at "st"
  refine ⟨_, IterP_lst, .inr (fun _ _ => rfl), ?_⟩
  refine ForL.ix [("glyphs", .lst (iV gs)), ("found", .ref a)] (iV gs) (fun j σ' => σ' = σ.set a (.dcI ((gs.take j).map fun g => (g, V.bool true)))) ?_ ?_ rfl (by kernel_rfl)
  · rintro σ' rfl
    rw [iV_len, List.take_length]
    refine WB_nil ?_
    refine WB_cons (WS_return ?_)
    refine (vF_ok 6).E ?_
    (conv => whnf)
    refine WE_fz ?_
    refine WE_local (by kernel_rfl!) rfl ?_
    refine ⟨_, _, _, rfl, Sto.set_at .., rfl, ?_⟩
    rw [Sto.del_set _ _ _ ha]
    repeat walk_at "st"
    refine WC_sortedD (by rw [List.length_map]; lia) fun ns' hp hs => ?_
    have e : ns' = gs := by
      rw [List.map_map] at hp
      have : (gs.map ((·.1) ∘ fun g => (g, V.bool true))) = gs := by
        rw [show ((·.1) ∘ fun g => (g, V.bool true) : Int → Int) = id from rfl, List.map_id]
      rw [this] at hp
      exact sorted_unique hG.up hs hp
    subst e
    repeat walk_at "st"
    refine WC_tuple_lst (by rw [iV_len]; lia) ?_
    repeat walk_at "st"
    exact n_Coverage h
  · rintro j x σ' hx rfl
    obtain ⟨g, hg, rfl⟩ := iV_get hx
    refine WA_local (by kernel_rfl!) ?_
    repeat walk_at "st"
    refine WA_sub ?_
    repeat walk_at "st"
    refine ⟨_, StIP_dcI (Sto.set_at ..) (known_few hG.len), ?_⟩
    repeat walk_at "st"
    exact ⟨SubL.app (l := [("glyphs", .lst (iV gs)), ("found", .ref a)]) [("glyph", .int g)], by rw [Sto.set_set, stI_known hG.up hg]⟩
noncomputable abbrev val0 : V := vValue (.int 0) (.int 0) (.int 0) (.int 0)
noncomputable abbrev val1V : V := vValue (.int 1) (.int 2) (.int 30) (.int 0)
theorem c_is_nothing (h : Q (.bool true) σ) : WC (cx w B) (k + 2) (.glob 832) [val0] σ Q := by
  refine e_Value_is_nothing ?_
  repeat walk_at "st"
  refine ⟨_, MetP_inst m_Value_told.1 rfl, m_Value_told.2, ?_⟩
  refine e_Value_told ?_
  repeat walk_at "st"
  refine ⟨by show 4 ≤ 16777216; decide, ?_⟩
  repeat walk_at "st"
  refine ⟨by show 4 ≤ 16777216; decide, ?_⟩
  refine CmpP_eqD (da := .tuple [.int 0, .int 0, .int 0, .int 0]) (db := .tuple [.int 0, .int 0, .int 0, .int 0]) rfl rfl (by decide +kernel) (by decide +kernel) (by decide +kernel) ?_
  rw [show PyData.eqv (.tuple [.int 0, .int 0, .int 0, .int 0]) (.tuple [.int 0, .int 0, .int 0, .int 0]) = true from by decide +kernel]
  exact h
theorem c_moves_second {P : List ((Int × Int) × V)} (hP : ∀ q ∈ P, q.2 = .tup [val1V, val0]) (h : Q (.bool false) σ) : WC (cx w B) (k + 3) (.glob 891) [.dvP P] σ Q := by
  refine e_moves_second ?_
  repeat walk_at "st"
  refine WE_comp1 (by kernel_rfl) (by kernel_rfl) ?_
  repeat walk_at "st"
  refine ⟨_, IterP_dvP, ?_⟩
  refine CompL.ix [("pairs", .dvP P)] _ (fun _ acc σ' => acc = [] ∧ σ' = σ) ?_ ?_ _ ⟨rfl, rfl⟩ (by kernel_rfl)
  · rintro acc ρ σ' ⟨rfl, rfl⟩
    repeat walk_at "st"
    refine ⟨by show 0 ≤ 16777216; decide, ?_⟩
    refine CmpP_neD (da := .list []) (db := .list []) rfl rfl rfl rfl (by decide +kernel) ?_
    rw [show (!PyData.eqv (.list []) (.list [])) = false from by decide +kernel]
    exact h
  · rintro j x acc σ' hx ⟨rfl, rfl⟩
    obtain ⟨q, hq, rfl⟩ := List.mem_map.mp (List.mem_of_getElem? hx)
    rw [hP q hq]
    refine (?_ : WT _ _ _ _ _ _ _)
    repeat walk_at "st"
    refine ⟨_, IxP_tup (i := 1) rfl, ?_⟩
    refine ⟨_, MetP_inst m_Value_is_nothing.1 rfl, m_Value_is_nothing.2, ?_⟩
    refine c_is_nothing ?_
    repeat walk_at "st"
    refine tF rfl ?_
    exact ⟨rfl, rfl⟩
theorem n_PairGlyphs {P : List ((Int × Int) × V)} (hP : ∀ q ∈ P, q.2 = .tup [val1V, val0]) (h : Q (vPairs P) σ) : WC (cx w B) (k + 5) (.glob 921) [.dcP P] σ Q :=
  WC_new (fI := 906) (by kernel_rfl) (by kernel_rfl) (by kernel_rfl) (fun ox od hd => e_PairGlyphs_new1c (by
    repeat (first | walk_at "st" | (refine WA_self ?_; refine WE_local (by kernel_rfl!) rfl ?_; refine ⟨_, _, rfl, rfl, by kernel_rfl, by kernel_rfl, ?_⟩))
    refine tF' rfl ?_
    repeat walk_at "st"
    repeat walk_at "st"
    refine ⟨_, MetP_values, rfl, ?_⟩
    refine WC_values ?_
    repeat walk_at "st"
    refine c_moves_second hP ?_
    refine WA_self ?_
    refine WE_local (by kernel_rfl!) rfl ?_
    refine ⟨_, _, rfl, rfl, by kernel_rfl, by kernel_rfl, ?_⟩
    repeat walk_at "st"
    exact ⟨rfl, by kernel_rfl⟩)) h
theorem const_keys {gs : List Int} {v : V} : (gs.map fun g => (g, v)).map (·.1) = gs := by
  rw [List.map_map, show ((·.1) ∘ fun g => (g, v) : Int → Int) = id from rfl, List.map_id]
theorem const_mem {gs : List Int} {v : V} : ∀ q ∈ gs.map (fun g => (g, v)), q.2 = v := fun q hq => by
  obtain ⟨g, _, rfl⟩ := List.mem_map.mp hq; rfl
noncomputable abbrev TQ (kd : Str) (cells : List Int) (N : Nat) (p : Addr) (σ : Sto) (Q : V → Sto → Prop) : Prop := ∀ T o', TabOK kd T → PenS cells (N + 100) o' → Q T (σ.set p o')
theorem t_adjust {p : Addr} {cells : List Int} {N : Nat} {o : O} (ho : PenS cells N o) (hN : N ≤ 1000) (hl : cells.length ≤ 40) (h : TQ "adjust" cells N p σ Q) :
    WC (cx w B) (k + 10) (.glob 1147) [.ref p, .str "adjust"] (σ.set p o) Q := by
  refine e_law_table ?_
  repeat walk_at "st"
  repeat walk_at "st"
  refine n_Value ?_
  repeat (first | walk_at "st" | refine CmpP_seq ?_ | refine tF (by kernel_rfl!) ?_)
  refine tT (by kernel_rfl!) ?_
  repeat walk_at "st"
  repeat walk_at "st"
  refine WE_comp1 (by kernel_rfl) (by kernel_rfl) ?_
  repeat walk_at "st"
  repeat walk_at "st"
  refine c_some ho (by lia) hl fun gs o' hG hne h3 => ?_
  have hgl := hG.len
  refine ⟨_, IterP_lst, ?_⟩
  refine CompL_each _ [] ((gs.map fun g => (g, val1V)).map pairI) _ (fun _ => rfl) (by simp [iV]; lia) (by simp [iV]) ?_ ?_
  · intro i x y hx hy Q' hQ
    simp only [iV, List.getElem?_map, List.map_map] at hx hy
    cases hg : gs[i]? with
    | none => rw [hg] at hx; cases hx
    | some g =>
      rw [hg] at hx hy; cases hx; cases hy
      repeat walk_at "st"
      refine ⟨by show 2 ≤ 16777216; decide, ?_⟩
      exact hQ
  · rw [List.nil_append]
    repeat walk_at "st"
    refine WC_dictG hG const_keys ?_
    repeat walk_at "st"
    refine n_Adjust ?_
    refine h _ _ ⟨_, _, pos_adjust fun g y hy => lk_mem (R := fun y => y = val1V) const_mem hy, adjF_ok _, beg_adjust (by rw [const_keys]; exact hG), by rw [const_keys]; exact hG, by rw [const_keys]; exact hne⟩ (h3.le (by lia))
theorem t_cursive {p : Addr} {cells : List Int} {N : Nat} {o : O} (ho : PenS cells N o) (hN : N ≤ 1000) (hl : cells.length ≤ 40) (h : TQ "cursive" cells N p σ Q) :
    WC (cx w B) (k + 10) (.glob 1147) [.ref p, .str "cursive"] (σ.set p o) Q := by
  refine e_law_table ?_
  repeat walk_at "st"
  repeat walk_at "st"
  refine n_Value ?_
  repeat (first | walk_at "st" | refine CmpP_seq ?_ | refine tF (by kernel_rfl!) ?_)
  refine tT (by kernel_rfl!) ?_
  repeat walk_at "st"
  repeat walk_at "st"
  refine WE_comp1 (by kernel_rfl) (by kernel_rfl) ?_
  repeat walk_at "st"
  repeat walk_at "st"
  refine c_some ho (by lia) hl fun gs o' hG hne h3 => ?_
  have hgl := hG.len
  refine ⟨_, IterP_lst, ?_⟩
  refine CompL_each _ [] ((gs.map fun g => (g, V.tup [vAnchor (.int 1) (.int 2), vAnchor (.int 30) (.int 4)])).map pairI) _ (fun _ => rfl) (by simp [iV]; lia) (by simp [iV]) ?_ ?_
  · intro i x y hx hy Q' hQ
    simp only [iV, List.getElem?_map, List.map_map] at hx hy
    cases hg : gs[i]? with
    | none => rw [hg] at hx; cases hx
    | some g =>
      rw [hg] at hx hy; cases hx; cases hy
      repeat walk_at "st"
      repeat walk_at "st"
      refine n_Anchor ?_
      repeat walk_at "st"
      repeat walk_at "st"
      refine n_Anchor ?_
      repeat walk_at "st"
      refine ⟨by show 2 ≤ 16777216; decide, ?_⟩
      repeat walk_at "st"
      refine ⟨by show 2 ≤ 16777216; decide, ?_⟩
      exact hQ
  · rw [List.nil_append]
    repeat walk_at "st"
    refine WC_dictG hG const_keys ?_
    repeat walk_at "st"
    refine n_Cursive ?_
    refine h _ _ ⟨_, _, pos_cursive fun g y hy => lk_mem (R := fun y => y = V.tup [vAnchor (.int 1) (.int 2), vAnchor (.int 30) (.int 4)]) const_mem hy, curF_ok _, beg_cursive (by rw [const_keys]; exact hG), by rw [const_keys]; exact hG, by rw [const_keys]; exact hne⟩ (h3.le (by lia))
theorem t_base {p : Addr} {cells : List Int} {N : Nat} {o : O} (ho : PenS cells N o) (hN : N ≤ 1000) (hl : cells.length ≤ 40) (h : TQ "base" cells N p σ Q) :
    WC (cx w B) (k + 10) (.glob 1147) [.ref p, .str "base"] (σ.set p o) Q := by
  refine e_law_table ?_
  repeat walk_at "st"
  repeat walk_at "st"
  refine n_Value ?_
  repeat (first | walk_at "st" | refine CmpP_seq ?_ | refine tF (by kernel_rfl!) ?_)
  refine tT (by kernel_rfl!) ?_
  repeat walk_at "st"
  repeat walk_at "st"
  repeat walk_at "st"
  refine c_marks ho (by lia) hl fun D o1 hGD hDne hMD h1 => ?_
  repeat walk_at "st"
  refine WE_comp1 (by kernel_rfl) (by kernel_rfl) ?_
  repeat walk_at "st"
  repeat walk_at "st"
  refine c_some h1 (by lia) hl fun gs o' hG hne h3 => ?_
  have hgl := hG.len
  refine ⟨_, IterP_lst, ?_⟩
  refine CompL_pen (m := 2) (NN := 80000) (fun v => ∃ ax ay, OneRow v ax ay) gs [] _ o' (N + 26) (fun _ => rfl) (by simp; lia) (h3.le (by lia)) (by lia) ?_ ?_
  · intro g N' o' hN' ho' Q' hQ
    repeat walk_at "st"
    repeat walk_at "st"
    refine c_row ho' (by lia) hl fun a b o'' h3 => ?_
    repeat walk_at "st"
    refine ⟨by show 2 ≤ 16777216; decide, ?_⟩
    exact hQ _ _ ⟨a, b, rfl⟩ h3
  · intro E o'' hE hR hP
    rw [List.nil_append]
    repeat walk_at "st"
    refine WC_dictG hG hE ?_
    repeat walk_at "st"
    refine n_MarkBase ?_
    refine h _ _ ⟨_, _, pos_base hMD fun g y hy => lk_mem (R := fun v => ∃ ax ay, OneRow v ax ay) hR hy, baseF_ok _ _, beg_marks (.inl ⟨rfl, rfl, rfl⟩) hGD, hGD, hDne⟩ (hP.le (by lia))
theorem t_mark {p : Addr} {cells : List Int} {N : Nat} {o : O} (ho : PenS cells N o) (hN : N ≤ 1000) (hl : cells.length ≤ 40) (h : TQ "mark" cells N p σ Q) :
    WC (cx w B) (k + 10) (.glob 1147) [.ref p, .str "mark"] (σ.set p o) Q := by
  refine e_law_table ?_
  repeat walk_at "st"
  repeat walk_at "st"
  refine n_Value ?_
  repeat (first | walk_at "st" | refine CmpP_seq ?_ | refine tF (by kernel_rfl!) ?_)
  refine tT (by kernel_rfl!) ?_
  repeat walk_at "st"
  repeat walk_at "st"
  repeat walk_at "st"
  refine c_marks ho (by lia) hl fun D o1 hGD hDne hMD h1 => ?_
  repeat walk_at "st"
  refine WE_comp1 (by kernel_rfl) (by kernel_rfl) ?_
  repeat walk_at "st"
  repeat walk_at "st"
  refine c_some h1 (by lia) hl fun gs o' hG hne h3 => ?_
  have hgl := hG.len
  refine ⟨_, IterP_lst, ?_⟩
  refine CompL_pen (m := 2) (NN := 80000) (fun v => ∃ ax ay, OneRow v ax ay) gs [] _ o' (N + 26) (fun _ => rfl) (by simp; lia) (h3.le (by lia)) (by lia) ?_ ?_
  · intro g N' o' hN' ho' Q' hQ
    repeat walk_at "st"
    repeat walk_at "st"
    refine c_row ho' (by lia) hl fun a b o'' h3 => ?_
    repeat walk_at "st"
    refine ⟨by show 2 ≤ 16777216; decide, ?_⟩
    exact hQ _ _ ⟨a, b, rfl⟩ h3
  · intro E o'' hE hR hP
    rw [List.nil_append]
    repeat walk_at "st"
    refine WC_dictG hG hE ?_
    repeat walk_at "st"
    refine n_MarkMark ?_
    refine h _ _ ⟨_, _, pos_mark hMD fun g y hy => lk_mem (R := fun v => ∃ ax ay, OneRow v ax ay) hR hy, markM_ok _ _, beg_marks (.inr (.inr ⟨rfl, rfl, rfl⟩)) hGD, hGD, hDne⟩ (hP.le (by lia))
theorem t_component {p : Addr} {cells : List Int} {N : Nat} {o : O} (ho : PenS cells N o) (hN : N ≤ 1000) (hl : cells.length ≤ 40) (h : TQ "component" cells N p σ Q) :
    WC (cx w B) (k + 10) (.glob 1147) [.ref p, .str "component"] (σ.set p o) Q := by
  refine e_law_table ?_
  repeat walk_at "st"
  repeat walk_at "st"
  refine n_Value ?_
  repeat (first | walk_at "st" | refine CmpP_seq ?_ | refine tF (by kernel_rfl!) ?_)
  refine tT (by kernel_rfl!) ?_
  repeat walk_at "st"
  repeat walk_at "st"
  repeat walk_at "st"
  refine c_marks ho (by lia) hl fun D o1 hGD hDne hMD h1 => ?_
  repeat walk_at "st"
  refine WE_comp1 (by kernel_rfl) (by kernel_rfl) ?_
  repeat walk_at "st"
  repeat walk_at "st"
  refine c_some h1 (by lia) hl fun gs o' hG hne h3 => ?_
  have hgl := hG.len
  refine ⟨_, IterP_lst, ?_⟩
  refine CompL_pen (m := 4) (NN := 80000) (fun y => ∃ ax ay bx bz, y = .lst [.tup [vAnchor (.int ax) (.int ay)], .tup [vAnchor (.int bx) (.int bz)]]) gs [] _ o' (N + 26) (fun _ => rfl) (by simp; lia) (h3.le (by lia)) (by lia) ?_ ?_
  · intro g N' o' hN' ho' Q' hQ
    repeat walk_at "st"
    repeat walk_at "st"
    refine c_row ho' (by lia) hl fun a b o'' h3 => ?_
    repeat walk_at "st"
    repeat walk_at "st"
    refine c_row h3 (by lia) hl fun a' b' o3 h4 => ?_
    repeat walk_at "st"
    refine ⟨by show 2 ≤ 16777216; decide, ?_⟩
    repeat walk_at "st"
    refine ⟨by show 2 ≤ 16777216; decide, ?_⟩
    exact hQ _ _ ⟨a, b, a', b', rfl⟩ h4
  · intro E o'' hE hR hP
    rw [List.nil_append]
    repeat walk_at "st"
    refine WC_dictG hG hE ?_
    repeat walk_at "st"
    refine n_MarkComponent ?_
    refine h _ _ ⟨_, _, pos_component hMD fun g y hy => lk_mem (R := fun y => ∃ ax ay bx bz, y = .lst [.tup [vAnchor (.int ax) (.int ay)], .tup [vAnchor (.int bx) (.int bz)]]) hR hy, compF_ok _ _, beg_marks (.inr (.inl ⟨rfl, rfl, rfl⟩)) hGD, hGD, hDne⟩ (hP.le (by lia))
noncomputable abbrev pairVal : V := .tup [val1V, val0]
noncomputable def rowP (g : Int) : List ((Int × Int) × V) := (List.range 8).map fun (j : Nat) => ((g, (j : Int)), pairVal)
noncomputable def Pall (gs : List Int) : List ((Int × Int) × V) := gs.flatMap rowP
theorem Pall_app {a b : List Int} : Pall (a ++ b) = Pall a ++ Pall b := by unfold Pall; rw [List.flatMap_append]
theorem Pall_val {gs : List Int} : ∀ q ∈ Pall gs, q.2 = pairVal := fun q hq => by
  obtain ⟨g, _, hg⟩ := List.mem_flatMap.mp hq
  obtain ⟨j, _, rfl⟩ := List.mem_map.mp hg; rfl
theorem Pall_keys {gs : List Int} (i : Int) : i ∈ (Pall gs).map (·.1.1) ↔ i ∈ gs := by
  constructor
  · intro h
    obtain ⟨q, hq, rfl⟩ := List.mem_map.mp h
    obtain ⟨g, hg, hg'⟩ := List.mem_flatMap.mp hq
    obtain ⟨j, _, rfl⟩ := List.mem_map.mp hg'
    exact hg
  · intro h
    exact List.mem_map.mpr ⟨((i, 0), pairVal), List.mem_flatMap.mpr ⟨i, h, List.mem_map.mpr ⟨0, by decide, rfl⟩⟩, rfl⟩
theorem Pall_len : ∀ (gs : List Int), (Pall gs).length = 8 * gs.length
  | [] => rfl
  | g :: r => by
    have := Pall_len r
    unfold Pall at this ⊢
    rw [List.flatMap_cons, List.length_append, this, List.length_cons]
    unfold rowP; simp; lia
theorem Pall_nodup : ∀ {gs : List Int}, gs.Nodup → ((Pall gs).map (·.1)).Nodup
  | [], _ => List.nodup_nil
  | g :: r, h => by
    rw [List.nodup_cons] at h
    unfold Pall
    rw [List.flatMap_cons, List.map_append, List.nodup_append]
    refine ⟨?_, Pall_nodup h.2, ?_⟩
    · unfold rowP
      rw [List.map_map]
      refine List.Pairwise.map _ (fun a b hab he => ?_) (List.nodup_range (n := 8))
      simp at he; lia
    · intro a ha b hb hab
      subst hab
      obtain ⟨q, hq, rfl⟩ := List.mem_map.mp ha
      obtain ⟨j, _, rfl⟩ := List.mem_map.mp hq
      obtain ⟨q', hq', e⟩ := List.mem_map.mp hb
      have : g ∈ (Pall r).map (·.1.1) := List.mem_map.mpr ⟨q', hq', by rw [e]⟩
      exact h.1 ((Pall_keys g).mp this)
theorem lkP_mem {P : List ((Int × Int) × V)} {a b : Int} {y : V} (h : lkP P a b = some y) : ((a, b), y) ∈ P := by
  unfold lkP at h
  cases q : P.find? fun p => p.1 = (a, b) with
  | none => rw [q] at h; cases h
  | some p =>
    rw [q] at h; cases h
    have := List.find?_some q
    simp only [decide_eq_true_eq] at this
    rw [← this]
    exact List.mem_of_find?_eq_some q
inductive PairO (gs : List Int) (p : Addr) (τ : Sto) (items acc : List V) (ρ : Loc) (σ' : Sto) : Prop
  | mk (d r : List Int) : gs = d ++ r → items = iV r → acc = (Pall d).map pairP → σ' = τ → (∀ x y, putF "other" y (putF "one" x ρ) = ([("pen", .ref p), ("kind", .str "pair"), ("value", val1V), ("one", x), ("other", y)] : Loc)) → PairO gs p τ items acc ρ σ'
inductive PairN (d : List Int) (g : Int) (p : Addr) (τ : Sto) (items acc : List V) (ρ' : Loc) (σ' : Sto) : Prop
  | mk (j : Nat) : j ≤ 8 → items = (intsV 8).drop j → acc = (Pall d ++ (rowP g).take j).map pairP → σ' = τ → (∀ y, putF "other" y ρ' = ([("pen", .ref p), ("kind", .str "pair"), ("value", val1V), ("one", .int g), ("other", y)] : Loc)) → (0 < j → ∃ y, ρ' = ([("pen", .ref p), ("kind", .str "pair"), ("value", val1V), ("one", .int g), ("other", y)] : Loc)) → PairN d g p τ items acc ρ' σ'
theorem t_pair {p : Addr} {cells : List Int} {N : Nat} {o : O} (ho : PenS cells N o) (hN : N ≤ 1000) (hl : cells.length ≤ 40) (h : TQ "pair" cells N p σ Q) :
    WC (cx w B) (k + 10) (.glob 1147) [.ref p, .str "pair"] (σ.set p o) Q := by
  refine e_law_table ?_
  repeat walk_at "st"
  repeat walk_at "st"
  refine n_Value ?_
  repeat (first | walk_at "st" | refine CmpP_seq ?_ | refine tF (by kernel_rfl!) ?_)
  refine tT (by kernel_rfl!) ?_
  repeat walk_at "st"
  repeat walk_at "st"
  refine WE_comp2 (by kernel_rfl) (by kernel_rfl) (by kernel_rfl) ?_
  repeat walk_at "st"
  repeat walk_at "st"
  refine c_some ho (by lia) hl fun gs o' hG hne h3 => ?_
  have hgl := hG.len
  refine ⟨_, IterP_lst, ?_⟩
  refine CompL.inv (PairO gs p (σ.set p o')) ?_ (stepN_mono stepE_mono) WIf.mono ?_ _ _ _ _ ⟨[], gs, rfl, rfl, rfl, rfl, fun _ _ => by kernel_rfl⟩
  · rintro acc ρ σ' ⟨d, r, hd, hi, rfl, rfl, -⟩
    have hr : r = [] := by cases r with
      | nil => rfl
      | cons => simp [iV] at hi
    subst hr
    rw [List.append_nil] at hd; subst hd
    repeat walk_at "st"
    have hpl := Pall_len gs
    refine WC_dictP (by lia) (Pall_nodup (up_nodup hG.up)) ?_
    repeat walk_at "st"
    refine n_PairGlyphs Pall_val ?_
    refine h _ _ ⟨_, _, pos_pair fun a b y hy => Pall_val _ (lkP_mem hy), pairF_ok _ gs fun a b y hy => (Pall_keys a).mp (List.mem_map.mpr ⟨_, lkP_mem hy, rfl⟩), beg_pair hG (by lia) Pall_keys, hG, hne⟩ (h3.le (by lia))
  · rintro x r' acc ρ σ' ⟨d, r, hd, hi, rfl, rfl, hρ⟩
    cases r with
    | nil => simp [iV] at hi
    | cons g r =>
      simp only [iV, List.map_cons, List.cons.injEq] at hi
      obtain ⟨rfl, rfl⟩ := hi
      have hdl : d.length ≤ 8 := by have := congrArg List.length hd; simp at this; lia
      have hpl := Pall_len d
      refine ⟨fun _ => ?_, fun e => nomatch e⟩
      try show WE _ _ _ _ _ _ _
      repeat walk_at "st"
      refine WC_range ?_
      refine ⟨_, IterP_rng (n := 8) (small5 (by decide)), ?_⟩
      refine CompL.inv (PairN d g p (σ.set p o')) ?_ stepE_mono WIf.mono ?_ _ _ _ _ ⟨0, by decide, rfl, by rw [List.take_zero, List.append_nil], rfl, fun y => hρ _ y, fun h => absurd h (Nat.lt_irrefl 0)⟩
      · rintro acc ρ' σ' ⟨j, hj, hi, rfl, rfl, -, hpos⟩
        have hj8 : j = 8 := by
          have := congrArg List.length hi
          simp [intsV] at this; lia
        subst hj8
        obtain ⟨y, rfl⟩ := hpos (by decide)
        refine ⟨d ++ [g], r, by rw [List.append_assoc]; exact hd, rfl, ?_, rfl, fun _ _ => by kernel_rfl⟩
        rw [Pall_app]
        congr 2
      · rintro x r' acc ρ' σ' ⟨j, hj, hi, rfl, rfl, hρ', -⟩
        have hx : (intsV 8)[j]? = some x := by rw [← Nat.add_zero j, ← List.getElem?_drop, ← hi]; rfl
        have hr : r' = (intsV 8).drop (j + 1) := by rw [← List.drop_drop, ← hi]; rfl
        obtain ⟨hj8, rfl⟩ := intsV_at hx
        rw [hρ']
        refine ⟨fun _ => ⟨by rw [List.length_map, List.length_append, List.length_take]; lia, ?_⟩, fun e => nomatch e⟩
        try show WE _ _ _ _ _ _ _
        repeat walk_at "st"
        refine ⟨by show 2 ≤ 16777216; decide, ?_⟩
        repeat walk_at "st"
        repeat walk_at "st"
        refine n_Value ?_
        repeat walk_at "st"
        refine ⟨by show 2 ≤ 16777216; decide, ?_⟩
        repeat walk_at "st"
        refine ⟨by show 2 ≤ 16777216; decide, ?_⟩
        refine ⟨j + 1, by lia, hr, ?_, rfl, fun _ => by kernel_rfl, fun _ => ⟨_, rfl⟩⟩
        have et : (rowP g).take (j + 1) = (rowP g).take j ++ [((g, (j : Int)), pairVal)] := by
          rw [List.take_succ]
          congr 1
          unfold rowP
          rw [List.getElem?_map, List.getElem?_range hj8]; rfl
        rw [et]
        simp only [List.map_append, List.append_assoc]
        rfl
theorem lk_fun {f : Int → V} : ∀ {gs : List Int} {g : Int} {y : V}, lkI (gs.map fun g => (g, f g)) g = some y → y = f g
  | [], g, y, h => by cases h
  | a :: r, g, y, h => by
    unfold lkI at h
    rw [List.map_cons, List.find?_cons] at h
    by_cases e : a = g
    · subst e
      simp at h
      exact h.symm
    · simp only [decide_eq_true_eq, e] at h
      simp only [decide_false] at h
      exact lk_fun h
theorem fun_keys {f : Int → V} {gs : List Int} : (gs.map fun g => (g, f g)).map (·.1) = gs := by
  rw [List.map_map, show ((·.1) ∘ fun g => (g, f g) : Int → Int) = id from rfl, List.map_id]
theorem isSome_mem {D : List (Int × V)} {g : Int} (h : (lkI D g).isSome = true) : g ∈ D.map (·.1) := by
  cases q : lkI D g with
  | none => rw [q] at h; cases h
  | some y => exact lk_some q
theorem tab1 {kd : Str} (hkd : kd = "context" ∨ kd = "chain") {ch : V} {gs : List Int} (hG : GS gs) (hne : gs ≠ []) : TabOK kd (vContexts3 (.int 1) ch (.dcI (gs.map fun g => (g, .lst [ruleV (.int g)])))) :=
  ⟨_, gs, pos_ctx hkd (hit := fun g => (lkI (gs.map fun g => (g, V.lst [ruleV (.int g)])) g).isSome) (tst := fun g => .tup [.str "glyph", .int g])
    (fun w B k σ g Q h => c_rules_at1 (fun y hy => lk_fun hy) h) (fun w B k σ g Q _ h => c_fits1 (by rw [beq_self_eq_true]; exact h)),
    ctxF_ok _ _ fun g h => by have := isSome_mem h; rw [fun_keys] at this; exact this,
    beg_ctx hkd hG fun w B k Q σ h => boc1 (by have := hG.len; rw [List.length_map]; lia) w B k Q σ (by rw [fun_keys]; exact h), hG, hne⟩
theorem tab2 {kd : Str} (hkd : kd = "context" ∨ kd = "chain") {ch : V} {gs cs : List Int} (hG : GS gs) (hne : gs ≠ []) :
    TabOK kd (vContexts5 (.int 2) ch (.dcI [(1, .lst [ruleV (.int 1)])]) (vCoverage (.tup (iV gs))) (.tup [vClassDef (.dcI []), vClassDef (.dcI (cs.map fun g => (g, .int 1))), vClassDef (.dcI [])])) :=
  ⟨_, gs, pos_ctx hkd (hit := fun g => decide (g ∈ gs ∧ (lkI (cs.map fun g => (g, V.int 1)) g).isSome = true)) (tst := fun _ => .tup [.str "class", vClassDef (.dcI (cs.map fun g => (g, .int 1))), .int 1])
    (fun w B k σ g Q h => c_rules_at2 hG.up (by have := hG.len; lia) (fun y hy => lk_fun (f := fun _ => .int 1) hy) (by simpa only [decide_eq_true_eq] using h))
    (fun w B k σ g Q hh h => by
      have := (of_decide_eq_true hh).2
      cases q : lkI (cs.map fun g => (g, V.int 1)) g with
      | none => rw [q] at this; cases this
      | some y => exact c_fits2 (by rw [q, lk_fun (f := fun _ => .int 1) q]) h),
    ctxF_ok _ _ fun g h => (of_decide_eq_true h).1,
    beg_ctx hkd hG fun w B k Q σ h => boc2 (by have := hG.len; lia) w B k Q σ h, hG, hne⟩
theorem tab3 {kd : Str} (hkd : kd = "context" ∨ kd = "chain") {ch : V} {gs : List Int} (hG : GS gs) (hne : gs ≠ []) : TabOK kd (vContexts3 (.int 3) ch (.dcI [(0, .lst [ruleV (vCoverage (.tup (iV gs)))])])) :=
  ⟨_, gs, pos_ctx hkd (hit := fun g => decide (g ∈ gs)) (tst := fun _ => .tup [.str "cover", vCoverage (.tup (iV gs))])
    (fun w B k σ g Q h => c_rules_at3 hG.up (by have := hG.len; lia) (by simpa only [decide_eq_true_eq] using h))
    (fun w B k σ g Q hh h => c_fits3 hG.up (by have := hG.len; lia) (by rw [hh]; exact h)),
    ctxF_ok _ _ fun g h => of_decide_eq_true h,
    beg_ctx hkd hG fun w B k Q σ h => boc3 (by have := hG.len; lia) w B k Q σ h, hG, hne⟩
theorem t_ctx {kd : Str} (hkd : kd = "context" ∨ kd = "chain") {p : Addr} {cells : List Int} {N : Nat} {o : O} (ho : PenS cells N o) (hN : N ≤ 1000) (hl : cells.length ≤ 40) (h : TQ kd cells N p σ Q) :
    WC (cx w B) (k + 10) (.glob 1147) [.ref p, .str kd] (σ.set p o) Q := by
  refine e_law_table ?_
  repeat walk_at "st"
  repeat walk_at "st"
  refine n_Value ?_
  repeat (first | walk_at "st" | refine CmpP_seq ?_ | refine tF (by rcases hkd with e | e <;> (rw [e]; rfl)) ?_)
  repeat walk_at "st"
  refine c_drawS ho (by lia) hl (by decide) (by decide) fun d o1 h1 h2 h3 => ?_
  have hd : d = 0 ∨ d = 1 ∨ d = 2 := by lia
  rcases hd with rfl | rfl | rfl
  · repeat walk_at "st"
    refine tT rfl ?_
    repeat walk_at "st"
    refine WE_comp1 (by kernel_rfl) (by kernel_rfl) ?_
    repeat walk_at "st"
    repeat walk_at "st"
    refine c_some h3 (by lia) hl fun gs o' hG hne h3 => ?_
    have hgl := hG.len
    refine ⟨_, IterP_lst, ?_⟩
    refine CompL_each _ [] ((gs.map fun g => (g, V.lst [ruleV (.int g)])).map pairI) _ (fun _ => rfl) (by simp [iV]; lia) (by simp [iV]) ?_ ?_
    · intro i x y hx hy Q' hQ
      simp only [iV, List.getElem?_map, List.map_map] at hx hy
      cases hg : gs[i]? with
      | none => rw [hg] at hx; cases hx
      | some g =>
        rw [hg] at hx hy; cases hx; cases hy
        repeat (first | walk_at "st" | refine ⟨Nat.le_of_ble_eq_true rfl, ?_⟩ | refine n_Rule ?_)
        exact hQ
    · rw [List.nil_append]
      repeat walk_at "st"
      refine WC_dictG hG fun_keys ?_
      repeat walk_at "st"
      repeat walk_at "st"
      refine CmpP_seq ?_
      repeat walk_at "st"
      refine n_Contexts3 ?_
      exact h _ _ (tab1 hkd hG hne) (h3.le (by lia))
  · repeat walk_at "st"
    refine tF rfl ?_
    repeat walk_at "st"
    refine tT rfl ?_
    repeat walk_at "st"
    repeat walk_at "st"
    refine WE_dict0 ?_
    repeat walk_at "st"
    refine n_ClassDef ?_
    repeat walk_at "st"
    repeat walk_at "st"
    refine WE_comp1 (by kernel_rfl) (by kernel_rfl) ?_
    repeat walk_at "st"
    repeat walk_at "st"
    refine c_some h3 (by lia) hl fun cs o' hC _ h4 => ?_
    have hcl := hC.len
    refine ⟨_, IterP_lst, ?_⟩
    refine CompL_each _ [] ((cs.map fun g => (g, V.int 1)).map pairI) _ (fun _ => rfl) (by simp [iV]; lia) (by simp [iV]) ?_ ?_
    · intro i x y hx hy Q' hQ
      simp only [iV, List.getElem?_map, List.map_map] at hx hy
      cases hg : cs[i]? with
      | none => rw [hg] at hx; cases hx
      | some g =>
        rw [hg] at hx hy; cases hx; cases hy
        repeat (first | walk_at "st" | refine ⟨Nat.le_of_ble_eq_true rfl, ?_⟩)
        exact hQ
    · rw [List.nil_append]
      repeat walk_at "st"
      refine WC_dictG hC fun_keys ?_
      repeat walk_at "st"
      refine n_ClassDef ?_
      repeat walk_at "st"
      repeat walk_at "st"
      refine WE_dict0 ?_
      repeat walk_at "st"
      refine n_ClassDef ?_
      repeat (first | walk_at "st" | refine ⟨Nat.le_of_ble_eq_true rfl, ?_⟩)
      repeat walk_at "st"
      refine CmpP_seq ?_
      repeat walk_at "st"
      refine WE_dict ?_
      repeat (first | walk_at "st" | refine ⟨_, rfl, ?_⟩ | refine ⟨Nat.le_of_ble_eq_true rfl, ?_⟩ | refine n_Rule ?_)
      repeat walk_at "st"
      repeat walk_at "st"
      refine c_some h4 (by lia) hl fun gs o2 hG hne h5 => ?_
      repeat walk_at "st"
      refine c_coverage_of hG ?_
      repeat walk_at "st"
      refine n_Contexts5 ?_
      exact h _ _ (tab2 hkd hG hne) (h5.le (by lia))
  · repeat walk_at "st"
    refine tF rfl ?_
    repeat walk_at "st"
    refine tF rfl ?_
    repeat walk_at "st"
    repeat walk_at "st"
    refine CmpP_seq ?_
    repeat walk_at "st"
    refine WE_dict ?_
    repeat (first | walk_at "st" | refine ⟨_, rfl, ?_⟩ | refine ⟨Nat.le_of_ble_eq_true rfl, ?_⟩)
    repeat walk_at "st"
    repeat walk_at "st"
    refine c_some h3 (by lia) hl fun gs o2 hG hne h5 => ?_
    repeat walk_at "st"
    refine c_coverage_of hG ?_
    repeat (first | walk_at "st" | refine ⟨Nat.le_of_ble_eq_true rfl, ?_⟩ | refine n_Rule ?_)
    refine n_Contexts3 ?_
    exact h _ _ (tab3 hkd hG hne) (h5.le (by lia))
noncomputable def Keep (τ τ' : Sto) : Prop := ∀ a o, τ a = some o → τ' a = some o
theorem Keep.refl (τ : Sto) : Keep τ τ := fun _ _ h => h
theorem Keep.trans {a b c : Sto} (h : Keep a b) (g : Keep b c) : Keep a c := fun x o e => g x o (h x o e)
theorem Keep.set {τ : Sto} {a : Addr} {o : O} (h : τ a = none) : Keep τ (τ.set a o) := fun b o' e => by
  rw [Sto.set_ne _ _ (by rintro rfl; rw [h] at e; cases e)]; exact e
theorem Keep.set2 {τ τ' : Sto} {a : Addr} {o : O} (k : Keep τ τ') (h : τ a = none) : Keep τ (τ'.set a o) := fun b o' e => by
  rw [Sto.set_ne _ _ (by rintro rfl; rw [h] at e; cases e)]; exact k b o' e
noncomputable def loopF (F : List Rec → Nat → Int × List Rec) : Nat → List Rec → Nat → List Rec
  | 0, rs, _ => rs
  | n + 1, rs, i => loopF F n (F rs i).2 (i + 1)
structure RowOK (G : List (Int × V)) (cls : Nat → Int) (rs : List Rec) (i : Nat) : Prop where
  few : rs.length ≤ 5
  cl : ClsOK G cls rs
  gl : GlyOK rs
  msk : ∀ (j : Nat) r, rs[j]? = some r → r.mask = 1
  bd : ∀ (j : Nat) r, rs[j]? = some r → PyData.strOk r.bond = true
  fr : Fresh rs i
theorem RowOK.step {G : List (Int × V)} {cls : Nat → Int} {rs : List Rec} {i : Nat} {S : List Int} {F : FT} (h : RowOK G cls rs i) (f : FOK S F) (hi : i < rs.length) : RowOK G cls (F cls rs i).2 (i + 1) :=
  ⟨by rw [f.len]; exact h.few, fun j r e => by
    obtain ⟨r0, h1, h2, _⟩ := f.same cls rs i j r e
    rw [h2]; exact h.cl j r0 h1, fun j r e => by
    obtain ⟨r0, h1, h2, _⟩ := f.same cls rs i j r e
    rw [h2]; exact h.gl j r0 h1, fun j r e => by
    obtain ⟨r0, h1, _, h3, _⟩ := f.same cls rs i j r e
    rw [h3]; exact h.msk j r0 h1, fun j r e => by
    obtain ⟨r0, h1, _, _, h4⟩ := f.same cls rs i j r e
    exact h4 (h.bd j r0 h1), f.fresh cls rs i hi h.fr⟩
theorem updR_none {τ : Sto} {row : List V} {ds : List Addr} {rs : List Rec} {a : Addr} (L : RLay row ds rs.length) (h : updR τ ds rs a = none) : a ∉ ds ∧ τ a = none := by
  have h1 : a ∉ ds := by
    intro q
    obtain ⟨i, hi, e⟩ := List.mem_iff_getElem.mp q
    have e' : ds[i]? = some a := by rw [List.getElem?_eq_getElem hi, e]
    rw [updR_at L.nd e' (List.getElem?_eq_getElem (by have := L.dl; lia))] at h
    cases h
  exact ⟨h1, by rw [updR_off h1] at h; exact h⟩
theorem known_in {gs : List Int} {g : Int} : (lkI (gs.map fun g => (g, V.bool true)) g).isSome = decide (g ∈ gs) := by
  by_cases h : g ∈ gs
  · rw [decide_eq_true h]
    unfold lkI
    rw [Option.isSome_map, List.find?_isSome]
    exact ⟨_, List.mem_map.mpr ⟨g, h, rfl⟩, by simp⟩
  · rw [decide_eq_false h, lk_miss (by rw [const_keys]; exact h)]; rfl
noncomputable abbrev runB (kd : Str) (T : V) (G : List (Int × V)) (row : List V) (a : Addr) : Loc := [("buffer", bufV row), ("gdef", gdefV G), ("lookups", .lst [lk0, lkV kd T]), ("number", .int 1), ("mask", .int 1), ("lookup", lkV kd T), ("known", .ref a), ("table", T)]
noncomputable abbrev runL (kd : Str) (T : V) (G : List (Int × V)) (row : List V) (a s : Addr) (i : Nat) : Loc := [("buffer", bufV row), ("gdef", gdefV G), ("lookups", .lst [lk0, lkV kd T]), ("number", .int 1), ("mask", .int 1), ("lookup", lkV kd T), ("known", .ref a), ("table", T), ("scene", sceneV (bufV row) (gdefV G) (.lst [lk0, lkV kd T]) (lkV kd T) (.int 1) (.int 0) (.ref s)), ("at", .int i)]
inductive RunI (kd : Str) (T : V) (F : FT) (S : List Int) (G : List (Int × V)) (row : List V) (ds : List Addr) (rs : List Rec) (τ : Sto) (cls : Nat → Int) (a s : Addr) (n : Nat) (ρ : Loc) (σ' : Sto) : Prop
  | mk (i : Nat) (rs' : List Rec) (st : Int) : n = rs.length - i → i ≤ rs.length → rs'.length = rs.length → σ' = updR ((τ.set a (.dcI (S.map fun g => (g, V.bool true)))).set s (.lst [.int st])) ds rs' → loopF (F cls) (rs.length - i) rs' i = loopF (F cls) rs.length rs 0 → RowOK G cls rs' i →
      ρ = runL kd T G row a s i → RunI kd T F S G row ds rs τ cls a s n ρ σ'
theorem c_run_position {kd : Str} {T : V} {F : FT} {S : List Int} {G : List (Int × V)} {row : List V} {ds : List Addr} {rs : List Rec} {τ : Sto} {cls : Nat → Int} (hP : PosOK kd T F) (hF : FOK S F) (hB : BegOK kd T S) (hS : GS S) (hne : S ≠ []) (L : RLay row ds rs.length) (R : RowOK G cls rs 0)
    (h : ∀ τ', Keep τ τ' → Q .none (updR τ' ds (loopF (F cls) rs.length rs 0))) :
    WC (cx w B) (k + 12) (.glob 1011) [bufV row, gdefV G, .lst [lk0, lkV kd T], .int 1, .int 1] (updR τ ds rs) Q := by
  refine e_run_position ?_
  have hgl := hS.len
  have hrl := L.rl
  have hfew := R.few
  refine WB_cons ?_
  refine WS_assign ?_
  repeat walk_at "st"
  refine ⟨_, IxP_lst (i := 1) rfl, ?_⟩
  refine WA_local (by kernel_rfl!) ?_
  refine WB_cons ?_
  refine WS_assign ?_
  refine WE_dictM fun a ha => ?_
  obtain ⟨had, haτ⟩ := updR_none L ha
  rw [updR_out had]
  refine WA_local (by kernel_rfl!) ?_
  refine WB_cons ?_
  refine WS_for ?_
  repeat walk_at "st"
  refine ⟨_, IterP_lst, .inr (fun _ _ => rfl), ?_⟩
  refine (?_ : WA _ _ _ _ _ _ _ _)
  refine WA_local (by kernel_rfl!) ?_
  refine WB_cons ?_
  refine WS_for ?_
  repeat walk_at "st"
  repeat walk_at "st"
  refine WC.more (k := k + 3) (hB _ _ _ _ _ ?_) (by lia)
  refine ⟨_, IterP_lst, .inr (fun _ _ => rfl), ?_⟩
  refine ForL.ix (runB kd T G row a) (iV S) (fun j σ' => σ' = updR (τ.set a (.dcI ((S.take j).map fun g => (g, V.bool true)))) ds rs) ?_ ?_ rfl (by kernel_rfl)
  · rintro σ' rfl
    rw [iV_len, List.take_length]
    refine WB_nil ?_
    refine WB_nil ?_
    refine WB_nil ?_
    repeat walk_at "st"
    repeat walk_at "st"
    refine n_SceneM fun s hs => ?_
    obtain ⟨hsd, hsτ⟩ := updR_none L hs
    have hsa : s ≠ a := by rintro rfl; rw [Sto.set_at] at hsτ; cases hsτ
    rw [Sto.set_ne _ _ hsa] at hsτ
    rw [updR_out hsd]
    repeat walk_at "st"
    refine WS_whileW (RunI kd T F S G row ds rs τ cls a s) rs.length ⟨0, rs, 0, rfl, Nat.zero_le _, rfl, rfl, rfl, R, by kernel_rfl⟩ ?_
    rintro n ρ σ' ⟨i, rs', st, rfl, hi, hl, rfl, hlp, R', rfl⟩
    repeat walk_at "st"
    refine WC_len_lst (by lia) ?_
    repeat walk_at "st"
    have L' : RLay row ds rs'.length := by rw [hl]; exact L
    by_cases hlt : i < rs.length
    · refine tT (by simp; lia) ?_
      obtain ⟨r, hr⟩ : ∃ r, rs'[i]? = some r := ⟨_, List.getElem?_eq_getElem (by lia)⟩
      obtain ⟨xr, dr, hdr, hrow, hσ⟩ := L'.get (σ := (τ.set a (.dcI (S.map fun g => (g, V.bool true)))).set s (.lst [.int st])) hr
      have hka : updR ((τ.set a (.dcI (S.map fun g => (g, V.bool true)))).set s (.lst [.int st])) ds rs' a = some (.dcI (S.map fun g => (g, V.bool true))) := by
        rw [updR_off had, Sto.set_ne _ _ (Ne.symm hsa), Sto.set_at]
      have hmk := R'.msk i r hr
      obtain ⟨hcl1, hcl2⟩ := R'.cl i r hr
      have hfuel : rs.length - i = (rs.length - (i + 1)) + 1 := by lia
      rw [hfuel] at hlp
      repeat walk_at "st"
      refine ⟨_, IxP_lst hrow (by lia), ?_⟩
      repeat walk_at "st"
      refine CmpP_inRef hka ?_
      rw [known_in]
      by_cases hin : r.glyph ∈ S
      · refine tT (by simpa using hin) ?_
        repeat walk_at "st"
        rw [hmk]
        refine tT (by decide +kernel) ?_
        repeat walk_at "st"
        repeat walk_at "st"
        refine c_passes (by lia) hrow hσ hcl1 hcl2 (.inl rfl) ?_
        repeat walk_at "st"
        refine tT rfl ?_
        repeat walk_at "st"
        refine tT rfl ?_
        repeat walk_at "st"
        repeat walk_at "st"
        refine WC.more (k := k + 10) (hP _ _ _ _ G row ds rs' _ i cls s st L' R'.few R'.cl R'.gl (by lia) R'.fr hsd (Sto.set_at ..) fun n' => ?_) (by lia)
        rw [Sto.set_set]
        repeat walk_at "st"
        refine WC_max ?_
        have e : (if (i : Int) + 1 > (F cls rs' i).1 then (i : Int) + 1 else (F cls rs' i).1) = ((i + 1 : Nat) : Int) := by
          rcases hF.val cls rs' i with e | e
          · rw [e, if_pos (by lia)]; rfl
          · rw [e, if_neg (by lia)]
        rw [e]
        repeat walk_at "st"
        exact ⟨rs.length - (i + 1), _, by lia, SubL.app (l := runL kd T G row a s (i + 1)) [("found", .int (F cls rs' i).1), ("info", _)], i + 1, _, n', rfl, by lia, by rw [hF.len]; exact hl, rfl, hlp, R'.step hF (by lia), rfl⟩
      · have hmiss := hF.miss cls rs' i r hr hin
        refine tF (by simpa using hin) ?_
        refine tF rfl ?_
        repeat walk_at "st"
        refine WC_max ?_
        have e : (if (i : Int) + 1 > -1 then (i : Int) + 1 else -1) = ((i + 1 : Nat) : Int) := by
          rw [if_pos (by lia)]; rfl
        rw [e]
        repeat walk_at "st"
        have hlp' : loopF (F cls) (rs.length - (i + 1)) rs' (i + 1) = loopF (F cls) rs.length rs 0 := by
          rw [← hlp]
          show _ = loopF (F cls) (rs.length - (i + 1)) (F cls rs' i).2 (i + 1)
          rw [hmiss]
        have Rs := R'.step hF (by lia : i < rs'.length)
        rw [hmiss] at Rs
        exact ⟨rs.length - (i + 1), _, by lia, SubL.app (l := runL kd T G row a s (i + 1)) [("found", .int (-1)), ("info", _)], i + 1, rs', st, rfl, by lia, hl, rfl, hlp', Rs, rfl⟩
    · refine tF (by simp; lia) ?_
      repeat walk_at "st"
      have hz : rs.length - i = 0 := by lia
      rw [hz] at hlp
      have := h ((τ.set a (.dcI (S.map fun g => (g, V.bool true)))).set s (.lst [.int st])) ((Keep.set haτ).set2 hsτ)
      rw [← hlp] at this
      exact this
  · rintro j x σ' hx rfl
    obtain ⟨g, hg, rfl⟩ := iV_get hx
    refine WA_local (by kernel_rfl!) ?_
    repeat walk_at "st"
    refine WA_sub ?_
    repeat walk_at "st"
    refine ⟨_, StIP_dcI (by rw [updR_off had]; exact Sto.set_at ..) (known_few hgl), ?_⟩
    rw [updR_out had, Sto.set_set]
    repeat walk_at "st"
    exact ⟨SubL.app (l := runB kd T G row a) [("glyph", .int g)], by rw [stI_known hS.up hg]⟩
noncomputable def toldV (r : Rec) : V := .tup [.tup [.int r.glyph, .int r.cluster, .int r.xAdv, .int r.yAdv, .int r.xOff, .int r.yOff], .int r.parent, .str r.bond, .bool r.uns]
noncomputable def toldD (r : Rec) : PyData := .tuple [.tuple [.int r.glyph, .int r.cluster, .int r.xAdv, .int r.yAdv, .int r.xOff, .int r.yOff], .int r.parent, .str r.bond, .bool r.uns]
structure RowIn (σ : Sto) (row : List V) (rs : List Rec) : Prop where
  len : row.length = rs.length
  at_ : ∀ (i : Nat) r, rs[i]? = some r → ∃ x d, row[i]? = some (.obj 135 x d) ∧ σ d = some (.flds (recF r))
theorem RLay.rowIn {row : List V} {ds : List Addr} {rs : List Rec} (L : RLay row ds rs.length) : RowIn (updR σ ds rs) row rs := ⟨L.rl, fun i r h => by
  obtain ⟨x, d, _, h2, h3⟩ := L.get (σ := σ) h
  exact ⟨x, d, h2, h3⟩⟩
theorem RowIn.keep {σ σ' : Sto} {row : List V} {rs : List Rec} (h : RowIn σ row rs) (k : Keep σ σ') : RowIn σ' row rs := ⟨h.len, fun i r e => by
  obtain ⟨x, d, h1, h2⟩ := h.at_ i r e
  exact ⟨x, d, h1, k _ _ h2⟩⟩
theorem c_told {row : List V} {rs : List Rec} (R : RowIn σ row rs) (hf : rs.length ≤ 100) (h : Q (.lst (rs.map toldV)) σ) : WC (cx w B) (k + 2) (.glob 1152) [bufV row] σ Q := by
  refine e_law_told ?_
  have hl := R.len
  repeat walk_at "st"
  refine WE_comp1 (by kernel_rfl) (by kernel_rfl) ?_
  repeat walk_at "st"
  refine ⟨_, IterP_lst, ?_⟩
  refine CompL_each _ [] (rs.map toldV) _ (fun _ => rfl) (by simp; lia) (by simp; lia) ?_ h
  intro i x y hx hy Q' hQ
  rw [List.getElem?_map] at hy
  cases hr : rs[i]? with
  | none => rw [hr] at hy; cases hy
  | some r =>
    rw [hr] at hy; cases hy
    obtain ⟨xo, d, h1, h2⟩ := R.at_ i r hr
    rw [hx] at h1; cases h1
    repeat walk_at "st"
    refine ⟨_, MetP_obj m_Info_told.1 h2 rfl, m_Info_told.2, ?_⟩
    refine c_info_told h2 ?_
    repeat walk_at "st"
    refine ⟨by show 4 ≤ 16777216; decide, ?_⟩
    exact hQ
theorem dVs_told : ∀ (rs : List Rec), dVs (rs.map toldV) = some (rs.map toldD)
  | [] => rfl
  | r :: rs => dVs_some rfl (dVs_told rs)
theorem lay_told : ∀ (rs : List Rec), (∀ (j : Nat) r, rs[j]? = some r → PyData.strOk r.bond = true) → PyData.canLayAll0 (rs.map toldD) = true
  | [], _ => rfl
  | r :: rs, h => by
    have h0 := h 0 r rfl
    have h1 := lay_told rs fun j r e => h (j + 1) r e
    simp [PyData.canLayAll0, PyData.canLay0, toldD, h0, h1]
theorem depth_all : ∀ (rs : List Rec), (PyData.list (rs.map toldD)).depth ≤ 60
  | [] => by decide +kernel
  | r :: rs => by
    have := depth_all rs
    simp only [List.map_cons, PyData.depth, PyData.depthAll, toldD] at this ⊢
    lia
theorem eq_told {rs : List Rec} (hb : ∀ (j : Nat) r, rs[j]? = some r → PyData.strOk r.bond = true) {K : Bool → Prop} (h : K true) : CmpP (cx w B) .Eq (.lst (rs.map toldV)) (.lst (rs.map toldV)) σ K := by
  have hl := lay_list (lay_told rs hb)
  refine CmpP_eqD (da := .list (rs.map toldD)) (db := .list (rs.map toldD)) (dV_lst (dVs_told _)) (dV_lst (dVs_told _)) hl hl (Nat.le_trans (Nat.min_le_left _ _) (depth_all rs)) ?_
  rw [SeqAt.eqv_refl _ hl]
  exact h
theorem ne_told {rs : List Rec} (hb : ∀ (j : Nat) r, rs[j]? = some r → PyData.strOk r.bond = true) {K : Bool → Prop} (h : K false) : CmpP (cx w B) .NotEq (.lst (rs.map toldV)) (.lst (rs.map toldV)) σ K := by
  have hl := lay_list (lay_told rs hb)
  refine CmpP_neD (da := .list (rs.map toldD)) (db := .list (rs.map toldD)) (dV_lst (dVs_told _)) (dV_lst (dVs_told _)) hl hl (Nat.le_trans (Nat.min_le_left _ _) (depth_all rs)) ?_
  rw [SeqAt.eqv_refl _ hl]
  exact h
noncomputable def rec0 (g c : Int) : Rec := { glyph := g, cluster := c, mask := 0, uns := false, ligId := 0, ligPart := 0, xAdv := 0, yAdv := 0, xOff := 0, yOff := 0, parent := 0, bond := "" }
theorem n_InfoO {g c : Int} (h : ∀ x d, σ d = .none → Q (.obj 135 x d) (σ.set d (.flds (recF (rec0 g c))))) : WC (cx w B) (k + 2) (.glob 135) [.int 65, .int g, .int c] σ Q :=
  WC_class (fI := 118) (by kernel_rfl) (by kernel_rfl) (by kernel_rfl) (fun ox od hd => e_Info_newc (by
    repeat (first | walk_at "st" | (refine WA_self ?_; refine WE_local (by kernel_rfl!) rfl ?_; refine ⟨_, _, rfl, rfl, by kernel_rfl, by kernel_rfl, ?_⟩))
    exact ⟨rfl, h ox od hd⟩))
theorem c_copied {r : Rec} {x0 d0 : Addr} (hσ : σ d0 = some (.flds (recF r))) (h : ∀ x d, σ d = .none → Q (.obj 135 x d) (σ.set d (.flds (recF r)))) : WC (cx w B) (k + 3) (.glob 125) [.obj 135 x0 d0] σ Q := by
  refine e_Info_copied ?_
  repeat walk_at "st"
  repeat walk_at "st"
  refine n_InfoO fun x d hd => ?_
  have hkey : ∀ fs, (σ.set d (.flds fs)) d0 = some (.flds (recF r)) := fun fs => by
    rw [Sto.set_ne _ _ (by rintro rfl; rw [hd] at hσ; cases hσ)]; exact hσ
  repeat (first | walk_at "st" | (refine AtE_obj (getOf ok_135 (by kernel_rfl)) (hkey _) rfl ?_) | (refine WA_self ?_; refine WE_local (by kernel_rfl!) rfl ?_; refine ⟨_, _, rfl, rfl, by kernel_rfl, by kernel_rfl, ?_⟩))
  exact h x d hd
theorem c_law_pen {a : Addr} {o : Obj} {vs : Array Value} {n : Nat} {ns : List Int} (hB : B.get? a = some o) (hc : o.cls = .type "list") (hd : o.data = .seq vs n) (hi : IntsAre vs.toList ns) (hl : ns.length ≤ 1000)
    (h : ∀ p, σ p = .none → Q (.ref p) (σ.set p (.lst [.lst (iV (ns.take 40)), .int 0, .int 0]))) : WC (cx w B) (k + 1) (.glob 1111) [.ref a] σ Q := by
  refine e_law_pen ?_
  try refine WB_cons ?_
  try refine WS_return ?_
  refine WE_listM ?_
  repeat walk_at "st"
  refine WE_comp1 (by kernel_rfl) (by kernel_rfl) ?_
  refine WE_sliceB (m := 40) hB hc hd hi hl ?_
  repeat walk_at "st"
  refine ⟨rfl, ?_⟩
  repeat walk_at "st"
  refine ⟨rfl, ?_⟩
  refine ⟨_, IterP_lst, ?_⟩
  have hn : (ns.take 40).length ≤ 40 := by rw [List.length_take]; lia
  refine CompL_each _ [] (iV (ns.take 40)) _ (fun _ => rfl) (by rw [iV_len]; simp; lia) rfl ?_ ?_
  · intro i x y hx hy Q' hQ
    rw [hx] at hy; cases hy
    unfold iV at hx
    rw [List.getElem?_map] at hx
    cases hg : (ns.take 40)[i]? with
    | none => rw [hg] at hx; cases hx
    | some g =>
      rw [hg] at hx; cases hx
      repeat walk_at "st"
      exact WC_int hQ
  · rw [List.nil_append]
    repeat walk_at "st"
    refine ⟨by show 3 ≤ 16777216; decide, fun p hp => ?_⟩
    exact h p hp
theorem updR_snoc {τ : Sto} {d : Addr} {r : Rec} : ∀ {ds : List Addr} {rs : List Rec}, ds.length = rs.length → d ∉ ds → updR τ (ds ++ [d]) (rs ++ [r]) = (updR τ ds rs).set d (.flds (recF r))
  | [], [], _, _ => rfl
  | [], _ :: _, h, _ => by simp at h
  | _ :: _, [], h, _ => by simp at h
  | e :: ds, q :: rs, h, hd => by
    rw [List.mem_cons, not_or] at hd
    show (updR τ (ds ++ [d]) (rs ++ [r])).set e _ = ((updR τ ds rs).set e _).set d _
    rw [updR_snoc (by simpa using h) hd.2, Sto.set_comm _ hd.1]
theorem keep_upd {τ : Sto} : ∀ {ds : List Addr} {rs : List Rec}, (∀ d ∈ ds, τ d = none) → Keep τ (updR τ ds rs)
  | [], _, _ => Keep.refl _
  | _ :: _, [], _ => Keep.refl _
  | d :: ds, r :: rs, h => (keep_upd (rs := rs) fun e he => h e (List.mem_cons_of_mem _ he)).set2 (h d List.mem_cons_self)
theorem RLay.snoc {row : List V} {ds : List Addr} {n : Nat} {x d : Addr} (L : RLay row ds n) (hd : d ∉ ds) : RLay (row ++ [.obj 135 x d]) (ds ++ [d]) (n + 1) :=
  ⟨by simp [L.rl], by simp [L.dl], List.nodup_append.mpr ⟨L.nd, List.nodup_cons.mpr ⟨List.not_mem_nil, List.nodup_nil⟩, fun a ha b hb => by rw [List.mem_singleton.mp hb]; rintro rfl; exact hd ha⟩, fun i e h => by
    rw [List.getElem?_append] at h ⊢
    rw [L.rl]
    rw [L.dl] at h
    split at h
    · rename_i hi
      rw [if_pos hi]
      exact L.at_ i e h
    · rename_i hi
      rw [if_neg hi]
      have hz : i - n = 0 := by
        rcases Nat.eq_zero_or_pos (i - n) with q | q
        · exact q
        · rw [List.getElem?_eq_none (by simp; lia)] at h; cases h
      rw [hz] at h ⊢
      simp at h
      exact ⟨x, by simp [h]⟩⟩
inductive CopyI (rs : List Rec) (σ : Sto) (j : Nat) (acc : List V) (σ' : Sto) : Prop
  | mk (ds : List Addr) : RLay acc ds j → (∀ d ∈ ds, σ d = none) → σ' = updR σ ds (rs.take j) → CopyI rs σ j acc σ'
theorem CompL_copies {sc : Scope} {elt : Expr} {QL : List V → Sto → Prop} {ρ₀ : Loc} {row0 : List V} {rs : List Rec} (R : RowIn σ row0 rs) (hl : rs.length ≤ 100)
    (he : ∀ (x0 d0 : Addr) (r : Rec) (σ' : Sto) (Q' : V → Sto → Prop), σ' d0 = some (.flds (recF r)) → (∀ x d, σ' d = none → Q' (.obj 135 x d) (σ'.set d (.flds (recF r)))) → WE (cx w B) k sc (putF "one" (.obj 135 x0 d0) ρ₀) elt σ' Q')
    (h : ∀ row ds, RLay row ds rs.length → (∀ d ∈ ds, σ d = none) → QL row (updR σ ds rs)) : CompL (cx w B) k sc "one" [] (stepE (cx w B) k sc elt) (fun a _ s => QL a s) row0 [] ρ₀ σ := by
  have hlen := R.len
  refine CompL.ix ρ₀ row0 (CopyI rs σ) ?_ ?_ _ ⟨[], ⟨rfl, rfl, List.nodup_nil, fun i d e => by simp at e⟩, fun d hd => absurd hd List.not_mem_nil, rfl⟩ rfl
  · rintro acc ρ σ' ⟨ds, L, hd, rfl⟩
    rw [hlen, List.take_length]
    exact h acc ds (hlen ▸ L) hd
  · rintro j x acc σ' hx ⟨ds, L, hd, rfl⟩
    have hjl : j < rs.length := hlen ▸ (List.getElem?_eq_some_iff.mp hx).1
    have hj := Nat.le_of_lt hjl
    have hr : rs[j]? = some rs[j] := List.getElem?_eq_getElem hjl
    obtain ⟨x0, d0, h1, h2⟩ := R.at_ j _ hr
    rw [h1] at hx; cases hx
    have hl2 := L.rl
    refine ⟨fun _ => ⟨by lia, ?_⟩, fun e => nomatch e⟩
    refine he x0 d0 rs[j] _ _ ((keep_upd hd) _ _ h2) fun x d hdn => ?_
    have hnd : d ∉ ds ∧ σ d = none := by
      have hL' : RLay acc ds (rs.take j).length := by rw [List.length_take, Nat.min_eq_left hj]; exact L
      exact updR_none hL' hdn
    refine ⟨ds ++ [d], L.snoc hnd.1, fun e he => ?_, ?_⟩
    · rcases List.mem_append.mp he with q | q
      · exact hd e q
      · rw [List.mem_singleton.mp q]; exact hnd.2
    · rw [← updR_snoc (by rw [L.dl, List.length_take, Nat.min_eq_left hj]) hnd.1]
      congr 1
      rw [List.take_succ, hr]; rfl
theorem n_Gdef {G : List (Int × V)} (h : Q (gdefV G) σ) : WC (cx w B) (k + 2) (.glob 1102) [vClassDef (.dcI G), vClassDef (.dcI []), .lst []] σ Q :=
  WC_new (fI := 1073) (by kernel_rfl) (by kernel_rfl) (by kernel_rfl) (fun ox od hd => e_Gdef_new3c (by
    repeat (first | walk_at "st" | refine CmpP_is ?_ | refine tT rfl ?_ | refine WE_dict0 ?_ | (refine WA_self ?_; refine WE_local (by kernel_rfl!) rfl ?_; refine ⟨_, _, rfl, rfl, by kernel_rfl, by kernel_rfl, ?_⟩))
    exact ⟨rfl, by kernel_rfl⟩)) h
theorem dVl (ns : List Int) : dV (.lst (iV ns)) = some (.list (ns.map .int)) := dV_lst (dV_iV ns)
theorem depth_ints : ∀ (ns : List Int), (PyData.list (ns.map .int)).depth ≤ 60
  | [] => by decide +kernel
  | n :: r => by
    have := depth_ints r
    simp only [List.map_cons, PyData.depth, PyData.depthAll] at this ⊢
    lia
theorem shaped_ints (ns : List Int) : SeqAt.shaped (.list (ns.map .int)) = true := by
  unfold SeqAt.shaped
  rw [Bool.and_eq_true]
  exact ⟨lay_list (lay_ints _), decide_eq_true (Nat.le_trans (depth_ints ns) (by decide))⟩
theorem noMix_ints {g : Int} {ns : List Int} : ∀ y ∈ ns.map PyData.int, SeqAt.noMix y (.int g) = true := fun y hy => by
  obtain ⟨n, _, rfl⟩ := List.mem_map.mp hy
  rfl
theorem count_in {g : Int} {ns : List Int} : decide (Spec.countIn (.int g) (ns.map .int) ≠ 0) = decide (g ∈ ns) := by
  rw [countIn_ints_count, decide_eq_decide]
  have := List.count_pos_iff (a := g) (l := ns)
  constructor
  · intro h; exact this.mp (by lia)
  · intro h; have := this.mpr h; lia
theorem in_ints {c : Cx} {K : Bool → Prop} {g : Int} {ns : List Int} (h : K (decide (g ∈ ns))) : CmpP c .In (.int g) (.lst (iV ns)) σ K :=
  CmpP_inD (d := .int g) (xs := ns.map .int) rfl (.inl (dVl ns)) (shaped_ints ns) rfl noMix_ints (by rw [count_in]; exact h)
theorem notin_ints {c : Cx} {K : Bool → Prop} {g : Int} {ns : List Int} (h : K (!decide (g ∈ ns))) : CmpP c .NotIn (.int g) (.lst (iV ns)) σ K :=
  CmpP_notinD (d := .int g) (xs := ns.map .int) rfl (.inl (dVl ns)) (shaped_ints ns) rfl noMix_ints (by rw [count_in]; exact h)
noncomputable abbrev LQ : Fl → Loc → Sto → Prop := fun fl _ _ => retV fl = .bool true
theorem loopF_len {S : List Int} {F : FT} (f : FOK S F) {cls : Nat → Int} : ∀ (n : Nat) (rs : List Rec) (i : Nat), (loopF (F cls) n rs i).length = rs.length
  | 0, _, _ => rfl
  | n + 1, rs, i => by
    show (loopF (F cls) n (F cls rs i).2 (i + 1)).length = _
    rw [loopF_len f n, f.len]
theorem Keep.over {σ τ : Sto} {ds : List Addr} {rs : List Rec} (k : Keep σ τ) (h : ∀ d ∈ ds, σ d = none) : Keep σ (updR τ ds rs) := fun a o e => by
  rw [updR_off (fun q => by rw [h a q] at e; cases e)]; exact k a o e
theorem Keep.none {σ τ : Sto} (k : Keep σ τ) {a : Addr} (h : τ a = .none) : σ a = .none := by
  cases q : σ a with
  | none => rfl
  | some o => rw [k a o q] at h; cases h
theorem Fresh.any {rs : List Rec} (h : Fresh rs 0) (j : Nat) : Fresh rs j := ⟨fun i r _ e => h.zero i r (Nat.zero_le _) e, fun i r _ e => by rw [h.zero i r (Nat.zero_le _) e]; lia⟩
noncomputable abbrev segL (sv pv mv : V) (kd : Str) (T : V) (S : List Int) (G : List (Int × V)) (row0 row : List V) (rs : List Rec) : Loc := [("script", sv), ("pen", pv), ("kind", .str kd), ("table", T), ("heard", .lst (iV S)), ("infos", .lst row0), ("marks", mv), ("gdef", gdefV G), ("lookups", .lst [lk0, lkV kd T]), ("buffer", bufV row), ("before", .lst (rs.map toldV))]
noncomputable abbrev segW (sv pv mv : V) (kd : Str) (T : V) (S : List Int) (G : List (Int × V)) (row0 row row2 : List V) (rs : List Rec) (i : Int) : Loc := [("script", sv), ("pen", pv), ("kind", .str kd), ("table", T), ("heard", .lst (iV S)), ("infos", .lst row0), ("marks", mv), ("gdef", gdefV G), ("lookups", .lst [lk0, lkV kd T]), ("buffer", bufV row), ("before", .lst (rs.map toldV)), ("at", .int i), ("other", bufV row2)]
inductive SegJ (σ : Sto) (ds : List Addr) (rs : List Rec) (j : Nat) (σ' : Sto) : Prop
  | mk (τ' : Sto) : σ' = updR τ' ds rs → Keep σ τ' → SegJ σ ds rs j σ'
inductive SegI (sv pv mv : V) (kd : Str) (T : V) (F : FT) (S : List Int) (G : List (Int × V)) (row0 row row2 : List V) (rs rsA : List Rec) (cls : Nat → Int) (ds2 : List Addr) (τ : Sto) (n : Nat) (ρ : Loc) (σ' : Sto) : Prop
  | mk (i : Nat) (rs' : List Rec) (τ' : Sto) : n = rs.length - i → i ≤ rs.length → rs'.length = rs.length → σ' = updR τ' ds2 rs' → Keep τ τ' → loopF (F cls) (rs.length - i) rs' i = rsA → RowOK G cls rs' i →
      ρ = segW sv pv mv kd T S G row0 row row2 rs i → SegI sv pv mv kd T F S G row0 row row2 rs rsA cls ds2 τ n ρ σ'
theorem segC {kd : Str} {T : V} {F : FT} {S : List Int} {G : List (Int × V)} {row0 : List V} {rs : List Rec} {cls : Nat → Int} {sv pv mv : V} (hP : PosOK kd T F) (hF : FOK S F) (hB : BegOK kd T S) (hS : GS S) (hne : S ≠ []) (R0 : RowIn σ row0 rs) (RO : RowOK G cls rs 0) :
    vB (cx w B) (k + 14) (fnAt 127).scope 50 ((fnAt 127).body.drop 10) [("script", sv), ("pen", pv), ("kind", .str kd), ("table", T), ("heard", .lst (iV S)), ("infos", .lst row0), ("marks", mv), ("gdef", gdefV G), ("lookups", .lst [lk0, lkV kd T])] σ LQ := by
  have hfew := RO.few
  have hl0 := R0.len
  repeat walk_at "st"
  repeat walk_at "st"
  refine WE_comp1 (by kernel_rfl) (by kernel_rfl) ?_
  repeat walk_at "st"
  refine ⟨_, IterP_lst, ?_⟩
  refine CompL_copies R0 (by lia) (fun x0 d0 r σ' Q' h2 hQ => ?_) (fun row ds L hds => ?_)
  · repeat walk_at "st"
    refine ⟨_, MetP_obj m_Info_copied.1 h2 rfl, m_Info_copied.2, ?_⟩
    exact c_copied h2 hQ
  repeat walk_at "st"
  refine n_Buffer ?_
  repeat walk_at "st"
  repeat walk_at "st"
  refine c_told L.rowIn (by lia) ?_
  try refine WA_local (by kernel_rfl!) ?_
  try refine WB_cons ?_
  refine WS_forE (by kernel_rfl!) (by kernel_rfl) ?_
  repeat walk_at "st"
  refine ⟨_, rfl, ?_⟩
  have hL := L.rl
  refine ForL.ix (segL sv pv mv kd T S G row0 row rs) (enumV 0 row0) (SegJ σ ds rs) ?_ ?_ ⟨σ, rfl, Keep.refl _⟩ (by kernel_rfl)
  · rintro σ' ⟨τ1, rfl, hk1⟩
    refine WB_nil ?_
    repeat walk_at "st"
    repeat walk_at "st"
    refine c_told L.rowIn (by lia) ?_
    repeat walk_at "st"
    refine ne_told RO.bd ?_
    refine tF rfl ?_
    repeat walk_at "st"
    repeat walk_at "st"
    refine WC.more (k := k + 12) (c_run_position hP hF hB hS hne L RO fun τ2 hk2 => ?_) (by lia)
    refine ⟨rfl, ?_⟩
    have hk12 := hk1.trans hk2
    have hlA : (loopF (F cls) rs.length rs 0).length = rs.length := loopF_len hF _ _ _
    have LA : RLay row ds (loopF (F cls) rs.length rs 0).length := by rw [hlA]; exact L
    generalize hA : loopF (F cls) rs.length rs 0 = rsA at *
    repeat walk_at "st"
    refine WS_swap2 (by kernel_rfl!) (by kernel_rfl!) (fun env b => by
      obtain ⟨e1, e2, e3, e4, e5, e6⟩ := env
      have := b.scope
      dsimp only at this
      subst this
      kernel_rfl) ?_
    repeat walk_at "st"
    refine (vF_ok 40).E ?_
    walk_at "nw"
    refine WE_comp1 (by kernel_rfl) (by kernel_rfl) ?_
    repeat walk_at "st"
    refine ⟨_, IterP_lst, ?_⟩
    refine CompL_copies (R0.keep (hk12.over hds)) (by lia) (fun x0 d0 r σ' Q' h2 hQ => ?_) (fun row2 ds2 L2 hds2 => ?_)
    · repeat walk_at "st"
      refine ⟨_, MetP_obj m_Info_copied.1 h2 rfl, m_Info_copied.2, ?_⟩
      exact c_copied h2 hQ
    repeat walk_at "st"
    refine n_Buffer ?_
    repeat walk_at "st"
    refine ⟨by show 2 ≤ 16777216; decide, ?_⟩
    refine ⟨_, _, rfl, ?_⟩
    repeat walk_at "st"
    have hL2 := L2.rl
    refine WS_whileW (SegI sv pv mv kd T F S G row0 row row2 rs rsA cls ds2 (updR τ2 ds rsA)) rs.length
      ⟨0, rs, _, rfl, Nat.zero_le _, rfl, rfl, Keep.refl _, hA, RO, by kernel_rfl⟩ ?_
    rintro n ρ σ' ⟨i, rs', τ', rfl, hi, hl, rfl, hk', hlp, R', rfl⟩
    have L2' : RLay row2 ds2 rs'.length := by rw [hl]; exact L2
    repeat walk_at "st"
    refine WC_len_lst (by lia) ?_
    repeat walk_at "st"
    by_cases hlt : i < rs.length
    · refine tT (by simp; lia) ?_
      have hfuel : rs.length - i = (rs.length - (i + 1)) + 1 := by lia
      rw [hfuel] at hlp
      repeat walk_at "st"
      repeat walk_at "st"
      repeat walk_at "st"
      refine ⟨_, IxP_lst (i := 1) rfl, ?_⟩
      repeat walk_at "st"
      refine n_SceneM fun s hs => ?_
      obtain ⟨hsd, hsτ⟩ := updR_none L2' hs
      rw [updR_out hsd]
      repeat walk_at "st"
      refine WC.more (k := k + 10) (hP _ _ _ _ G row2 ds2 rs' _ i cls s 0 L2' R'.few R'.cl R'.gl (by lia) R'.fr hsd (Sto.set_at ..) fun n' => ?_) (by lia)
      rw [Sto.set_set]
      repeat walk_at "st"
      have hkk : Keep (updR τ2 ds rsA) (τ'.set s (.lst [.int n'])) := hk'.set2 (hk'.none hsτ)
      rcases hF.val cls rs' i with e | e
      · rw [e]
        refine tF (by simp <;> lia) ?_
        repeat walk_at "st"
        exact ⟨rs.length - (i + 1), _, by lia, SubL.of (l := segW sv pv mv kd T S G row0 row row2 rs ((i : Int) + 1)) [("found", .int (-1))] (by kernel_rfl!), i + 1, _, _, rfl, by lia, by rw [hF.len]; exact hl, rfl, hkk, hlp, R'.step hF (by lia), rfl⟩
      · rw [e]
        refine tT (by simp <;> lia) ?_
        repeat walk_at "st"
        exact ⟨rs.length - (i + 1), _, by lia, SubL.of (l := segW sv pv mv kd T S G row0 row row2 rs ((i : Int) + 1)) [("found", .int ((i : Int) + 1))] (by kernel_rfl!), i + 1, _, _, rfl, by lia, by rw [hF.len]; exact hl, rfl, hkk, hlp, R'.step hF (by lia), rfl⟩
    · refine tF (by simp; lia) ?_
      have hz : rs.length - i = 0 := by lia
      rw [hz] at hlp
      have hlp' : rs' = rsA := hlp
      subst hlp'
      repeat walk_at "st"
      repeat walk_at "st"
      refine c_told (LA.rowIn.keep (hk'.over hds2)) (by lia) ?_
      repeat walk_at "st"
      repeat walk_at "st"
      refine c_told L2'.rowIn (by lia) ?_
      refine eq_told R'.bd ?_
      rfl
  · rintro j x σ' hi ⟨τ1, rfl, hk1⟩
    have hjl : j < rs.length := by
      have := (List.getElem?_eq_some_iff.mp hi).1
      rw [enumV_len] at this; lia
    have hr : rs[j]? = some rs[j] := List.getElem?_eq_getElem hjl
    generalize rs[j] = r at hr
    obtain ⟨x0, d0, h1, h2⟩ := R0.at_ j r hr
    rw [enumV_at row0 0 j _ h1, Nat.zero_add] at hi
    cases hi
    have hx : updR τ1 ds rs d0 = some (.flds (recF r)) := (hk1.over hds) _ _ h2
    refine WA_tuple ⟨_, rfl, rfl, ?_⟩
    refine WA_local (by kernel_rfl!) ?_
    refine WA_local (by kernel_rfl!) ?_
    repeat walk_at "st"
    refine WS_if ?_
    repeat walk_at "st"
    refine notin_ints ?_
    by_cases hin : r.glyph ∈ S
    · refine tF (by simpa using hin) ?_
      refine tF rfl ?_
      repeat walk_at "st"
      exact ⟨SubL.of (l := segL sv pv mv kd T S G row0 row rs) [("at", .int (j : Nat)), ("one", .obj 135 x0 d0)] (by kernel_rfl!), τ1, rfl, hk1⟩
    · refine tT (by simpa using hin) ?_
      have hmiss := hF.miss cls rs j r hr hin
      repeat walk_at "st"
      repeat walk_at "st"
      repeat walk_at "st"
      refine ⟨_, IxP_lst (i := 1) rfl, ?_⟩
      repeat walk_at "st"
      refine n_SceneM fun s hs => ?_
      obtain ⟨hsd, hsτ⟩ := updR_none L hs
      rw [updR_out hsd]
      repeat walk_at "st"
      refine WC.more (k := k + 10) (hP _ _ _ _ G row ds rs _ j cls s 0 L RO.few RO.cl RO.gl hjl (RO.fr.any j) hsd (Sto.set_at ..) fun n' => ?_) (by lia)
      rw [Sto.set_set, hmiss]
      repeat walk_at "st"
      refine tF rfl ?_
      refine tF rfl ?_
      repeat walk_at "st"
      exact ⟨SubL.of (l := segL sv pv mv kd T S G row0 row rs) [("at", .int (j : Nat)), ("one", .obj 135 x0 d0)] (by kernel_rfl!), _, rfl, hk1.set2 (hk1.none hsτ)⟩
noncomputable def GoodR (r : Rec) : Prop := 0 ≤ r.glyph ∧ r.glyph < 8 ∧ r.mask = 1 ∧ r.parent = 0 ∧ PyData.strOk r.bond = true
theorem gsAll : GS allG := ⟨by decide, by decide⟩
theorem lk_all {f : Int → V} {g : Int} (h : 0 ≤ g ∧ g < 8) : lkI (allG.map fun g => (g, f g)) g = some (f g) := by
  have : g = 0 ∨ g = 1 ∨ g = 2 ∨ g = 3 ∨ g = 4 ∨ g = 5 ∨ g = 6 ∨ g = 7 := by lia
  rcases this with rfl | rfl | rfl | rfl | rfl | rfl | rfl | rfl <;> rfl
noncomputable def mcl (ms : List Int) (g : Int) : Int := if g ∈ ms then 3 else 1
inductive MarkI (cells : List Int) (N : Nat) (p : Addr) (σ : Sto) (ds : List Addr) (rs : List Rec) (j : Nat) (acc : List V) (σ' : Sto) : Prop
  | mk (gs : List Int) (o' : O) : acc = iV gs → gs.length ≤ j → PenS cells (N + j) o' → σ' = updR (σ.set p o') ds rs → MarkI cells N p σ ds rs j acc σ'
theorem segB2 {kd : Str} {T : V} {F : FT} {S : List Int} {row : List V} {ds : List Addr} {rs : List Rec} {p : Addr} {cells : List Int} {N : Nat} {o : O} {sv : V} (hP : PosOK kd T F) (hF : FOK S F) (hB : BegOK kd T S) (hS : GS S) (hne : S ≠ [])
    (ho : PenS cells N o) (hN : N ≤ 5000) (hcl : cells.length ≤ 40) (L : RLay row ds rs.length) (hf : rs.length ≤ 5) (hp : p ∉ ds) (hG : ∀ (i : Nat) r, rs[i]? = some r → GoodR r) :
    vB (cx w B) (k + 14) (fnAt 127).scope 53 ((fnAt 127).body.drop 7) [("script", sv), ("pen", .ref p), ("kind", .str kd), ("table", T), ("heard", .lst (iV S)), ("infos", .lst row)] (updR (σ.set p o) ds rs) LQ := by
  show WS (cx w B) (k + 14) (fnAt 127).scope _ _ _ _
  refine WS_assign (hs := fun env n b => swaps_cell b (by kernel_rfl!)) ?_
  refine WE_comp1 (by kernel_rfl) (by kernel_rfl) ?_
  repeat walk_at "st"
  refine WC_range ?_
  refine ⟨_, IterP_rng (n := 8) (small5 (by decide)), ?_⟩
  refine CompL.rng [("script", sv), ("pen", .ref p), ("kind", .str kd), ("table", T), ("heard", .lst (iV S)), ("infos", .lst row)] 8 (MarkI cells N p σ ds rs) ?_ ?_ _ ⟨[], o, rfl, Nat.le_refl _, ho, rfl⟩ (by kernel_rfl)
  · rintro acc ρ σ' ⟨ms, o', rfl, -, ho', rfl⟩
    try refine WA_cell (by kernel_rfl!) ?_
    repeat walk_at "st"
    repeat walk_at "st"
    repeat walk_at "st"
    refine WE_comp1 (by kernel_rfl) (by kernel_rfl) ?_
    repeat walk_at "st"
    refine WC_range ?_
    refine ⟨_, IterP_rng (n := 8) (small5 (by decide)), ?_⟩
    refine CompL_each _ [] ((allG.map fun g => (g, V.int (mcl ms g))).map pairI) _ (fun _ => rfl) (by decide) rfl ?_ ?_
    · intro i x y hx hy Q' hQ
      have hx' : (iV allG)[i]? = some x := hx
      simp only [iV, List.getElem?_map, List.map_map] at hx' hy
      cases hg : allG[i]? with
      | none => rw [hg] at hx'; cases hx'
      | some g =>
        rw [hg] at hx' hy; cases hx'; cases hy
        repeat walk_at "st"
        refine in_ints ?_
        by_cases hm : g ∈ ms
        · refine tT (by simpa using hm) ?_
          repeat walk_at "st"
          refine ⟨by show 2 ≤ 16777216; decide, ?_⟩
          have e : mcl ms g = 3 := if_pos hm
          simp only [Function.comp, pairI, e] at hQ
          exact hQ
        · refine tF (by simpa using hm) ?_
          repeat walk_at "st"
          refine ⟨by show 2 ≤ 16777216; decide, ?_⟩
          have e : mcl ms g = 1 := if_neg hm
          simp only [Function.comp, pairI, e] at hQ
          exact hQ
    · rw [List.nil_append]
      repeat walk_at "st"
      refine WC_dictG gsAll fun_keys ?_
      repeat walk_at "st"
      refine n_ClassDef ?_
      repeat walk_at "st"
      repeat walk_at "st"
      refine WE_dict0 ?_
      repeat walk_at "st"
      refine n_ClassDef ?_
      repeat walk_at "st"
      refine ⟨by show 0 ≤ 16777216; decide, ?_⟩
      repeat walk_at "st"
      refine n_Gdef ?_
      repeat walk_at "st"
      repeat walk_at "st"
      repeat walk_at "st"
      refine WE_comp1 (by kernel_rfl) (by kernel_rfl) ?_
      repeat walk_at "st"
      refine WC_range ?_
      refine ⟨_, IterP_rng (n := 8) (small5 (by decide)), ?_⟩
      refine CompL_each _ [] (adjD.map pairI) _ (fun _ => rfl) (by decide) rfl ?_ ?_
      · intro i x y hx hy Q' hQ
        have hx' : (iV allG)[i]? = some x := hx
        simp only [iV, List.getElem?_map, List.map_map] at hx' hy
        cases hg : allG[i]? with
        | none => rw [hg] at hx'; cases hx'
        | some g =>
          rw [hg] at hx' hy; cases hx'; cases hy
          repeat walk_at "st"
          repeat walk_at "st"
          refine n_Value ?_
          repeat walk_at "st"
          refine ⟨by show 2 ≤ 16777216; decide, ?_⟩
          exact hQ
      · rw [List.nil_append]
        repeat walk_at "st"
        refine WC_dictG gsAll fun_keys ?_
        repeat walk_at "st"
        refine n_Adjust ?_
        repeat walk_at "st"
        refine ⟨by show 1 ≤ 16777216; decide, ?_⟩
        repeat walk_at "st"
        refine n_Lookup ?_
        repeat walk_at "st"
        repeat walk_at "st"
        refine ⟨by show 1 ≤ 16777216; decide, ?_⟩
        repeat walk_at "st"
        refine n_Lookup ?_
        try refine WEs_nil ?_
        refine ⟨by show 2 ≤ 16777216; decide, ?_⟩
        try refine WA_local (by kernel_rfl!) ?_
        have RO : RowOK (allG.map fun g => (g, V.int (mcl ms g))) (fun i => match rs[i]? with | some r => mcl ms r.glyph | none => 1) rs 0 :=
          ⟨hf, fun i r e => by
            obtain ⟨h1, h2, -⟩ := hG i r e
            rw [lk_all ⟨h1, h2⟩, e]
            refine ⟨rfl, ?_⟩
            show mcl ms r.glyph = 1 ∨ mcl ms r.glyph = 3
            unfold mcl
            split
            · right; rfl
            · left; rfl, fun i r e => ⟨(hG i r e).1, (hG i r e).2.1⟩, fun i r e => (hG i r e).2.2.1, fun i r e => (hG i r e).2.2.2.2, ⟨fun i r _ e => (hG i r e).2.2.2.1, fun i r _ e => by rw [(hG i r e).2.2.2.1]; lia⟩⟩
        show vA _ _ _ _ _ _ _ _
        refine vA_loc (by kernel_rfl!) ?_
        refine nx_next ?_
        exact segC hP hF hB hS hne L.rowIn RO
  · rintro j acc σ' hj8 ⟨gs, o', rfl, hgl, ho', rfl⟩
    refine (?_ : WT _ _ _ _ _ _ _)
    repeat walk_at "st"
    repeat walk_at "st"
    rw [← updR_out hp]
    refine c_drawS ho' (by lia) hcl (by decide) (by decide) fun d o'' h1 h2 h3 => ?_
    rw [updR_out hp]
    repeat walk_at "st"
    refine ⟨fun _ => ?_, fun _ => ?_⟩
    · refine ⟨by rw [iV_len]; lia, ?_⟩
      repeat walk_at "st"
      exact ⟨gs ++ [(j : Int)], o'', by unfold iV; rw [List.map_append]; rfl, by rw [List.length_append]; exact Nat.succ_le_succ hgl, h3, rfl⟩
    · exact ⟨gs, o'', rfl, Nat.le_succ_of_le hgl, h3, rfl⟩
noncomputable abbrev seg1L (sv : V) (p : Addr) (kd : Str) (T : V) (S : List Int) (row : List V) : Loc := [("script", sv), ("pen", .ref p), ("kind", .str kd), ("table", T), ("heard", .lst (iV S)), ("infos", .lst row)]
inductive InfI (cells : List Int) (N : Nat) (p : Addr) (σ : Sto) (ds : List Addr) (rs : List Rec) (j : Nat) (σ' : Sto) : Prop
  | mk (rs' : List Rec) (o' : O) : rs'.length = rs.length → PenS cells (N + 2 * j) o' → σ' = updR (σ.set p o') ds rs' → (∀ (i : Nat) r, rs'[i]? = some r → (i < j → GoodR r) ∧ (j ≤ i → ∃ g, r = rec0 g i ∧ 0 ≤ g ∧ g < 8)) → InfI cells N p σ ds rs j σ'
inductive InfO (cells : List Int) (N : Nat) (p : Addr) (σ : Sto) (j : Nat) (acc : List V) (σ' : Sto) : Prop
  | mk (ds : List Addr) (rs : List Rec) (o' : O) : RLay acc ds j → rs.length = j → PenS cells (N + 1 + j) o' → p ∉ ds → σ' = updR (σ.set p o') ds rs → (∀ (i : Nat) r, rs[i]? = some r → ∃ g, r = rec0 g i ∧ 0 ≤ g ∧ g < 8) → InfO cells N p σ j acc σ'
theorem segB1 {kd : Str} {T : V} {F : FT} {S : List Int} {row : List V} {ds : List Addr} {rs : List Rec} {p : Addr} {cells : List Int} {N : Nat} {o : O} {sv : V} (hP : PosOK kd T F) (hF : FOK S F) (hB : BegOK kd T S) (hS : GS S) (hne : S ≠ [])
    (ho : PenS cells N o) (hN : N ≤ 4000) (hcl : cells.length ≤ 40) (L : RLay row ds rs.length) (hf : rs.length ≤ 5) (hp : p ∉ ds) (hG : ∀ (i : Nat) r, rs[i]? = some r → ∃ g, r = rec0 g i ∧ 0 ≤ g ∧ g < 8) :
    vB (cx w B) (k + 14) (fnAt 127).scope 54 ((fnAt 127).body.drop 6) [("script", sv), ("pen", .ref p), ("kind", .str kd), ("table", T), ("heard", .lst (iV S)), ("infos", .lst row)] (updR (σ.set p o) ds rs) LQ := by
  show WS (cx w B) (k + 14) (fnAt 127).scope _ _ _ _
  have hL := L.rl
  refine WS_for ?_
  repeat walk_at "st"
  refine ⟨_, IterP_lst, .inr (fun _ _ => rfl), ?_⟩
  refine ForL.ix (seg1L sv p kd T S row) row (InfI cells N p σ ds rs) ?_ ?_ ⟨rs, o, rfl, ho, rfl, fun i r e => ⟨fun h => absurd h (Nat.not_lt_zero _), fun _ => hG i r e⟩⟩ (by kernel_rfl)
  · rintro σ' ⟨rs', o', hl, ho', rfl, hR⟩
    rw [hL] at ho' hR
    try refine WB_nil ?_
    exact segB2 hP hF hB hS hne ho' (by lia) hcl (by rw [hl]; exact L) (by lia) hp fun i r e => (hR i r e).1 (by have := (List.getElem?_eq_some_iff.mp e).1; lia)
  · rintro j x σ' hx ⟨rs', o', hl, ho', rfl, hR⟩
    have hjl : j < rs.length := hL ▸ (List.getElem?_eq_some_iff.mp hx).1
    have L' : RLay row ds rs'.length := by rw [hl]; exact L
    have hr : rs'[j]? = some rs'[j] := List.getElem?_eq_getElem (by lia)
    generalize rs'[j] = r at hr
    obtain ⟨g, rfl, hg0, hg8⟩ := (hR j r hr).2 (Nat.le_refl _)
    obtain ⟨x0, d0, hd, hrow, -⟩ := L'.get (σ := σ) hr
    rw [hrow] at hx; cases hx
    refine WA_local (by kernel_rfl!) ?_
    show WB (cx w B) (k + 14) (fnAt 127).scope (seg1L sv p kd T S row ++ ([("one", _)] : Loc)) _ _ _
    refine WB_cons ?_
    refine WS_assign (hw := fun env => swapped_attr env) ?_
    repeat walk_at "st"
    refine ⟨by show 2 ≤ 16777216; decide, ?_⟩
    refine WA_tuple ⟨_, rfl, rfl, ?_⟩
    refine WA_info ?_
    repeat walk_at "st"
    refine ⟨x0, d0, j, _, { rec0 g j with mask := 1 }, rfl, rfl, L.nd, hd, hr, by kernel_rfl, rfl, ?_⟩
    refine WA_info ?_
    repeat walk_at "st"
    refine ⟨x0, d0, j, _, { rec0 g j with mask := 1, xAdv := 100 }, rfl, rfl, L.nd, hd, set_here hr, by kernel_rfl, rfl, ?_⟩
    rw [List.set_set]
    try show WB _ _ _ _ _ _ _
    try refine WB_cons ?_
    refine WS_assign (hw := fun env => swapped_attr env) ?_
    repeat walk_at "st"
    repeat walk_at "st"
    refine ⟨by show 3 ≤ 16777216; decide, ?_⟩
    repeat walk_at "st"
    rw [← updR_out hp]
    refine c_pick ho' (by lia) hcl (by decide) (by decide) fun i y o1 hy h1 => ?_
    obtain ⟨v, rfl⟩ : ∃ v, y = .int v := by
      match i, hy with
      | 0, hy => exact ⟨0, by simp at hy; exact hy.symm⟩
      | 1, hy => exact ⟨0, by simp at hy; exact hy.symm⟩
      | 2, hy => exact ⟨1, by simp at hy; exact hy.symm⟩
      | i + 3, hy => simp at hy
    repeat walk_at "st"
    repeat walk_at "st"
    refine c_drawS h1 (by lia) hcl (by decide) (by decide) fun d o2 h2 h3 h4 => ?_
    rw [updR_out hp]
    repeat walk_at "st"
    refine ⟨by show 2 ≤ 16777216; decide, ?_⟩
    refine WA_tuple ⟨_, rfl, rfl, ?_⟩
    refine WA_info ?_
    repeat walk_at "st"
    refine ⟨x0, d0, j, _, { rec0 g j with mask := 1, xAdv := 100, ligId := v }, rfl, rfl, L.nd, hd, set_here hr, by kernel_rfl, rfl, ?_⟩
    rw [List.set_set]
    refine WA_info ?_
    repeat walk_at "st"
    refine ⟨x0, d0, j, _, { rec0 g j with mask := 1, xAdv := 100, ligId := v, ligPart := d }, rfl, rfl, L.nd, hd, set_here hr, by kernel_rfl, rfl, ?_⟩
    rw [List.set_set]
    try show WB _ _ _ _ _ _ _
    try refine WB_nil ?_
    refine ⟨SubL.app (l := seg1L sv p kd T S row) [("one", _)], _, o2, by rw [List.length_set]; exact hl, h4.le (by lia), rfl, fun i r e => ?_⟩
    rw [List.getElem?_set] at e
    by_cases hij : j = i
    · subst hij
      rw [if_pos rfl, if_pos (by lia)] at e
      cases e
      exact ⟨fun _ => ⟨hg0, hg8, rfl, rfl, by show PyData.strOk "" = true; decide +kernel⟩, fun h => absurd h (by lia)⟩
    · rw [if_neg hij] at e
      exact ⟨fun h => (hR i r e).1 (by lia), fun h => (hR i r e).2 (by lia)⟩
theorem segB0 {kd : Str} {T : V} {F : FT} {S : List Int} {p : Addr} {cells : List Int} {N : Nat} {o : O} {sv : V} (hP : PosOK kd T F) (hF : FOK S F) (hB : BegOK kd T S) (hS : GS S) (hne : S ≠ [])
    (ho : PenS cells N o) (hN : N ≤ 3000) (hcl : cells.length ≤ 40) :
    vB (cx w B) (k + 14) (fnAt 127).scope 55 ((fnAt 127).body.drop 5) [("script", sv), ("pen", .ref p), ("kind", .str kd), ("table", T), ("heard", .lst (iV S))] (σ.set p o) LQ := by
  show WS (cx w B) (k + 14) (fnAt 127).scope _ _ _ _
  refine WS_assignC (by kernel_rfl) (by kernel_rfl) (by kernel_rfl!) ?_
  repeat walk_at "st"
  repeat walk_at "st"
  refine c_drawS ho (by lia) hcl (by decide) (by decide) fun d o1 h1 h2 h3 => ?_
  repeat walk_at "st"
  refine WC_range ?_
  obtain ⟨n, rfl⟩ : ∃ n : Nat, d = n := ⟨d.toNat, by lia⟩
  refine ⟨_, IterP_rng (n := n) (small5 (by lia)), ?_⟩
  refine CompL.rng [("script", sv), ("pen", .ref p), ("kind", .str kd), ("table", T), ("heard", .lst (iV S))] n (InfO cells N p σ) ?_ ?_ _ ⟨[], [], o1, ⟨rfl, rfl, List.nodup_nil, fun i d e => by simp at e⟩, rfl, h3, List.not_mem_nil, rfl, fun i r e => by simp at e⟩ (by kernel_rfl)
  · rintro acc ρ σ' ⟨ds, rs, o', L, hl, ho', hpd, rfl, hR⟩
    exact segB1 hP hF hB hS hne ho' (by lia) hcl (by rw [hl]; exact L) (by lia) hpd hR
  · rintro j acc σ' hjn ⟨ds, rs, o', L, hl, ho', hpd, rfl, hR⟩
    have hL := L.rl
    refine ⟨fun _ => ⟨by lia, ?_⟩, fun e => nomatch e⟩
    try show WE _ _ _ _ _ _ _
    repeat walk_at "st"
    repeat walk_at "st"
    repeat walk_at "st"
    rw [← updR_out hpd]
    refine c_drawS ho' (by lia) hcl (by decide) (by decide) fun d o2 h1 h2 h3 => ?_
    repeat walk_at "st"
    refine n_InfoO fun x dd hdd => ?_
    have L' : RLay acc ds rs.length := by rw [hl]; exact L
    have hdp : dd ≠ p := by rintro rfl; rw [Sto.set_at] at hdd; cases hdd
    rw [Sto.set_ne _ _ hdp] at hdd
    obtain ⟨hdn, -⟩ := updR_none L' hdd
    rw [updR_out hpd, ← updR_snoc (by rw [L'.dl]) hdn]
    refine ⟨ds ++ [dd], _, o2, L.snoc hdn, by simp [hl], h3, ?_, rfl, fun i r e => ?_⟩
    · intro q
      rcases List.mem_append.mp q with q | q
      · exact hpd q
      · exact hdp (List.mem_singleton.mp q).symm
    · rw [List.getElem?_append] at e
      split at e
      · exact hR i r e
      · rename_i hni
        have hil : i = rs.length := by
          have := (List.getElem?_eq_some_iff.mp e).1
          simp at this; lia
        subst hil
        simp at e
        exact ⟨d, by rw [← e, hl], h1, h2⟩
noncomputable abbrev kinds : List V := [.str "adjust", .str "pair", .str "cursive", .str "base", .str "component", .str "mark", .str "context", .str "chain"]
theorem t_all {p : Addr} {cells : List Int} {N : Nat} {o : O} {i : Nat} {x : V} (hx : kinds[i]? = some x) (ho : PenS cells N o) (hN : N ≤ 1000) (hl : cells.length ≤ 40) (h : ∀ kd T o', x = .str kd → TabOK kd T → PenS cells (N + 100) o' → Q T (σ.set p o')) :
    WC (cx w B) (k + 10) (.glob 1147) [.ref p, x] (σ.set p o) Q := by
  match i, hx with
  | 0, hx => simp at hx; subst hx; exact t_adjust ho hN hl fun T o' => h _ T o' rfl
  | 1, hx => simp at hx; subst hx; exact t_pair ho hN hl fun T o' => h _ T o' rfl
  | 2, hx => simp at hx; subst hx; exact t_cursive ho hN hl fun T o' => h _ T o' rfl
  | 3, hx => simp at hx; subst hx; exact t_base ho hN hl fun T o' => h _ T o' rfl
  | 4, hx => simp at hx; subst hx; exact t_component ho hN hl fun T o' => h _ T o' rfl
  | 5, hx => simp at hx; subst hx; exact t_mark ho hN hl fun T o' => h _ T o' rfl
  | 6, hx => simp at hx; subst hx; exact t_ctx (.inl rfl) ho hN hl fun T o' => h _ T o' rfl
  | 7, hx => simp at hx; subst hx; exact t_ctx (.inr rfl) ho hN hl fun T o' => h _ T o' rfl
  | i + 8, hx => simp at hx
theorem ne_ints {ns : List Int} {K : Bool → Prop} (h : K false) : CmpP (cx w B) .NotEq (.lst (iV ns)) (.lst (iV ns)) σ K := by
  have hl := lay_list (lay_ints ns)
  refine CmpP_neD (dVl ns) (dVl ns) hl hl (Nat.le_trans (Nat.min_le_left _ _) (depth_ints ns)) ?_
  rw [SeqAt.eqv_refl _ hl]
  exact h
theorem c_law {a : Addr} {o : Obj} {vs : Array Value} {n : Nat} {ns : List Int} (hB : B.get? a = some o) (hc : o.cls = .type "list") (hd : o.data = .seq vs n) (hi : IntsAre vs.toList ns) (hl : ns.length ≤ 1000) :
    WC (cx w B) (k + 15) (.glob 1157) [.ref a] σ (fun x _ => x = .bool true) := by
  refine e_law ?_
  have hcl : (ns.take 40).length ≤ 40 := by rw [List.length_take]; lia
  repeat walk_at "st"
  repeat walk_at "st"
  refine c_law_pen hB hc hd hi hl fun p hp => ?_
  have ho : PenS (ns.take 40) 0 (.lst [.lst (iV (ns.take 40)), .int 0, .int 0]) := ⟨0, 0, rfl, by decide, by decide, by decide⟩
  repeat walk_at "st"
  repeat walk_at "st"
  refine ⟨by show 8 ≤ 16777216; decide, ?_⟩
  repeat walk_at "st"
  refine c_pick ho (by decide) hcl (by decide) (by decide) fun i x o1 hx h1 => ?_
  repeat walk_at "st"
  repeat walk_at "st"
  refine WC.more (k := k + 10) (t_all hx h1 (by decide) hcl fun kd T o2 hkd hT h2 => ?_) (by lia)
  subst hkd
  obtain ⟨F, S, hP, hF, hBg, hS, hne⟩ := hT
  repeat walk_at "st"
  repeat walk_at "st"
  refine WC.more (k := k + 3) (hBg _ _ _ _ _ ?_) (by lia)
  repeat walk_at "st"
  refine (set_sorted (Q := fun _ _ => True) hS (fun _ => Iff.rfl) trivial).mono ?_
  rintro y σ' ⟨rfl, rfl⟩
  repeat walk_at "st"
  refine WC_sortedS ?_
  refine ne_ints ?_
  refine tF' rfl ?_
  repeat walk_at "st"
  refine WE_comp1 (by kernel_rfl) (by kernel_rfl) ?_
  repeat walk_at "st"
  refine ⟨_, IterP_lst, ?_⟩
  refine CompL.ix [("script", .ref a), ("pen", .ref p), ("kind", .str kd), ("table", T), ("heard", .lst (iV S))] (iV S) (fun _ acc σ' => acc = [] ∧ σ' = σ.set p o2) ?_ ?_ _ ⟨rfl, rfl⟩ (by kernel_rfl)
  · rintro acc ρ σ' ⟨rfl, rfl⟩
    repeat walk_at "st"
    refine ⟨by show 0 ≤ 16777216; decide, ?_⟩
    refine CmpP_neD (da := .list []) (db := .list []) rfl rfl rfl rfl (by decide +kernel) ?_
    rw [show (!PyData.eqv (.list []) (.list [])) = false from by decide +kernel]
    refine tF' rfl ?_
    repeat walk_at "st"
    refine tF rfl ?_
    refine vB_nilR (nx_next ?_)
    exact segB0 hP hF hBg hS hne h2 (by decide) hcl
  · rintro j x acc σ' hx ⟨rfl, rfl⟩
    obtain ⟨g, hg, rfl⟩ := iV_get hx
    have hg := hS.in8 g (List.mem_of_getElem? hg)
    refine (?_ : WT _ _ _ _ _ _ _)
    repeat walk_at "st"
    refine tT' (by simpa using hg.1) ?_
    repeat walk_at "st"
    refine tF (by simpa using hg.2) ?_
    exact ⟨rfl, rfl⟩
end Mine
end
namespace Mine
theorem walked : WalkO qv lz (XL qv []) (Hook.says myH) PySem.Challenge.rw_pb0209_01.row.toRowW dL [] (fun f vs => PySem.call f vs) := by
  intro w s₀ s₁ mg mb G Y fa o pm cd doc dV kV ho hd hcd hD hmg hg args vals as hpre hlay hrd hwl hlo
  w_on
  wrow_args hpre hlay hrd hwl hlo
  rename_i ns _ _ _ _ _ _ _ a vs _ hL _ _ _ hI _ hm _
  have X : (myK w.params).In s₁.heap := kIn_of Y
  have T := topRead_of G.T
  have e := mg_of X T.g (show nsIn (myK w.params) mainGlobals "law" = some (some (.ref 1157)) from by kernel_rfl)
  have hfa : fa = 1157 := by
    have h2 : mg "law" = some (.ref fa) := hmg
    rw [e] at h2
    cases h2; rfl
  subst hfa
  obtain ⟨o', ho', hc', n', hd'⟩ := hL
  have hc := (c_law (w := w) (B := s₁.heap) (k := 0) (σ := fun _ => none) ho' hc' hd' (ns := ns) (by simpa using hI) (by omega)).run ⟨X, _, _, _, _, T⟩ callerA s₁.heap s₁ (.ref 1157) [.ref a] ⟨rfl, by decide, by decide⟩ ⟨fun _ _ h => h, fun _ _ h => h, fun _ _ h => nomatch h⟩ (VR_glob.mpr rfl) (VRs_cons.mpr ⟨_, _, rfl, VR_ref.mpr rfl, VRs_nil.mpr rfl⟩)
  refine wpAny_mono hc (fun v s' ⟨z', σ', x, ex, r, hx⟩ => ?_) (fun _ _ h => h.elim)
  subst hx
  rw [VR_bool.mp r]
  refine GoodW.toG ⟨.inl ⟨_, .bool true, [], rfl, fun _ => rfl, .bool true, ?_, fun _ => ⟨List.nodup_nil, fun a h => absurd h List.not_mem_nil⟩⟩, fun b o h => ex.out b o h rfl id, ex.os, ex.gens.trans hg⟩
  wrow_post
end Mine
theorem PySem.Challenge.cw_pb0209_01_holds : PySem.Challenge.rw_pb0209_01.Holds :=
  Mine.holds_of Mine.walked
