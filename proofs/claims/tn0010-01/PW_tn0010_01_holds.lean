import PyProof.Rows.All
import Wide.All
import OpenK.AllK
import Wide.FinOn
import Lean
import PySem.Challenge.RW_tn0010_01
open PySem PySem.W PySem.Calls PyProof.Rows PyProof.V PySem.Spec
set_option Elab.async false
set_option maxRecDepth 100000
set_option maxHeartbeats 0
set_option linter.all false
set_option genInjectivity false
set_option genSizeOf false
set_option genSizeOfSpec false
namespace Mine
noncomputable abbrev PR : Program := PySem.Challenge.rw_tn0010_01.row.prog
theorem said : OpenLaw.wellSaid PySem.Challenge.rw_tn0010_01 = true := by
  rw [PySem.W.Fast.te9446332074065402090]
  kernel_rfl
/- the machine over a tree of objects, from the top's start to its end -/
noncomputable def runT (tb : String → Option Builtin) (p : Program) (w : World) (n₀ : Nat) (ann : Option Value) : Nat → SharedT → Thread → Option SharedT
  | 0, _, _ => none
  | n + 1, s, t => match through t with
    | true => some s
    | false => match stepOk n₀ ann t with
      | false => none
      | true => match stepT (denote tb) p w s t with
        | some (s', t') => runT tb p w n₀ ann n s' t'
        | none => none
theorem runT_of {tb : String → Option Builtin} {p : Program} {w : World} {n₀ : Nat} {ann : Option Value} : ∀ {n : Nat} {s s' : SharedT} {t : Thread}, runT tb p w n₀ ann n s t = some s' → topRun tb p w n₀ ann n s.abs t = some s'.abs
  | 0, _, _, _, h => by cases h
  | n + 1, s, s', t, h => by
    unfold runT at h
    unfold topRun
    cases he : through t with
    | true => rw [he] at h; cases h; rfl
    | false =>
      rw [he] at h
      cases hk : stepOk n₀ ann t with
      | false => rw [hk] at h; cases h
      | true =>
        rw [hk] at h
        cases hs : stepT (denote tb) p w s t with
        | none => rw [hs] at h; cases h
        | some r => obtain ⟨s₂, t₂⟩ := r; rw [hs] at h; dsimp only; rw [stepT_spec hs]; exact runT_of h
/- the same by the library's quick forms -/
noncomputable def runQ (p : Program) (w : World) (n₀ : Nat) (ann : Option Value) : Nat → SharedT → Thread → Option SharedT
  | 0, _, _ => none
  | n + 1, s, t => match through t with
    | true => some s
    | false => match PySem.W.Fast.tw6613529449190102663 n₀ ann t with
      | false => none
      | true => match PySem.W.Fast.tw10156331382660048174 (PySem.W.Fast.tw11892475500146522536 PySem.W.Fast.tw14364793385576792824) p w s t with
        | some (s', t') => runQ p w n₀ ann n s' t'
        | none => none
theorem runQ_eq {p : Program} {w : World} {n₀ : Nat} {ann : Option Value} : ∀ {n : Nat} {s : SharedT} {t : Thread}, runT treeTable p w n₀ ann n s t = runQ p w n₀ ann n s t
  | 0, _, _ => rfl
  | n + 1, s, t => by
    unfold runT runQ
    rw [← PySem.W.Fast.te6613529449190102663, ← PySem.W.Fast.te10156331382660048174, ← PySem.W.Fast.te11892475500146522536, ← PySem.W.Fast.te14364793385576792824]
    cases through t with
    | true => rfl
    | false =>
      cases stepOk n₀ ann t with
      | false => rfl
      | true =>
        cases stepT (denote treeTable) p w s t with
        | none => rfl
        | some r => exact runQ_eq
noncomputable def T0 (P : Params) : BT := [boot_o_0 P, boot_o_1 P, boot_o_2 P, boot_o_3 P, boot_o_4 P, boot_o_5 P, boot_o_6 P, boot_o_7 P, boot_o_8 P, boot_o_9 P, boot_o_10 P].zipIdx.foldl (fun t x => t.ins x.2 x.1) .nil
theorem T0_eq (P : Params) : absHeap (T0 P) 11 (boot_heap P).life = boot_heap P := by kernel_rfl
noncomputable def S0 (P : Params) (os : OsState) : SharedT := ⟨T0 P, 11, (boot_heap P).life, #[], boot_drawn, boot_toks, os⟩
noncomputable def strsOf : Nat → List String → List Value
  | _, [] => []
  | t, x :: r => .str (Str.ofString x) t :: strsOf (t + 1) r
noncomputable abbrev vs (x : String) (t : Nat) : Value := .str (Str.ofString x) t
noncomputable def oF (c : Value) (l : List Value) : Obj := ⟨c, none, .fields l.toArray, #[]⟩
noncomputable def oT (l : List Value) : Obj := ⟨.type "tuple", none, .seq l.toArray 0, #[]⟩
noncomputable def oS (t : Nat) (l : List String) : Obj := oT (strsOf t l)
noncomputable def oP (l : List (Int × Int × Addr)) : Obj := oF .none (l.flatMap fun x => [.int x.1 0, .int x.2.1 0, .ref x.2.2])
noncomputable def oK (n q : String) (t : Nat) (l a f : Int) (r : Addr) (b : Value) (rs : List Value) (x : Int) (t' : Nat) : Obj :=
  oF (.type "code") ([vs n t, vs q (t + 1), vs "/claim/cut.py" (t + 2), .int l 0, .int a 0, .int 0 0, .int 0 0, .int f 0, .ref r, b, .int 181 0] ++ (rs ++ [.int x 0, .int l 0, vs "/claim/cut.py" t']))
noncomputable def oC (n q : String) (t : Nat) (l a f : Int) (r : Addr) (x : Int) (t' : Nat) : Obj := oK n q t l a f r (.bool true) [.ref (r + 1), .none, .ref (r + 2), .ref (r + 3), .ref (r + 4)] x t'
noncomputable def oD (P : Params) (c : Value) (n : Nat) (l : List (String × Nat × Value)) : Obj := ⟨c, none, .dict (l.map fun x => (⟨PyData.keyHash P (Str.ofString x.1), .str (Str.ofString x.1) x.2.1, x.2.2⟩ : DictEntry)).toArray n, #[]⟩
noncomputable def oJ (c : Value) (n : Nat) (l : List (Int × Nat × Value)) : Obj := ⟨c, none, .dict (l.map fun x => (⟨x.1, .int x.1 x.2.1, x.2.2⟩ : DictEntry)).toArray n, #[]⟩
noncomputable def oX (l : List (Option Value)) : Obj := ⟨.type "frame", none, .plain, l.toArray⟩
noncomputable def oY (n : String) (bs ms : List Value) (ns : Addr) (h : Bool) (sub : List Value) (sl : List (Option Value)) : Obj :=
  ⟨.type "type", none, .cls { name := Str.ofString n, bases := bs, mro := ms, ns := ns, qualname := Str.ofString n, hasDict := h, slotNames := [], subclasses := sub, abstract := false, collection := none, hasDel := false }, sl.toArray⟩
/- the program's statements by their places -/
noncomputable def nth : List Stmt → Nat → Stmt
  | [], _ => .Pass default
  | s :: _, 0 => s
  | _ :: r, n + 1 => nth r n
noncomputable def stm (i : Nat) : Stmt := nth PR.main.body i
noncomputable def mth (i j : Nat) : Stmt := match stm i with
  | .ClassDef _ _ _ b _ _ _ _ _ _ _ => nth b j
  | s => s
noncomputable def fnD (s : Stmt) (k : Arguments → List Stmt → Scope → Obj) : Obj := match s with
  | .FunctionDef _ a b _ _ _ sc _ _ _ => k a b sc
  | _ => default
noncomputable def oG (s : Stmt) (n q : String) : Obj := fnD s fun a b sc => ⟨.none, none, .func { name := Str.ofString n, qualname := Str.ofString q, params := a, body := .stmts b, scope := sc, globals := 0, closure := [], defaults := .none, kwdefaults := .none }, #[]⟩
noncomputable def oN (s : Stmt) (n q : String) (m : Value) (c : Addr) : Obj := fnD s fun a b sc => ⟨.type "function", none, .func { name := Str.ofString n, qualname := Str.ofString q, params := a, body := .stmts b, scope := sc, globals := 3, closure := [], defaults := .none, kwdefaults := .none, pyModule := m, code := .ref c }, #[]⟩
noncomputable def o0 (P : Params) : Obj := boot_o_0 P
noncomputable def o1 (P : Params) : Obj := boot_o_1 P
noncomputable def o2 (P : Params) : Obj := oD P .none 2 [("type.__subclasses__.Exception.0", 223, .int 38 0), ("type.__subclasses__.Exception.n", 224, .int 1 0)]
noncomputable def o3 (P : Params) : Obj := oD P (.type "dict") 131 [("__name__", 165, vs "law_tn0010_01" 1758), ("__doc__", 166, .none), ("__package__", 167, .none), ("__loader__", 168, .builtin "__main__.__loader__#opaque"), ("__spec__", 169, .none), ("__annotations__", 170, .ref 6), ("__builtins__", 171, .ref 4), ("__file__", 173, vs "/claim/cut.py" 172), ("__cached__", 174, .none), ("_wall", 193, .ref 21), ("RuneError", 226, .ref 38), ("BadKind", 242, .ref 51), ("TooDeep", 258, .ref 63), ("LeftOut", 274, .ref 75), ("VOID", 278, .int 0 277), ("BOOL", 280, .int 1 279), ("CHAR", 282, .int 2 281), ("I1", 284, .int 3 283), ("U1", 286, .int 4 285), ("I2", 288, .int 5 287), ("U2", 290, .int 6 289), ("I4", 292, .int 7 291), ("U4", 294, .int 8 293), ("I8", 296, .int 9 295), ("U8", 298, .int 10 297), ("NINT", 300, .int 11 299), ("OBJECT", 302, .int 12 301), ("STRING", 304, .int 13 303), ("NULLK", 306, .int 14 305), ("BAD", 308, .int 15 307), ("PRIM_END", 310, .int 16 309), ("R_PRIM", 312, .int 1 311), ("R_CLASS", 314, .int 2 313), ("R_VALUE", 316, .int 3 315), ("R_ARRAY", 318, .int 4 317), ("R_BYREF", 320, .int 5 319), ("R_VAR", 322, .int 6 321), ("R_MVAR", 324, .int 7 323), ("R_BOXED", 326, .int 8 325), ("R_ROREF", 328, .int 9 327), ("R_FTN", 330, .int 10 329), ("R_RAW", 332, .int 11 331), ("DEEPEST_KIND", 334, .int 24 333), ("HEAVIEST_KIND", 336, .int 4096 335), ("PRIM_TID", 365, .ref 78), ("TID_PRIM", 394, .ref 79), ("ARRAY_TID", 396, .int 5 395), ("KindTable", 453, .ref 110), ("inner_kinds", 461, .ref 121), ("row_level", 468, .ref 128), ("row_length", 475, .ref 135), ("check_kind_row", 485, .ref 142), ("check_named", 493, .ref 149), ("check_args", 502, .ref 156), ("may_stand", 511, .ref 163), ("class_kind", 520, .ref 170), ("value_kind", 529, .ref 177), ("prim_kind", 537, .ref 184), ("var_kind", 545, .ref 191), ("tid_of", 554, .ref 198), ("is_value", 562, .ref 205), ("is_var", 571, .ref 212), ("S_CLASS", 575, .int 1 574), ("S_STRUCT", 577, .int 2 576), ("S_IFACE", 579, .int 3 578), ("S_ENUM", 581, .int 5 580), ("VA_NONE", 583, .int 0 582), ("TypeDef", 637, .ref 229), ("Store", 671, .ref 250), ("self_kind", 682, .ref 261), ("kind_with", 692, .ref 268), ("N_NAME", 696, .int 7 695), ("Node", 734, .ref 285), ("Diags", 787, .ref 327), ("leaf", 796, .ref 338), ("X_CONST", 800, .int 1 799), ("X_LOCAL", 802, .int 2 801), ("X_THIS", 804, .int 3 803), ("X_CALL", 806, .int 8 805), ("X_BIN", 808, .int 14 807), ("FN_PLAIN", 810, .int 0 809), ("VF_PARAM", 812, .int 1 811), ("VF_REF", 814, .int 2 813), ("VF_OUT", 816, .int 4 815), ("VF_CAPTURED", 818, .int 8 817), ("VF_CONST", 820, .int 16 819), ("VF_TEMP", 822, .int 32 821), ("VF_LOOP", 824, .int 64 823), ("Var", 863, .ref 355), ("Fn", 905, .ref 376), ("Unit", 943, .ref 397), ("new_fn", 954, .ref 408), ("new_var", 966, .ref 415), ("CX_DEEPEST", 970, .int 50 969), ("Judge", 1011, .ref 439), ("Turner", 1150, .ref 537), ("Fitter", 1181, .ref 558), ("Keeper", 1211, .ref 579), ("Yard", 1289, .ref 628), ("Pew", 1365, .ref 670), ("Seat", 1522, .ref 766), ("bad", 1529, .ref 775), ("yard_kept", 1538, .ref 782), ("at_of", 1546, .ref 789), ("deeper", 1554, .ref 796), ("bind_kind", 1564, .ref 803), ("open_scope", 1571, .ref 810), ("close_scope", 1583, .ref 817), ("taken_outside", 1592, .ref 824), ("declare_name", 1605, .ref 831), ("find_name", 1615, .ref 838), ("GH_THIS", 1619, .int 1 1618), ("GH_TYPE", 1621, .int 2 1620), ("GH_OBJ", 1623, .int 3 1622), ("GH_BASE", 1625, .int 4 1624), ("GH_BOTH", 1627, .int 5 1626), ("tell_fault", 1637, .ref 845), ("this_expr", 1648, .ref 852), ("local_use", 1658, .ref 859), ("need_obj", 1670, .ref 866), ("BareHost", 1757, .ref 925), ("_law_take", 1768, .ref 936), ("_law_types", 1777, .ref 943), ("_law_find", 1788, .ref 950), ("_law_declare", 1794, .ref 955), ("_law_local", 1807, .ref 962), ("_law_this", 1822, .ref 969), ("_law_object", 1835, .ref 976), ("_law_asks", 1841, .ref 981), ("_law_level", 1854, .ref 988), ("law", 1860, .ref 993)]
noncomputable def o4 (P : Params) : Obj := boot_o_4 P
noncomputable def o5 (P : Params) : Obj := boot_o_5 P
noncomputable def o6 (P : Params) : Obj := boot_o_6 P
noncomputable def o7 (P : Params) : Obj := boot_o_7 P
noncomputable def o8 (P : Params) : Obj := boot_o_8 P
noncomputable def o9 (P : Params) : Obj := boot_o_9 P
noncomputable def o10 (P : Params) : Obj := boot_o_10 P
noncomputable def o11 (_ : Params) : Obj := oT []
noncomputable def o12 (_ : Params) : Obj := oP [(1, 0, 20), (5, 0, 27), (10, 0, 47), (12, 0, 59), (14, 0, 71), (50, 0, 85), (99, 0, 120), (108, 0, 127), (112, 0, 134), (118, 0, 141), (140, 0, 148), (144, 0, 155), (148, 0, 162), (153, 0, 169), (157, 0, 176), (161, 0, 183), (165, 0, 190), (167, 0, 197), (176, 0, 204), (180, 0, 211), (189, 0, 218), (215, 0, 239), (225, 0, 260), (233, 0, 267), (240, 0, 274), (249, 0, 295), (262, 0, 337), (278, 0, 344), (288, 0, 365), (302, 0, 386), (314, 0, 407), (320, 0, 414), (328, 0, 421), (335, 0, 449), (375, 0, 547), (379, 0, 568), (383, 0, 589), (411, 0, 638), (443, 0, 678), (513, 0, 774), (515, 0, 781), (520, 0, 788), (524, 0, 795), (529, 0, 802), (540, 0, 809), (546, 0, 816), (558, 0, 823), (563, 0, 830), (577, 0, 837), (589, 0, 844), (592, 0, 851), (602, 0, 858), (611, 0, 865), (622, 0, 872), (653, 0, 935), (660, 0, 942), (671, 0, 949), (678, 0, 954), (699, 0, 961), (709, 0, 968), (719, 0, 975), (726, 0, 980), (759, 0, 987), (781, 0, 992)]
noncomputable def o13 (_ : Params) : Obj := oK "<module>" "<module>" 182 1 0 0 11 (.bool false) [.ref 12, .none, .none, .none, .none] 185 186
noncomputable def o14 (_ : Params) : Obj := oX [some (.ref 13), some (.ref 3), some (.ref 3), none, some (vs "__main__" 164), none, some (.ref 0)]
noncomputable def o15 (_ : Params) : Obj := oT []
noncomputable def o16 (_ : Params) : Obj := oF .none []
noncomputable def o17 (_ : Params) : Obj := oS 190 ["k"]
noncomputable def o18 (_ : Params) : Obj := oT []
noncomputable def o19 (_ : Params) : Obj := oG (stm 0) "_wall" "_wall"
noncomputable def o20 (_ : Params) : Obj := oC "_wall" "_wall" 187 1 1 3 15 191 192
noncomputable def o21 (_ : Params) : Obj := oN (stm 0) "_wall" "_wall" (vs "__main__" 164) 20
noncomputable def o22 (_ : Params) : Obj := oT [.type "Exception"]
noncomputable def o23 (_ : Params) : Obj := oF (.type "builtin_function_or_method") [.builtin "type.__prepare__", .type "type"]
noncomputable def o24 (P : Params) : Obj := oD P (.type "dict") 5 [("__module__", 203, vs "framerune.faults" 194), ("__qualname__", 205, vs "RuneError" 204), ("__firstlineno__", 207, .int 5 206), ("__init__", 216, .ref 35), ("__static_attributes__", 219, .ref 36)]
noncomputable def o25 (_ : Params) : Obj := oT []
noncomputable def o26 (_ : Params) : Obj := oP [(7, 4, 34)]
noncomputable def o27 (_ : Params) : Obj := oK "RuneError" "RuneError" 198 5 0 0 25 (.bool false) [.ref 26, .none, .none, .none, .none] 201 202
noncomputable def o28 (_ : Params) : Obj := oX [some (.ref 27), some (.ref 3), some (.ref 24), none, some (vs "framerune.faults" 194), none, some (.ref 0)]
noncomputable def o29 (_ : Params) : Obj := oT []
noncomputable def o30 (_ : Params) : Obj := oF .none []
noncomputable def o31 (_ : Params) : Obj := oS 211 ["self", "code", "at"]
noncomputable def o32 (_ : Params) : Obj := oT []
noncomputable def o33 (_ : Params) : Obj := oG (mth 2 0) "__init__" "RuneError.__init__"
noncomputable def o34 (_ : Params) : Obj := oC "__init__" "RuneError.__init__" 208 7 3 3 29 214 215
noncomputable def o35 (_ : Params) : Obj := oN (mth 2 0) "__init__" "RuneError.__init__" (vs "framerune.faults" 194) 34
noncomputable def o36 (_ : Params) : Obj := oS 217 ["at", "code"]
noncomputable def o37 (P : Params) : Obj := oD P (.type "dict") 3 [("__module__", 203, vs "framerune.faults" 194), ("__firstlineno__", 207, .int 5 206), ("__init__", 216, .ref 35), ("__static_attributes__", 219, .ref 36), ("__weakref__", 221, .ref 39), ("__doc__", 222, .none)]
noncomputable def o38 (_ : Params) : Obj := oY "RuneError" [.type "Exception"] [.ref 38, .type "Exception", .type "BaseException", .type "object"] 37 true [.ref 51, .ref 63, .ref 75] [some (.ref 22), none, some (vs "RuneError" 196), some (vs "RuneError" 204), some (.builtin "Exception.__new__"), some (.bool true)]
noncomputable def o39 (_ : Params) : Obj := oF (.type "getset_descriptor") [vs "__weakref__" 220, .ref 38, .builtin "ExceptionGroup.__weakref__", .none]
noncomputable def o40 (_ : Params) : Obj := oF (.type "super") [.ref 38, .ref 38, .ref 38]
noncomputable def o41 (_ : Params) : Obj := oF (.type "builtin_function_or_method") [.builtin "object.__init_subclass__", .ref 38]
noncomputable def o42 (_ : Params) : Obj := oT [.ref 38]
noncomputable def o43 (_ : Params) : Obj := oF (.type "builtin_function_or_method") [.builtin "type.__prepare__", .type "type"]
noncomputable def o44 (P : Params) : Obj := oD P (.type "dict") 4 [("__module__", 234, vs "framerune.faults" 194), ("__qualname__", 236, vs "BadKind" 235), ("__firstlineno__", 238, .int 10 237), ("__static_attributes__", 239, .ref 49)]
noncomputable def o45 (_ : Params) : Obj := oT []
noncomputable def o46 (_ : Params) : Obj := oF .none []
noncomputable def o47 (_ : Params) : Obj := oK "BadKind" "BadKind" 229 10 0 0 45 (.bool false) [.ref 46, .none, .none, .none, .none] 232 233
noncomputable def o48 (_ : Params) : Obj := oX [some (.ref 47), some (.ref 3), some (.ref 44), none, some (vs "framerune.faults" 194), none, some (.ref 0)]
noncomputable def o49 (_ : Params) : Obj := oT []
noncomputable def o50 (P : Params) : Obj := oD P (.type "dict") 2 [("__module__", 234, vs "framerune.faults" 194), ("__firstlineno__", 238, .int 10 237), ("__static_attributes__", 239, .ref 49), ("__doc__", 240, .none)]
noncomputable def o51 (_ : Params) : Obj := oY "BadKind" [.ref 38] [.ref 51, .ref 38, .type "Exception", .type "BaseException", .type "object"] 50 true [] [some (.ref 42), none, some (vs "BadKind" 227), some (vs "BadKind" 235), some (.builtin "Exception.__new__"), some (.bool true)]
noncomputable def o52 (_ : Params) : Obj := oF (.type "super") [.ref 51, .ref 51, .ref 51]
noncomputable def o53 (_ : Params) : Obj := oF (.type "builtin_function_or_method") [.builtin "object.__init_subclass__", .ref 51]
noncomputable def o54 (_ : Params) : Obj := oT [.ref 38]
noncomputable def o55 (_ : Params) : Obj := oF (.type "builtin_function_or_method") [.builtin "type.__prepare__", .type "type"]
noncomputable def o56 (P : Params) : Obj := oD P (.type "dict") 4 [("__module__", 250, vs "framerune.faults" 194), ("__qualname__", 252, vs "TooDeep" 251), ("__firstlineno__", 254, .int 12 253), ("__static_attributes__", 255, .ref 61)]
noncomputable def o57 (_ : Params) : Obj := oT []
noncomputable def o58 (_ : Params) : Obj := oF .none []
noncomputable def o59 (_ : Params) : Obj := oK "TooDeep" "TooDeep" 245 12 0 0 57 (.bool false) [.ref 58, .none, .none, .none, .none] 248 249
noncomputable def o60 (_ : Params) : Obj := oX [some (.ref 59), some (.ref 3), some (.ref 56), none, some (vs "framerune.faults" 194), none, some (.ref 0)]
noncomputable def o61 (_ : Params) : Obj := oT []
noncomputable def o62 (P : Params) : Obj := oD P (.type "dict") 2 [("__module__", 250, vs "framerune.faults" 194), ("__firstlineno__", 254, .int 12 253), ("__static_attributes__", 255, .ref 61), ("__doc__", 256, .none)]
noncomputable def o63 (_ : Params) : Obj := oY "TooDeep" [.ref 38] [.ref 63, .ref 38, .type "Exception", .type "BaseException", .type "object"] 62 true [] [some (.ref 54), none, some (vs "TooDeep" 243), some (vs "TooDeep" 251), some (.builtin "Exception.__new__"), some (.bool true)]
noncomputable def o64 (_ : Params) : Obj := oF (.type "super") [.ref 63, .ref 63, .ref 63]
noncomputable def o65 (_ : Params) : Obj := oF (.type "builtin_function_or_method") [.builtin "object.__init_subclass__", .ref 63]
noncomputable def o66 (_ : Params) : Obj := oT [.ref 38]
noncomputable def o67 (_ : Params) : Obj := oF (.type "builtin_function_or_method") [.builtin "type.__prepare__", .type "type"]
noncomputable def o68 (P : Params) : Obj := oD P (.type "dict") 4 [("__module__", 266, vs "framerune.faults" 194), ("__qualname__", 268, vs "LeftOut" 267), ("__firstlineno__", 270, .int 14 269), ("__static_attributes__", 271, .ref 73)]
noncomputable def o69 (_ : Params) : Obj := oT []
noncomputable def o70 (_ : Params) : Obj := oF .none []
noncomputable def o71 (_ : Params) : Obj := oK "LeftOut" "LeftOut" 261 14 0 0 69 (.bool false) [.ref 70, .none, .none, .none, .none] 264 265
noncomputable def o72 (_ : Params) : Obj := oX [some (.ref 71), some (.ref 3), some (.ref 68), none, some (vs "framerune.faults" 194), none, some (.ref 0)]
noncomputable def o73 (_ : Params) : Obj := oT []
noncomputable def o74 (P : Params) : Obj := oD P (.type "dict") 2 [("__module__", 266, vs "framerune.faults" 194), ("__firstlineno__", 270, .int 14 269), ("__static_attributes__", 271, .ref 73), ("__doc__", 272, .none)]
noncomputable def o75 (_ : Params) : Obj := oY "LeftOut" [.ref 38] [.ref 75, .ref 38, .type "Exception", .type "BaseException", .type "object"] 74 true [] [some (.ref 66), none, some (vs "LeftOut" 259), some (vs "LeftOut" 267), some (.builtin "Exception.__new__"), some (.bool true)]
noncomputable def o76 (_ : Params) : Obj := oF (.type "super") [.ref 75, .ref 75, .ref 75]
noncomputable def o77 (_ : Params) : Obj := oF (.type "builtin_function_or_method") [.builtin "object.__init_subclass__", .ref 75]
noncomputable def o78 (_ : Params) : Obj := oJ (.type "dict") 14 [(0, 277, .int 20 337), (1, 279, .int 9 338), (2, 281, .int 10 339), (3, 283, .int 11 340), (4, 285, .int 12 341), (5, 287, .int 13 342), (6, 289, .int 14 343), (7, 291, .int 15 344), (8, 293, .int 16 345), (9, 295, .int 17 346), (10, 297, .int 18 347), (11, 299, .int 19 348), (12, 301, .int 1 349), (13, 303, .int 4 350)]
noncomputable def o79 (_ : Params) : Obj := oJ (.type "dict") 14 [(20, 366, .int 0 277), (9, 367, .int 1 279), (10, 368, .int 2 281), (11, 369, .int 3 283), (12, 370, .int 4 285), (13, 371, .int 5 287), (14, 372, .int 6 289), (15, 373, .int 7 291), (16, 374, .int 8 293), (17, 375, .int 9 295), (18, 376, .int 10 297), (19, 377, .int 11 299), (1, 378, .int 12 301), (4, 379, .int 13 303)]
noncomputable def o80 (_ : Params) : Obj := oT []
noncomputable def o81 (_ : Params) : Obj := oF (.type "builtin_function_or_method") [.builtin "type.__prepare__", .type "type"]
noncomputable def o82 (P : Params) : Obj := oD P (.type "dict") 7 [("__module__", 404, vs "framerune.kinds" 275), ("__qualname__", 406, vs "KindTable" 405), ("__firstlineno__", 408, .int 50 407), ("__init__", 417, .ref 93), ("row", 425, .ref 100), ("put", 440, .ref 107), ("__static_attributes__", 446, .ref 108)]
noncomputable def o83 (_ : Params) : Obj := oT []
noncomputable def o84 (_ : Params) : Obj := oP [(52, 4, 92), (66, 4, 99), (71, 4, 106)]
noncomputable def o85 (_ : Params) : Obj := oK "KindTable" "KindTable" 399 50 0 0 83 (.bool false) [.ref 84, .none, .none, .none, .none] 402 403
noncomputable def o86 (_ : Params) : Obj := oX [some (.ref 85), some (.ref 3), some (.ref 82), none, some (vs "framerune.kinds" 275), none, some (.ref 0)]
noncomputable def o87 (_ : Params) : Obj := oT []
noncomputable def o88 (_ : Params) : Obj := oF .none []
noncomputable def o89 (_ : Params) : Obj := oS 412 ["self", "number", "row"]
noncomputable def o90 (_ : Params) : Obj := oT []
noncomputable def o91 (_ : Params) : Obj := oG (mth 40 0) "__init__" "KindTable.__init__"
noncomputable def o92 (_ : Params) : Obj := oC "__init__" "KindTable.__init__" 409 52 1 3 87 415 416
noncomputable def o93 (_ : Params) : Obj := oN (mth 40 0) "__init__" "KindTable.__init__" (vs "framerune.kinds" 275) 92
noncomputable def o94 (_ : Params) : Obj := oT []
noncomputable def o95 (_ : Params) : Obj := oF .none []
noncomputable def o96 (_ : Params) : Obj := oS 421 ["self", "k"]
noncomputable def o97 (_ : Params) : Obj := oT []
noncomputable def o98 (_ : Params) : Obj := oG (mth 40 1) "row" "KindTable.row"
noncomputable def o99 (_ : Params) : Obj := oC "row" "KindTable.row" 418 66 2 3 94 423 424
noncomputable def o100 (_ : Params) : Obj := oN (mth 40 1) "row" "KindTable.row" (vs "framerune.kinds" 275) 99
noncomputable def o101 (_ : Params) : Obj := oT []
noncomputable def o102 (_ : Params) : Obj := oF .none []
noncomputable def o103 (_ : Params) : Obj := oS 429 ["self", "row", "found", "depth", "weight", "opened", "level", "inner", "k"]
noncomputable def o104 (_ : Params) : Obj := oT []
noncomputable def o105 (_ : Params) : Obj := oG (mth 40 2) "put" "KindTable.put"
noncomputable def o106 (_ : Params) : Obj := oC "put" "KindTable.put" 426 71 2 3 101 438 439
noncomputable def o107 (_ : Params) : Obj := oN (mth 40 2) "put" "KindTable.put" (vs "framerune.kinds" 275) 106
noncomputable def o108 (_ : Params) : Obj := oS 441 ["depths", "index", "opens", "rows", "weights"]
noncomputable def o109 (P : Params) : Obj := oD P (.type "dict") 4 [("__module__", 404, vs "framerune.kinds" 275), ("__firstlineno__", 408, .int 50 407), ("__init__", 417, .ref 93), ("row", 425, .ref 100), ("put", 440, .ref 107), ("__static_attributes__", 446, .ref 108), ("__dict__", 448, .ref 111), ("__weakref__", 450, .ref 112), ("__doc__", 451, .none)]
noncomputable def o110 (_ : Params) : Obj := oY "KindTable" [.type "object"] [.ref 110, .type "object"] 109 true [] [none, none, some (vs "KindTable" 397), some (vs "KindTable" 405), some (.builtin "object.__new__"), some (.bool true)]
noncomputable def o111 (_ : Params) : Obj := oF (.type "getset_descriptor") [vs "__dict__" 447, .ref 110, .builtin "function.__dict__", .builtin "function.__dict__#set"]
noncomputable def o112 (_ : Params) : Obj := oF (.type "getset_descriptor") [vs "__weakref__" 449, .ref 110, .builtin "ExceptionGroup.__weakref__", .none]
noncomputable def o113 (_ : Params) : Obj := oF (.type "super") [.ref 110, .ref 110, .ref 110]
noncomputable def o114 (_ : Params) : Obj := oF (.type "builtin_function_or_method") [.builtin "object.__init_subclass__", .ref 110]
noncomputable def o115 (_ : Params) : Obj := oT []
noncomputable def o116 (_ : Params) : Obj := oF .none []
noncomputable def o117 (_ : Params) : Obj := oS 457 ["row", "sort"]
noncomputable def o118 (_ : Params) : Obj := oT []
noncomputable def o119 (_ : Params) : Obj := oG (stm 41) "inner_kinds" "inner_kinds"
noncomputable def o120 (_ : Params) : Obj := oC "inner_kinds" "inner_kinds" 454 99 1 3 115 459 460
noncomputable def o121 (_ : Params) : Obj := oN (stm 41) "inner_kinds" "inner_kinds" (vs "framerune.kinds" 275) 120
noncomputable def o122 (_ : Params) : Obj := oT []
noncomputable def o123 (_ : Params) : Obj := oF .none []
noncomputable def o124 (_ : Params) : Obj := oS 465 ["sort"]
noncomputable def o125 (_ : Params) : Obj := oT []
noncomputable def o126 (_ : Params) : Obj := oG (stm 42) "row_level" "row_level"
noncomputable def o127 (_ : Params) : Obj := oC "row_level" "row_level" 462 108 1 3 122 466 467
noncomputable def o128 (_ : Params) : Obj := oN (stm 42) "row_level" "row_level" (vs "framerune.kinds" 275) 127
noncomputable def o129 (_ : Params) : Obj := oT []
noncomputable def o130 (_ : Params) : Obj := oF .none []
noncomputable def o131 (_ : Params) : Obj := oS 472 ["sort"]
noncomputable def o132 (_ : Params) : Obj := oT []
noncomputable def o133 (_ : Params) : Obj := oG (stm 43) "row_length" "row_length"
noncomputable def o134 (_ : Params) : Obj := oC "row_length" "row_length" 469 112 1 3 129 473 474
noncomputable def o135 (_ : Params) : Obj := oN (stm 43) "row_length" "row_length" (vs "framerune.kinds" 275) 134
noncomputable def o136 (_ : Params) : Obj := oT []
noncomputable def o137 (_ : Params) : Obj := oF .none []
noncomputable def o138 (_ : Params) : Obj := oS 479 ["kt", "row", "sort", "inner"]
noncomputable def o139 (_ : Params) : Obj := oT []
noncomputable def o140 (_ : Params) : Obj := oG (stm 44) "check_kind_row" "check_kind_row"
noncomputable def o141 (_ : Params) : Obj := oC "check_kind_row" "check_kind_row" 476 118 2 3 136 483 484
noncomputable def o142 (_ : Params) : Obj := oN (stm 44) "check_kind_row" "check_kind_row" (vs "framerune.kinds" 275) 141
noncomputable def o143 (_ : Params) : Obj := oT []
noncomputable def o144 (_ : Params) : Obj := oF .none []
noncomputable def o145 (_ : Params) : Obj := oS 489 ["kt", "row"]
noncomputable def o146 (_ : Params) : Obj := oT []
noncomputable def o147 (_ : Params) : Obj := oG (stm 45) "check_named" "check_named"
noncomputable def o148 (_ : Params) : Obj := oC "check_named" "check_named" 486 140 2 3 143 491 492
noncomputable def o149 (_ : Params) : Obj := oN (stm 45) "check_named" "check_named" (vs "framerune.kinds" 275) 148
noncomputable def o150 (_ : Params) : Obj := oT []
noncomputable def o151 (_ : Params) : Obj := oF .none []
noncomputable def o152 (_ : Params) : Obj := oS 497 ["kt", "args", "arg"]
noncomputable def o153 (_ : Params) : Obj := oT []
noncomputable def o154 (_ : Params) : Obj := oG (stm 46) "check_args" "check_args"
noncomputable def o155 (_ : Params) : Obj := oC "check_args" "check_args" 494 144 2 3 150 500 501
noncomputable def o156 (_ : Params) : Obj := oN (stm 46) "check_args" "check_args" (vs "framerune.kinds" 275) 155
noncomputable def o157 (_ : Params) : Obj := oT []
noncomputable def o158 (_ : Params) : Obj := oF .none []
noncomputable def o159 (_ : Params) : Obj := oS 506 ["kt", "k", "sort"]
noncomputable def o160 (_ : Params) : Obj := oT []
noncomputable def o161 (_ : Params) : Obj := oG (stm 47) "may_stand" "may_stand"
noncomputable def o162 (_ : Params) : Obj := oC "may_stand" "may_stand" 503 148 2 3 157 509 510
noncomputable def o163 (_ : Params) : Obj := oN (stm 47) "may_stand" "may_stand" (vs "framerune.kinds" 275) 162
noncomputable def o164 (_ : Params) : Obj := oT []
noncomputable def o165 (_ : Params) : Obj := oF .none []
noncomputable def o166 (_ : Params) : Obj := oS 515 ["kt", "tid", "args"]
noncomputable def o167 (_ : Params) : Obj := oT []
noncomputable def o168 (_ : Params) : Obj := oG (stm 48) "class_kind" "class_kind"
noncomputable def o169 (_ : Params) : Obj := oC "class_kind" "class_kind" 512 153 3 3 164 518 519
noncomputable def o170 (_ : Params) : Obj := oN (stm 48) "class_kind" "class_kind" (vs "framerune.kinds" 275) 169
noncomputable def o171 (_ : Params) : Obj := oT []
noncomputable def o172 (_ : Params) : Obj := oF .none []
noncomputable def o173 (_ : Params) : Obj := oS 524 ["kt", "tid", "args"]
noncomputable def o174 (_ : Params) : Obj := oT []
noncomputable def o175 (_ : Params) : Obj := oG (stm 49) "value_kind" "value_kind"
noncomputable def o176 (_ : Params) : Obj := oC "value_kind" "value_kind" 521 157 3 3 171 527 528
noncomputable def o177 (_ : Params) : Obj := oN (stm 49) "value_kind" "value_kind" (vs "framerune.kinds" 275) 176
noncomputable def o178 (_ : Params) : Obj := oT []
noncomputable def o179 (_ : Params) : Obj := oF .none []
noncomputable def o180 (_ : Params) : Obj := oS 533 ["tid", "args"]
noncomputable def o181 (_ : Params) : Obj := oT []
noncomputable def o182 (_ : Params) : Obj := oG (stm 50) "prim_kind" "prim_kind"
noncomputable def o183 (_ : Params) : Obj := oC "prim_kind" "prim_kind" 530 161 2 3 178 535 536
noncomputable def o184 (_ : Params) : Obj := oN (stm 50) "prim_kind" "prim_kind" (vs "framerune.kinds" 275) 183
noncomputable def o185 (_ : Params) : Obj := oT []
noncomputable def o186 (_ : Params) : Obj := oF .none []
noncomputable def o187 (_ : Params) : Obj := oS 541 ["kt", "i"]
noncomputable def o188 (_ : Params) : Obj := oT []
noncomputable def o189 (_ : Params) : Obj := oG (stm 51) "var_kind" "var_kind"
noncomputable def o190 (_ : Params) : Obj := oC "var_kind" "var_kind" 538 165 2 3 185 543 544
noncomputable def o191 (_ : Params) : Obj := oN (stm 51) "var_kind" "var_kind" (vs "framerune.kinds" 275) 190
noncomputable def o192 (_ : Params) : Obj := oT []
noncomputable def o193 (_ : Params) : Obj := oF .none []
noncomputable def o194 (_ : Params) : Obj := oS 549 ["kt", "k", "row"]
noncomputable def o195 (_ : Params) : Obj := oT []
noncomputable def o196 (_ : Params) : Obj := oG (stm 52) "tid_of" "tid_of"
noncomputable def o197 (_ : Params) : Obj := oC "tid_of" "tid_of" 546 167 2 3 192 552 553
noncomputable def o198 (_ : Params) : Obj := oN (stm 52) "tid_of" "tid_of" (vs "framerune.kinds" 275) 197
noncomputable def o199 (_ : Params) : Obj := oT []
noncomputable def o200 (_ : Params) : Obj := oF .none []
noncomputable def o201 (_ : Params) : Obj := oS 558 ["kt", "k"]
noncomputable def o202 (_ : Params) : Obj := oT []
noncomputable def o203 (_ : Params) : Obj := oG (stm 53) "is_value" "is_value"
noncomputable def o204 (_ : Params) : Obj := oC "is_value" "is_value" 555 176 2 3 199 560 561
noncomputable def o205 (_ : Params) : Obj := oN (stm 53) "is_value" "is_value" (vs "framerune.kinds" 275) 204
noncomputable def o206 (_ : Params) : Obj := oT []
noncomputable def o207 (_ : Params) : Obj := oF .none []
noncomputable def o208 (_ : Params) : Obj := oS 566 ["kt", "k", "sort"]
noncomputable def o209 (_ : Params) : Obj := oT []
noncomputable def o210 (_ : Params) : Obj := oG (stm 54) "is_var" "is_var"
noncomputable def o211 (_ : Params) : Obj := oC "is_var" "is_var" 563 180 2 3 206 569 570
noncomputable def o212 (_ : Params) : Obj := oN (stm 54) "is_var" "is_var" (vs "framerune.kinds" 275) 211
noncomputable def o213 (_ : Params) : Obj := oT []
noncomputable def o214 (_ : Params) : Obj := oF (.type "builtin_function_or_method") [.builtin "type.__prepare__", .type "type"]
noncomputable def o215 (P : Params) : Obj := oD P (.type "dict") 5 [("__module__", 591, vs "framerune.store" 572), ("__qualname__", 593, vs "TypeDef" 592), ("__firstlineno__", 595, .int 189 594), ("__init__", 610, .ref 226), ("__static_attributes__", 630, .ref 227)]
noncomputable def o216 (_ : Params) : Obj := oT []
noncomputable def o217 (_ : Params) : Obj := oP [(191, 4, 225)]
noncomputable def o218 (_ : Params) : Obj := oK "TypeDef" "TypeDef" 586 189 0 0 216 (.bool false) [.ref 217, .none, .none, .none, .none] 589 590
noncomputable def o219 (_ : Params) : Obj := oX [some (.ref 218), some (.ref 3), some (.ref 215), none, some (vs "framerune.store" 572), none, some (.ref 0)]
noncomputable def o220 (_ : Params) : Obj := oT []
noncomputable def o221 (_ : Params) : Obj := oF .none []
noncomputable def o222 (_ : Params) : Obj := oS 599 ["self", "tid", "name", "sort", "flags", "base", "params", "asm", "word"]
noncomputable def o223 (_ : Params) : Obj := oT []
noncomputable def o224 (_ : Params) : Obj := oG (mth 61 0) "__init__" "TypeDef.__init__"
noncomputable def o225 (_ : Params) : Obj := oC "__init__" "TypeDef.__init__" 596 191 8 3 220 608 609
noncomputable def o226 (_ : Params) : Obj := oN (mth 61 0) "__init__" "TypeDef.__init__" (vs "framerune.store" 572) 225
noncomputable def o227 (_ : Params) : Obj := oS 611 ["asm", "base", "bounds", "cctor", "events", "fields", "finaliser", "flags", "home", "ifaces", "impls", "methods", "name", "params", "props", "sort", "tid", "under", "variances"]
noncomputable def o228 (P : Params) : Obj := oD P (.type "dict") 4 [("__module__", 591, vs "framerune.store" 572), ("__firstlineno__", 595, .int 189 594), ("__init__", 610, .ref 226), ("__static_attributes__", 630, .ref 227), ("__dict__", 632, .ref 230), ("__weakref__", 634, .ref 231), ("__doc__", 635, .none)]
noncomputable def o229 (_ : Params) : Obj := oY "TypeDef" [.type "object"] [.ref 229, .type "object"] 228 true [] [none, none, some (vs "TypeDef" 584), some (vs "TypeDef" 592), some (.builtin "object.__new__"), some (.bool true)]
noncomputable def o230 (_ : Params) : Obj := oF (.type "getset_descriptor") [vs "__dict__" 631, .ref 229, .builtin "function.__dict__", .builtin "function.__dict__#set"]
noncomputable def o231 (_ : Params) : Obj := oF (.type "getset_descriptor") [vs "__weakref__" 633, .ref 229, .builtin "ExceptionGroup.__weakref__", .none]
noncomputable def o232 (_ : Params) : Obj := oF (.type "super") [.ref 229, .ref 229, .ref 229]
noncomputable def o233 (_ : Params) : Obj := oF (.type "builtin_function_or_method") [.builtin "object.__init_subclass__", .ref 229]
noncomputable def o234 (_ : Params) : Obj := oT []
noncomputable def o235 (_ : Params) : Obj := oF (.type "builtin_function_or_method") [.builtin "type.__prepare__", .type "type"]
noncomputable def o236 (P : Params) : Obj := oD P (.type "dict") 5 [("__module__", 645, vs "framerune.store" 572), ("__qualname__", 647, vs "Store" 646), ("__firstlineno__", 649, .int 215 648), ("__init__", 656, .ref 247), ("__static_attributes__", 664, .ref 248)]
noncomputable def o237 (_ : Params) : Obj := oT []
noncomputable def o238 (_ : Params) : Obj := oP [(217, 4, 246)]
noncomputable def o239 (_ : Params) : Obj := oK "Store" "Store" 640 215 0 0 237 (.bool false) [.ref 238, .none, .none, .none, .none] 643 644
noncomputable def o240 (_ : Params) : Obj := oX [some (.ref 239), some (.ref 3), some (.ref 236), none, some (vs "framerune.store" 572), none, some (.ref 0)]
noncomputable def o241 (_ : Params) : Obj := oT []
noncomputable def o242 (_ : Params) : Obj := oF .none []
noncomputable def o243 (_ : Params) : Obj := oS 653 ["self"]
noncomputable def o244 (_ : Params) : Obj := oT []
noncomputable def o245 (_ : Params) : Obj := oG (mth 62 0) "__init__" "Store.__init__"
noncomputable def o246 (_ : Params) : Obj := oC "__init__" "Store.__init__" 650 217 1 3 241 654 655
noncomputable def o247 (_ : Params) : Obj := oN (mth 62 0) "__init__" "Store.__init__" (vs "framerune.store" 572) 246
noncomputable def o248 (_ : Params) : Obj := oS 657 ["asms", "entry", "fields_", "kt", "methods", "names", "types"]
noncomputable def o249 (P : Params) : Obj := oD P (.type "dict") 4 [("__module__", 645, vs "framerune.store" 572), ("__firstlineno__", 649, .int 215 648), ("__init__", 656, .ref 247), ("__static_attributes__", 664, .ref 248), ("__dict__", 666, .ref 251), ("__weakref__", 668, .ref 252), ("__doc__", 669, .none)]
noncomputable def o250 (_ : Params) : Obj := oY "Store" [.type "object"] [.ref 250, .type "object"] 249 true [] [none, none, some (vs "Store" 638), some (vs "Store" 646), some (.builtin "object.__new__"), some (.bool true)]
noncomputable def o251 (_ : Params) : Obj := oF (.type "getset_descriptor") [vs "__dict__" 665, .ref 250, .builtin "function.__dict__", .builtin "function.__dict__#set"]
noncomputable def o252 (_ : Params) : Obj := oF (.type "getset_descriptor") [vs "__weakref__" 667, .ref 250, .builtin "ExceptionGroup.__weakref__", .none]
noncomputable def o253 (_ : Params) : Obj := oF (.type "super") [.ref 250, .ref 250, .ref 250]
noncomputable def o254 (_ : Params) : Obj := oF (.type "builtin_function_or_method") [.builtin "object.__init_subclass__", .ref 250]
noncomputable def o255 (_ : Params) : Obj := oT []
noncomputable def o256 (_ : Params) : Obj := oF .none []
noncomputable def o257 (_ : Params) : Obj := oS 675 ["store", "tid", "t", "args", "place"]
noncomputable def o258 (_ : Params) : Obj := oT []
noncomputable def o259 (_ : Params) : Obj := oG (stm 63) "self_kind" "self_kind"
noncomputable def o260 (_ : Params) : Obj := oC "self_kind" "self_kind" 672 225 2 3 255 680 681
noncomputable def o261 (_ : Params) : Obj := oN (stm 63) "self_kind" "self_kind" (vs "framerune.store" 572) 260
noncomputable def o262 (_ : Params) : Obj := oT []
noncomputable def o263 (_ : Params) : Obj := oF .none []
noncomputable def o264 (_ : Params) : Obj := oS 686 ["store", "tid", "args", "sort"]
noncomputable def o265 (_ : Params) : Obj := oT []
noncomputable def o266 (_ : Params) : Obj := oG (stm 64) "kind_with" "kind_with"
noncomputable def o267 (_ : Params) : Obj := oC "kind_with" "kind_with" 683 233 3 3 262 690 691
noncomputable def o268 (_ : Params) : Obj := oN (stm 64) "kind_with" "kind_with" (vs "framerune.store" 572) 267
noncomputable def o269 (_ : Params) : Obj := oT []
noncomputable def o270 (_ : Params) : Obj := oF (.type "builtin_function_or_method") [.builtin "type.__prepare__", .type "type"]
noncomputable def o271 (P : Params) : Obj := oD P (.type "dict") 5 [("__module__", 704, vs "framerune.csnodes" 693), ("__qualname__", 706, vs "Node" 705), ("__firstlineno__", 708, .int 240 707), ("__init__", 720, .ref 282), ("__static_attributes__", 727, .ref 283)]
noncomputable def o272 (_ : Params) : Obj := oT []
noncomputable def o273 (_ : Params) : Obj := oP [(242, 4, 281)]
noncomputable def o274 (_ : Params) : Obj := oK "Node" "Node" 699 240 0 0 272 (.bool false) [.ref 273, .none, .none, .none, .none] 702 703
noncomputable def o275 (_ : Params) : Obj := oX [some (.ref 274), some (.ref 3), some (.ref 271), none, some (vs "framerune.csnodes" 693), none, some (.ref 0)]
noncomputable def o276 (_ : Params) : Obj := oT []
noncomputable def o277 (_ : Params) : Obj := oF .none []
noncomputable def o278 (_ : Params) : Obj := oS 712 ["self", "kind", "a", "kids", "mods", "at"]
noncomputable def o279 (_ : Params) : Obj := oT []
noncomputable def o280 (_ : Params) : Obj := oG (mth 67 0) "__init__" "Node.__init__"
noncomputable def o281 (_ : Params) : Obj := oC "__init__" "Node.__init__" 709 242 6 3 276 718 719
noncomputable def o282 (_ : Params) : Obj := oN (mth 67 0) "__init__" "Node.__init__" (vs "framerune.csnodes" 693) 281
noncomputable def o283 (_ : Params) : Obj := oS 721 ["a", "at", "kids", "kind", "mods", "nid"]
noncomputable def o284 (P : Params) : Obj := oD P (.type "dict") 4 [("__module__", 704, vs "framerune.csnodes" 693), ("__firstlineno__", 708, .int 240 707), ("__init__", 720, .ref 282), ("__static_attributes__", 727, .ref 283), ("__dict__", 729, .ref 286), ("__weakref__", 731, .ref 287), ("__doc__", 732, .none)]
noncomputable def o285 (_ : Params) : Obj := oY "Node" [.type "object"] [.ref 285, .type "object"] 284 true [] [none, none, some (vs "Node" 697), some (vs "Node" 705), some (.builtin "object.__new__"), some (.bool true)]
noncomputable def o286 (_ : Params) : Obj := oF (.type "getset_descriptor") [vs "__dict__" 728, .ref 285, .builtin "function.__dict__", .builtin "function.__dict__#set"]
noncomputable def o287 (_ : Params) : Obj := oF (.type "getset_descriptor") [vs "__weakref__" 730, .ref 285, .builtin "ExceptionGroup.__weakref__", .none]
noncomputable def o288 (_ : Params) : Obj := oF (.type "super") [.ref 285, .ref 285, .ref 285]
noncomputable def o289 (_ : Params) : Obj := oF (.type "builtin_function_or_method") [.builtin "object.__init_subclass__", .ref 285]
noncomputable def o290 (_ : Params) : Obj := oT []
noncomputable def o291 (_ : Params) : Obj := oF (.type "builtin_function_or_method") [.builtin "type.__prepare__", .type "type"]
noncomputable def o292 (P : Params) : Obj := oD P (.type "dict") 8 [("__module__", 742, vs "framerune.csnodes" 693), ("__qualname__", 744, vs "Diags" 743), ("__firstlineno__", 746, .int 249 745), ("__init__", 753, .ref 303), ("put", 763, .ref 310), ("cut", 771, .ref 317), ("numbers", 778, .ref 324), ("__static_attributes__", 780, .ref 325)]
noncomputable def o293 (_ : Params) : Obj := oT []
noncomputable def o294 (_ : Params) : Obj := oP [(251, 4, 302), (254, 4, 309), (257, 4, 316), (260, 4, 323)]
noncomputable def o295 (_ : Params) : Obj := oK "Diags" "Diags" 737 249 0 0 293 (.bool false) [.ref 294, .none, .none, .none, .none] 740 741
noncomputable def o296 (_ : Params) : Obj := oX [some (.ref 295), some (.ref 3), some (.ref 292), none, some (vs "framerune.csnodes" 693), none, some (.ref 0)]
noncomputable def o297 (_ : Params) : Obj := oT []
noncomputable def o298 (_ : Params) : Obj := oF .none []
noncomputable def o299 (_ : Params) : Obj := oS 750 ["self"]
noncomputable def o300 (_ : Params) : Obj := oT []
noncomputable def o301 (_ : Params) : Obj := oG (mth 68 0) "__init__" "Diags.__init__"
noncomputable def o302 (_ : Params) : Obj := oC "__init__" "Diags.__init__" 747 251 1 3 297 751 752
noncomputable def o303 (_ : Params) : Obj := oN (mth 68 0) "__init__" "Diags.__init__" (vs "framerune.csnodes" 693) 302
noncomputable def o304 (_ : Params) : Obj := oT []
noncomputable def o305 (_ : Params) : Obj := oF .none []
noncomputable def o306 (_ : Params) : Obj := oS 757 ["self", "number", "at", "words"]
noncomputable def o307 (_ : Params) : Obj := oT []
noncomputable def o308 (_ : Params) : Obj := oG (mth 68 1) "put" "Diags.put"
noncomputable def o309 (_ : Params) : Obj := oC "put" "Diags.put" 754 254 4 3 304 761 762
noncomputable def o310 (_ : Params) : Obj := oN (mth 68 1) "put" "Diags.put" (vs "framerune.csnodes" 693) 309
noncomputable def o311 (_ : Params) : Obj := oT []
noncomputable def o312 (_ : Params) : Obj := oF .none []
noncomputable def o313 (_ : Params) : Obj := oS 767 ["self", "count"]
noncomputable def o314 (_ : Params) : Obj := oT []
noncomputable def o315 (_ : Params) : Obj := oG (mth 68 2) "cut" "Diags.cut"
noncomputable def o316 (_ : Params) : Obj := oC "cut" "Diags.cut" 764 257 2 3 311 769 770
noncomputable def o317 (_ : Params) : Obj := oN (mth 68 2) "cut" "Diags.cut" (vs "framerune.csnodes" 693) 316
noncomputable def o318 (_ : Params) : Obj := oT []
noncomputable def o319 (_ : Params) : Obj := oF .none []
noncomputable def o320 (_ : Params) : Obj := oS 775 ["self"]
noncomputable def o321 (_ : Params) : Obj := oT []
noncomputable def o322 (_ : Params) : Obj := oG (mth 68 3) "numbers" "Diags.numbers"
noncomputable def o323 (_ : Params) : Obj := oC "numbers" "Diags.numbers" 772 260 1 3 318 776 777
noncomputable def o324 (_ : Params) : Obj := oN (mth 68 3) "numbers" "Diags.numbers" (vs "framerune.csnodes" 693) 323
noncomputable def o325 (_ : Params) : Obj := oS 779 ["rows"]
noncomputable def o326 (P : Params) : Obj := oD P (.type "dict") 4 [("__module__", 742, vs "framerune.csnodes" 693), ("__firstlineno__", 746, .int 249 745), ("__init__", 753, .ref 303), ("put", 763, .ref 310), ("cut", 771, .ref 317), ("numbers", 778, .ref 324), ("__static_attributes__", 780, .ref 325), ("__dict__", 782, .ref 328), ("__weakref__", 784, .ref 329), ("__doc__", 785, .none)]
noncomputable def o327 (_ : Params) : Obj := oY "Diags" [.type "object"] [.ref 327, .type "object"] 326 true [] [none, none, some (vs "Diags" 735), some (vs "Diags" 743), some (.builtin "object.__new__"), some (.bool true)]
noncomputable def o328 (_ : Params) : Obj := oF (.type "getset_descriptor") [vs "__dict__" 781, .ref 327, .builtin "function.__dict__", .builtin "function.__dict__#set"]
noncomputable def o329 (_ : Params) : Obj := oF (.type "getset_descriptor") [vs "__weakref__" 783, .ref 327, .builtin "ExceptionGroup.__weakref__", .none]
noncomputable def o330 (_ : Params) : Obj := oF (.type "super") [.ref 327, .ref 327, .ref 327]
noncomputable def o331 (_ : Params) : Obj := oF (.type "builtin_function_or_method") [.builtin "object.__init_subclass__", .ref 327]
noncomputable def o332 (_ : Params) : Obj := oT []
noncomputable def o333 (_ : Params) : Obj := oF .none []
noncomputable def o334 (_ : Params) : Obj := oS 791 ["kind", "a", "at"]
noncomputable def o335 (_ : Params) : Obj := oT []
noncomputable def o336 (_ : Params) : Obj := oG (stm 69) "leaf" "leaf"
noncomputable def o337 (_ : Params) : Obj := oC "leaf" "leaf" 788 262 3 3 332 794 795
noncomputable def o338 (_ : Params) : Obj := oN (stm 69) "leaf" "leaf" (vs "framerune.csnodes" 693) 337
noncomputable def o339 (_ : Params) : Obj := oT []
noncomputable def o340 (_ : Params) : Obj := oF (.type "builtin_function_or_method") [.builtin "type.__prepare__", .type "type"]
noncomputable def o341 (P : Params) : Obj := oD P (.type "dict") 5 [("__module__", 832, vs "framerune.csbound" 797), ("__qualname__", 834, vs "Var" 833), ("__firstlineno__", 836, .int 278 835), ("__init__", 848, .ref 352), ("__static_attributes__", 856, .ref 353)]
noncomputable def o342 (_ : Params) : Obj := oT []
noncomputable def o343 (_ : Params) : Obj := oP [(280, 4, 351)]
noncomputable def o344 (_ : Params) : Obj := oK "Var" "Var" 827 278 0 0 342 (.bool false) [.ref 343, .none, .none, .none, .none] 830 831
noncomputable def o345 (_ : Params) : Obj := oX [some (.ref 344), some (.ref 3), some (.ref 341), none, some (vs "framerune.csbound" 797), none, some (.ref 0)]
noncomputable def o346 (_ : Params) : Obj := oT []
noncomputable def o347 (_ : Params) : Obj := oF .none []
noncomputable def o348 (_ : Params) : Obj := oS 840 ["self", "lid", "name", "kind", "flags", "owner"]
noncomputable def o349 (_ : Params) : Obj := oT []
noncomputable def o350 (_ : Params) : Obj := oG (mth 84 0) "__init__" "Var.__init__"
noncomputable def o351 (_ : Params) : Obj := oC "__init__" "Var.__init__" 837 280 6 3 346 846 847
noncomputable def o352 (_ : Params) : Obj := oN (mth 84 0) "__init__" "Var.__init__" (vs "framerune.csbound" 797) 351
noncomputable def o353 (_ : Params) : Obj := oS 849 ["arg", "block", "flags", "kind", "lid", "name", "owner"]
noncomputable def o354 (P : Params) : Obj := oD P (.type "dict") 4 [("__module__", 832, vs "framerune.csbound" 797), ("__firstlineno__", 836, .int 278 835), ("__init__", 848, .ref 352), ("__static_attributes__", 856, .ref 353), ("__dict__", 858, .ref 356), ("__weakref__", 860, .ref 357), ("__doc__", 861, .none)]
noncomputable def o355 (_ : Params) : Obj := oY "Var" [.type "object"] [.ref 355, .type "object"] 354 true [] [none, none, some (vs "Var" 825), some (vs "Var" 833), some (.builtin "object.__new__"), some (.bool true)]
noncomputable def o356 (_ : Params) : Obj := oF (.type "getset_descriptor") [vs "__dict__" 857, .ref 355, .builtin "function.__dict__", .builtin "function.__dict__#set"]
noncomputable def o357 (_ : Params) : Obj := oF (.type "getset_descriptor") [vs "__weakref__" 859, .ref 355, .builtin "ExceptionGroup.__weakref__", .none]
noncomputable def o358 (_ : Params) : Obj := oF (.type "super") [.ref 355, .ref 355, .ref 355]
noncomputable def o359 (_ : Params) : Obj := oF (.type "builtin_function_or_method") [.builtin "object.__init_subclass__", .ref 355]
noncomputable def o360 (_ : Params) : Obj := oT []
noncomputable def o361 (_ : Params) : Obj := oF (.type "builtin_function_or_method") [.builtin "type.__prepare__", .type "type"]
noncomputable def o362 (P : Params) : Obj := oD P (.type "dict") 5 [("__module__", 871, vs "framerune.csbound" 797), ("__qualname__", 873, vs "Fn" 872), ("__firstlineno__", 875, .int 288 874), ("__init__", 886, .ref 373), ("__static_attributes__", 898, .ref 374)]
noncomputable def o363 (_ : Params) : Obj := oT []
noncomputable def o364 (_ : Params) : Obj := oP [(290, 4, 372)]
noncomputable def o365 (_ : Params) : Obj := oK "Fn" "Fn" 866 288 0 0 363 (.bool false) [.ref 364, .none, .none, .none, .none] 869 870
noncomputable def o366 (_ : Params) : Obj := oX [some (.ref 365), some (.ref 3), some (.ref 362), none, some (vs "framerune.csbound" 797), none, some (.ref 0)]
noncomputable def o367 (_ : Params) : Obj := oT []
noncomputable def o368 (_ : Params) : Obj := oF .none []
noncomputable def o369 (_ : Params) : Obj := oS 879 ["self", "fnid", "mid", "up", "at"]
noncomputable def o370 (_ : Params) : Obj := oT []
noncomputable def o371 (_ : Params) : Obj := oG (mth 85 0) "__init__" "Fn.__init__"
noncomputable def o372 (_ : Params) : Obj := oC "__init__" "Fn.__init__" 876 290 5 3 367 884 885
noncomputable def o373 (_ : Params) : Obj := oN (mth 85 0) "__init__" "Fn.__init__" (vs "framerune.csbound" 797) 372
noncomputable def o374 (_ : Params) : Obj := oS 887 ["at", "body", "elem", "fnid", "lids", "mid", "params", "ret", "sort", "this_kind", "up"]
noncomputable def o375 (P : Params) : Obj := oD P (.type "dict") 4 [("__module__", 871, vs "framerune.csbound" 797), ("__firstlineno__", 875, .int 288 874), ("__init__", 886, .ref 373), ("__static_attributes__", 898, .ref 374), ("__dict__", 900, .ref 377), ("__weakref__", 902, .ref 378), ("__doc__", 903, .none)]
noncomputable def o376 (_ : Params) : Obj := oY "Fn" [.type "object"] [.ref 376, .type "object"] 375 true [] [none, none, some (vs "Fn" 864), some (vs "Fn" 872), some (.builtin "object.__new__"), some (.bool true)]
noncomputable def o377 (_ : Params) : Obj := oF (.type "getset_descriptor") [vs "__dict__" 899, .ref 376, .builtin "function.__dict__", .builtin "function.__dict__#set"]
noncomputable def o378 (_ : Params) : Obj := oF (.type "getset_descriptor") [vs "__weakref__" 901, .ref 376, .builtin "ExceptionGroup.__weakref__", .none]
noncomputable def o379 (_ : Params) : Obj := oF (.type "super") [.ref 376, .ref 376, .ref 376]
noncomputable def o380 (_ : Params) : Obj := oF (.type "builtin_function_or_method") [.builtin "object.__init_subclass__", .ref 376]
noncomputable def o381 (_ : Params) : Obj := oT []
noncomputable def o382 (_ : Params) : Obj := oF (.type "builtin_function_or_method") [.builtin "type.__prepare__", .type "type"]
noncomputable def o383 (P : Params) : Obj := oD P (.type "dict") 5 [("__module__", 913, vs "framerune.csbound" 797), ("__qualname__", 915, vs "Unit" 914), ("__firstlineno__", 917, .int 302 916), ("__init__", 926, .ref 394), ("__static_attributes__", 936, .ref 395)]
noncomputable def o384 (_ : Params) : Obj := oT []
noncomputable def o385 (_ : Params) : Obj := oP [(304, 4, 393)]
noncomputable def o386 (_ : Params) : Obj := oK "Unit" "Unit" 908 302 0 0 384 (.bool false) [.ref 385, .none, .none, .none, .none] 911 912
noncomputable def o387 (_ : Params) : Obj := oX [some (.ref 386), some (.ref 3), some (.ref 383), none, some (vs "framerune.csbound" 797), none, some (.ref 0)]
noncomputable def o388 (_ : Params) : Obj := oT []
noncomputable def o389 (_ : Params) : Obj := oF .none []
noncomputable def o390 (_ : Params) : Obj := oS 921 ["self", "store", "asm"]
noncomputable def o391 (_ : Params) : Obj := oT []
noncomputable def o392 (_ : Params) : Obj := oG (mth 86 0) "__init__" "Unit.__init__"
noncomputable def o393 (_ : Params) : Obj := oC "__init__" "Unit.__init__" 918 304 3 3 388 924 925
noncomputable def o394 (_ : Params) : Obj := oN (mth 86 0) "__init__" "Unit.__init__" (vs "framerune.csbound" 797) 393
noncomputable def o395 (_ : Params) : Obj := oS 927 ["asm", "consts", "diags", "fns", "inits", "of_mid", "sinits", "store", "vars"]
noncomputable def o396 (P : Params) : Obj := oD P (.type "dict") 4 [("__module__", 913, vs "framerune.csbound" 797), ("__firstlineno__", 917, .int 302 916), ("__init__", 926, .ref 394), ("__static_attributes__", 936, .ref 395), ("__dict__", 938, .ref 398), ("__weakref__", 940, .ref 399), ("__doc__", 941, .none)]
noncomputable def o397 (_ : Params) : Obj := oY "Unit" [.type "object"] [.ref 397, .type "object"] 396 true [] [none, none, some (vs "Unit" 906), some (vs "Unit" 914), some (.builtin "object.__new__"), some (.bool true)]
noncomputable def o398 (_ : Params) : Obj := oF (.type "getset_descriptor") [vs "__dict__" 937, .ref 397, .builtin "function.__dict__", .builtin "function.__dict__#set"]
noncomputable def o399 (_ : Params) : Obj := oF (.type "getset_descriptor") [vs "__weakref__" 939, .ref 397, .builtin "ExceptionGroup.__weakref__", .none]
noncomputable def o400 (_ : Params) : Obj := oF (.type "super") [.ref 397, .ref 397, .ref 397]
noncomputable def o401 (_ : Params) : Obj := oF (.type "builtin_function_or_method") [.builtin "object.__init_subclass__", .ref 397]
noncomputable def o402 (_ : Params) : Obj := oT []
noncomputable def o403 (_ : Params) : Obj := oF .none []
noncomputable def o404 (_ : Params) : Obj := oS 947 ["unit", "mid", "up", "at", "fnid"]
noncomputable def o405 (_ : Params) : Obj := oT []
noncomputable def o406 (_ : Params) : Obj := oG (stm 87) "new_fn" "new_fn"
noncomputable def o407 (_ : Params) : Obj := oC "new_fn" "new_fn" 944 314 4 3 402 952 953
noncomputable def o408 (_ : Params) : Obj := oN (stm 87) "new_fn" "new_fn" (vs "framerune.csbound" 797) 407
noncomputable def o409 (_ : Params) : Obj := oT []
noncomputable def o410 (_ : Params) : Obj := oF .none []
noncomputable def o411 (_ : Params) : Obj := oS 958 ["unit", "fnid", "name", "kind", "flags", "lid"]
noncomputable def o412 (_ : Params) : Obj := oT []
noncomputable def o413 (_ : Params) : Obj := oG (stm 88) "new_var" "new_var"
noncomputable def o414 (_ : Params) : Obj := oC "new_var" "new_var" 955 320 5 3 409 964 965
noncomputable def o415 (_ : Params) : Obj := oN (stm 88) "new_var" "new_var" (vs "framerune.csbound" 797) 414
noncomputable def o416 (_ : Params) : Obj := oT []
noncomputable def o417 (_ : Params) : Obj := oF (.type "builtin_function_or_method") [.builtin "type.__prepare__", .type "type"]
noncomputable def o418 (P : Params) : Obj := oD P (.type "dict") 6 [("__module__", 978, vs "framerune.cscore" 967), ("__qualname__", 980, vs "Judge" 979), ("__firstlineno__", 982, .int 328 981), ("fits", 992, .ref 429), ("body_kind", 1003, .ref 436), ("__static_attributes__", 1004, .ref 437)]
noncomputable def o419 (_ : Params) : Obj := oT []
noncomputable def o420 (_ : Params) : Obj := oP [(330, 4, 428), (333, 4, 435)]
noncomputable def o421 (_ : Params) : Obj := oK "Judge" "Judge" 973 328 0 0 419 (.bool false) [.ref 420, .none, .none, .none, .none] 976 977
noncomputable def o422 (_ : Params) : Obj := oX [some (.ref 421), some (.ref 3), some (.ref 418), none, some (vs "framerune.cscore" 967), none, some (.ref 0)]
noncomputable def o423 (_ : Params) : Obj := oT []
noncomputable def o424 (_ : Params) : Obj := oF .none []
noncomputable def o425 (_ : Params) : Obj := oS 986 ["self", "cx", "node", "k"]
noncomputable def o426 (_ : Params) : Obj := oT []
noncomputable def o427 (_ : Params) : Obj := oG (mth 91 0) "fits" "Judge.fits"
noncomputable def o428 (_ : Params) : Obj := oC "fits" "Judge.fits" 983 330 4 3 423 990 991
noncomputable def o429 (_ : Params) : Obj := oN (mth 91 0) "fits" "Judge.fits" (vs "framerune.cscore" 967) 428
noncomputable def o430 (_ : Params) : Obj := oT []
noncomputable def o431 (_ : Params) : Obj := oF .none []
noncomputable def o432 (_ : Params) : Obj := oS 996 ["self", "cx", "node", "kinds", "flags"]
noncomputable def o433 (_ : Params) : Obj := oT []
noncomputable def o434 (_ : Params) : Obj := oG (mth 91 1) "body_kind" "Judge.body_kind"
noncomputable def o435 (_ : Params) : Obj := oC "body_kind" "Judge.body_kind" 993 333 5 3 430 1001 1002
noncomputable def o436 (_ : Params) : Obj := oN (mth 91 1) "body_kind" "Judge.body_kind" (vs "framerune.cscore" 967) 435
noncomputable def o437 (_ : Params) : Obj := oT []
noncomputable def o438 (P : Params) : Obj := oD P (.type "dict") 4 [("__module__", 978, vs "framerune.cscore" 967), ("__firstlineno__", 982, .int 328 981), ("fits", 992, .ref 429), ("body_kind", 1003, .ref 436), ("__static_attributes__", 1004, .ref 437), ("__dict__", 1006, .ref 440), ("__weakref__", 1008, .ref 441), ("__doc__", 1009, .none)]
noncomputable def o439 (_ : Params) : Obj := oY "Judge" [.type "object"] [.ref 439, .type "object"] 438 true [] [none, none, some (vs "Judge" 971), some (vs "Judge" 979), some (.builtin "object.__new__"), some (.bool true)]
noncomputable def o440 (_ : Params) : Obj := oF (.type "getset_descriptor") [vs "__dict__" 1005, .ref 439, .builtin "function.__dict__", .builtin "function.__dict__#set"]
noncomputable def o441 (_ : Params) : Obj := oF (.type "getset_descriptor") [vs "__weakref__" 1007, .ref 439, .builtin "ExceptionGroup.__weakref__", .none]
noncomputable def o442 (_ : Params) : Obj := oF (.type "super") [.ref 439, .ref 439, .ref 439]
noncomputable def o443 (_ : Params) : Obj := oF (.type "builtin_function_or_method") [.builtin "object.__init_subclass__", .ref 439]
noncomputable def o444 (_ : Params) : Obj := oT []
noncomputable def o445 (_ : Params) : Obj := oF (.type "builtin_function_or_method") [.builtin "type.__prepare__", .type "type"]
noncomputable def o446 (P : Params) : Obj := oD P (.type "dict") 16 [("__module__", 1019, vs "framerune.cscore" 967), ("__qualname__", 1021, vs "Turner" 1020), ("__firstlineno__", 1023, .int 335 1022), ("__init__", 1030, .ref 457), ("convert", 1042, .ref 464), ("can", 1052, .ref 471), ("sure", 1062, .ref 478), ("may_be", 1072, .ref 485), ("is_enum", 1081, .ref 492), ("under", 1090, .ref 499), ("inner", 1099, .ref 506), ("governs", 1108, .ref 513), ("never_null", 1117, .ref 520), ("equal", 1128, .ref 527), ("settle", 1138, .ref 534), ("__static_attributes__", 1143, .ref 535)]
noncomputable def o447 (_ : Params) : Obj := oT []
noncomputable def o448 (_ : Params) : Obj := oP [(337, 4, 456), (343, 4, 463), (346, 4, 470), (349, 4, 477), (352, 4, 484), (355, 4, 491), (358, 4, 498), (361, 4, 505), (364, 4, 512), (367, 4, 519), (370, 4, 526), (373, 4, 533)]
noncomputable def o449 (_ : Params) : Obj := oK "Turner" "Turner" 1014 335 0 0 447 (.bool false) [.ref 448, .none, .none, .none, .none] 1017 1018
noncomputable def o450 (_ : Params) : Obj := oX [some (.ref 449), some (.ref 3), some (.ref 446), none, some (vs "framerune.cscore" 967), none, some (.ref 0)]
noncomputable def o451 (_ : Params) : Obj := oT []
noncomputable def o452 (_ : Params) : Obj := oF .none []
noncomputable def o453 (_ : Params) : Obj := oS 1027 ["self"]
noncomputable def o454 (_ : Params) : Obj := oT []
noncomputable def o455 (_ : Params) : Obj := oG (mth 92 0) "__init__" "Turner.__init__"
noncomputable def o456 (_ : Params) : Obj := oC "__init__" "Turner.__init__" 1024 337 1 3 451 1028 1029
noncomputable def o457 (_ : Params) : Obj := oN (mth 92 0) "__init__" "Turner.__init__" (vs "framerune.cscore" 967) 456
noncomputable def o458 (_ : Params) : Obj := oT []
noncomputable def o459 (_ : Params) : Obj := oF .none []
noncomputable def o460 (_ : Params) : Obj := oS 1034 ["self", "cx", "e", "k", "node", "explicit"]
noncomputable def o461 (_ : Params) : Obj := oT []
noncomputable def o462 (_ : Params) : Obj := oG (mth 92 1) "convert" "Turner.convert"
noncomputable def o463 (_ : Params) : Obj := oC "convert" "Turner.convert" 1031 343 6 3 458 1040 1041
noncomputable def o464 (_ : Params) : Obj := oN (mth 92 1) "convert" "Turner.convert" (vs "framerune.cscore" 967) 463
noncomputable def o465 (_ : Params) : Obj := oT []
noncomputable def o466 (_ : Params) : Obj := oF .none []
noncomputable def o467 (_ : Params) : Obj := oS 1046 ["self", "cx", "e", "k"]
noncomputable def o468 (_ : Params) : Obj := oT []
noncomputable def o469 (_ : Params) : Obj := oG (mth 92 2) "can" "Turner.can"
noncomputable def o470 (_ : Params) : Obj := oC "can" "Turner.can" 1043 346 4 3 465 1050 1051
noncomputable def o471 (_ : Params) : Obj := oN (mth 92 2) "can" "Turner.can" (vs "framerune.cscore" 967) 470
noncomputable def o472 (_ : Params) : Obj := oT []
noncomputable def o473 (_ : Params) : Obj := oF .none []
noncomputable def o474 (_ : Params) : Obj := oS 1056 ["self", "cx", "s", "t"]
noncomputable def o475 (_ : Params) : Obj := oT []
noncomputable def o476 (_ : Params) : Obj := oG (mth 92 3) "sure" "Turner.sure"
noncomputable def o477 (_ : Params) : Obj := oC "sure" "Turner.sure" 1053 349 4 3 472 1060 1061
noncomputable def o478 (_ : Params) : Obj := oN (mth 92 3) "sure" "Turner.sure" (vs "framerune.cscore" 967) 477
noncomputable def o479 (_ : Params) : Obj := oT []
noncomputable def o480 (_ : Params) : Obj := oF .none []
noncomputable def o481 (_ : Params) : Obj := oS 1066 ["self", "cx", "s", "k"]
noncomputable def o482 (_ : Params) : Obj := oT []
noncomputable def o483 (_ : Params) : Obj := oG (mth 92 4) "may_be" "Turner.may_be"
noncomputable def o484 (_ : Params) : Obj := oC "may_be" "Turner.may_be" 1063 352 4 3 479 1070 1071
noncomputable def o485 (_ : Params) : Obj := oN (mth 92 4) "may_be" "Turner.may_be" (vs "framerune.cscore" 967) 484
noncomputable def o486 (_ : Params) : Obj := oT []
noncomputable def o487 (_ : Params) : Obj := oF .none []
noncomputable def o488 (_ : Params) : Obj := oS 1076 ["self", "cx", "k"]
noncomputable def o489 (_ : Params) : Obj := oT []
noncomputable def o490 (_ : Params) : Obj := oG (mth 92 5) "is_enum" "Turner.is_enum"
noncomputable def o491 (_ : Params) : Obj := oC "is_enum" "Turner.is_enum" 1073 355 3 3 486 1079 1080
noncomputable def o492 (_ : Params) : Obj := oN (mth 92 5) "is_enum" "Turner.is_enum" (vs "framerune.cscore" 967) 491
noncomputable def o493 (_ : Params) : Obj := oT []
noncomputable def o494 (_ : Params) : Obj := oF .none []
noncomputable def o495 (_ : Params) : Obj := oS 1085 ["self", "cx", "k"]
noncomputable def o496 (_ : Params) : Obj := oT []
noncomputable def o497 (_ : Params) : Obj := oG (mth 92 6) "under" "Turner.under"
noncomputable def o498 (_ : Params) : Obj := oC "under" "Turner.under" 1082 358 3 3 493 1088 1089
noncomputable def o499 (_ : Params) : Obj := oN (mth 92 6) "under" "Turner.under" (vs "framerune.cscore" 967) 498
noncomputable def o500 (_ : Params) : Obj := oT []
noncomputable def o501 (_ : Params) : Obj := oF .none []
noncomputable def o502 (_ : Params) : Obj := oS 1094 ["self", "cx", "k"]
noncomputable def o503 (_ : Params) : Obj := oT []
noncomputable def o504 (_ : Params) : Obj := oG (mth 92 7) "inner" "Turner.inner"
noncomputable def o505 (_ : Params) : Obj := oC "inner" "Turner.inner" 1091 361 3 3 500 1097 1098
noncomputable def o506 (_ : Params) : Obj := oN (mth 92 7) "inner" "Turner.inner" (vs "framerune.cscore" 967) 505
noncomputable def o507 (_ : Params) : Obj := oT []
noncomputable def o508 (_ : Params) : Obj := oF .none []
noncomputable def o509 (_ : Params) : Obj := oS 1103 ["self", "cx", "k"]
noncomputable def o510 (_ : Params) : Obj := oT []
noncomputable def o511 (_ : Params) : Obj := oG (mth 92 8) "governs" "Turner.governs"
noncomputable def o512 (_ : Params) : Obj := oC "governs" "Turner.governs" 1100 364 3 3 507 1106 1107
noncomputable def o513 (_ : Params) : Obj := oN (mth 92 8) "governs" "Turner.governs" (vs "framerune.cscore" 967) 512
noncomputable def o514 (_ : Params) : Obj := oT []
noncomputable def o515 (_ : Params) : Obj := oF .none []
noncomputable def o516 (_ : Params) : Obj := oS 1112 ["self", "cx", "k"]
noncomputable def o517 (_ : Params) : Obj := oT []
noncomputable def o518 (_ : Params) : Obj := oG (mth 92 9) "never_null" "Turner.never_null"
noncomputable def o519 (_ : Params) : Obj := oC "never_null" "Turner.never_null" 1109 367 3 3 514 1115 1116
noncomputable def o520 (_ : Params) : Obj := oN (mth 92 9) "never_null" "Turner.never_null" (vs "framerune.cscore" 967) 519
noncomputable def o521 (_ : Params) : Obj := oT []
noncomputable def o522 (_ : Params) : Obj := oF .none []
noncomputable def o523 (_ : Params) : Obj := oS 1121 ["self", "cx", "l", "r", "node"]
noncomputable def o524 (_ : Params) : Obj := oT []
noncomputable def o525 (_ : Params) : Obj := oG (mth 92 10) "equal" "Turner.equal"
noncomputable def o526 (_ : Params) : Obj := oC "equal" "Turner.equal" 1118 370 5 3 521 1126 1127
noncomputable def o527 (_ : Params) : Obj := oN (mth 92 10) "equal" "Turner.equal" (vs "framerune.cscore" 967) 526
noncomputable def o528 (_ : Params) : Obj := oT []
noncomputable def o529 (_ : Params) : Obj := oF .none []
noncomputable def o530 (_ : Params) : Obj := oS 1132 ["self", "cx", "e", "node"]
noncomputable def o531 (_ : Params) : Obj := oT []
noncomputable def o532 (_ : Params) : Obj := oG (mth 92 11) "settle" "Turner.settle"
noncomputable def o533 (_ : Params) : Obj := oC "settle" "Turner.settle" 1129 373 4 3 528 1136 1137
noncomputable def o534 (_ : Params) : Obj := oN (mth 92 11) "settle" "Turner.settle" (vs "framerune.cscore" 967) 533
noncomputable def o535 (_ : Params) : Obj := oS 1139 ["goes", "inners", "sames", "unders"]
noncomputable def o536 (P : Params) : Obj := oD P (.type "dict") 4 [("__module__", 1019, vs "framerune.cscore" 967), ("__firstlineno__", 1023, .int 335 1022), ("__init__", 1030, .ref 457), ("convert", 1042, .ref 464), ("can", 1052, .ref 471), ("sure", 1062, .ref 478), ("may_be", 1072, .ref 485), ("is_enum", 1081, .ref 492), ("under", 1090, .ref 499), ("inner", 1099, .ref 506), ("governs", 1108, .ref 513), ("never_null", 1117, .ref 520), ("equal", 1128, .ref 527), ("settle", 1138, .ref 534), ("__static_attributes__", 1143, .ref 535), ("__dict__", 1145, .ref 538), ("__weakref__", 1147, .ref 539), ("__doc__", 1148, .none)]
noncomputable def o537 (_ : Params) : Obj := oY "Turner" [.type "object"] [.ref 537, .type "object"] 536 true [] [none, none, some (vs "Turner" 1012), some (vs "Turner" 1020), some (.builtin "object.__new__"), some (.bool true)]
noncomputable def o538 (_ : Params) : Obj := oF (.type "getset_descriptor") [vs "__dict__" 1144, .ref 537, .builtin "function.__dict__", .builtin "function.__dict__#set"]
noncomputable def o539 (_ : Params) : Obj := oF (.type "getset_descriptor") [vs "__weakref__" 1146, .ref 537, .builtin "ExceptionGroup.__weakref__", .none]
noncomputable def o540 (_ : Params) : Obj := oF (.type "super") [.ref 537, .ref 537, .ref 537]
noncomputable def o541 (_ : Params) : Obj := oF (.type "builtin_function_or_method") [.builtin "object.__init_subclass__", .ref 537]
noncomputable def o542 (_ : Params) : Obj := oT []
noncomputable def o543 (_ : Params) : Obj := oF (.type "builtin_function_or_method") [.builtin "type.__prepare__", .type "type"]
noncomputable def o544 (P : Params) : Obj := oD P (.type "dict") 5 [("__module__", 1158, vs "framerune.cscore" 967), ("__qualname__", 1160, vs "Fitter" 1159), ("__firstlineno__", 1162, .int 375 1161), ("fit", 1173, .ref 555), ("__static_attributes__", 1174, .ref 556)]
noncomputable def o545 (_ : Params) : Obj := oT []
noncomputable def o546 (_ : Params) : Obj := oP [(377, 4, 554)]
noncomputable def o547 (_ : Params) : Obj := oK "Fitter" "Fitter" 1153 375 0 0 545 (.bool false) [.ref 546, .none, .none, .none, .none] 1156 1157
noncomputable def o548 (_ : Params) : Obj := oX [some (.ref 547), some (.ref 3), some (.ref 544), none, some (vs "framerune.cscore" 967), none, some (.ref 0)]
noncomputable def o549 (_ : Params) : Obj := oT []
noncomputable def o550 (_ : Params) : Obj := oF .none []
noncomputable def o551 (_ : Params) : Obj := oS 1166 ["self", "cx", "e", "k", "node"]
noncomputable def o552 (_ : Params) : Obj := oT []
noncomputable def o553 (_ : Params) : Obj := oG (mth 93 0) "fit" "Fitter.fit"
noncomputable def o554 (_ : Params) : Obj := oC "fit" "Fitter.fit" 1163 377 5 3 549 1171 1172
noncomputable def o555 (_ : Params) : Obj := oN (mth 93 0) "fit" "Fitter.fit" (vs "framerune.cscore" 967) 554
noncomputable def o556 (_ : Params) : Obj := oT []
noncomputable def o557 (P : Params) : Obj := oD P (.type "dict") 4 [("__module__", 1158, vs "framerune.cscore" 967), ("__firstlineno__", 1162, .int 375 1161), ("fit", 1173, .ref 555), ("__static_attributes__", 1174, .ref 556), ("__dict__", 1176, .ref 559), ("__weakref__", 1178, .ref 560), ("__doc__", 1179, .none)]
noncomputable def o558 (_ : Params) : Obj := oY "Fitter" [.type "object"] [.ref 558, .type "object"] 557 true [] [none, none, some (vs "Fitter" 1151), some (vs "Fitter" 1159), some (.builtin "object.__new__"), some (.bool true)]
noncomputable def o559 (_ : Params) : Obj := oF (.type "getset_descriptor") [vs "__dict__" 1175, .ref 558, .builtin "function.__dict__", .builtin "function.__dict__#set"]
noncomputable def o560 (_ : Params) : Obj := oF (.type "getset_descriptor") [vs "__weakref__" 1177, .ref 558, .builtin "ExceptionGroup.__weakref__", .none]
noncomputable def o561 (_ : Params) : Obj := oF (.type "super") [.ref 558, .ref 558, .ref 558]
noncomputable def o562 (_ : Params) : Obj := oF (.type "builtin_function_or_method") [.builtin "object.__init_subclass__", .ref 558]
noncomputable def o563 (_ : Params) : Obj := oT []
noncomputable def o564 (_ : Params) : Obj := oF (.type "builtin_function_or_method") [.builtin "type.__prepare__", .type "type"]
noncomputable def o565 (P : Params) : Obj := oD P (.type "dict") 5 [("__module__", 1189, vs "framerune.cscore" 967), ("__qualname__", 1191, vs "Keeper" 1190), ("__firstlineno__", 1193, .int 379 1192), ("kept", 1203, .ref 576), ("__static_attributes__", 1204, .ref 577)]
noncomputable def o566 (_ : Params) : Obj := oT []
noncomputable def o567 (_ : Params) : Obj := oP [(381, 4, 575)]
noncomputable def o568 (_ : Params) : Obj := oK "Keeper" "Keeper" 1184 379 0 0 566 (.bool false) [.ref 567, .none, .none, .none, .none] 1187 1188
noncomputable def o569 (_ : Params) : Obj := oX [some (.ref 568), some (.ref 3), some (.ref 565), none, some (vs "framerune.cscore" 967), none, some (.ref 0)]
noncomputable def o570 (_ : Params) : Obj := oT []
noncomputable def o571 (_ : Params) : Obj := oF .none []
noncomputable def o572 (_ : Params) : Obj := oS 1197 ["self", "cx", "k", "node"]
noncomputable def o573 (_ : Params) : Obj := oT []
noncomputable def o574 (_ : Params) : Obj := oG (mth 94 0) "kept" "Keeper.kept"
noncomputable def o575 (_ : Params) : Obj := oC "kept" "Keeper.kept" 1194 381 4 3 570 1201 1202
noncomputable def o576 (_ : Params) : Obj := oN (mth 94 0) "kept" "Keeper.kept" (vs "framerune.cscore" 967) 575
noncomputable def o577 (_ : Params) : Obj := oT []
noncomputable def o578 (P : Params) : Obj := oD P (.type "dict") 4 [("__module__", 1189, vs "framerune.cscore" 967), ("__firstlineno__", 1193, .int 379 1192), ("kept", 1203, .ref 576), ("__static_attributes__", 1204, .ref 577), ("__dict__", 1206, .ref 580), ("__weakref__", 1208, .ref 581), ("__doc__", 1209, .none)]
noncomputable def o579 (_ : Params) : Obj := oY "Keeper" [.type "object"] [.ref 579, .type "object"] 578 true [] [none, none, some (vs "Keeper" 1182), some (vs "Keeper" 1190), some (.builtin "object.__new__"), some (.bool true)]
noncomputable def o580 (_ : Params) : Obj := oF (.type "getset_descriptor") [vs "__dict__" 1205, .ref 579, .builtin "function.__dict__", .builtin "function.__dict__#set"]
noncomputable def o581 (_ : Params) : Obj := oF (.type "getset_descriptor") [vs "__weakref__" 1207, .ref 579, .builtin "ExceptionGroup.__weakref__", .none]
noncomputable def o582 (_ : Params) : Obj := oF (.type "super") [.ref 579, .ref 579, .ref 579]
noncomputable def o583 (_ : Params) : Obj := oF (.type "builtin_function_or_method") [.builtin "object.__init_subclass__", .ref 579]
noncomputable def o584 (_ : Params) : Obj := oT []
noncomputable def o585 (_ : Params) : Obj := oF (.type "builtin_function_or_method") [.builtin "type.__prepare__", .type "type"]
noncomputable def o586 (P : Params) : Obj := oD P (.type "dict") 9 [("__module__", 1219, vs "framerune.cscore" 967), ("__qualname__", 1221, vs "Yard" 1220), ("__firstlineno__", 1223, .int 383 1222), ("__init__", 1233, .ref 597), ("kind", 1241, .ref 604), ("fault", 1251, .ref 611), ("show", 1259, .ref 618), ("kept", 1268, .ref 625), ("__static_attributes__", 1282, .ref 626)]
noncomputable def o587 (_ : Params) : Obj := oT []
noncomputable def o588 (_ : Params) : Obj := oP [(385, 4, 596), (400, 4, 603), (403, 4, 610), (406, 4, 617), (409, 4, 624)]
noncomputable def o589 (_ : Params) : Obj := oK "Yard" "Yard" 1214 383 0 0 587 (.bool false) [.ref 588, .none, .none, .none, .none] 1217 1218
noncomputable def o590 (_ : Params) : Obj := oX [some (.ref 589), some (.ref 3), some (.ref 586), none, some (vs "framerune.cscore" 967), none, some (.ref 0)]
noncomputable def o591 (_ : Params) : Obj := oT []
noncomputable def o592 (_ : Params) : Obj := oF .none []
noncomputable def o593 (_ : Params) : Obj := oS 1227 ["self", "unit", "host", "asm"]
noncomputable def o594 (_ : Params) : Obj := oT []
noncomputable def o595 (_ : Params) : Obj := oG (mth 95 0) "__init__" "Yard.__init__"
noncomputable def o596 (_ : Params) : Obj := oC "__init__" "Yard.__init__" 1224 385 4 3 591 1231 1232
noncomputable def o597 (_ : Params) : Obj := oN (mth 95 0) "__init__" "Yard.__init__" (vs "framerune.cscore" 967) 596
noncomputable def o598 (_ : Params) : Obj := oT []
noncomputable def o599 (_ : Params) : Obj := oF .none []
noncomputable def o600 (_ : Params) : Obj := oS 1237 ["self", "node"]
noncomputable def o601 (_ : Params) : Obj := oT []
noncomputable def o602 (_ : Params) : Obj := oG (mth 95 1) "kind" "Yard.kind"
noncomputable def o603 (_ : Params) : Obj := oC "kind" "Yard.kind" 1234 400 2 3 598 1239 1240
noncomputable def o604 (_ : Params) : Obj := oN (mth 95 1) "kind" "Yard.kind" (vs "framerune.cscore" 967) 603
noncomputable def o605 (_ : Params) : Obj := oT []
noncomputable def o606 (_ : Params) : Obj := oF .none []
noncomputable def o607 (_ : Params) : Obj := oS 1245 ["self", "number", "node", "words"]
noncomputable def o608 (_ : Params) : Obj := oT []
noncomputable def o609 (_ : Params) : Obj := oG (mth 95 2) "fault" "Yard.fault"
noncomputable def o610 (_ : Params) : Obj := oC "fault" "Yard.fault" 1242 403 4 3 605 1249 1250
noncomputable def o611 (_ : Params) : Obj := oN (mth 95 2) "fault" "Yard.fault" (vs "framerune.cscore" 967) 610
noncomputable def o612 (_ : Params) : Obj := oT []
noncomputable def o613 (_ : Params) : Obj := oF .none []
noncomputable def o614 (_ : Params) : Obj := oS 1255 ["self", "k"]
noncomputable def o615 (_ : Params) : Obj := oT []
noncomputable def o616 (_ : Params) : Obj := oG (mth 95 3) "show" "Yard.show"
noncomputable def o617 (_ : Params) : Obj := oC "show" "Yard.show" 1252 406 2 3 612 1257 1258
noncomputable def o618 (_ : Params) : Obj := oN (mth 95 3) "show" "Yard.show" (vs "framerune.cscore" 967) 617
noncomputable def o619 (_ : Params) : Obj := oT []
noncomputable def o620 (_ : Params) : Obj := oF .none []
noncomputable def o621 (_ : Params) : Obj := oS 1263 ["self", "k", "node"]
noncomputable def o622 (_ : Params) : Obj := oT []
noncomputable def o623 (_ : Params) : Obj := oG (mth 95 4) "kept" "Yard.kept"
noncomputable def o624 (_ : Params) : Obj := oC "kept" "Yard.kept" 1260 409 3 3 619 1266 1267
noncomputable def o625 (_ : Params) : Obj := oN (mth 95 4) "kept" "Yard.kept" (vs "framerune.cscore" 967) 624
noncomputable def o626 (_ : Params) : Obj := oS 1269 ["asm", "early", "host", "kinds", "kt", "mid", "owner", "static", "store", "told", "tparams", "unit", "unmet"]
noncomputable def o627 (P : Params) : Obj := oD P (.type "dict") 4 [("__module__", 1219, vs "framerune.cscore" 967), ("__firstlineno__", 1223, .int 383 1222), ("__init__", 1233, .ref 597), ("kind", 1241, .ref 604), ("fault", 1251, .ref 611), ("show", 1259, .ref 618), ("kept", 1268, .ref 625), ("__static_attributes__", 1282, .ref 626), ("__dict__", 1284, .ref 629), ("__weakref__", 1286, .ref 630), ("__doc__", 1287, .none)]
noncomputable def o628 (_ : Params) : Obj := oY "Yard" [.type "object"] [.ref 628, .type "object"] 627 true [.ref 670] [none, none, some (vs "Yard" 1212), some (vs "Yard" 1220), some (.builtin "object.__new__"), some (.bool true)]
noncomputable def o629 (_ : Params) : Obj := oF (.type "getset_descriptor") [vs "__dict__" 1283, .ref 628, .builtin "function.__dict__", .builtin "function.__dict__#set"]
noncomputable def o630 (_ : Params) : Obj := oF (.type "getset_descriptor") [vs "__weakref__" 1285, .ref 628, .builtin "ExceptionGroup.__weakref__", .none]
noncomputable def o631 (_ : Params) : Obj := oF (.type "super") [.ref 628, .ref 628, .ref 628]
noncomputable def o632 (_ : Params) : Obj := oF (.type "builtin_function_or_method") [.builtin "object.__init_subclass__", .ref 628]
noncomputable def o633 (_ : Params) : Obj := oT [.ref 628]
noncomputable def o634 (_ : Params) : Obj := oF (.type "builtin_function_or_method") [.builtin "type.__prepare__", .type "type"]
noncomputable def o635 (P : Params) : Obj := oD P (.type "dict") 8 [("__module__", 1297, vs "framerune.cscore" 967), ("__qualname__", 1299, vs "Pew" 1298), ("__firstlineno__", 1301, .int 411 1300), ("__init__", 1311, .ref 646), ("expr", 1320, .ref 653), ("fits", 1330, .ref 660), ("convert", 1341, .ref 667), ("__static_attributes__", 1362, .ref 668)]
noncomputable def o636 (_ : Params) : Obj := oT []
noncomputable def o637 (_ : Params) : Obj := oP [(413, 4, 645), (435, 4, 652), (438, 4, 659), (441, 4, 666)]
noncomputable def o638 (_ : Params) : Obj := oK "Pew" "Pew" 1292 411 0 0 636 (.bool false) [.ref 637, .none, .none, .none, .none] 1295 1296
noncomputable def o639 (_ : Params) : Obj := oX [some (.ref 638), some (.ref 3), some (.ref 635), none, some (vs "framerune.cscore" 967), none, some (.ref 0)]
noncomputable def o640 (_ : Params) : Obj := oT []
noncomputable def o641 (_ : Params) : Obj := oF .none []
noncomputable def o642 (_ : Params) : Obj := oS 1305 ["self", "unit", "asm", "host"]
noncomputable def o643 (_ : Params) : Obj := oT []
noncomputable def o644 (_ : Params) : Obj := oG (mth 96 0) "__init__" "Pew.__init__"
noncomputable def o645 (_ : Params) : Obj := oC "__init__" "Pew.__init__" 1302 413 4 3 640 1309 1310
noncomputable def o646 (_ : Params) : Obj := oN (mth 96 0) "__init__" "Pew.__init__" (vs "framerune.cscore" 967) 645
noncomputable def o647 (_ : Params) : Obj := oT []
noncomputable def o648 (_ : Params) : Obj := oF .none []
noncomputable def o649 (_ : Params) : Obj := oS 1315 ["self", "node", "want"]
noncomputable def o650 (_ : Params) : Obj := oT []
noncomputable def o651 (_ : Params) : Obj := oG (mth 96 1) "expr" "Pew.expr"
noncomputable def o652 (_ : Params) : Obj := oC "expr" "Pew.expr" 1312 435 3 3 647 1318 1319
noncomputable def o653 (_ : Params) : Obj := oN (mth 96 1) "expr" "Pew.expr" (vs "framerune.cscore" 967) 652
noncomputable def o654 (_ : Params) : Obj := oT []
noncomputable def o655 (_ : Params) : Obj := oF .none []
noncomputable def o656 (_ : Params) : Obj := oS 1324 ["self", "e", "k", "node"]
noncomputable def o657 (_ : Params) : Obj := oT []
noncomputable def o658 (_ : Params) : Obj := oG (mth 96 2) "fits" "Pew.fits"
noncomputable def o659 (_ : Params) : Obj := oC "fits" "Pew.fits" 1321 438 4 3 654 1328 1329
noncomputable def o660 (_ : Params) : Obj := oN (mth 96 2) "fits" "Pew.fits" (vs "framerune.cscore" 967) 659
noncomputable def o661 (_ : Params) : Obj := oT []
noncomputable def o662 (_ : Params) : Obj := oF .none []
noncomputable def o663 (_ : Params) : Obj := oS 1334 ["self", "e", "k", "node", "explicit"]
noncomputable def o664 (_ : Params) : Obj := oT []
noncomputable def o665 (_ : Params) : Obj := oG (mth 96 3) "convert" "Pew.convert"
noncomputable def o666 (_ : Params) : Obj := oC "convert" "Pew.convert" 1331 441 5 3 661 1339 1340
noncomputable def o667 (_ : Params) : Obj := oN (mth 96 3) "convert" "Pew.convert" (vs "framerune.cscore" 967) 666
noncomputable def o668 (_ : Params) : Obj := oS 1342 ["asm", "at", "checked", "deep", "early", "exprs", "fn", "free", "host", "kinds", "kt", "mid", "owner", "static", "store", "told", "tparams", "turner", "unit", "unmet"]
noncomputable def o669 (P : Params) : Obj := oD P (.type "dict") 2 [("__module__", 1297, vs "framerune.cscore" 967), ("__firstlineno__", 1301, .int 411 1300), ("__init__", 1311, .ref 646), ("expr", 1320, .ref 653), ("fits", 1330, .ref 660), ("convert", 1341, .ref 667), ("__static_attributes__", 1362, .ref 668), ("__doc__", 1363, .none)]
noncomputable def o670 (_ : Params) : Obj := oY "Pew" [.ref 628] [.ref 670, .ref 628, .type "object"] 669 true [.ref 766] [some (.ref 633), none, some (vs "Pew" 1290), some (vs "Pew" 1298), some (.builtin "object.__new__"), some (.bool true)]
noncomputable def o671 (_ : Params) : Obj := oF (.type "super") [.ref 670, .ref 670, .ref 670]
noncomputable def o672 (_ : Params) : Obj := oF (.type "builtin_function_or_method") [.builtin "object.__init_subclass__", .ref 670]
noncomputable def o673 (_ : Params) : Obj := oT [.ref 670]
noncomputable def o674 (_ : Params) : Obj := oF (.type "builtin_function_or_method") [.builtin "type.__prepare__", .type "type"]
noncomputable def o675 (P : Params) : Obj := oD P (.type "dict") 16 [("__module__", 1373, vs "framerune.cscore" 967), ("__qualname__", 1375, vs "Seat" 1374), ("__firstlineno__", 1377, .int 443 1376), ("__init__", 1387, .ref 686), ("expr", 1396, .ref 693), ("stmt", 1404, .ref 700), ("kind", 1412, .ref 707), ("fits", 1422, .ref 714), ("convert", 1433, .ref 721), ("fault", 1443, .ref 728), ("kept", 1452, .ref 735), ("declare", 1462, .ref 742), ("find", 1470, .ref 749), ("push_scope", 1477, .ref 756), ("pop_scope", 1484, .ref 763), ("__static_attributes__", 1519, .ref 764)]
noncomputable def o676 (_ : Params) : Obj := oT []
noncomputable def o677 (_ : Params) : Obj := oP [(445, 4, 685), (481, 4, 692), (484, 4, 699), (487, 4, 706), (490, 4, 713), (493, 4, 720), (496, 4, 727), (499, 4, 734), (502, 4, 741), (505, 4, 748), (508, 4, 755), (511, 4, 762)]
noncomputable def o678 (_ : Params) : Obj := oK "Seat" "Seat" 1368 443 0 0 676 (.bool false) [.ref 677, .none, .none, .none, .none] 1371 1372
noncomputable def o679 (_ : Params) : Obj := oX [some (.ref 678), some (.ref 3), some (.ref 675), none, some (vs "framerune.cscore" 967), none, some (.ref 0)]
noncomputable def o680 (_ : Params) : Obj := oT []
noncomputable def o681 (_ : Params) : Obj := oF .none []
noncomputable def o682 (_ : Params) : Obj := oS 1381 ["self", "unit", "asm", "host"]
noncomputable def o683 (_ : Params) : Obj := oT []
noncomputable def o684 (_ : Params) : Obj := oG (mth 97 0) "__init__" "Seat.__init__"
noncomputable def o685 (_ : Params) : Obj := oC "__init__" "Seat.__init__" 1378 445 4 3 680 1385 1386
noncomputable def o686 (_ : Params) : Obj := oN (mth 97 0) "__init__" "Seat.__init__" (vs "framerune.cscore" 967) 685
noncomputable def o687 (_ : Params) : Obj := oT []
noncomputable def o688 (_ : Params) : Obj := oF .none []
noncomputable def o689 (_ : Params) : Obj := oS 1391 ["self", "node", "want"]
noncomputable def o690 (_ : Params) : Obj := oT []
noncomputable def o691 (_ : Params) : Obj := oG (mth 97 1) "expr" "Seat.expr"
noncomputable def o692 (_ : Params) : Obj := oC "expr" "Seat.expr" 1388 481 3 3 687 1394 1395
noncomputable def o693 (_ : Params) : Obj := oN (mth 97 1) "expr" "Seat.expr" (vs "framerune.cscore" 967) 692
noncomputable def o694 (_ : Params) : Obj := oT []
noncomputable def o695 (_ : Params) : Obj := oF .none []
noncomputable def o696 (_ : Params) : Obj := oS 1400 ["self", "node"]
noncomputable def o697 (_ : Params) : Obj := oT []
noncomputable def o698 (_ : Params) : Obj := oG (mth 97 2) "stmt" "Seat.stmt"
noncomputable def o699 (_ : Params) : Obj := oC "stmt" "Seat.stmt" 1397 484 2 3 694 1402 1403
noncomputable def o700 (_ : Params) : Obj := oN (mth 97 2) "stmt" "Seat.stmt" (vs "framerune.cscore" 967) 699
noncomputable def o701 (_ : Params) : Obj := oT []
noncomputable def o702 (_ : Params) : Obj := oF .none []
noncomputable def o703 (_ : Params) : Obj := oS 1408 ["self", "node"]
noncomputable def o704 (_ : Params) : Obj := oT []
noncomputable def o705 (_ : Params) : Obj := oG (mth 97 3) "kind" "Seat.kind"
noncomputable def o706 (_ : Params) : Obj := oC "kind" "Seat.kind" 1405 487 2 3 701 1410 1411
noncomputable def o707 (_ : Params) : Obj := oN (mth 97 3) "kind" "Seat.kind" (vs "framerune.cscore" 967) 706
noncomputable def o708 (_ : Params) : Obj := oT []
noncomputable def o709 (_ : Params) : Obj := oF .none []
noncomputable def o710 (_ : Params) : Obj := oS 1416 ["self", "e", "k", "node"]
noncomputable def o711 (_ : Params) : Obj := oT []
noncomputable def o712 (_ : Params) : Obj := oG (mth 97 4) "fits" "Seat.fits"
noncomputable def o713 (_ : Params) : Obj := oC "fits" "Seat.fits" 1413 490 4 3 708 1420 1421
noncomputable def o714 (_ : Params) : Obj := oN (mth 97 4) "fits" "Seat.fits" (vs "framerune.cscore" 967) 713
noncomputable def o715 (_ : Params) : Obj := oT []
noncomputable def o716 (_ : Params) : Obj := oF .none []
noncomputable def o717 (_ : Params) : Obj := oS 1426 ["self", "e", "k", "node", "explicit"]
noncomputable def o718 (_ : Params) : Obj := oT []
noncomputable def o719 (_ : Params) : Obj := oG (mth 97 5) "convert" "Seat.convert"
noncomputable def o720 (_ : Params) : Obj := oC "convert" "Seat.convert" 1423 493 5 3 715 1431 1432
noncomputable def o721 (_ : Params) : Obj := oN (mth 97 5) "convert" "Seat.convert" (vs "framerune.cscore" 967) 720
noncomputable def o722 (_ : Params) : Obj := oT []
noncomputable def o723 (_ : Params) : Obj := oF .none []
noncomputable def o724 (_ : Params) : Obj := oS 1437 ["self", "number", "node", "words"]
noncomputable def o725 (_ : Params) : Obj := oT []
noncomputable def o726 (_ : Params) : Obj := oG (mth 97 6) "fault" "Seat.fault"
noncomputable def o727 (_ : Params) : Obj := oC "fault" "Seat.fault" 1434 496 4 3 722 1441 1442
noncomputable def o728 (_ : Params) : Obj := oN (mth 97 6) "fault" "Seat.fault" (vs "framerune.cscore" 967) 727
noncomputable def o729 (_ : Params) : Obj := oT []
noncomputable def o730 (_ : Params) : Obj := oF .none []
noncomputable def o731 (_ : Params) : Obj := oS 1447 ["self", "k", "node"]
noncomputable def o732 (_ : Params) : Obj := oT []
noncomputable def o733 (_ : Params) : Obj := oG (mth 97 7) "kept" "Seat.kept"
noncomputable def o734 (_ : Params) : Obj := oC "kept" "Seat.kept" 1444 499 3 3 729 1450 1451
noncomputable def o735 (_ : Params) : Obj := oN (mth 97 7) "kept" "Seat.kept" (vs "framerune.cscore" 967) 734
noncomputable def o736 (_ : Params) : Obj := oT []
noncomputable def o737 (_ : Params) : Obj := oF .none []
noncomputable def o738 (_ : Params) : Obj := oS 1456 ["self", "name", "kind", "flags"]
noncomputable def o739 (_ : Params) : Obj := oT []
noncomputable def o740 (_ : Params) : Obj := oG (mth 97 8) "declare" "Seat.declare"
noncomputable def o741 (_ : Params) : Obj := oC "declare" "Seat.declare" 1453 502 4 3 736 1460 1461
noncomputable def o742 (_ : Params) : Obj := oN (mth 97 8) "declare" "Seat.declare" (vs "framerune.cscore" 967) 741
noncomputable def o743 (_ : Params) : Obj := oT []
noncomputable def o744 (_ : Params) : Obj := oF .none []
noncomputable def o745 (_ : Params) : Obj := oS 1466 ["self", "name"]
noncomputable def o746 (_ : Params) : Obj := oT []
noncomputable def o747 (_ : Params) : Obj := oG (mth 97 9) "find" "Seat.find"
noncomputable def o748 (_ : Params) : Obj := oC "find" "Seat.find" 1463 505 2 3 743 1468 1469
noncomputable def o749 (_ : Params) : Obj := oN (mth 97 9) "find" "Seat.find" (vs "framerune.cscore" 967) 748
noncomputable def o750 (_ : Params) : Obj := oT []
noncomputable def o751 (_ : Params) : Obj := oF .none []
noncomputable def o752 (_ : Params) : Obj := oS 1474 ["self"]
noncomputable def o753 (_ : Params) : Obj := oT []
noncomputable def o754 (_ : Params) : Obj := oG (mth 97 10) "push_scope" "Seat.push_scope"
noncomputable def o755 (_ : Params) : Obj := oC "push_scope" "Seat.push_scope" 1471 508 1 3 750 1475 1476
noncomputable def o756 (_ : Params) : Obj := oN (mth 97 10) "push_scope" "Seat.push_scope" (vs "framerune.cscore" 967) 755
noncomputable def o757 (_ : Params) : Obj := oT []
noncomputable def o758 (_ : Params) : Obj := oF .none []
noncomputable def o759 (_ : Params) : Obj := oS 1481 ["self"]
noncomputable def o760 (_ : Params) : Obj := oT []
noncomputable def o761 (_ : Params) : Obj := oG (mth 97 11) "pop_scope" "Seat.pop_scope"
noncomputable def o762 (_ : Params) : Obj := oC "pop_scope" "Seat.pop_scope" 1478 511 1 3 757 1482 1483
noncomputable def o763 (_ : Params) : Obj := oN (mth 97 11) "pop_scope" "Seat.pop_scope" (vs "framerune.cscore" 967) 762
noncomputable def o764 (_ : Params) : Obj := oS 1485 ["asm", "at", "blocks", "checked", "closed", "deep", "diags", "early", "exprs", "fitter", "fn", "free", "host", "init", "judge", "keeper", "kinds", "kt", "loops", "mid", "notes", "owner", "rows", "scopes", "static", "stmts", "store", "targets", "told", "tparams", "turner", "types", "unit", "unmet"]
noncomputable def o765 (P : Params) : Obj := oD P (.type "dict") 2 [("__module__", 1373, vs "framerune.cscore" 967), ("__firstlineno__", 1377, .int 443 1376), ("__init__", 1387, .ref 686), ("expr", 1396, .ref 693), ("stmt", 1404, .ref 700), ("kind", 1412, .ref 707), ("fits", 1422, .ref 714), ("convert", 1433, .ref 721), ("fault", 1443, .ref 728), ("kept", 1452, .ref 735), ("declare", 1462, .ref 742), ("find", 1470, .ref 749), ("push_scope", 1477, .ref 756), ("pop_scope", 1484, .ref 763), ("__static_attributes__", 1519, .ref 764), ("__doc__", 1520, .none)]
noncomputable def o766 (_ : Params) : Obj := oY "Seat" [.ref 670] [.ref 766, .ref 670, .ref 628, .type "object"] 765 true [] [some (.ref 673), none, some (vs "Seat" 1366), some (vs "Seat" 1374), some (.builtin "object.__new__"), some (.bool true)]
noncomputable def o767 (_ : Params) : Obj := oF (.type "super") [.ref 766, .ref 766, .ref 766]
noncomputable def o768 (_ : Params) : Obj := oF (.type "builtin_function_or_method") [.builtin "object.__init_subclass__", .ref 766]
noncomputable def o769 (_ : Params) : Obj := oT []
noncomputable def o770 (_ : Params) : Obj := oF .none []
noncomputable def o771 (_ : Params) : Obj := oS 1526 ["kind"]
noncomputable def o772 (_ : Params) : Obj := oT []
noncomputable def o773 (_ : Params) : Obj := oG (stm 98) "bad" "bad"
noncomputable def o774 (_ : Params) : Obj := oC "bad" "bad" 1523 513 1 3 769 1527 1528
noncomputable def o775 (_ : Params) : Obj := oN (stm 98) "bad" "bad" (vs "framerune.cscore" 967) 774
noncomputable def o776 (_ : Params) : Obj := oT []
noncomputable def o777 (_ : Params) : Obj := oF .none []
noncomputable def o778 (_ : Params) : Obj := oS 1533 ["yard", "k", "node"]
noncomputable def o779 (_ : Params) : Obj := oT []
noncomputable def o780 (_ : Params) : Obj := oG (stm 99) "yard_kept" "yard_kept"
noncomputable def o781 (_ : Params) : Obj := oC "yard_kept" "yard_kept" 1530 515 3 3 776 1536 1537
noncomputable def o782 (_ : Params) : Obj := oN (stm 99) "yard_kept" "yard_kept" (vs "framerune.cscore" 967) 781
noncomputable def o783 (_ : Params) : Obj := oT []
noncomputable def o784 (_ : Params) : Obj := oF .none []
noncomputable def o785 (_ : Params) : Obj := oS 1542 ["cx", "node"]
noncomputable def o786 (_ : Params) : Obj := oT []
noncomputable def o787 (_ : Params) : Obj := oG (stm 100) "at_of" "at_of"
noncomputable def o788 (_ : Params) : Obj := oC "at_of" "at_of" 1539 520 2 3 783 1544 1545
noncomputable def o789 (_ : Params) : Obj := oN (stm 100) "at_of" "at_of" (vs "framerune.cscore" 967) 788
noncomputable def o790 (_ : Params) : Obj := oT []
noncomputable def o791 (_ : Params) : Obj := oF .none []
noncomputable def o792 (_ : Params) : Obj := oS 1550 ["cx", "node"]
noncomputable def o793 (_ : Params) : Obj := oT []
noncomputable def o794 (_ : Params) : Obj := oG (stm 101) "deeper" "deeper"
noncomputable def o795 (_ : Params) : Obj := oC "deeper" "deeper" 1547 524 2 3 790 1552 1553
noncomputable def o796 (_ : Params) : Obj := oN (stm 101) "deeper" "deeper" (vs "framerune.cscore" 967) 795
noncomputable def o797 (_ : Params) : Obj := oT []
noncomputable def o798 (_ : Params) : Obj := oF .none []
noncomputable def o799 (_ : Params) : Obj := oS 1558 ["cx", "node", "rule", "k"]
noncomputable def o800 (_ : Params) : Obj := oT []
noncomputable def o801 (_ : Params) : Obj := oG (stm 102) "bind_kind" "bind_kind"
noncomputable def o802 (_ : Params) : Obj := oC "bind_kind" "bind_kind" 1555 529 2 3 797 1562 1563
noncomputable def o803 (_ : Params) : Obj := oN (stm 102) "bind_kind" "bind_kind" (vs "framerune.cscore" 967) 802
noncomputable def o804 (_ : Params) : Obj := oT []
noncomputable def o805 (_ : Params) : Obj := oF .none []
noncomputable def o806 (_ : Params) : Obj := oS 1568 ["cx"]
noncomputable def o807 (_ : Params) : Obj := oT []
noncomputable def o808 (_ : Params) : Obj := oG (stm 103) "open_scope" "open_scope"
noncomputable def o809 (_ : Params) : Obj := oC "open_scope" "open_scope" 1565 540 1 3 804 1569 1570
noncomputable def o810 (_ : Params) : Obj := oN (stm 103) "open_scope" "open_scope" (vs "framerune.cscore" 967) 809
noncomputable def o811 (_ : Params) : Obj := oT []
noncomputable def o812 (_ : Params) : Obj := oF .none []
noncomputable def o813 (_ : Params) : Obj := oS 1575 ["cx", "depth", "names", "gone", "up", "name"]
noncomputable def o814 (_ : Params) : Obj := oT []
noncomputable def o815 (_ : Params) : Obj := oG (stm 104) "close_scope" "close_scope"
noncomputable def o816 (_ : Params) : Obj := oC "close_scope" "close_scope" 1572 546 1 3 811 1581 1582
noncomputable def o817 (_ : Params) : Obj := oN (stm 104) "close_scope" "close_scope" (vs "framerune.cscore" 967) 816
noncomputable def o818 (_ : Params) : Obj := oT []
noncomputable def o819 (_ : Params) : Obj := oF .none []
noncomputable def o820 (_ : Params) : Obj := oS 1587 ["cx", "name", "names"]
noncomputable def o821 (_ : Params) : Obj := oT []
noncomputable def o822 (_ : Params) : Obj := oG (stm 105) "taken_outside" "taken_outside"
noncomputable def o823 (_ : Params) : Obj := oC "taken_outside" "taken_outside" 1584 558 2 3 818 1590 1591
noncomputable def o824 (_ : Params) : Obj := oN (stm 105) "taken_outside" "taken_outside" (vs "framerune.cscore" 967) 823
noncomputable def o825 (_ : Params) : Obj := oT []
noncomputable def o826 (_ : Params) : Obj := oF .none []
noncomputable def o827 (_ : Params) : Obj := oS 1596 ["cx", "name", "kind", "flags", "here", "fnid", "lid"]
noncomputable def o828 (_ : Params) : Obj := oT []
noncomputable def o829 (_ : Params) : Obj := oG (stm 106) "declare_name" "declare_name"
noncomputable def o830 (_ : Params) : Obj := oC "declare_name" "declare_name" 1593 563 4 3 825 1603 1604
noncomputable def o831 (_ : Params) : Obj := oN (stm 106) "declare_name" "declare_name" (vs "framerune.cscore" 967) 830
noncomputable def o832 (_ : Params) : Obj := oT []
noncomputable def o833 (_ : Params) : Obj := oF .none []
noncomputable def o834 (_ : Params) : Obj := oS 1609 ["cx", "name", "i", "lid"]
noncomputable def o835 (_ : Params) : Obj := oT []
noncomputable def o836 (_ : Params) : Obj := oG (stm 107) "find_name" "find_name"
noncomputable def o837 (_ : Params) : Obj := oC "find_name" "find_name" 1606 577 2 3 832 1613 1614
noncomputable def o838 (_ : Params) : Obj := oN (stm 107) "find_name" "find_name" (vs "framerune.cscore" 967) 837
noncomputable def o839 (_ : Params) : Obj := oT []
noncomputable def o840 (_ : Params) : Obj := oF .none []
noncomputable def o841 (_ : Params) : Obj := oS 1631 ["cx", "number", "node", "words"]
noncomputable def o842 (_ : Params) : Obj := oT []
noncomputable def o843 (_ : Params) : Obj := oG (stm 114) "tell_fault" "tell_fault"
noncomputable def o844 (_ : Params) : Obj := oC "tell_fault" "tell_fault" 1628 589 4 3 839 1635 1636
noncomputable def o845 (_ : Params) : Obj := oN (stm 114) "tell_fault" "tell_fault" (vs "framerune.csmember" 1616) 844
noncomputable def o846 (_ : Params) : Obj := oT []
noncomputable def o847 (_ : Params) : Obj := oF .none []
noncomputable def o848 (_ : Params) : Obj := oS 1641 ["cx", "node", "number", "plain_one", "k"]
noncomputable def o849 (_ : Params) : Obj := oT []
noncomputable def o850 (_ : Params) : Obj := oG (stm 115) "this_expr" "this_expr"
noncomputable def o851 (_ : Params) : Obj := oC "this_expr" "this_expr" 1638 592 3 3 846 1646 1647
noncomputable def o852 (_ : Params) : Obj := oN (stm 115) "this_expr" "this_expr" (vs "framerune.csmember" 1616) 851
noncomputable def o853 (_ : Params) : Obj := oT []
noncomputable def o854 (_ : Params) : Obj := oF .none []
noncomputable def o855 (_ : Params) : Obj := oS 1652 ["cx", "lid", "node", "var"]
noncomputable def o856 (_ : Params) : Obj := oT []
noncomputable def o857 (_ : Params) : Obj := oG (stm 116) "local_use" "local_use"
noncomputable def o858 (_ : Params) : Obj := oC "local_use" "local_use" 1649 602 3 3 853 1656 1657
noncomputable def o859 (_ : Params) : Obj := oN (stm 116) "local_use" "local_use" (vs "framerune.csmember" 1616) 858
noncomputable def o860 (_ : Params) : Obj := oT []
noncomputable def o861 (_ : Params) : Obj := oF .none []
noncomputable def o862 (_ : Params) : Obj := oS 1662 ["cx", "obj", "how", "static", "node", "name"]
noncomputable def o863 (_ : Params) : Obj := oT []
noncomputable def o864 (_ : Params) : Obj := oG (stm 117) "need_obj" "need_obj"
noncomputable def o865 (_ : Params) : Obj := oC "need_obj" "need_obj" 1659 611 6 3 860 1668 1669
noncomputable def o866 (_ : Params) : Obj := oN (stm 117) "need_obj" "need_obj" (vs "framerune.csmember" 1616) 865
noncomputable def o867 (_ : Params) : Obj := oT []
noncomputable def o868 (_ : Params) : Obj := oF (.type "builtin_function_or_method") [.builtin "type.__prepare__", .type "type"]
noncomputable def o869 (P : Params) : Obj := oD P (.type "dict") 11 [("__module__", 1680, vs "framerune.kindrel" 1671), ("__qualname__", 1682, vs "BareHost" 1681), ("__firstlineno__", 1684, .int 622 1683), ("__init__", 1692, .ref 880), ("base", 1700, .ref 887), ("ifaces_at", 1708, .ref 894), ("sort", 1716, .ref 901), ("variance", 1724, .ref 908), ("under", 1732, .ref 915), ("has_new", 1740, .ref 922), ("__static_attributes__", 1750, .ref 923)]
noncomputable def o870 (_ : Params) : Obj := oT []
noncomputable def o871 (_ : Params) : Obj := oP [(624, 4, 879), (635, 4, 886), (638, 4, 893), (641, 4, 900), (644, 4, 907), (647, 4, 914), (650, 4, 921)]
noncomputable def o872 (_ : Params) : Obj := oK "BareHost" "BareHost" 1675 622 0 0 870 (.bool false) [.ref 871, .none, .none, .none, .none] 1678 1679
noncomputable def o873 (_ : Params) : Obj := oX [some (.ref 872), some (.ref 3), some (.ref 869), none, some (vs "framerune.kindrel" 1671), none, some (.ref 0)]
noncomputable def o874 (_ : Params) : Obj := oT []
noncomputable def o875 (_ : Params) : Obj := oF .none []
noncomputable def o876 (_ : Params) : Obj := oS 1688 ["self", "kt"]
noncomputable def o877 (_ : Params) : Obj := oT []
noncomputable def o878 (_ : Params) : Obj := oG (mth 119 0) "__init__" "BareHost.__init__"
noncomputable def o879 (_ : Params) : Obj := oC "__init__" "BareHost.__init__" 1685 624 2 3 874 1690 1691
noncomputable def o880 (_ : Params) : Obj := oN (mth 119 0) "__init__" "BareHost.__init__" (vs "framerune.kindrel" 1671) 879
noncomputable def o881 (_ : Params) : Obj := oT []
noncomputable def o882 (_ : Params) : Obj := oF .none []
noncomputable def o883 (_ : Params) : Obj := oS 1696 ["self", "k"]
noncomputable def o884 (_ : Params) : Obj := oT []
noncomputable def o885 (_ : Params) : Obj := oG (mth 119 1) "base" "BareHost.base"
noncomputable def o886 (_ : Params) : Obj := oC "base" "BareHost.base" 1693 635 2 3 881 1698 1699
noncomputable def o887 (_ : Params) : Obj := oN (mth 119 1) "base" "BareHost.base" (vs "framerune.kindrel" 1671) 886
noncomputable def o888 (_ : Params) : Obj := oT []
noncomputable def o889 (_ : Params) : Obj := oF .none []
noncomputable def o890 (_ : Params) : Obj := oS 1704 ["self", "k"]
noncomputable def o891 (_ : Params) : Obj := oT []
noncomputable def o892 (_ : Params) : Obj := oG (mth 119 2) "ifaces_at" "BareHost.ifaces_at"
noncomputable def o893 (_ : Params) : Obj := oC "ifaces_at" "BareHost.ifaces_at" 1701 638 2 3 888 1706 1707
noncomputable def o894 (_ : Params) : Obj := oN (mth 119 2) "ifaces_at" "BareHost.ifaces_at" (vs "framerune.kindrel" 1671) 893
noncomputable def o895 (_ : Params) : Obj := oT []
noncomputable def o896 (_ : Params) : Obj := oF .none []
noncomputable def o897 (_ : Params) : Obj := oS 1712 ["self", "k"]
noncomputable def o898 (_ : Params) : Obj := oT []
noncomputable def o899 (_ : Params) : Obj := oG (mth 119 3) "sort" "BareHost.sort"
noncomputable def o900 (_ : Params) : Obj := oC "sort" "BareHost.sort" 1709 641 2 3 895 1714 1715
noncomputable def o901 (_ : Params) : Obj := oN (mth 119 3) "sort" "BareHost.sort" (vs "framerune.kindrel" 1671) 900
noncomputable def o902 (_ : Params) : Obj := oT []
noncomputable def o903 (_ : Params) : Obj := oF .none []
noncomputable def o904 (_ : Params) : Obj := oS 1720 ["self", "tid"]
noncomputable def o905 (_ : Params) : Obj := oT []
noncomputable def o906 (_ : Params) : Obj := oG (mth 119 4) "variance" "BareHost.variance"
noncomputable def o907 (_ : Params) : Obj := oC "variance" "BareHost.variance" 1717 644 2 3 902 1722 1723
noncomputable def o908 (_ : Params) : Obj := oN (mth 119 4) "variance" "BareHost.variance" (vs "framerune.kindrel" 1671) 907
noncomputable def o909 (_ : Params) : Obj := oT []
noncomputable def o910 (_ : Params) : Obj := oF .none []
noncomputable def o911 (_ : Params) : Obj := oS 1728 ["self", "k"]
noncomputable def o912 (_ : Params) : Obj := oT []
noncomputable def o913 (_ : Params) : Obj := oG (mth 119 5) "under" "BareHost.under"
noncomputable def o914 (_ : Params) : Obj := oC "under" "BareHost.under" 1725 647 2 3 909 1730 1731
noncomputable def o915 (_ : Params) : Obj := oN (mth 119 5) "under" "BareHost.under" (vs "framerune.kindrel" 1671) 914
noncomputable def o916 (_ : Params) : Obj := oT []
noncomputable def o917 (_ : Params) : Obj := oF .none []
noncomputable def o918 (_ : Params) : Obj := oS 1736 ["self", "k"]
noncomputable def o919 (_ : Params) : Obj := oT []
noncomputable def o920 (_ : Params) : Obj := oG (mth 119 6) "has_new" "BareHost.has_new"
noncomputable def o921 (_ : Params) : Obj := oC "has_new" "BareHost.has_new" 1733 650 2 3 916 1738 1739
noncomputable def o922 (_ : Params) : Obj := oN (mth 119 6) "has_new" "BareHost.has_new" (vs "framerune.kindrel" 1671) 921
noncomputable def o923 (_ : Params) : Obj := oS 1741 ["bases", "bounds", "gflags", "ifaces", "kt", "news", "sorts", "unders", "variances"]
noncomputable def o924 (P : Params) : Obj := oD P (.type "dict") 4 [("__module__", 1680, vs "framerune.kindrel" 1671), ("__firstlineno__", 1684, .int 622 1683), ("__init__", 1692, .ref 880), ("base", 1700, .ref 887), ("ifaces_at", 1708, .ref 894), ("sort", 1716, .ref 901), ("variance", 1724, .ref 908), ("under", 1732, .ref 915), ("has_new", 1740, .ref 922), ("__static_attributes__", 1750, .ref 923), ("__dict__", 1752, .ref 926), ("__weakref__", 1754, .ref 927), ("__doc__", 1755, .none)]
noncomputable def o925 (_ : Params) : Obj := oY "BareHost" [.type "object"] [.ref 925, .type "object"] 924 true [] [none, none, some (vs "BareHost" 1673), some (vs "BareHost" 1681), some (.builtin "object.__new__"), some (.bool true)]
noncomputable def o926 (_ : Params) : Obj := oF (.type "getset_descriptor") [vs "__dict__" 1751, .ref 925, .builtin "function.__dict__", .builtin "function.__dict__#set"]
noncomputable def o927 (_ : Params) : Obj := oF (.type "getset_descriptor") [vs "__weakref__" 1753, .ref 925, .builtin "ExceptionGroup.__weakref__", .none]
noncomputable def o928 (_ : Params) : Obj := oF (.type "super") [.ref 925, .ref 925, .ref 925]
noncomputable def o929 (_ : Params) : Obj := oF (.type "builtin_function_or_method") [.builtin "object.__init_subclass__", .ref 925]
noncomputable def o930 (_ : Params) : Obj := oT []
noncomputable def o931 (_ : Params) : Obj := oF .none []
noncomputable def o932 (_ : Params) : Obj := oS 1763 ["w", "n", "gave"]
noncomputable def o933 (_ : Params) : Obj := oT []
noncomputable def o934 (_ : Params) : Obj := oG (stm 121) "_law_take" "_law_take"
noncomputable def o935 (_ : Params) : Obj := oC "_law_take" "_law_take" 1760 653 2 3 930 1766 1767
noncomputable def o936 (_ : Params) : Obj := oN (stm 121) "_law_take" "_law_take" (vs "law_tn0010_01" 1758) 935
noncomputable def o937 (_ : Params) : Obj := oT []
noncomputable def o938 (_ : Params) : Obj := oF .none []
noncomputable def o939 (_ : Params) : Obj := oS 1772 ["store", "kt", "first"]
noncomputable def o940 (_ : Params) : Obj := oT []
noncomputable def o941 (_ : Params) : Obj := oG (stm 122) "_law_types" "_law_types"
noncomputable def o942 (_ : Params) : Obj := oC "_law_types" "_law_types" 1769 660 1 3 937 1775 1776
noncomputable def o943 (_ : Params) : Obj := oN (stm 122) "_law_types" "_law_types" (vs "law_tn0010_01" 1758) 942
noncomputable def o944 (_ : Params) : Obj := oT []
noncomputable def o945 (_ : Params) : Obj := oF .none []
noncomputable def o946 (_ : Params) : Obj := oS 1781 ["w", "name", "found", "deep", "row"]
noncomputable def o947 (_ : Params) : Obj := oT []
noncomputable def o948 (_ : Params) : Obj := oG (stm 123) "_law_find" "_law_find"
noncomputable def o949 (_ : Params) : Obj := oC "_law_find" "_law_find" 1778 671 2 3 944 1786 1787
noncomputable def o950 (_ : Params) : Obj := oN (stm 123) "_law_find" "_law_find" (vs "law_tn0010_01" 1758) 949
noncomputable def o951 (_ : Params) : Obj := oT []
noncomputable def o952 (_ : Params) : Obj := oF .none []
noncomputable def o953 (_ : Params) : Obj := oG (stm 124) "_law_declare" "_law_declare"
noncomputable def o954 (_ : Params) : Obj := oK "_law_declare" "_law_declare" 1789 678 2 3 951 (.bool true) [.ref 952, .none, .none, .none, .ref 953] 1792 1793
noncomputable def o955 (_ : Params) : Obj := oN (stm 124) "_law_declare" "_law_declare" (vs "law_tn0010_01" 1758) 954
noncomputable def o956 (_ : Params) : Obj := oT []
noncomputable def o957 (_ : Params) : Obj := oF .none []
noncomputable def o958 (_ : Params) : Obj := oS 1798 ["w", "lid", "outer", "at", "name", "kind", "flags"]
noncomputable def o959 (_ : Params) : Obj := oT []
noncomputable def o960 (_ : Params) : Obj := oG (stm 125) "_law_local" "_law_local"
noncomputable def o961 (_ : Params) : Obj := oC "_law_local" "_law_local" 1795 699 4 3 956 1805 1806
noncomputable def o962 (_ : Params) : Obj := oN (stm 125) "_law_local" "_law_local" (vs "law_tn0010_01" 1758) 961
noncomputable def o963 (_ : Params) : Obj := oT []
noncomputable def o964 (_ : Params) : Obj := oF .none []
noncomputable def o965 (_ : Params) : Obj := oS 1811 ["w", "stand", "number", "at", "spot", "place", "in_lambda", "k", "told"]
noncomputable def o966 (_ : Params) : Obj := oT []
noncomputable def o967 (_ : Params) : Obj := oG (stm 126) "_law_this" "_law_this"
noncomputable def o968 (_ : Params) : Obj := oC "_law_this" "_law_this" 1808 709 4 3 963 1820 1821
noncomputable def o969 (_ : Params) : Obj := oN (stm 126) "_law_this" "_law_this" (vs "law_tn0010_01" 1758) 968
noncomputable def o970 (_ : Params) : Obj := oT []
noncomputable def o971 (_ : Params) : Obj := oF .none []
noncomputable def o972 (_ : Params) : Obj := oS 1826 ["w", "stand", "obj", "how", "static", "name", "at"]
noncomputable def o973 (_ : Params) : Obj := oT []
noncomputable def o974 (_ : Params) : Obj := oG (stm 127) "_law_object" "_law_object"
noncomputable def o975 (_ : Params) : Obj := oC "_law_object" "_law_object" 1823 719 7 3 970 1833 1834
noncomputable def o976 (_ : Params) : Obj := oN (stm 127) "_law_object" "_law_object" (vs "law_tn0010_01" 1758) 975
noncomputable def o977 (_ : Params) : Obj := oT []
noncomputable def o978 (_ : Params) : Obj := oF .none []
noncomputable def o979 (_ : Params) : Obj := oG (stm 128) "_law_asks" "_law_asks"
noncomputable def o980 (_ : Params) : Obj := oK "_law_asks" "_law_asks" 1836 726 3 3 977 (.bool true) [.ref 978, .none, .none, .none, .ref 979] 1839 1840
noncomputable def o981 (_ : Params) : Obj := oN (stm 128) "_law_asks" "_law_asks" (vs "law_tn0010_01" 1758) 980
noncomputable def o982 (_ : Params) : Obj := oT []
noncomputable def o983 (_ : Params) : Obj := oF .none []
noncomputable def o984 (_ : Params) : Obj := oS 1845 ["w", "cx", "deep", "around", "lambdas", "up", "i"]
noncomputable def o985 (_ : Params) : Obj := oT []
noncomputable def o986 (_ : Params) : Obj := oG (stm 129) "_law_level" "_law_level"
noncomputable def o987 (_ : Params) : Obj := oC "_law_level" "_law_level" 1842 759 3 3 982 1852 1853
noncomputable def o988 (_ : Params) : Obj := oN (stm 129) "_law_level" "_law_level" (vs "law_tn0010_01" 1758) 987
noncomputable def o989 (_ : Params) : Obj := oT []
noncomputable def o990 (_ : Params) : Obj := oF .none []
noncomputable def o991 (_ : Params) : Obj := oG (stm 130) "law" "law"
noncomputable def o992 (_ : Params) : Obj := oK "law" "law" 1855 781 1 3 989 (.bool true) [.ref 990, .none, .none, .none, .ref 991] 1858 1859
noncomputable def o993 (_ : Params) : Obj := oN (stm 130) "law" "law" (vs "law_tn0010_01" 1758) 992
noncomputable def objs (P : Params) : List Obj := [o0 P, o1 P, o2 P, o3 P, o4 P, o5 P, o6 P, o7 P, o8 P, o9 P, o10 P, o11 P, o12 P, o13 P, o14 P, o15 P, o16 P, o17 P, o18 P, o19 P, o20 P, o21 P, o22 P, o23 P, o24 P, o25 P, o26 P, o27 P, o28 P, o29 P, o30 P, o31 P, o32 P, o33 P, o34 P, o35 P, o36 P, o37 P, o38 P, o39 P, o40 P, o41 P, o42 P, o43 P, o44 P, o45 P, o46 P, o47 P, o48 P, o49 P, o50 P, o51 P, o52 P, o53 P, o54 P, o55 P, o56 P, o57 P, o58 P, o59 P, o60 P, o61 P, o62 P, o63 P, o64 P, o65 P, o66 P, o67 P, o68 P, o69 P, o70 P, o71 P, o72 P, o73 P, o74 P, o75 P, o76 P, o77 P, o78 P, o79 P, o80 P, o81 P, o82 P, o83 P, o84 P, o85 P, o86 P, o87 P, o88 P, o89 P, o90 P, o91 P, o92 P, o93 P, o94 P, o95 P, o96 P, o97 P, o98 P, o99 P, o100 P, o101 P, o102 P, o103 P, o104 P, o105 P, o106 P, o107 P, o108 P, o109 P, o110 P, o111 P, o112 P, o113 P, o114 P, o115 P, o116 P, o117 P, o118 P, o119 P, o120 P, o121 P, o122 P, o123 P, o124 P, o125 P, o126 P, o127 P, o128 P, o129 P, o130 P, o131 P, o132 P, o133 P, o134 P, o135 P, o136 P, o137 P, o138 P, o139 P, o140 P, o141 P, o142 P, o143 P, o144 P, o145 P, o146 P, o147 P, o148 P, o149 P, o150 P, o151 P, o152 P, o153 P, o154 P, o155 P, o156 P, o157 P, o158 P, o159 P, o160 P, o161 P, o162 P, o163 P, o164 P, o165 P, o166 P, o167 P, o168 P, o169 P, o170 P, o171 P, o172 P, o173 P, o174 P, o175 P, o176 P, o177 P, o178 P, o179 P, o180 P, o181 P, o182 P, o183 P, o184 P, o185 P, o186 P, o187 P, o188 P, o189 P, o190 P, o191 P, o192 P, o193 P, o194 P, o195 P, o196 P, o197 P, o198 P, o199 P, o200 P, o201 P, o202 P, o203 P, o204 P, o205 P, o206 P, o207 P, o208 P, o209 P, o210 P, o211 P, o212 P, o213 P, o214 P, o215 P, o216 P, o217 P, o218 P, o219 P, o220 P, o221 P, o222 P, o223 P, o224 P, o225 P, o226 P, o227 P, o228 P, o229 P, o230 P, o231 P, o232 P, o233 P, o234 P, o235 P, o236 P, o237 P, o238 P, o239 P, o240 P, o241 P, o242 P, o243 P, o244 P, o245 P, o246 P, o247 P, o248 P, o249 P, o250 P, o251 P, o252 P, o253 P, o254 P, o255 P, o256 P, o257 P, o258 P, o259 P, o260 P, o261 P, o262 P, o263 P, o264 P, o265 P, o266 P, o267 P, o268 P, o269 P, o270 P, o271 P, o272 P, o273 P, o274 P, o275 P, o276 P, o277 P, o278 P, o279 P, o280 P, o281 P, o282 P, o283 P, o284 P, o285 P, o286 P, o287 P, o288 P, o289 P, o290 P, o291 P, o292 P, o293 P, o294 P, o295 P, o296 P, o297 P, o298 P, o299 P, o300 P, o301 P, o302 P, o303 P, o304 P, o305 P, o306 P, o307 P, o308 P, o309 P, o310 P, o311 P, o312 P, o313 P, o314 P, o315 P, o316 P, o317 P, o318 P, o319 P, o320 P, o321 P, o322 P, o323 P, o324 P, o325 P, o326 P, o327 P, o328 P, o329 P, o330 P, o331 P, o332 P, o333 P, o334 P, o335 P, o336 P, o337 P, o338 P, o339 P, o340 P, o341 P, o342 P, o343 P, o344 P, o345 P, o346 P, o347 P, o348 P, o349 P, o350 P, o351 P, o352 P, o353 P, o354 P, o355 P, o356 P, o357 P, o358 P, o359 P, o360 P, o361 P, o362 P, o363 P, o364 P, o365 P, o366 P, o367 P, o368 P, o369 P, o370 P, o371 P, o372 P, o373 P, o374 P, o375 P, o376 P, o377 P, o378 P, o379 P, o380 P, o381 P, o382 P, o383 P, o384 P, o385 P, o386 P, o387 P, o388 P, o389 P, o390 P, o391 P, o392 P, o393 P, o394 P, o395 P, o396 P, o397 P, o398 P, o399 P, o400 P, o401 P, o402 P, o403 P, o404 P, o405 P, o406 P, o407 P, o408 P, o409 P, o410 P, o411 P, o412 P, o413 P, o414 P, o415 P, o416 P, o417 P, o418 P, o419 P, o420 P, o421 P, o422 P, o423 P, o424 P, o425 P, o426 P, o427 P, o428 P, o429 P, o430 P, o431 P, o432 P, o433 P, o434 P, o435 P, o436 P, o437 P, o438 P, o439 P, o440 P, o441 P, o442 P, o443 P, o444 P, o445 P, o446 P, o447 P, o448 P, o449 P, o450 P, o451 P, o452 P, o453 P, o454 P, o455 P, o456 P, o457 P, o458 P, o459 P, o460 P, o461 P, o462 P, o463 P, o464 P, o465 P, o466 P, o467 P, o468 P, o469 P, o470 P, o471 P, o472 P, o473 P, o474 P, o475 P, o476 P, o477 P, o478 P, o479 P, o480 P, o481 P, o482 P, o483 P, o484 P, o485 P, o486 P, o487 P, o488 P, o489 P, o490 P, o491 P, o492 P, o493 P, o494 P, o495 P, o496 P, o497 P, o498 P, o499 P, o500 P, o501 P, o502 P, o503 P, o504 P, o505 P, o506 P, o507 P, o508 P, o509 P, o510 P, o511 P, o512 P, o513 P, o514 P, o515 P, o516 P, o517 P, o518 P, o519 P, o520 P, o521 P, o522 P, o523 P, o524 P, o525 P, o526 P, o527 P, o528 P, o529 P, o530 P, o531 P, o532 P, o533 P, o534 P, o535 P, o536 P, o537 P, o538 P, o539 P, o540 P, o541 P, o542 P, o543 P, o544 P, o545 P, o546 P, o547 P, o548 P, o549 P, o550 P, o551 P, o552 P, o553 P, o554 P, o555 P, o556 P, o557 P, o558 P, o559 P, o560 P, o561 P, o562 P, o563 P, o564 P, o565 P, o566 P, o567 P, o568 P, o569 P, o570 P, o571 P, o572 P, o573 P, o574 P, o575 P, o576 P, o577 P, o578 P, o579 P, o580 P, o581 P, o582 P, o583 P, o584 P, o585 P, o586 P, o587 P, o588 P, o589 P, o590 P, o591 P, o592 P, o593 P, o594 P, o595 P, o596 P, o597 P, o598 P, o599 P, o600 P, o601 P, o602 P, o603 P, o604 P, o605 P, o606 P, o607 P, o608 P, o609 P, o610 P, o611 P, o612 P, o613 P, o614 P, o615 P, o616 P, o617 P, o618 P, o619 P, o620 P, o621 P, o622 P, o623 P, o624 P, o625 P, o626 P, o627 P, o628 P, o629 P, o630 P, o631 P, o632 P, o633 P, o634 P, o635 P, o636 P, o637 P, o638 P, o639 P, o640 P, o641 P, o642 P, o643 P, o644 P, o645 P, o646 P, o647 P, o648 P, o649 P, o650 P, o651 P, o652 P, o653 P, o654 P, o655 P, o656 P, o657 P, o658 P, o659 P, o660 P, o661 P, o662 P, o663 P, o664 P, o665 P, o666 P, o667 P, o668 P, o669 P, o670 P, o671 P, o672 P, o673 P, o674 P, o675 P, o676 P, o677 P, o678 P, o679 P, o680 P, o681 P, o682 P, o683 P, o684 P, o685 P, o686 P, o687 P, o688 P, o689 P, o690 P, o691 P, o692 P, o693 P, o694 P, o695 P, o696 P, o697 P, o698 P, o699 P, o700 P, o701 P, o702 P, o703 P, o704 P, o705 P, o706 P, o707 P, o708 P, o709 P, o710 P, o711 P, o712 P, o713 P, o714 P, o715 P, o716 P, o717 P, o718 P, o719 P, o720 P, o721 P, o722 P, o723 P, o724 P, o725 P, o726 P, o727 P, o728 P, o729 P, o730 P, o731 P, o732 P, o733 P, o734 P, o735 P, o736 P, o737 P, o738 P, o739 P, o740 P, o741 P, o742 P, o743 P, o744 P, o745 P, o746 P, o747 P, o748 P, o749 P, o750 P, o751 P, o752 P, o753 P, o754 P, o755 P, o756 P, o757 P, o758 P, o759 P, o760 P, o761 P, o762 P, o763 P, o764 P, o765 P, o766 P, o767 P, o768 P, o769 P, o770 P, o771 P, o772 P, o773 P, o774 P, o775 P, o776 P, o777 P, o778 P, o779 P, o780 P, o781 P, o782 P, o783 P, o784 P, o785 P, o786 P, o787 P, o788 P, o789 P, o790 P, o791 P, o792 P, o793 P, o794 P, o795 P, o796 P, o797 P, o798 P, o799 P, o800 P, o801 P, o802 P, o803 P, o804 P, o805 P, o806 P, o807 P, o808 P, o809 P, o810 P, o811 P, o812 P, o813 P, o814 P, o815 P, o816 P, o817 P, o818 P, o819 P, o820 P, o821 P, o822 P, o823 P, o824 P, o825 P, o826 P, o827 P, o828 P, o829 P, o830 P, o831 P, o832 P, o833 P, o834 P, o835 P, o836 P, o837 P, o838 P, o839 P, o840 P, o841 P, o842 P, o843 P, o844 P, o845 P, o846 P, o847 P, o848 P, o849 P, o850 P, o851 P, o852 P, o853 P, o854 P, o855 P, o856 P, o857 P, o858 P, o859 P, o860 P, o861 P, o862 P, o863 P, o864 P, o865 P, o866 P, o867 P, o868 P, o869 P, o870 P, o871 P, o872 P, o873 P, o874 P, o875 P, o876 P, o877 P, o878 P, o879 P, o880 P, o881 P, o882 P, o883 P, o884 P, o885 P, o886 P, o887 P, o888 P, o889 P, o890 P, o891 P, o892 P, o893 P, o894 P, o895 P, o896 P, o897 P, o898 P, o899 P, o900 P, o901 P, o902 P, o903 P, o904 P, o905 P, o906 P, o907 P, o908 P, o909 P, o910 P, o911 P, o912 P, o913 P, o914 P, o915 P, o916 P, o917 P, o918 P, o919 P, o920 P, o921 P, o922 P, o923 P, o924 P, o925 P, o926 P, o927 P, o928 P, o929 P, o930 P, o931 P, o932 P, o933 P, o934 P, o935 P, o936 P, o937 P, o938 P, o939 P, o940 P, o941 P, o942 P, o943 P, o944 P, o945 P, o946 P, o947 P, o948 P, o949 P, o950 P, o951 P, o952 P, o953 P, o954 P, o955 P, o956 P, o957 P, o958 P, o959 P, o960 P, o961 P, o962 P, o963 P, o964 P, o965 P, o966 P, o967 P, o968 P, o969 P, o970 P, o971 P, o972 P, o973 P, o974 P, o975 P, o976 P, o977 P, o978 P, o979 P, o980 P, o981 P, o982 P, o983 P, o984 P, o985 P, o986 P, o987 P, o988 P, o989 P, o990 P, o991 P, o992 P, o993 P]
noncomputable def KF (P : Params) : Frag := (nat_lit 2, o2 P) :: (nat_lit 3, o3 P) :: (nat_lit 15, o15 P) :: (nat_lit 17, o17 P) :: (nat_lit 18, o18 P) :: (nat_lit 20, o20 P) :: (nat_lit 21, o21 P) :: (nat_lit 22, o22 P) :: (nat_lit 29, o29 P) :: (nat_lit 31, o31 P) :: (nat_lit 32, o32 P) :: (nat_lit 34, o34 P) :: (nat_lit 35, o35 P) :: (nat_lit 36, o36 P) :: (nat_lit 37, o37 P) :: (nat_lit 38, o38 P) :: (nat_lit 39, o39 P) :: (nat_lit 42, o42 P) :: (nat_lit 49, o49 P) :: (nat_lit 50, o50 P) :: (nat_lit 51, o51 P) :: (nat_lit 54, o54 P) :: (nat_lit 61, o61 P) :: (nat_lit 62, o62 P) :: (nat_lit 63, o63 P) :: (nat_lit 66, o66 P) :: (nat_lit 73, o73 P) :: (nat_lit 74, o74 P) :: (nat_lit 75, o75 P) :: (nat_lit 78, o78 P) :: (nat_lit 79, o79 P) :: (nat_lit 87, o87 P) :: (nat_lit 89, o89 P) :: (nat_lit 90, o90 P) :: (nat_lit 92, o92 P) :: (nat_lit 93, o93 P) :: (nat_lit 94, o94 P) :: (nat_lit 96, o96 P) :: (nat_lit 97, o97 P) :: (nat_lit 99, o99 P) :: (nat_lit 100, o100 P) :: (nat_lit 101, o101 P) :: (nat_lit 103, o103 P) :: (nat_lit 104, o104 P) :: (nat_lit 106, o106 P) :: (nat_lit 107, o107 P) :: (nat_lit 108, o108 P) :: (nat_lit 109, o109 P) :: (nat_lit 110, o110 P) :: (nat_lit 111, o111 P) :: (nat_lit 112, o112 P) :: (nat_lit 115, o115 P) :: (nat_lit 117, o117 P) :: (nat_lit 118, o118 P) :: (nat_lit 120, o120 P) :: (nat_lit 121, o121 P) :: (nat_lit 122, o122 P) :: (nat_lit 124, o124 P) :: (nat_lit 125, o125 P) :: (nat_lit 127, o127 P) :: (nat_lit 128, o128 P) :: (nat_lit 129, o129 P) :: (nat_lit 131, o131 P) :: (nat_lit 132, o132 P) :: (nat_lit 134, o134 P) :: (nat_lit 135, o135 P) :: (nat_lit 136, o136 P) :: (nat_lit 138, o138 P) :: (nat_lit 139, o139 P) :: (nat_lit 141, o141 P) :: (nat_lit 142, o142 P) :: (nat_lit 143, o143 P) :: (nat_lit 145, o145 P) :: (nat_lit 146, o146 P) :: (nat_lit 148, o148 P) :: (nat_lit 149, o149 P) :: (nat_lit 150, o150 P) :: (nat_lit 152, o152 P) :: (nat_lit 153, o153 P) :: (nat_lit 155, o155 P) :: (nat_lit 156, o156 P) :: (nat_lit 157, o157 P) :: (nat_lit 159, o159 P) :: (nat_lit 160, o160 P) :: (nat_lit 162, o162 P) :: (nat_lit 163, o163 P) :: (nat_lit 164, o164 P) :: (nat_lit 166, o166 P) :: (nat_lit 167, o167 P) :: (nat_lit 169, o169 P) :: (nat_lit 170, o170 P) :: (nat_lit 171, o171 P) :: (nat_lit 173, o173 P) :: (nat_lit 174, o174 P) :: (nat_lit 176, o176 P) :: (nat_lit 177, o177 P) :: (nat_lit 178, o178 P) :: (nat_lit 180, o180 P) :: (nat_lit 181, o181 P) :: (nat_lit 183, o183 P) :: (nat_lit 184, o184 P) :: (nat_lit 185, o185 P) :: (nat_lit 187, o187 P) :: (nat_lit 188, o188 P) :: (nat_lit 190, o190 P) :: (nat_lit 191, o191 P) :: (nat_lit 192, o192 P) :: (nat_lit 194, o194 P) :: (nat_lit 195, o195 P) :: (nat_lit 197, o197 P) :: (nat_lit 198, o198 P) :: (nat_lit 199, o199 P) :: (nat_lit 201, o201 P) :: (nat_lit 202, o202 P) :: (nat_lit 204, o204 P) :: (nat_lit 205, o205 P) :: (nat_lit 206, o206 P) :: (nat_lit 208, o208 P) :: (nat_lit 209, o209 P) :: (nat_lit 211, o211 P) :: (nat_lit 212, o212 P) :: (nat_lit 220, o220 P) :: (nat_lit 222, o222 P) :: (nat_lit 223, o223 P) :: (nat_lit 225, o225 P) :: (nat_lit 226, o226 P) :: (nat_lit 227, o227 P) :: (nat_lit 228, o228 P) :: (nat_lit 229, o229 P) :: (nat_lit 230, o230 P) :: (nat_lit 231, o231 P) :: (nat_lit 241, o241 P) :: (nat_lit 243, o243 P) :: (nat_lit 244, o244 P) :: (nat_lit 246, o246 P) :: (nat_lit 247, o247 P) :: (nat_lit 248, o248 P) :: (nat_lit 249, o249 P) :: (nat_lit 250, o250 P) :: (nat_lit 251, o251 P) :: (nat_lit 252, o252 P) :: (nat_lit 255, o255 P) :: (nat_lit 257, o257 P) :: (nat_lit 258, o258 P) :: (nat_lit 260, o260 P) :: (nat_lit 261, o261 P) :: (nat_lit 262, o262 P) :: (nat_lit 264, o264 P) :: (nat_lit 265, o265 P) :: (nat_lit 267, o267 P) :: (nat_lit 268, o268 P) :: (nat_lit 276, o276 P) :: (nat_lit 278, o278 P) :: (nat_lit 279, o279 P) :: (nat_lit 281, o281 P) :: (nat_lit 282, o282 P) :: (nat_lit 283, o283 P) :: (nat_lit 284, o284 P) :: (nat_lit 285, o285 P) :: (nat_lit 286, o286 P) :: (nat_lit 287, o287 P) :: (nat_lit 297, o297 P) :: (nat_lit 299, o299 P) :: (nat_lit 300, o300 P) :: (nat_lit 302, o302 P) :: (nat_lit 303, o303 P) :: (nat_lit 304, o304 P) :: (nat_lit 306, o306 P) :: (nat_lit 307, o307 P) :: (nat_lit 309, o309 P) :: (nat_lit 310, o310 P) :: (nat_lit 311, o311 P) :: (nat_lit 313, o313 P) :: (nat_lit 314, o314 P) :: (nat_lit 316, o316 P) :: (nat_lit 317, o317 P) :: (nat_lit 318, o318 P) :: (nat_lit 320, o320 P) :: (nat_lit 321, o321 P) :: (nat_lit 323, o323 P) :: (nat_lit 324, o324 P) :: (nat_lit 325, o325 P) :: (nat_lit 326, o326 P) :: (nat_lit 327, o327 P) :: (nat_lit 328, o328 P) :: (nat_lit 329, o329 P) :: (nat_lit 332, o332 P) :: (nat_lit 334, o334 P) :: (nat_lit 335, o335 P) :: (nat_lit 337, o337 P) :: (nat_lit 338, o338 P) :: (nat_lit 346, o346 P) :: (nat_lit 348, o348 P) :: (nat_lit 349, o349 P) :: (nat_lit 351, o351 P) :: (nat_lit 352, o352 P) :: (nat_lit 353, o353 P) :: (nat_lit 354, o354 P) :: (nat_lit 355, o355 P) :: (nat_lit 356, o356 P) :: (nat_lit 357, o357 P) :: (nat_lit 367, o367 P) :: (nat_lit 369, o369 P) :: (nat_lit 370, o370 P) :: (nat_lit 372, o372 P) :: (nat_lit 373, o373 P) :: (nat_lit 374, o374 P) :: (nat_lit 375, o375 P) :: (nat_lit 376, o376 P) :: (nat_lit 377, o377 P) :: (nat_lit 378, o378 P) :: (nat_lit 388, o388 P) :: (nat_lit 390, o390 P) :: (nat_lit 391, o391 P) :: (nat_lit 393, o393 P) :: (nat_lit 394, o394 P) :: (nat_lit 395, o395 P) :: (nat_lit 396, o396 P) :: (nat_lit 397, o397 P) :: (nat_lit 398, o398 P) :: (nat_lit 399, o399 P) :: (nat_lit 402, o402 P) :: (nat_lit 404, o404 P) :: (nat_lit 405, o405 P) :: (nat_lit 407, o407 P) :: (nat_lit 408, o408 P) :: (nat_lit 409, o409 P) :: (nat_lit 411, o411 P) :: (nat_lit 412, o412 P) :: (nat_lit 414, o414 P) :: (nat_lit 415, o415 P) :: (nat_lit 423, o423 P) :: (nat_lit 425, o425 P) :: (nat_lit 426, o426 P) :: (nat_lit 428, o428 P) :: (nat_lit 429, o429 P) :: (nat_lit 430, o430 P) :: (nat_lit 432, o432 P) :: (nat_lit 433, o433 P) :: (nat_lit 435, o435 P) :: (nat_lit 436, o436 P) :: (nat_lit 437, o437 P) :: (nat_lit 438, o438 P) :: (nat_lit 439, o439 P) :: (nat_lit 440, o440 P) :: (nat_lit 441, o441 P) :: (nat_lit 451, o451 P) :: (nat_lit 453, o453 P) :: (nat_lit 454, o454 P) :: (nat_lit 456, o456 P) :: (nat_lit 457, o457 P) :: (nat_lit 458, o458 P) :: (nat_lit 460, o460 P) :: (nat_lit 461, o461 P) :: (nat_lit 463, o463 P) :: (nat_lit 464, o464 P) :: (nat_lit 465, o465 P) :: (nat_lit 467, o467 P) :: (nat_lit 468, o468 P) :: (nat_lit 470, o470 P) :: (nat_lit 471, o471 P) :: (nat_lit 472, o472 P) :: (nat_lit 474, o474 P) :: (nat_lit 475, o475 P) :: (nat_lit 477, o477 P) :: (nat_lit 478, o478 P) :: (nat_lit 479, o479 P) :: (nat_lit 481, o481 P) :: (nat_lit 482, o482 P) :: (nat_lit 484, o484 P) :: (nat_lit 485, o485 P) :: (nat_lit 486, o486 P) :: (nat_lit 488, o488 P) :: (nat_lit 489, o489 P) :: (nat_lit 491, o491 P) :: (nat_lit 492, o492 P) :: (nat_lit 493, o493 P) :: (nat_lit 495, o495 P) :: (nat_lit 496, o496 P) :: (nat_lit 498, o498 P) :: (nat_lit 499, o499 P) :: (nat_lit 500, o500 P) :: (nat_lit 502, o502 P) :: (nat_lit 503, o503 P) :: (nat_lit 505, o505 P) :: (nat_lit 506, o506 P) :: (nat_lit 507, o507 P) :: (nat_lit 509, o509 P) :: (nat_lit 510, o510 P) :: (nat_lit 512, o512 P) :: (nat_lit 513, o513 P) :: (nat_lit 514, o514 P) :: (nat_lit 516, o516 P) :: (nat_lit 517, o517 P) :: (nat_lit 519, o519 P) :: (nat_lit 520, o520 P) :: (nat_lit 521, o521 P) :: (nat_lit 523, o523 P) :: (nat_lit 524, o524 P) :: (nat_lit 526, o526 P) :: (nat_lit 527, o527 P) :: (nat_lit 528, o528 P) :: (nat_lit 530, o530 P) :: (nat_lit 531, o531 P) :: (nat_lit 533, o533 P) :: (nat_lit 534, o534 P) :: (nat_lit 535, o535 P) :: (nat_lit 536, o536 P) :: (nat_lit 537, o537 P) :: (nat_lit 538, o538 P) :: (nat_lit 539, o539 P) :: (nat_lit 549, o549 P) :: (nat_lit 551, o551 P) :: (nat_lit 552, o552 P) :: (nat_lit 554, o554 P) :: (nat_lit 555, o555 P) :: (nat_lit 556, o556 P) :: (nat_lit 557, o557 P) :: (nat_lit 558, o558 P) :: (nat_lit 559, o559 P) :: (nat_lit 560, o560 P) :: (nat_lit 570, o570 P) :: (nat_lit 572, o572 P) :: (nat_lit 573, o573 P) :: (nat_lit 575, o575 P) :: (nat_lit 576, o576 P) :: (nat_lit 577, o577 P) :: (nat_lit 578, o578 P) :: (nat_lit 579, o579 P) :: (nat_lit 580, o580 P) :: (nat_lit 581, o581 P) :: (nat_lit 591, o591 P) :: (nat_lit 593, o593 P) :: (nat_lit 594, o594 P) :: (nat_lit 596, o596 P) :: (nat_lit 597, o597 P) :: (nat_lit 598, o598 P) :: (nat_lit 600, o600 P) :: (nat_lit 601, o601 P) :: (nat_lit 603, o603 P) :: (nat_lit 604, o604 P) :: (nat_lit 605, o605 P) :: (nat_lit 607, o607 P) :: (nat_lit 608, o608 P) :: (nat_lit 610, o610 P) :: (nat_lit 611, o611 P) :: (nat_lit 612, o612 P) :: (nat_lit 614, o614 P) :: (nat_lit 615, o615 P) :: (nat_lit 617, o617 P) :: (nat_lit 618, o618 P) :: (nat_lit 619, o619 P) :: (nat_lit 621, o621 P) :: (nat_lit 622, o622 P) :: (nat_lit 624, o624 P) :: (nat_lit 625, o625 P) :: (nat_lit 626, o626 P) :: (nat_lit 627, o627 P) :: (nat_lit 628, o628 P) :: (nat_lit 629, o629 P) :: (nat_lit 630, o630 P) :: (nat_lit 633, o633 P) :: (nat_lit 640, o640 P) :: (nat_lit 642, o642 P) :: (nat_lit 643, o643 P) :: (nat_lit 645, o645 P) :: (nat_lit 646, o646 P) :: (nat_lit 647, o647 P) :: (nat_lit 649, o649 P) :: (nat_lit 650, o650 P) :: (nat_lit 652, o652 P) :: (nat_lit 653, o653 P) :: (nat_lit 654, o654 P) :: (nat_lit 656, o656 P) :: (nat_lit 657, o657 P) :: (nat_lit 659, o659 P) :: (nat_lit 660, o660 P) :: (nat_lit 661, o661 P) :: (nat_lit 663, o663 P) :: (nat_lit 664, o664 P) :: (nat_lit 666, o666 P) :: (nat_lit 667, o667 P) :: (nat_lit 668, o668 P) :: (nat_lit 669, o669 P) :: (nat_lit 670, o670 P) :: (nat_lit 673, o673 P) :: (nat_lit 680, o680 P) :: (nat_lit 682, o682 P) :: (nat_lit 683, o683 P) :: (nat_lit 685, o685 P) :: (nat_lit 686, o686 P) :: (nat_lit 687, o687 P) :: (nat_lit 689, o689 P) :: (nat_lit 690, o690 P) :: (nat_lit 692, o692 P) :: (nat_lit 693, o693 P) :: (nat_lit 694, o694 P) :: (nat_lit 696, o696 P) :: (nat_lit 697, o697 P) :: (nat_lit 699, o699 P) :: (nat_lit 700, o700 P) :: (nat_lit 701, o701 P) :: (nat_lit 703, o703 P) :: (nat_lit 704, o704 P) :: (nat_lit 706, o706 P) :: (nat_lit 707, o707 P) :: (nat_lit 708, o708 P) :: (nat_lit 710, o710 P) :: (nat_lit 711, o711 P) :: (nat_lit 713, o713 P) :: (nat_lit 714, o714 P) :: (nat_lit 715, o715 P) :: (nat_lit 717, o717 P) :: (nat_lit 718, o718 P) :: (nat_lit 720, o720 P) :: (nat_lit 721, o721 P) :: (nat_lit 722, o722 P) :: (nat_lit 724, o724 P) :: (nat_lit 725, o725 P) :: (nat_lit 727, o727 P) :: (nat_lit 728, o728 P) :: (nat_lit 729, o729 P) :: (nat_lit 731, o731 P) :: (nat_lit 732, o732 P) :: (nat_lit 734, o734 P) :: (nat_lit 735, o735 P) :: (nat_lit 736, o736 P) :: (nat_lit 738, o738 P) :: (nat_lit 739, o739 P) :: (nat_lit 741, o741 P) :: (nat_lit 742, o742 P) :: (nat_lit 743, o743 P) :: (nat_lit 745, o745 P) :: (nat_lit 746, o746 P) :: (nat_lit 748, o748 P) :: (nat_lit 749, o749 P) :: (nat_lit 750, o750 P) :: (nat_lit 752, o752 P) :: (nat_lit 753, o753 P) :: (nat_lit 755, o755 P) :: (nat_lit 756, o756 P) :: (nat_lit 757, o757 P) :: (nat_lit 759, o759 P) :: (nat_lit 760, o760 P) :: (nat_lit 762, o762 P) :: (nat_lit 763, o763 P) :: (nat_lit 764, o764 P) :: (nat_lit 765, o765 P) :: (nat_lit 766, o766 P) :: (nat_lit 769, o769 P) :: (nat_lit 771, o771 P) :: (nat_lit 772, o772 P) :: (nat_lit 774, o774 P) :: (nat_lit 775, o775 P) :: (nat_lit 776, o776 P) :: (nat_lit 778, o778 P) :: (nat_lit 779, o779 P) :: (nat_lit 781, o781 P) :: (nat_lit 782, o782 P) :: (nat_lit 783, o783 P) :: (nat_lit 785, o785 P) :: (nat_lit 786, o786 P) :: (nat_lit 788, o788 P) :: (nat_lit 789, o789 P) :: (nat_lit 790, o790 P) :: (nat_lit 792, o792 P) :: (nat_lit 793, o793 P) :: (nat_lit 795, o795 P) :: (nat_lit 796, o796 P) :: (nat_lit 797, o797 P) :: (nat_lit 799, o799 P) :: (nat_lit 800, o800 P) :: (nat_lit 802, o802 P) :: (nat_lit 803, o803 P) :: (nat_lit 804, o804 P) :: (nat_lit 806, o806 P) :: (nat_lit 807, o807 P) :: (nat_lit 809, o809 P) :: (nat_lit 810, o810 P) :: (nat_lit 811, o811 P) :: (nat_lit 813, o813 P) :: (nat_lit 814, o814 P) :: (nat_lit 816, o816 P) :: (nat_lit 817, o817 P) :: (nat_lit 818, o818 P) :: (nat_lit 820, o820 P) :: (nat_lit 821, o821 P) :: (nat_lit 823, o823 P) :: (nat_lit 824, o824 P) :: (nat_lit 825, o825 P) :: (nat_lit 827, o827 P) :: (nat_lit 828, o828 P) :: (nat_lit 830, o830 P) :: (nat_lit 831, o831 P) :: (nat_lit 832, o832 P) :: (nat_lit 834, o834 P) :: (nat_lit 835, o835 P) :: (nat_lit 837, o837 P) :: (nat_lit 838, o838 P) :: (nat_lit 839, o839 P) :: (nat_lit 841, o841 P) :: (nat_lit 842, o842 P) :: (nat_lit 844, o844 P) :: (nat_lit 845, o845 P) :: (nat_lit 846, o846 P) :: (nat_lit 848, o848 P) :: (nat_lit 849, o849 P) :: (nat_lit 851, o851 P) :: (nat_lit 852, o852 P) :: (nat_lit 853, o853 P) :: (nat_lit 855, o855 P) :: (nat_lit 856, o856 P) :: (nat_lit 858, o858 P) :: (nat_lit 859, o859 P) :: (nat_lit 860, o860 P) :: (nat_lit 862, o862 P) :: (nat_lit 863, o863 P) :: (nat_lit 865, o865 P) :: (nat_lit 866, o866 P) :: (nat_lit 874, o874 P) :: (nat_lit 876, o876 P) :: (nat_lit 877, o877 P) :: (nat_lit 879, o879 P) :: (nat_lit 880, o880 P) :: (nat_lit 881, o881 P) :: (nat_lit 883, o883 P) :: (nat_lit 884, o884 P) :: (nat_lit 886, o886 P) :: (nat_lit 887, o887 P) :: (nat_lit 888, o888 P) :: (nat_lit 890, o890 P) :: (nat_lit 891, o891 P) :: (nat_lit 893, o893 P) :: (nat_lit 894, o894 P) :: (nat_lit 895, o895 P) :: (nat_lit 897, o897 P) :: (nat_lit 898, o898 P) :: (nat_lit 900, o900 P) :: (nat_lit 901, o901 P) :: (nat_lit 902, o902 P) :: (nat_lit 904, o904 P) :: (nat_lit 905, o905 P) :: (nat_lit 907, o907 P) :: (nat_lit 908, o908 P) :: (nat_lit 909, o909 P) :: (nat_lit 911, o911 P) :: (nat_lit 912, o912 P) :: (nat_lit 914, o914 P) :: (nat_lit 915, o915 P) :: (nat_lit 916, o916 P) :: (nat_lit 918, o918 P) :: (nat_lit 919, o919 P) :: (nat_lit 921, o921 P) :: (nat_lit 922, o922 P) :: (nat_lit 923, o923 P) :: (nat_lit 924, o924 P) :: (nat_lit 925, o925 P) :: (nat_lit 926, o926 P) :: (nat_lit 927, o927 P) :: (nat_lit 930, o930 P) :: (nat_lit 932, o932 P) :: (nat_lit 933, o933 P) :: (nat_lit 935, o935 P) :: (nat_lit 936, o936 P) :: (nat_lit 937, o937 P) :: (nat_lit 939, o939 P) :: (nat_lit 940, o940 P) :: (nat_lit 942, o942 P) :: (nat_lit 943, o943 P) :: (nat_lit 944, o944 P) :: (nat_lit 946, o946 P) :: (nat_lit 947, o947 P) :: (nat_lit 949, o949 P) :: (nat_lit 950, o950 P) :: (nat_lit 951, o951 P) :: (nat_lit 954, o954 P) :: (nat_lit 955, o955 P) :: (nat_lit 956, o956 P) :: (nat_lit 958, o958 P) :: (nat_lit 959, o959 P) :: (nat_lit 961, o961 P) :: (nat_lit 962, o962 P) :: (nat_lit 963, o963 P) :: (nat_lit 965, o965 P) :: (nat_lit 966, o966 P) :: (nat_lit 968, o968 P) :: (nat_lit 969, o969 P) :: (nat_lit 970, o970 P) :: (nat_lit 972, o972 P) :: (nat_lit 973, o973 P) :: (nat_lit 975, o975 P) :: (nat_lit 976, o976 P) :: (nat_lit 977, o977 P) :: (nat_lit 980, o980 P) :: (nat_lit 981, o981 P) :: (nat_lit 982, o982 P) :: (nat_lit 984, o984 P) :: (nat_lit 985, o985 P) :: (nat_lit 987, o987 P) :: (nat_lit 988, o988 P) :: (nat_lit 989, o989 P) :: (nat_lit 992, o992 P) :: (nat_lit 993, o993 P) :: []
noncomputable abbrev AS : List Addr := [2, 3, 15, 17, 18, 20, 21, 22, 29, 31, 32, 34, 35, 36, 37, 38, 39, 42, 49, 50, 51, 54, 61, 62, 63, 66, 73, 74, 75, 78, 79, 87, 89, 90, 92, 93, 94, 96, 97, 99, 100, 101, 103, 104, 106, 107, 108, 109, 110, 111, 112, 115, 117, 118, 120, 121, 122, 124, 125, 127, 128, 129, 131, 132, 134, 135, 136, 138, 139, 141, 142, 143, 145, 146, 148, 149, 150, 152, 153, 155, 156, 157, 159, 160, 162, 163, 164, 166, 167, 169, 170, 171, 173, 174, 176, 177, 178, 180, 181, 183, 184, 185, 187, 188, 190, 191, 192, 194, 195, 197, 198, 199, 201, 202, 204, 205, 206, 208, 209, 211, 212, 220, 222, 223, 225, 226, 227, 228, 229, 230, 231, 241, 243, 244, 246, 247, 248, 249, 250, 251, 252, 255, 257, 258, 260, 261, 262, 264, 265, 267, 268, 276, 278, 279, 281, 282, 283, 284, 285, 286, 287, 297, 299, 300, 302, 303, 304, 306, 307, 309, 310, 311, 313, 314, 316, 317, 318, 320, 321, 323, 324, 325, 326, 327, 328, 329, 332, 334, 335, 337, 338, 346, 348, 349, 351, 352, 353, 354, 355, 356, 357, 367, 369, 370, 372, 373, 374, 375, 376, 377, 378, 388, 390, 391, 393, 394, 395, 396, 397, 398, 399, 402, 404, 405, 407, 408, 409, 411, 412, 414, 415, 423, 425, 426, 428, 429, 430, 432, 433, 435, 436, 437, 438, 439, 440, 441, 451, 453, 454, 456, 457, 458, 460, 461, 463, 464, 465, 467, 468, 470, 471, 472, 474, 475, 477, 478, 479, 481, 482, 484, 485, 486, 488, 489, 491, 492, 493, 495, 496, 498, 499, 500, 502, 503, 505, 506, 507, 509, 510, 512, 513, 514, 516, 517, 519, 520, 521, 523, 524, 526, 527, 528, 530, 531, 533, 534, 535, 536, 537, 538, 539, 549, 551, 552, 554, 555, 556, 557, 558, 559, 560, 570, 572, 573, 575, 576, 577, 578, 579, 580, 581, 591, 593, 594, 596, 597, 598, 600, 601, 603, 604, 605, 607, 608, 610, 611, 612, 614, 615, 617, 618, 619, 621, 622, 624, 625, 626, 627, 628, 629, 630, 633, 640, 642, 643, 645, 646, 647, 649, 650, 652, 653, 654, 656, 657, 659, 660, 661, 663, 664, 666, 667, 668, 669, 670, 673, 680, 682, 683, 685, 686, 687, 689, 690, 692, 693, 694, 696, 697, 699, 700, 701, 703, 704, 706, 707, 708, 710, 711, 713, 714, 715, 717, 718, 720, 721, 722, 724, 725, 727, 728, 729, 731, 732, 734, 735, 736, 738, 739, 741, 742, 743, 745, 746, 748, 749, 750, 752, 753, 755, 756, 757, 759, 760, 762, 763, 764, 765, 766, 769, 771, 772, 774, 775, 776, 778, 779, 781, 782, 783, 785, 786, 788, 789, 790, 792, 793, 795, 796, 797, 799, 800, 802, 803, 804, 806, 807, 809, 810, 811, 813, 814, 816, 817, 818, 820, 821, 823, 824, 825, 827, 828, 830, 831, 832, 834, 835, 837, 838, 839, 841, 842, 844, 845, 846, 848, 849, 851, 852, 853, 855, 856, 858, 859, 860, 862, 863, 865, 866, 874, 876, 877, 879, 880, 881, 883, 884, 886, 887, 888, 890, 891, 893, 894, 895, 897, 898, 900, 901, 902, 904, 905, 907, 908, 909, 911, 912, 914, 915, 916, 918, 919, 921, 922, 923, 924, 925, 926, 927, 930, 932, 933, 935, 936, 937, 939, 940, 942, 943, 944, 946, 947, 949, 950, 951, 954, 955, 956, 958, 959, 961, 962, 963, 965, 966, 968, 969, 970, 972, 973, 975, 976, 977, 980, 981, 982, 984, 985, 987, 988, 989, 992, 993]
noncomputable abbrev LS : List Str := ["_wall", "RuneError", "BadKind", "TooDeep", "LeftOut", "VOID", "BOOL", "CHAR", "I1", "U1", "I2", "U2", "I4", "U4", "I8", "U8", "NINT", "OBJECT", "STRING", "NULLK", "BAD", "PRIM_END", "R_PRIM", "R_CLASS", "R_VALUE", "R_ARRAY", "R_BYREF", "R_VAR", "R_MVAR", "R_BOXED", "R_ROREF", "R_FTN", "R_RAW", "DEEPEST_KIND", "HEAVIEST_KIND", "PRIM_TID", "TID_PRIM", "ARRAY_TID", "KindTable", "inner_kinds", "row_level", "row_length", "check_kind_row", "check_named", "check_args", "may_stand", "class_kind", "value_kind", "prim_kind", "var_kind", "tid_of", "is_value", "is_var", "S_CLASS", "S_STRUCT", "S_IFACE", "S_ENUM", "VA_NONE", "TypeDef", "Store", "self_kind", "kind_with", "N_NAME", "Node", "Diags", "leaf", "X_CONST", "X_LOCAL", "X_THIS", "X_CALL", "X_BIN", "FN_PLAIN", "VF_PARAM", "VF_REF", "VF_OUT", "VF_CAPTURED", "VF_CONST", "VF_TEMP", "VF_LOOP", "Var", "Fn", "Unit", "new_fn", "new_var", "CX_DEEPEST", "Judge", "Turner", "Fitter", "Keeper", "Yard", "Pew", "Seat", "bad", "yard_kept", "at_of", "deeper", "bind_kind", "open_scope", "close_scope", "taken_outside", "declare_name", "find_name", "GH_THIS", "GH_TYPE", "GH_OBJ", "GH_BASE", "GH_BOTH", "tell_fault", "this_expr", "local_use", "need_obj", "BareHost", "_law_take", "_law_types", "_law_find", "_law_declare", "_law_local", "_law_this", "_law_object", "_law_asks", "_law_level"].map Str.ofString
noncomputable def life1 : Life := ⟨[], [], [], 0, [], [], false, #[], [], 0, false, false, false, 0, [2000, 10, 10], false, 0, true, [], [], 0, false⟩
noncomputable def H1 (P : Params) : Heap := ⟨(objs P).toArray, life1⟩
noncomputable def tree : Nat → List Obj → BT → BT
  | _, [], t => t
  | n, o :: r, t => tree (n + 1) r (t.ins n o)
noncomputable def T1 (P : Params) : BT := tree 0 (objs P) .nil
theorem T1_eq (P : Params) : absHeap (T1 P) 994 life1 = H1 P := by kernel_rfl
noncomputable abbrev RW : String := "special-get-raises"
theorem run1 (w : World) (os : OsState) : runQ PR (w.withFollow RW false) 11 (some (.ref 6)) 16876 (S0 (w.withFollow RW false).params os) (topStub PR) = some ⟨T1 (w.withFollow RW false).params, 994, life1, #[], ⟨0, 0, 0, 0⟩, 1861, os⟩ := by kernel_rfl
theorem run2 (w : World) (os : OsState) : runQ PR (w.withFollow RW true) 11 (some (.ref 6)) 16876 (S0 (w.withFollow RW true).params os) (topStub PR) = some ⟨T1 (w.withFollow RW true).params, 994, life1, #[], ⟨0, 0, 0, 0⟩, 1861, os⟩ := by kernel_rfl
theorem abs_of {T : BT} {n : Nat} {life : Life} {H : Heap} {g : Array GenState} {d : Drawn} {k : Nat} {os : OsState} (e : absHeap T n life = H) : SharedT.abs ⟨T, n, life, g, d, k, os⟩ = ⟨H, g, d, k, os⟩ := by
  subst e
  rfl
theorem run_top {w : World} {os : OsState} (h : runQ PR w 11 (some (.ref 6)) 16876 (S0 w.params os) (topStub PR) = some ⟨T1 w.params, 994, life1, #[], ⟨0, 0, 0, 0⟩, 1861, os⟩) :
    topRun treeTable PR w 11 (some (.ref 6)) 16876 ⟨boot_heap w.params, #[], boot_drawn, boot_toks, os⟩ (topStub PR) = some ⟨H1 w.params, #[], ⟨0, 0, 0, 0⟩, 1861, os⟩ := by
  have e := runT_of (runQ_eq.trans h)
  rw [show S0 w.params os = ⟨T0 w.params, 11, (boot_heap w.params).life, #[], boot_drawn, boot_toks, os⟩ from rfl, abs_of (T0_eq w.params), abs_of (T1_eq w.params)] at e
  exact e
theorem runs : ∀ (w : World) (os : OsState), topRun treeTable PR w 11 (some (.ref 6)) 16876 ⟨boot_heap w.params, #[], boot_drawn, boot_toks, os⟩ (topStub PR) = some ⟨H1 w.params, #[], ⟨0, 0, 0, 0⟩, 1861, os⟩ :=
  byRow2 RW (P := fun w => ∀ os : OsState, topRun treeTable PR w 11 (some (.ref 6)) 16876 ⟨boot_heap w.params, #[], boot_drawn, boot_toks, os⟩ (topStub PR) = some ⟨H1 w.params, #[], ⟨0, 0, 0, 0⟩, 1861, os⟩) (fun w os => run_top (run1 w os)) (fun w os => run_top (run2 w os))
theorem opn : opening PR = plainProg PR.main.scope.names := by kernel_rfl
theorem fen (s : Shared) : fenceModules? PR s = some s := by kernel_rfl
theorem siz : ∀ w : World, ((boot_heap w.params).isNs mainGlobals && (#[] : Array GenState).size == 0, (boot_heap w.params).objs.size, (boot_heap w.params).nsMap mainGlobals "__annotations__") = (true, 11, some (.ref 6)) := by
  intro w
  kernel_rfl
noncomputable abbrev VW : Program := view PR [130]
noncomputable abbrev XT : Shared → Bool := fun s => xlAt VW [] s && recOk (RowW.records PySem.Challenge.rw_tn0010_01.row.toRowW) s
theorem AS_eq : ∀ P, AS = (KF P).map (·.1) := fun _ => by kernel_rfl
noncomputable abbrev HK : Hook := kHook KF AS AS_eq
noncomputable abbrev MO : List Str := importedModules PR.main.body
noncomputable def Sf (P : Params) (os : OsState) : Shared := ⟨H1 P, #[], ⟨0, 0, 0, 0⟩, 1861, os⟩
theorem look1 (P : Params) (os : OsState) : (staticsOk MO (boot_heap P) (H1 P) && namesBound PR (H1 P) && gensDone (Sf P os) && laidKept (boot_heap P) (H1 P)) = true := by kernel_rfl
theorem look2 (P : Params) (os : OsState) : openSeen VW LS MO XT true (Sf P os) = openGood VW LS := by
  rw [PySem.W.Fast.te4187177175401517315]
  kernel_rfl
theorem look3 (w : World) (os : OsState) : HK.obs (Sf w.params os) = HK.val w := by kernel_rfl
theorem left : LeftO PR VW LS XT HK.obs HK.val 16876 :=
  LeftO.of_pieces (boot_open opn (by decide) fen) siz runs (by decide) fun w => funext fun os => Prod.ext (look1 w.params os) (Prod.ext (look2 w.params os) (look3 w os))
theorem chains : (chainsOk VW && opensWell PR && (frees PySem.Challenge.rw_tn0010_01.row.toRowW && PySem.Challenge.rw_tn0010_01.row.within.isEmpty)) = true := by decide +kernel
theorem bare : PR.bare := ⟨rfl, rfl, rfl, rfl, rfl, by decide +kernel⟩
theorem prom : PySem.Challenge.rw_tn0010_01.row.toRowW.promised := by w_witness2
theorem hd {d : DefRec} (hdef : defOf VW PySem.Challenge.rw_tn0010_01.row.name = some (d, [])) (hp : PR.theDef PySem.Challenge.rw_tn0010_01.row.name = some (d.params, d.body, d.scope)) (hk : kwWritten? d.params.kwonlyargs d.params.kw_defaults = some [])
    (call : WalkO VW LS (XL VW []) HK.says PySem.Challenge.rw_tn0010_01.row.toRowW d [] fun f vs => PySem.call f vs) : PySem.Challenge.rw_tn0010_01.Holds :=
  holds_law said fun _ => holds_open left (Hook.of HK) (Hook.keeps HK) (fun s e => xl_of s (Bool.and_eq_true_iff.mp e).1) XL.keeps hdef hp hk (fun s e => recFacts_of (Bool.and_eq_true_iff.mp e).2) (by rfl) (row_said said) chains bare prom call

noncomputable def Qt (P : Prop) : Prop := P
theorem qo {P : Prop} (h : Qt P) : P := h
theorem qs {P : Prop} (h : P) : Qt P = True := eq_true h
local macro_rules | `(tactic| walk_at $s:str) => `(tactic| k_extra $(Lean.Syntax.mkStrLit ("z " ++ s.getString)))
local macro_rules | `(tactic| k_mem) => `(tactic| k_extra "z k_mem")
local macro_rules | `(tactic| k_upd) => `(tactic| k_extra "z k_upd")
local macro_rules | `(tactic| k_updF) => `(tactic| k_extra "z k_updF")
local macro_rules | `(tactic| k_handed) => `(tactic| k_extra "z k_handed")
local macro_rules | `(tactic| k_qdec) => `(tactic| decide +kernel)
theorem fillup : (PySem.Challenge.rw_tn0010_01, Mine.KF) = (PySem.Challenge.rw_tn0010_01, Mine.KF) := by
  k_fill
  rfl
theorem hide {P : Prop} (h : ∀ G : Prop, (P → G) → G) : P := h P id
/- small sums -/
theorem ar0 {a c K : Nat} (h : a ≤ c) (b : Nat.ble c K = true) : a ≤ K := Nat.le_trans h (Nat.le_of_ble_eq_true b)
theorem ar1 {a c K : Nat} {q : Prop} (h : a ≤ c ∧ q) (b : Nat.ble c K = true) : a ≤ K := ar0 h.1 b
theorem ar2 {a c K : Nat} {q : Prop} (h : q ∧ a ≤ c) (b : Nat.ble c K = true) : a ≤ K := ar0 h.2 b
theorem ar3 {a c K : Nat} (h : a < c) (b : Nat.ble c K = true) : a ≤ K := ar0 (Nat.le_of_lt h) b
theorem ar4 {a n c K : Nat} (e : a = n) (h : n ≤ c) (b : Nat.ble c K = true) : a ≤ K := ar0 (e ▸ h) b
theorem ar5 {a n c K : Nat} {q : Prop} (e : a = n) (h : q ∧ n ≤ c) (b : Nat.ble c K = true) : a ≤ K := ar0 (e ▸ h.2) b
theorem ar6 {a n c K : Nat} (e : a = n) (h : n < c) (b : Nat.ble c K = true) : a ≤ K := ar3 (e ▸ h) b
theorem ar7 {a n i c K : Nat} (e : a = n) (f : n = i) (h : i < c) (b : Nat.ble c K = true) : a ≤ K := ar6 (e.trans f) h b
theorem ar8 {a n c K : Nat} (e : a = n) (f : n = c) (b : Nat.ble c K = true) : a ≤ K := ar0 (Nat.le_of_eq (e.trans f)) b
theorem ar9 {a n j c K : Nat} (h : a ≤ n + j) (f : n ≤ c) (b : Nat.ble (c + j) K = true) : a ≤ K := ar0 (Nat.le_trans h (Nat.add_le_add_right f j)) b
theorem arA {a n i j c K : Nat} (h : a ≤ n + i) (f : n ≤ c) (g : i < j) (b : Nat.ble (c + j) K = true) : a ≤ K := ar9 (Nat.le_trans h (Nat.add_le_add_left (Nat.le_of_lt g) n)) f b
theorem arB {a n j c K : Nat} (e : a = n + j) (h : n ≤ c) (b : Nat.ble (c + j) K = true) : a ≤ K := ar9 (Nat.le_of_eq e) h b
theorem arC {a i n c K : Nat} (e : a = i) (h : i < n) (f : n ≤ c) (b : Nat.ble c K = true) : a ≤ K := ar0 (e ▸ Nat.le_trans (Nat.le_of_lt h) f) b
theorem arD {a n K : Nat} (e : a = n) (h : n ≤ K) : a ≤ K := e ▸ h
theorem arE {a b n : Nat} (e : b = n) (h : a < n) : a < b := e ▸ h
theorem arF {a b n : Nat} (e : n = b) (h : a < n) : a < b := e ▸ h
theorem arG {a b n : Nat} (h : ¬ a < b) (e : n = b) : n ≤ a := e ▸ Nat.le_of_not_lt h
theorem ai0 {x c d : Int} (h : c ≤ x) (b : decide (d ≤ c) = true) : d ≤ x := Int.le_trans (of_decide_eq_true b) h
theorem ai1 {x c d : Int} {q : Prop} (h : c ≤ x ∧ q) (b : decide (d ≤ c) = true) : d ≤ x := ai0 h.1 b
theorem ai2 {x c : Int} (h : x < c) (b : decide (c ≤ 1000000000) = true) : x < 2 ^ 62 := Int.lt_of_lt_of_le h (Int.le_trans (of_decide_eq_true b) (by decide))
theorem ai3 {x c : Int} {q : Prop} (h : q ∧ x < c) (b : decide (c ≤ 1000000000) = true) : x < 2 ^ 62 := ai2 h.2 b
theorem ai4 {x c : Int} {q : Prop} (h : q ∧ x ≤ c) (b : decide (c ≤ 1000000000) = true) : x < 2 ^ 62 := Int.lt_of_le_of_lt h.2 (Int.lt_of_le_of_lt (of_decide_eq_true b) (by decide))
theorem ai5 {x c : Int} (h : x < c) (b : decide (c ≤ 1000000000) = true) : x < 2 ^ 63 := Int.lt_of_lt_of_le h (Int.le_trans (of_decide_eq_true b) (by decide))
theorem ai6 {x c : Int} {q : Prop} (h : q ∧ x < c) (b : decide (c ≤ 1000000000) = true) : x < 2 ^ 63 := ai5 h.2 b
theorem ai7 {x c : Int} {q : Prop} (h : q ∧ x ≤ c) (b : decide (c ≤ 1000000000) = true) : x < 2 ^ 63 := Int.lt_of_le_of_lt h.2 (Int.lt_of_le_of_lt (of_decide_eq_true b) (by decide))
theorem ai8 {x : Int} {n c : Nat} (h : x < n) (f : n < c) (b : Nat.ble c 1000000000 = true) : x < 2 ^ 62 := Int.lt_trans h (Int.lt_trans (Int.ofNat_lt.mpr f) (Int.lt_of_le_of_lt (Int.ofNat_le.mpr (Nat.le_of_ble_eq_true b)) (by decide)))
theorem ai9 {x : Int} {n m c : Nat} (h : x < n) (e : n = m) (f : m ≤ c) (b : Nat.ble c 1000000000 = true) : x < 2 ^ 62 := Int.lt_trans h (Int.lt_of_le_of_lt (Int.ofNat_le.mpr (Nat.le_trans (e ▸ f) (Nat.le_of_ble_eq_true b))) (by decide))
theorem aiA {n c : Nat} (f : n ≤ c) (b : Nat.ble c 1000000000 = true) : (n : Int) < 2 ^ 62 := Int.lt_of_le_of_lt (Int.ofNat_le.mpr (Nat.le_trans f (Nat.le_of_ble_eq_true b))) (by decide)
theorem aiB {n c : Nat} {q : Prop} (f : q ∧ n ≤ c) (b : Nat.ble c 1000000000 = true) : (n : Int) < 2 ^ 62 := aiA f.2 b
theorem aiC {n m c : Nat} (e : n = m) (f : m ≤ c) (b : Nat.ble c 1000000000 = true) : (n : Int) < 2 ^ 62 := aiA (e ▸ f) b
theorem ak0 {n : Nat} (h : 1 ≤ n) : n - 1 < n := Nat.sub_lt h Nat.one_pos
theorem ak1 {n : Nat} {q : Prop} (h : 1 ≤ n ∧ q) : n - 1 < n := ak0 h.1
theorem ak2 {m n : Nat} {q : Prop} (e : m = n) (h : 1 ≤ n ∧ q) : m - 1 < m := ak0 (e ▸ h.1)
theorem ak3 {n d : Nat} (e : n = d + 1) : n - 1 < n := ak0 (e ▸ Nat.le_add_left 1 d)
theorem ak4 {n : Nat} (h : 1 ≤ n) : n - 1 + 1 = n := Nat.sub_add_cancel h
theorem ak5 {n : Nat} {q : Prop} (h : 1 ≤ n ∧ q) : n - 1 + 1 = n := Nat.sub_add_cancel h.1
theorem ak6 {i : Nat} : (0 : Int) ≤ 0 + (i : Int) * 1 := by rw [Int.zero_add, Int.mul_one]; exact Int.natCast_nonneg i
theorem ak7 {i : Nat} : (0 + (i : Int) * 1).toNat = i := by rw [Int.mul_one, Int.zero_add]; rfl
theorem ak8 {i : Nat} : ((0 + i : Nat) : Int) = 0 + (i : Int) * 1 := by rw [Int.mul_one, Int.zero_add, Nat.zero_add]
theorem ak9 {i : Nat} : (i : Int) = 0 + (i : Int) * 1 := by rw [Int.mul_one, Int.zero_add]
theorem akA {i c : Int} {n : Nat} (h : 0 ≤ i ∧ i < c) (e : decide (c = (n : Int)) = true) : i.toNat < n := (Int.toNat_lt h.1).mpr (of_decide_eq_true e ▸ h.2)
theorem akB {i : Int} {q : Prop} (h : 0 ≤ i ∧ q) : i = (i.toNat : Int) := (Int.toNat_of_nonneg h.1).symm
theorem akC {i : Int} {n : Nat} (h : 0 ≤ i) (h2 : i.toNat < n) : i < n := (Int.toNat_lt h).mp h2
theorem akD {i : Int} {n : Nat} {q : Prop} (h : 0 ≤ i ∧ q) (h2 : i.toNat < n) : i < n := akC h.1 h2
theorem akE {i : Int} {q : Prop} (h : 1 ≤ i ∧ q) : (i - 1).toNat + 1 = i.toNat := by
  obtain ⟨n, rfl⟩ := Int.eq_ofNat_of_zero_le (Int.le_trans (by decide) h.1)
  match n, h.1 with
  | n + 1, _ => show ((n : Int) + 1 - 1).toNat + 1 = n + 1; rw [Int.add_sub_cancel]; rfl
theorem akF {n : Nat} (h : 1 ≤ n) : (-1 + (n : Int)).toNat = n - 1 := by
  match n, h with
  | n + 1, _ => rw [Int.natCast_succ, Int.add_comm, Int.add_neg_cancel_right]; rfl
theorem akG {a b c i j : Nat} (h : b ≤ a + i) (h2 : c ≤ b + j) : c ≤ a + (i + j) := Nat.le_trans h2 (Nat.add_assoc .. ▸ Nat.add_le_add_right h j)
theorem akH {x c : Int} {q : Prop} (h : q ∧ x ≤ c) (n : Nat) (e : decide (c = (n : Int)) = true) : x.toNat ≤ n := Int.toNat_le.mpr (of_decide_eq_true e ▸ h.2)
theorem akI {p a b : Nat} (h : a = b) (e : a = p + 1) : p = b - 1 := by rw [← h, e]; rfl
theorem akJ {p a b i : Nat} (h : i < b - 1) (e : a = p + 1) (f : a = b) : i < p := by rw [← f, e] at h; exact h
theorem akK {i n : Nat} (h : ¬ i < n) (h2 : i < n + 1) : i = n := Nat.le_antisymm (Nat.le_of_lt_succ h2) (Nat.le_of_not_lt h)
theorem akL {a : Int} {q : Prop} (h : 1 ≤ a ∧ q) : 0 ≤ a - 1 := Int.sub_nonneg_of_le h.1
theorem akM {x D D' : Int} (h : D ≤ D') (h2 : 0 ≤ x ∧ x ≤ D) : 0 ≤ x ∧ x ≤ D' := ⟨h2.1, Int.le_trans h2.2 h⟩
theorem akN {x D : Int} (h : 0 ≤ x ∧ x ≤ D) : 0 ≤ x + 1 ∧ x + 1 ≤ D + 1 := ⟨Int.le_trans h.1 (Int.le_add_of_nonneg_right (by decide)), Int.add_le_add_right h.2 1⟩
/- the addresses that stand from the setup on -/
theorem lines1 : True := by
  k_with "z k_ar" => (first | with_reducible assumption | with_reducible exact ar0 (by assumption) (by k_dflt (exact Eq.refl true)) | with_reducible exact ar4 (by assumption) (by assumption) (by k_dflt (exact Eq.refl true)) | with_reducible exact ar1 (by assumption) (by k_dflt (exact Eq.refl true)) | with_reducible exact ar2 (by assumption) (by k_dflt (exact Eq.refl true)) | with_reducible exact ar3 (by assumption) (by k_dflt (exact Eq.refl true)) | with_reducible exact ar5 (by assumption) (by assumption) (by k_dflt (exact Eq.refl true)) | with_reducible exact ar6 (by assumption) (by assumption) (by k_dflt (exact Eq.refl true)) | with_reducible exact ar7 (by assumption) (by assumption) (by assumption) (by k_dflt (exact Eq.refl true)) | with_reducible exact ar8 (by assumption) (by assumption) (by k_dflt (exact Eq.refl true)) | with_reducible exact ar9 (by assumption) (by assumption) (by k_dflt (exact Eq.refl true)) | with_reducible exact arA (by assumption) (by assumption) (by assumption) (by k_dflt (exact Eq.refl true)) | with_reducible exact arB (by assumption) (by assumption) (by k_dflt (exact Eq.refl true)) | with_reducible exact arC (by assumption) (by assumption) (by assumption) (by k_dflt (exact Eq.refl true)) | with_reducible exact arD (by assumption) (by assumption) | with_reducible exact arE (by assumption) (by assumption) | with_reducible exact arF (by assumption) (by assumption) | with_reducible exact arG (by assumption) (by assumption) | with_reducible exact ai0 (by assumption) (by k_dflt (exact Eq.refl true)) | with_reducible exact ai1 (by assumption) (by k_dflt (exact Eq.refl true)) | with_reducible exact ai2 (by assumption) (by k_dflt (exact Eq.refl true)) | with_reducible exact ai3 (by assumption) (by k_dflt (exact Eq.refl true)) | with_reducible exact ai4 (by assumption) (by k_dflt (exact Eq.refl true)) | with_reducible exact ai5 (by assumption) (by k_dflt (exact Eq.refl true)) | with_reducible exact ai6 (by assumption) (by k_dflt (exact Eq.refl true)) | with_reducible exact ai7 (by assumption) (by k_dflt (exact Eq.refl true)) | with_reducible exact ai8 (by assumption) (by assumption) (by k_dflt (exact Eq.refl true)) | with_reducible exact ai9 (by assumption) (by assumption) (by assumption) (by k_dflt (exact Eq.refl true)) | with_reducible exact aiA (by assumption) (by k_dflt (exact Eq.refl true)) | with_reducible exact aiB (by assumption) (by k_dflt (exact Eq.refl true)) | with_reducible exact aiC (by assumption) (by assumption) (by k_dflt (exact Eq.refl true)) | with_reducible exact ak0 (by assumption) | with_reducible exact ak1 (by assumption) | with_reducible exact ak2 (by assumption) (by assumption) | with_reducible exact ak3 (by assumption) | with_reducible exact ak4 (by assumption) | with_reducible exact ak5 (by assumption) | with_reducible exact ak6 | with_reducible exact ak7 | with_reducible exact ak8 | with_reducible exact ak9 | with_reducible exact akA (by assumption) (by k_dflt (exact Eq.refl true)) | with_reducible exact akB (by assumption) | with_reducible exact akC (by assumption) (by assumption) | with_reducible exact akD (by assumption) (by assumption) | with_reducible exact akE (by assumption) | with_reducible exact akF (by assumption) | with_reducible exact akG (by assumption) (by assumption) | with_reducible exact akI (by assumption) (by assumption) | with_reducible exact akJ (by assumption) (by assumption) (by assumption) | with_reducible exact akK (by assumption) (by assumption) | with_reducible exact akL (by assumption) | with_reducible exact akM (by assumption) (by assumption) | with_reducible exact akN (by assumption))
  trivial
structure Fix where
  aw : Addr
  acxd : Addr
  avars : Addr
  ascopes : Addr
  atold : Addr
  aconsts : Addr
  afns : Addr
  avs : Addr
  arows : Addr
  acxsc : Addr
  acxrows : Addr
  aclosed : Addr
  anotes : Addr
  acx : Addr
  aunit : Addr
  aunitd : Addr
  adiags : Addr
  adiagsd : Addr
  ain : Addr
  nin : Nat
  ins : List Value
  ns : List Int
  atypes : Addr
  astore : Addr
  astored : Addr
  akt : Addr
  aktd : Addr
  ax : Nat → Value
/- the objects that turn -/
structure Raw where
  ow : Obj
  ocx : Obj
  vars : Array Value
  nvars : Nat
  scopes : Array Value
  nscopes : Nat
  told : Array Value
  ntold : Nat
  oconsts : Obj
  fns : Array Value
  nfns : Nat
  vs : Array Value
  nvs : Nat
  rows : Array Value
  nrows : Nat
  cxsc : Array Value
  ncxsc : Nat
  cxrows : Array Value
  ncxrows : Nat
  oclosed : Obj
  onotes : Obj
  rowL : List (Addr × Obj)
  vdL : List (Addr × Obj)
  slL : List (Addr × Obj)
  sdL : List (Addr × Obj)
  cdL : List (Addr × Obj)
  lidL : List (Addr × Obj)
  imm : List (Addr × Obj)
noncomputable abbrev Raw.s_vars (r : Raw) (x : Array Value) (n : Nat) : Raw := { r with vars := x, nvars := n }
noncomputable abbrev Raw.s_scopes (r : Raw) (x : Array Value) (n : Nat) : Raw := { r with scopes := x, nscopes := n }
noncomputable abbrev Raw.s_told (r : Raw) (x : Array Value) (n : Nat) : Raw := { r with told := x, ntold := n }
noncomputable abbrev Raw.s_fns (r : Raw) (x : Array Value) (n : Nat) : Raw := { r with fns := x, nfns := n }
noncomputable abbrev Raw.s_vs (r : Raw) (x : Array Value) (n : Nat) : Raw := { r with vs := x, nvs := n }
noncomputable abbrev Raw.s_rows (r : Raw) (x : Array Value) (n : Nat) : Raw := { r with rows := x, nrows := n }
noncomputable abbrev Raw.s_cxsc (r : Raw) (x : Array Value) (n : Nat) : Raw := { r with cxsc := x, ncxsc := n }
noncomputable abbrev Raw.s_cxrows (r : Raw) (x : Array Value) (n : Nat) : Raw := { r with cxrows := x, ncxrows := n }
noncomputable abbrev Raw.s_ow (r : Raw) (x : Obj) : Raw := { r with ow := x }
noncomputable abbrev Raw.s_ocx (r : Raw) (x : Obj) : Raw := { r with ocx := x }
noncomputable abbrev Raw.s_oconsts (r : Raw) (x : Obj) : Raw := { r with oconsts := x }
noncomputable abbrev Raw.s_oclosed (r : Raw) (x : Obj) : Raw := { r with oclosed := x }
noncomputable abbrev Raw.s_onotes (r : Raw) (x : Obj) : Raw := { r with onotes := x }
noncomputable abbrev Raw.s_rowL (r : Raw) (x : List (Addr × Obj)) : Raw := { r with rowL := x }
noncomputable abbrev Raw.s_vdL (r : Raw) (x : List (Addr × Obj)) : Raw := { r with vdL := x }
noncomputable abbrev Raw.s_slL (r : Raw) (x : List (Addr × Obj)) : Raw := { r with slL := x }
noncomputable abbrev Raw.s_sdL (r : Raw) (x : List (Addr × Obj)) : Raw := { r with sdL := x }
noncomputable abbrev Raw.s_cdL (r : Raw) (x : List (Addr × Obj)) : Raw := { r with cdL := x }
noncomputable abbrev Raw.s_lidL (r : Raw) (x : List (Addr × Obj)) : Raw := { r with lidL := x }
noncomputable abbrev Raw.s_imm (r : Raw) (x : List (Addr × Obj)) : Raw := { r with imm := x }
noncomputable def grp (r : Raw) : List (Addr × Obj) := r.rowL ++ (r.vdL ++ (r.slL ++ (r.sdL ++ (r.cdL ++ (r.lidL ++ r.imm)))))
noncomputable def led (f : Fix) (r : Raw) : List (Addr × Obj) :=
  (f.aw, r.ow) :: (f.acxd, r.ocx) :: (f.avars, listOf r.vars r.nvars) :: (f.ascopes, listOf r.scopes r.nscopes) :: (f.atold, listOf r.told r.ntold) :: (f.aconsts, r.oconsts) ::
  (f.afns, listOf r.fns r.nfns) :: (f.avs, listOf r.vs r.nvs) :: (f.arows, listOf r.rows r.nrows) :: (f.acxsc, listOf r.cxsc r.ncxsc) :: (f.acxrows, listOf r.cxrows r.ncxrows) :: (f.aclosed, r.oclosed) ::
  (f.anotes, r.onotes) :: grp r
noncomputable def Sep (f : Fix) (r : Raw) (Z : List (Addr × Obj)) : Prop := ((Z ++ led f r).map (·.1)).Nodup
section
variable {f : Fix} {r : Raw} {Z : List (Addr × Obj)} {p : Addr × Obj} {d : Addr} {o o' : Obj}
theorem mem_Z (h : p ∈ Z) : p ∈ Z ++ led f r := List.mem_append_left _ h
theorem mem_at (k : Nat) (h : (led f r)[k]? = some p) : p ∈ Z ++ led f r := List.mem_append_right _ (List.mem_of_getElem? h)
theorem mem_gr (h : p ∈ grp r) : p ∈ Z ++ led f r := List.mem_append_right _ (List.mem_of_mem_drop (i := 13) h)
theorem mem_aw : (f.aw, r.ow) ∈ Z ++ led f r := mem_at 0 rfl
theorem mem_acxd : (f.acxd, r.ocx) ∈ Z ++ led f r := mem_at 1 rfl
theorem mem_avars : (f.avars, listOf r.vars r.nvars) ∈ Z ++ led f r := mem_at 2 rfl
theorem mem_ascopes : (f.ascopes, listOf r.scopes r.nscopes) ∈ Z ++ led f r := mem_at 3 rfl
theorem mem_atold : (f.atold, listOf r.told r.ntold) ∈ Z ++ led f r := mem_at 4 rfl
theorem mem_aconsts : (f.aconsts, r.oconsts) ∈ Z ++ led f r := mem_at 5 rfl
theorem mem_afns : (f.afns, listOf r.fns r.nfns) ∈ Z ++ led f r := mem_at 6 rfl
theorem mem_avs : (f.avs, listOf r.vs r.nvs) ∈ Z ++ led f r := mem_at 7 rfl
theorem mem_arows : (f.arows, listOf r.rows r.nrows) ∈ Z ++ led f r := mem_at 8 rfl
theorem mem_acxsc : (f.acxsc, listOf r.cxsc r.ncxsc) ∈ Z ++ led f r := mem_at 9 rfl
theorem mem_acxrows : (f.acxrows, listOf r.cxrows r.ncxrows) ∈ Z ++ led f r := mem_at 10 rfl
theorem mem_aclosed : (f.aclosed, r.oclosed) ∈ Z ++ led f r := mem_at 11 rfl
theorem mem_anotes : (f.anotes, r.onotes) ∈ Z ++ led f r := mem_at 12 rfl
theorem mem_row (h : p ∈ r.rowL) : p ∈ Z ++ led f r := mem_gr (List.mem_append_left _ h)
theorem mem_vd (h : p ∈ r.vdL) : p ∈ Z ++ led f r := mem_gr (List.mem_append_right _ (List.mem_append_left _ h))
theorem mem_sl (h : p ∈ r.slL) : p ∈ Z ++ led f r := mem_gr (List.mem_append_right _ (List.mem_append_right _ (List.mem_append_left _ h)))
theorem mem_sd (h : p ∈ r.sdL) : p ∈ Z ++ led f r := mem_gr (List.mem_append_right _ (List.mem_append_right _ (List.mem_append_right _ (List.mem_append_left _ h))))
theorem mem_cd (h : p ∈ r.cdL) : p ∈ Z ++ led f r := mem_gr (List.mem_append_right _ (List.mem_append_right _ (List.mem_append_right _ (List.mem_append_right _ (List.mem_append_left _ h)))))
theorem mem_lid (h : p ∈ r.lidL) : p ∈ Z ++ led f r := mem_gr (List.mem_append_right _ (List.mem_append_right _ (List.mem_append_right _ (List.mem_append_right _ (List.mem_append_right _ (List.mem_append_left _ h))))))
theorem mem_imm (h : p ∈ r.imm) : p ∈ Z ++ led f r := mem_gr (List.mem_append_right _ (List.mem_append_right _ (List.mem_append_right _ (List.mem_append_right _ (List.mem_append_right _ (List.mem_append_right _ h))))))
noncomputable def updL (d : Addr) (o' : Obj) (l : List (Addr × Obj)) : List (Addr × Obj) := l.map fun p => if p.1 = d then (d, o') else p
theorem mem_updL_self (h : (d, o) ∈ Z) : (d, o') ∈ updL d o' Z := List.mem_map.mpr ⟨_, h, by simp⟩
theorem mem_updL_ne (h : p ∈ Z) (hn : p.1 ≠ d) : p ∈ updL d o' Z := List.mem_map.mpr ⟨_, h, by simp [hn]⟩
theorem upd_mid {pre post : List (Addr × Obj)} (nd : ((pre ++ (d, o) :: post).map (·.1)).Nodup) : Upd d o o' (pre ++ (d, o) :: post) (pre ++ (d, o') :: post) := by
  induction pre with
  | nil =>
    refine Upd.head fun p hp e => ?_
    rw [List.nil_append, List.map_cons, List.nodup_cons] at nd
    exact nd.1 (List.mem_map.mpr ⟨p, hp, e⟩)
  | cons q pre ih =>
    rw [List.cons_append, List.map_cons, List.nodup_cons] at nd
    exact Upd.tail (fun e => nd.1 (by rw [e]; simp)) (ih nd.2)
theorem Upd.app : ∀ {pre l l' : List (Addr × Obj)}, (∀ p ∈ pre, p.1 ≠ d) → Upd d o o' l l' → Upd d o o' (pre ++ l) (pre ++ l')
  | [], _, _, _, u => u
  | _ :: _, _, _, h, u => Upd.tail (h _ (.head _)) (Upd.app (fun p hp => h p (.tail _ hp)) u)
theorem updL_none {l : List (Addr × Obj)} (h : ∀ p ∈ l, p.1 ≠ d) : updL d o' l = l := by
  unfold updL
  conv => rhs; rw [← List.map_id l]
  exact List.map_congr_left fun p hp => by simp [h p hp]
theorem upd_grp : ∀ {l post : List (Addr × Obj)}, ((l ++ post).map (·.1)).Nodup → (d, o) ∈ l → Upd d o o' (l ++ post) (updL d o' l ++ post)
  | [], _, _, h => nomatch h
  | q :: l, post, nd, h => by
    rw [List.cons_append, List.map_cons, List.nodup_cons] at nd
    rcases List.mem_cons.mp h with e | h
    · subst e
      have hl : ∀ p ∈ l, p.1 ≠ d := fun p hp e => nd.1 (List.mem_map.mpr ⟨p, List.mem_append_left _ hp, e⟩)
      have : updL d o' ((d, o) :: l) = (d, o') :: l := by
        show (if d = d then (d, o') else (d, o)) :: updL d o' l = _
        rw [if_pos rfl, updL_none hl]
      rw [this]
      exact Upd.head fun p hp e => nd.1 (List.mem_map.mpr ⟨p, hp, e⟩)
    · have hq : q.1 ≠ d := fun e => nd.1 (by rw [e]; exact List.mem_map.mpr ⟨_, List.mem_append_left _ h, rfl⟩)
      have : updL d o' (q :: l) = q :: updL d o' l := by
        show (if q.1 = d then (d, o') else q) :: updL d o' l = _
        rw [if_neg hq]
      rw [this]
      exact Upd.tail hq (upd_grp nd.2 h)
theorem upd_in {pre l post : List (Addr × Obj)} (nd : ((pre ++ (l ++ post)).map (·.1)).Nodup) (h : (d, o) ∈ l) : Upd d o o' (pre ++ (l ++ post)) (pre ++ (updL d o' l ++ post)) := by
  rw [List.map_append, List.nodup_append] at nd
  refine Upd.app (fun p hp e => ?_) (upd_grp nd.2.1 h)
  refine nd.2.2 p.1 (List.mem_map_of_mem hp) d ?_ e
  exact List.mem_map.mpr ⟨_, List.mem_append_left _ h, rfl⟩
theorem news_upd' {h₀ h h' : Heap} {L : Addr} {l l' : List (Addr × Obj)} (N : News h₀ L h l) (U : Upd d o o' l l') (hs : Heap.SameBut d h h') (ho : h'.get? d = some o') : News h₀ L h' l' := by
  obtain ⟨pre, post, rfl, rfl, a, b⟩ := U.split
  exact news_set N a b hs ho
end
section
variable {f : Fix} {r : Raw} {Z : List (Addr × Obj)} {p : Addr × Obj} {d : Addr} {o o' : Obj}
theorem Sep.split {pre post : List (Addr × Obj)} (nd : Sep f r Z) (h : led f r = pre ++ post) : (((Z ++ pre) ++ post).map (·.1)).Nodup := by
  unfold Sep at nd; rw [h, ← List.append_assoc] at nd; exact nd
theorem upd_at {pre post : List (Addr × Obj)} (nd : Sep f r Z) (h : led f r = pre ++ (d, o) :: post) : Upd d o o' (Z ++ led f r) (Z ++ (pre ++ (d, o') :: post)) := by
  rw [h, ← List.append_assoc, ← List.append_assoc]
  exact upd_mid (nd.split h)
theorem upd_gr {pre l post : List (Addr × Obj)} (nd : Sep f r Z) (h : led f r = pre ++ (l ++ post)) (hm : (d, o) ∈ l) : Upd d o o' (Z ++ led f r) (Z ++ (pre ++ (updL d o' l ++ post))) := by
  have := upd_in (o' := o') (nd.split h) hm
  rw [h]; simpa only [List.append_assoc] using this
theorem upd_aw (nd : Sep f r Z) : Upd f.aw r.ow o' (Z ++ led f r) (Z ++ led f (r.s_ow o')) := upd_at (pre := []) nd rfl
theorem upd_acxd (nd : Sep f r Z) : Upd f.acxd r.ocx o' (Z ++ led f r) (Z ++ led f (r.s_ocx o')) := upd_at (pre := [_]) nd rfl
theorem upd_avars {x : Array Value} {n : Nat} (nd : Sep f r Z) : Upd f.avars (listOf r.vars r.nvars) (listOf x n) (Z ++ led f r) (Z ++ led f (r.s_vars x n)) := upd_at (pre := [_, _]) nd rfl
theorem upd_ascopes {x : Array Value} {n : Nat} (nd : Sep f r Z) : Upd f.ascopes (listOf r.scopes r.nscopes) (listOf x n) (Z ++ led f r) (Z ++ led f (r.s_scopes x n)) := upd_at (pre := [_, _, _]) nd rfl
theorem upd_atold {x : Array Value} {n : Nat} (nd : Sep f r Z) : Upd f.atold (listOf r.told r.ntold) (listOf x n) (Z ++ led f r) (Z ++ led f (r.s_told x n)) := upd_at (pre := [_, _, _, _]) nd rfl
theorem upd_aconsts (nd : Sep f r Z) : Upd f.aconsts r.oconsts o' (Z ++ led f r) (Z ++ led f (r.s_oconsts o')) := upd_at (pre := [_, _, _, _, _]) nd rfl
theorem upd_afns {x : Array Value} {n : Nat} (nd : Sep f r Z) : Upd f.afns (listOf r.fns r.nfns) (listOf x n) (Z ++ led f r) (Z ++ led f (r.s_fns x n)) := upd_at (pre := [_, _, _, _, _, _]) nd rfl
theorem upd_avs {x : Array Value} {n : Nat} (nd : Sep f r Z) : Upd f.avs (listOf r.vs r.nvs) (listOf x n) (Z ++ led f r) (Z ++ led f (r.s_vs x n)) := upd_at (pre := [_, _, _, _, _, _, _]) nd rfl
theorem upd_arows {x : Array Value} {n : Nat} (nd : Sep f r Z) : Upd f.arows (listOf r.rows r.nrows) (listOf x n) (Z ++ led f r) (Z ++ led f (r.s_rows x n)) := upd_at (pre := [_, _, _, _, _, _, _, _]) nd rfl
theorem upd_acxsc {x : Array Value} {n : Nat} (nd : Sep f r Z) : Upd f.acxsc (listOf r.cxsc r.ncxsc) (listOf x n) (Z ++ led f r) (Z ++ led f (r.s_cxsc x n)) := upd_at (pre := [_, _, _, _, _, _, _, _, _]) nd rfl
theorem upd_acxrows {x : Array Value} {n : Nat} (nd : Sep f r Z) : Upd f.acxrows (listOf r.cxrows r.ncxrows) (listOf x n) (Z ++ led f r) (Z ++ led f (r.s_cxrows x n)) := upd_at (pre := [_, _, _, _, _, _, _, _, _, _]) nd rfl
theorem upd_aclosed (nd : Sep f r Z) : Upd f.aclosed r.oclosed o' (Z ++ led f r) (Z ++ led f (r.s_oclosed o')) := upd_at (pre := [_, _, _, _, _, _, _, _, _, _, _]) nd rfl
theorem upd_anotes (nd : Sep f r Z) : Upd f.anotes r.onotes o' (Z ++ led f r) (Z ++ led f (r.s_onotes o')) := upd_at (pre := [_, _, _, _, _, _, _, _, _, _, _, _]) nd rfl
noncomputable def hdL (f : Fix) (r : Raw) : List (Addr × Obj) := (led f r).take 13
theorem upd_row (nd : Sep f r Z) (h : (d, o) ∈ r.rowL) : Upd d o o' (Z ++ led f r) (Z ++ led f (r.s_rowL (updL d o' r.rowL))) := upd_gr (pre := hdL f r) nd rfl h
theorem upd_vd (nd : Sep f r Z) (h : (d, o) ∈ r.vdL) : Upd d o o' (Z ++ led f r) (Z ++ led f (r.s_vdL (updL d o' r.vdL))) := by
  have := upd_gr (o' := o') (pre := hdL f r ++ r.rowL) (l := r.vdL) (post := r.slL ++ (r.sdL ++ (r.cdL ++ (r.lidL ++ r.imm)))) nd (by rw [List.append_assoc]; rfl) h
  rw [List.append_assoc] at this; exact this
theorem upd_sl (nd : Sep f r Z) (h : (d, o) ∈ r.slL) : Upd d o o' (Z ++ led f r) (Z ++ led f (r.s_slL (updL d o' r.slL))) := by
  have := upd_gr (o' := o') (pre := hdL f r ++ (r.rowL ++ r.vdL)) (l := r.slL) (post := (r.sdL ++ (r.cdL ++ (r.lidL ++ r.imm)))) nd (by simp only [List.append_assoc]; rfl) h
  simp only [List.append_assoc] at this; exact this
theorem upd_sd (nd : Sep f r Z) (h : (d, o) ∈ r.sdL) : Upd d o o' (Z ++ led f r) (Z ++ led f (r.s_sdL (updL d o' r.sdL))) := by
  have := upd_gr (o' := o') (pre := hdL f r ++ (r.rowL ++ (r.vdL ++ r.slL))) (l := r.sdL) (post := (r.cdL ++ (r.lidL ++ r.imm))) nd (by simp only [List.append_assoc]; rfl) h
  simp only [List.append_assoc] at this; exact this
theorem upd_cd (nd : Sep f r Z) (h : (d, o) ∈ r.cdL) : Upd d o o' (Z ++ led f r) (Z ++ led f (r.s_cdL (updL d o' r.cdL))) := by
  have := upd_gr (o' := o') (pre := hdL f r ++ (r.rowL ++ (r.vdL ++ (r.slL ++ r.sdL)))) (l := r.cdL) (post := (r.lidL ++ r.imm)) nd (by simp only [List.append_assoc]; rfl) h
  simp only [List.append_assoc] at this; exact this
theorem upd_lid (nd : Sep f r Z) (h : (d, o) ∈ r.lidL) : Upd d o o' (Z ++ led f r) (Z ++ led f (r.s_lidL (updL d o' r.lidL))) := by
  have := upd_gr (o' := o') (pre := hdL f r ++ (r.rowL ++ (r.vdL ++ (r.slL ++ (r.sdL ++ r.cdL))))) (l := r.lidL) (post := r.imm) nd (by simp only [List.append_assoc]; rfl) h
  simp only [List.append_assoc] at this; exact this
/- the addresses alone count -/
theorem Sep.drop {q : Addr × Obj} (nd : Sep f r (q :: Z)) : Sep f r Z := by
  unfold Sep at nd ⊢
  rw [List.cons_append, List.map_cons, List.nodup_cons] at nd
  exact nd.2
theorem Sep.push {q : Addr × Obj} (nd : Sep f r Z) (h : ∀ p ∈ Z ++ led f r, p.1 < q.1) : Sep f r (q :: Z) := by
  unfold Sep at nd ⊢
  rw [List.cons_append, List.map_cons, List.nodup_cons]
  refine ⟨fun hm => ?_, nd⟩
  obtain ⟨p, hp, e⟩ := List.mem_map.mp hm
  exact absurd (e ▸ h p hp) (Nat.lt_irrefl _)
theorem Sep.cons' {q : Addr × Obj} (nd : Sep f r Z) (h : ∀ p ∈ Z ++ led f r, p.1 ≠ q.1) : Sep f r (q :: Z) := by
  unfold Sep at nd ⊢
  rw [List.cons_append, List.map_cons, List.nodup_cons]
  refine ⟨fun hm => ?_, nd⟩
  obtain ⟨p, hp, e⟩ := List.mem_map.mp hm
  exact h p hp e
theorem Sep.ne {q : Addr × Obj} (nd : Sep f r (q :: Z)) : ∀ p ∈ Z ++ led f r, p.1 ≠ q.1 := by
  unfold Sep at nd
  rw [List.cons_append, List.map_cons, List.nodup_cons] at nd
  exact fun p hp e => nd.1 (List.mem_map.mpr ⟨p, hp, e⟩)
theorem Sep.swap {q q' : Addr × Obj} (nd : Sep f r (q :: q' :: Z)) : Sep f r (q' :: q :: Z) := by
  unfold Sep at nd ⊢
  simp only [List.cons_append, List.map_cons] at nd ⊢
  exact ((List.Perm.swap _ _ _).nodup_iff).mp nd
theorem Sep.drop2 {q q' : Addr × Obj} (nd : Sep f r (q :: q' :: Z)) : Sep f r (q :: Z) := nd.swap.drop
theorem Sep.under {q : Addr × Obj} {Z' : List (Addr × Obj)} (nd : Sep f r (q :: Z)) (h : Sep f r Z → Sep f r Z') (hs : ∀ p ∈ Z', p ∈ Z) : Sep f r (q :: Z') :=
  (h nd.drop).cons' fun p hp => nd.ne p (by rcases List.mem_append.mp hp with hp | hp; exact List.mem_append_left _ (hs p hp); exact List.mem_append_right _ hp)
theorem Sep.drop3 {q q' q'' : Addr × Obj} (nd : Sep f r (q :: q' :: q'' :: Z)) : Sep f r (q :: q' :: Z) :=
  nd.under Sep.drop2 fun p hp => by rcases List.mem_cons.mp hp with rfl | hp; exact .head _; exact .tail _ (.tail _ hp)
/- one of the function's own made part of the state -/
theorem Sep.move {r' : Raw} {q : Addr × Obj} {pre post : List (Addr × Obj)} (nd : Sep f r (q :: Z)) (h : led f r = pre ++ post) (h' : (led f r').map (·.1) = (pre ++ q :: post).map (·.1)) : Sep f r' Z := by
  unfold Sep at nd ⊢
  rw [List.map_append, h', ← List.map_append, ← List.append_assoc, List.map_append, List.map_cons]
  rw [h, List.cons_append, List.map_cons, ← List.append_assoc, List.map_append] at nd
  exact (List.perm_middle.nodup_iff).mpr nd
end
noncomputable abbrev tupOf (vs : List Value) : Obj := { cls := .type "tuple", data := .seq vs.toArray }
section
variable {prog : Program} {w : World} {M : Model} {A : Around} {E : Value → Shared → Prop} {s : Shared} {hS : Heap} {gS : Array GenState} {dS : Drawn} {tS : Nat} {oS : OsState} {h₀ : Heap} {L : Addr} {m : Str → Option Value} {f : Fix} {r r' : Raw} {Z news : List (Addr × Obj)} {K : Frag}
theorem upd_fst {d : Addr} {o o' : Obj} {l l' : List (Addr × Obj)} (U : Upd d o o' l l') : l'.map (·.1) = l.map (·.1) := by
  obtain ⟨pre, post, rfl, rfl, _, _⟩ := U.split
  simp
theorem Sep.upd {d : Addr} {o o' : Obj} (nd : Sep f r Z) (U : Upd d o o' (Z ++ led f r) (Z ++ led f r')) : Sep f r' Z := by
  unfold Sep at nd ⊢
  rw [upd_fst U]; exact nd
theorem tupN {vs : List Value} {Q : Value → Shared → Prop} (F : Fr h₀ L hS m) (N : News h₀ L hS (Z ++ led f r)) (nd : Sep f r Z) (hz : vs.length ≤ 1000)
    (h : ∀ a h', let Z' := (a, tupOf vs) :: Z; Fr h₀ L h' m → News h₀ L h' (Z' ++ led f r) → Sep f r Z' → Q (.ref a) ⟨h', gS, dS, tS, oS⟩) : wpAny M A (newTuple vs) Q E ⟨hS, gS, dS, tS, oS⟩ :=
  newTuple_N F N (fun h' F' N' => h _ h' F' N' (nd.push fun p hp => Heap.lt_size (N p hp).1)) (by rw [sizeLine_eq]; (first | k_extra "z k_ar" | omega))
theorem lstN {vs : List Value} {Q : Value → Shared → Prop} (F : Fr h₀ L hS m) (N : News h₀ L hS (Z ++ led f r)) (nd : Sep f r Z) (hz : vs.length ≤ 1000)
    (h : ∀ a h', let Z' := (a, listOf vs.toArray 0) :: Z; Fr h₀ L h' m → News h₀ L h' (Z' ++ led f r) → Sep f r Z' → Q (.ref a) ⟨h', gS, dS, tS, oS⟩) : wpAny M A (newList vs) Q E ⟨hS, gS, dS, tS, oS⟩ :=
  newList_N F N (fun h' F' N' => h _ h' F' N' (nd.push fun p hp => Heap.lt_size (N p hp).1)) (by rw [sizeLine_eq]; (first | k_extra "z k_ar" | omega))
theorem dctN {env : Env} {pos : Pos} {Q : Value → Shared → Prop} (F : Fr h₀ L hS m) (N : News h₀ L hS (Z ++ led f r)) (nd : Sep f r Z) (hbig : h₀.NoLimit)
    (h : ∀ d h' o, let Z' := (d, o) :: Z; Fr h₀ L h' m → News h₀ L h' (Z' ++ led f r) → Sep f r Z' → (d == sysModules) = false → o.IsDictOf (strKind prog w) [] → Q (.ref d) ⟨h', gS, dS, tS, oS⟩) :
    wpAny (model prog w) A (eval (.Dict [] [] pos) env) Q E ⟨hS, gS, dS, tS, oS⟩ :=
  newDict_K F N hbig fun d h' o F' N' l lo hs _ _ _ => h d h' o F' N' (nd.push l) lo hs
theorem appN {D : Addr} {its : Array Value} {n : Nat} {x : Value} {Q : Value → Shared → Prop} (F : Fr h₀ L hS m) (N : News h₀ L hS (Z ++ led f r)) (nd : Sep f r Z)
    (U : Upd D (listOf its n) (listOf (its.push x) (n + 1)) (Z ++ led f r) (Z ++ led f r')) (hz : its.size ≤ 1000)
    (h : ∀ h', Fr h₀ L h' m → News h₀ L h' (Z ++ led f r') → Sep f r' Z → Q .none ⟨h', gS, dS, tS, oS⟩) : wpAny (model prog w) A (call (.builtin "list.append") [.ref D, x]) Q E ⟨hS, gS, dS, tS, oS⟩ :=
  append_K F N U (fun h' F' N' => h h' F' N' (nd.upd U)) (by rw [sizeLine_eq]; (first | k_extra "z k_ar" | omega))
theorem isListN {h : Heap} {l : Addr} {its : Array Value} {n : Nat} (N : News h₀ L h news) (hp : (l, listOf its n) ∈ news) : h.IsList l its := ⟨_, (N _ hp).1, rfl, n, rfl⟩
theorem isTupN {h : Heap} {l : Addr} {vs : List Value} (N : News h₀ L h news) (hp : (l, tupOf vs) ∈ news) : IsTup h l vs.toArray := News.isTup N hp
theorem lenL {l : Addr} {its : Array Value} {n : Nat} {Q : Value → Shared → Prop} (N : News h₀ L hS news) (hp : (l, listOf its n) ∈ news) (hz : its.size ≤ 1048576)
    (h : ∀ t tk, Q (.int its.size t) ⟨hS, gS, dS, tk, oS⟩) : wpAny (model prog w) A (call (.builtin "len") [.ref l]) Q E ⟨hS, gS, dS, tS, oS⟩ :=
  len_list (isListN N hp) (by (first | k_extra "z k_ar" | omega)) (h _ _)
theorem itemL {value slice : PySem.Expr} {l : Addr} {its : Array Value} {n : Nat} {k : Int} {u : Tok} {v : Value} {Q : Value → Shared → Prop} (N : News h₀ L hS news) (hp : (l, listOf its n) ∈ news)
    (h0 : 0 ≤ k) (hhi : k < 2 ^ 62) (hx : its[k.toNat]? = some v) (h : Q v ⟨hS, gS, dS, tS, oS⟩)
    (hs : subscripted slice false (.ref l) (.int k u) = operate [.ref l, .int k u] (getItem (.ref l) (.int k u)) := by with_unfolding_all rfl) :
    wpAny (model prog w) A (subscriptTail value slice (.ref l) (.int k u)) Q E ⟨hS, gS, dS, tS, oS⟩ :=
  tail_any (isListN N hp).typeIs slot_list_getitem.lookup (wpAny_getItem_list (isListN N hp) h0 (by (first | k_extra "z k_ar" | omega)) hx h) hs
theorem seq_at {n : Nat} {k : Int} (h0 : 0 ≤ k) (h : k.toNat < n) : seqIndex? k n = some k.toNat := by
  have hn : ¬ k < 0 := Int.not_lt.mpr h0
  have hk : k < n := (Int.toNat_lt h0).mp h
  unfold seqIndex?
  simp only [if_neg hn, h0, hk, decide_true, Bool.and_self, if_true]
theorem itemT {value slice : PySem.Expr} {l : Addr} {vs : List Value} {k : Int} {u : Tok} {v : Value} {Q : Value → Shared → Prop} (N : News h₀ L hS news) (hp : (l, tupOf vs) ∈ news)
    (h0 : 0 ≤ k) (hhi : k < 2 ^ 62) (hx : vs[k.toNat]? = some v) (h : Q v ⟨hS, gS, dS, tS, oS⟩)
    (hs : subscripted slice false (.ref l) (.int k u) = operate [.ref l, .int k u] (getItem (.ref l) (.int k u)) := by with_unfolding_all rfl) :
    wpAny (model prog w) A (subscriptTail value slice (.ref l) (.int k u)) Q E ⟨hS, gS, dS, tS, oS⟩ :=
  item_tupleT (isTupN N hp) (by (first | k_extra "z k_ar" | omega)) (by (first | k_extra "z k_ar" | omega)) (seq_at h0 (List.getElem?_eq_some_iff.mp hx).1) hx h hs
end
section
variable {prog : Program} {w : World} {A : Around} {E : Value → Shared → Prop} {s : Shared} {hS : Heap} {gS : Array GenState} {dS : Drawn} {tS : Nat} {oS : OsState} {h₀ : Heap} {L : Addr} {m : Str → Option Value} {f : Fix} {r r' : Raw} {Z news : List (Addr × Obj)} {K : Frag}
  {x C dx : Addr} {od : Obj} {kvs : List (Str × Value)} {name : Str} {v : Value} {attr : Option Value}
theorem dict_shape {o : Obj} (h : o.IsDictOf (strKind prog w) kvs) : ∃ es n, o = dictOf es n ∧ Pairs (strKind prog w) es kvs ∧ KeysOf (strKind prog w) es.toArray ∧ (kvs.map (·.1)).Nodup := by
  obtain ⟨es, ep, ⟨h1, h2, h3⟩, h4, h5, h6, h7⟩ := h
  refine ⟨es.toList, ep, ?_, h6, by simpa using h5, h7⟩
  obtain ⟨c, d, dt, sl⟩ := o
  dsimp only at h1 h2 h3 h4
  subst h1 h2 h3 h4
  rfl
theorem pairs_lookup {es : List DictEntry} (h : Pairs (strKind prog w) es kvs) (name : Str) : getL name es = some (valueAt kvs name) := by
  induction h with
  | nil => rfl
  | @cons e kv es kvs hk hv _ ih =>
    obtain ⟨t, ht⟩ := Value.isStrOf_shape hk
    have hb : e.key.isStr name = (kv.1 == name) := by rw [ht]; rfl
    have hr : e.refKey = false := by unfold DictEntry.refKey; rw [ht]
    unfold getL valueAt at ih ⊢
    rw [List.find?_cons, List.find?_cons, hb, List.any_cons, hr, Bool.false_or]
    by_cases q : kv.1 = name
    · simp [q, hv]
    · have q1 : (kv.1 == name) = false := by simpa using q
      have q2 : decide (kv.1 = name) = false := by simpa using q
      rw [q1, q2]
      exact ih
noncomputable def putK (name : Str) (v : Value) : List (Str × Value) → List (Str × Value)
  | [] => [(name, v)]
  | p :: t => if p.1 = name then (p.1, v) :: t else p :: putK name v t
theorem pairs_put {es : List DictEntry} (h : Pairs (strKind prog w) es kvs) (name : Str) (t : Tok) (v : Value) :
    Pairs (strKind prog w) (putL name (PyData.keyHash w.params name) (.str name t) v es) (putK name v kvs) := by
  induction h with
  | nil => exact Pairs.cons (strKind_is _ _ _ _) rfl .nil
  | @cons e kv es kvs hk hv hp ih =>
    obtain ⟨u, hu⟩ := Value.isStrOf_shape hk
    have hb : e.key.isStr name = (kv.1 == name) := by rw [hu]; rfl
    unfold putL putK
    rw [hb]
    by_cases q : kv.1 = name
    · have q1 : (kv.1 == name) = true := by simpa using q
      rw [q1, if_pos rfl, if_pos q]
      exact Pairs.cons hk rfl hp
    · have q1 : (kv.1 == name) = false := by simpa using q
      rw [q1, if_neg (by decide), if_neg q]
      exact Pairs.cons hk hv ih
theorem keys_put {es : List DictEntry} (h : KeysOf (strKind prog w) es.toArray) (name : Str) (t : Tok) (v : Value) :
    KeysOf (strKind prog w) (putL name (PyData.keyHash w.params name) (.str name t) v es).toArray := by
  intro e he
  have he' : e ∈ putL name (PyData.keyHash w.params name) (.str name t) v es := by simpa using he
  have h' : ∀ e ∈ es, ∃ k, (strKind prog w).is k e.key = true ∧ e.hash = (strKind prog w).hash k := fun e he => h e (by simpa using he)
  clear h he
  induction es with
  | nil => 
    have : e = ⟨PyData.keyHash w.params name, .str name t, v⟩ := by simpa [putL] using he'
    subst this
    exact ⟨name, strKind_is _ _ _ _, rfl⟩
  | cons a es ih =>
    unfold putL at he'
    split at he'
    · rcases List.mem_cons.mp he' with rfl | he'
      · exact h' a (.head _)
      · exact h' e (.tail _ he')
    · rcases List.mem_cons.mp he' with rfl | he'
      · exact h' e (.head _)
      · exact ih he' fun e he => h' e (.tail _ he)
theorem putK_fst : ∀ (kvs : List (Str × Value)), (putK name v kvs).map (·.1) = if name ∈ kvs.map (·.1) then kvs.map (·.1) else kvs.map (·.1) ++ [name]
  | [] => by simp [putK]
  | p :: t => by
    unfold putK
    by_cases h : p.1 = name
    · simp [h]
    · rw [if_neg h, List.map_cons, putK_fst t]
      by_cases q : name ∈ t.map (·.1)
      · rw [if_pos q, if_pos (by rw [List.map_cons]; exact .tail _ q), List.map_cons]
      · rw [if_neg q, if_neg (by rw [List.map_cons]; intro hm; rcases List.mem_cons.mp hm with e | hm; exact h e.symm; exact q hm)]; rfl
theorem putK_nodup (h : (kvs.map (·.1)).Nodup) : ((putK name v kvs).map (·.1)).Nodup := by
  rw [putK_fst]
  split
  · exact h
  · rename_i q
    rw [List.nodup_append]
    exact ⟨h, by simp, fun a ha b hb e => q (by rw [List.mem_singleton.mp hb] at e; exact e ▸ ha)⟩
theorem put_is {od : Obj} (h : od.IsDictOf (strKind prog w) kvs) (t : Tok) : ∃ es n es' n', od = dictOf es n ∧ (putL name (PyData.keyHash w.params name) (.str name t) v es, putN name es n) = (es', n') ∧ (getL name es).isSome = true ∧ es'.length ≤ kvs.length + 1 ∧
    (dictOf es' n').IsDictOf (strKind prog w) (putK name v kvs) := by
  obtain ⟨es, n, rfl, hp, hk, hn⟩ := dict_shape h
  have P := pairs_put hp name t v
  refine ⟨es, n, _, _, rfl, rfl, by rw [pairs_lookup hp]; rfl, ?_, ⟨_, _, ⟨rfl, rfl, rfl⟩, rfl, keys_put hk name t v, by simpa using P, putK_nodup hn⟩⟩
  rw [P.length]
  have := congrArg List.length (putK_fst (name := name) (v := v) kvs)
  rw [List.length_map] at this
  rw [this]
  split <;> simp
theorem mget {expr : Bool} {Q : Value → Shared → Prop} (F : Fr h₀ L hS m) (X₀ : K.In h₀) (N : News h₀ L hS news) (hx : (x, instObj C dx) ∈ news) (hd : (dx, od) ∈ news) (hk : od.IsDictOf (strKind prog w) kvs)
    (hl : valueAt kvs name = some v) (hg : plainGet K C name = true) (hh : hasDictIn K C = true) (ha : findIn K (.ref C) name = some attr) (hn : noGet K attr = true) (hv : handedIn v = true) (h : ∀ tk, Q v ⟨hS, gS, dS, tk, oS⟩) :
    wpAny (model prog w) A (getAttr (.ref x) name expr) Q E ⟨hS, gS, dS, tS, oS⟩ := by
  obtain ⟨es, n, rfl, hp, _, _⟩ := dict_shape hk
  exact get_own F X₀ (InstAt.of_news N hx hd) hg hh ha hn (by rw [pairs_lookup hp, hl]) hv (h _)
theorem mmeth {pl : Sem Bool} {Q : Value × List Value → Shared → Prop} {fn : Addr} (F : Fr h₀ L hS m) (X₀ : K.In h₀) (N : News h₀ L hS news) (hx : (x, instObj C dx) ∈ news) (hd : (dx, od) ∈ news) (hk : od.IsDictOf (strKind prog w) kvs)
    (hl : valueAt kvs name = none) (hg : plainGet K C name = true) (hf : findIn K (.ref C) name = some (some (.ref fn))) (ht : isFn K (.ref fn) = true) (h : Q (.ref fn, [.ref x]) ⟨hS, gS, dS, tS, oS⟩) : wpAny (model prog w) A (getMethod (.ref x) name pl) Q E ⟨hS, gS, dS, tS, oS⟩ := by
  obtain ⟨es, n, rfl, hp, _, _⟩ := dict_shape hk
  exact method_inst F X₀ (InstAt.of_news N hx hd) hg hf ht (by rw [pairs_lookup hp, hl]) h
theorem mset {Q : Unit → Shared → Prop} (F : Fr h₀ L hS m) (X₀ : K.In h₀) (N : News h₀ L hS (Z ++ led f r)) (nd : Sep f r Z) (hx : (x, instObj C dx) ∈ Z ++ led f r) (hd : (dx, od) ∈ Z ++ led f r) (hk : od.IsDictOf (strKind prog w) kvs)
    (hs : findIn K (.ref C) "__setattr__" = some (some (.builtin "object.__setattr__"))) (hp : plainOver K C = true) (ht : takerIn K C name = some none) (hh : hasDictIn K C = true)
    (r' : Obj → Raw) (U : ∀ o', Upd dx od o' (Z ++ led f r) (Z ++ led f (r' o'))) (hz : kvs.length ≤ 900) {kvs' : List (Str × Value)} (he : putK name v kvs = kvs')
    (h : ∀ h' o' tk, Fr h₀ L h' m → News h₀ L h' (Z ++ led f (r' o')) → Sep f (r' o') Z → o'.IsDictOf (strKind prog w) kvs' → Q () ⟨h', gS, dS, tk, oS⟩) :
    wpAny (model prog w) A (setAttr (.ref x) name v) Q E ⟨hS, gS, dS, tS, oS⟩ := by
  subst he
  obtain ⟨es, n, es', n', rfl, e, hl, hz', hi⟩ := put_is (name := name) (v := v) hk (tS + 1)
  exact set_dict F X₀ N (InstAt.of_news N hx hd) rfl hs hp ht hh hl e (U _) (by (first | k_extra "z k_ar" | omega)) fun h' F' N' => h h' _ _ F' N' (nd.upd (U _)) hi
end
section
variable {prog : Program} {w : World} {A : Around} {E : Value → Shared → Prop} {s : Shared} {hS : Heap} {gS : Array GenState} {dS : Drawn} {tS : Nat} {oS : OsState} {h₀ : Heap} {L : Addr} {m : Str → Option Value} {f : Fix} {r r' : Raw} {Z news : List (Addr × Obj)}
  {T : Type} [DecidableEq T] {knd : KeyKind prog w T} {d : Addr} {o : Obj} {kvs : List (T × Value)} {k : T} {key v : Value}
theorem dgetItem {Q : Value → Shared → Prop} (N : News h₀ L hS news) (hp : (d, o) ∈ news) (hd : o.IsDictOf knd kvs) (hkey : knd.is k key = true) (hl : valueAt kvs k = some v) (h : ∀ tk, Q v ⟨hS, gS, dS, tk, oS⟩) :
    wpAny (model prog w) A (getItem (.ref d) key) Q E ⟨hS, gS, dS, tS, oS⟩ := wpAny_getItem_of hkey (kda_dict N hp hd).mapOf hl (h _)
theorem dset {Q : Unit → Shared → Prop} (F : Fr h₀ L hS m) (N : News h₀ L hS (Z ++ led f r)) (nd : Sep f r Z) (hp : (d, o) ∈ Z ++ led f r) (hd : o.IsDictOf knd kvs) (hkey : knd.is k key = true)
    (r' : Obj → Raw) (U : ∀ o', Upd d o o' (Z ++ led f r) (Z ++ led f (r' o'))) (hsz : kvs.length ≤ 1000) {kvs' : List (T × Value)} (he : stored kvs k v = kvs')
    (h : ∀ h' o' tk, Fr h₀ L h' m → News h₀ L h' (Z ++ led f (r' o')) → Sep f (r' o') Z → o'.IsDictOf knd kvs' → Q () ⟨h', gS, dS, tk, oS⟩) : wpAny (model prog w) A (setItem (.ref d) key v) Q E ⟨hS, gS, dS, tS, oS⟩ := by
  subst he
  have hm := N _ hp
  refine wpAny_setItem_pairs (hsz := by rw [sizeLine_eq]; (first | k_extra "z k_ar" | omega)) hkey (Heap.dictOf_iff.mpr ⟨o, hm.1, hd⟩) fun h' hmm hs => ?_
  obtain ⟨o', ho', hd'⟩ := Heap.dictOf_iff.mp hmm
  exact h h' o' _ (F.change hs hm.2.1 hm.2.2) (news_upd' N (U o') hs ho') (nd.upd (U o')) hd'
end
section
variable {f : Fix} {r : Raw} {Z : List (Addr × Obj)} {d : Addr} {o : Obj}
theorem updF_aw (nd : Sep f r Z) : ∀ o', Upd f.aw r.ow o' (Z ++ led f r) (Z ++ led f (r.s_ow o')) := fun _ => upd_aw nd
theorem updF_acxd (nd : Sep f r Z) : ∀ o', Upd f.acxd r.ocx o' (Z ++ led f r) (Z ++ led f (r.s_ocx o')) := fun _ => upd_acxd nd
theorem updF_aconsts (nd : Sep f r Z) : ∀ o', Upd f.aconsts r.oconsts o' (Z ++ led f r) (Z ++ led f (r.s_oconsts o')) := fun _ => upd_aconsts nd
theorem updF_aclosed (nd : Sep f r Z) : ∀ o', Upd f.aclosed r.oclosed o' (Z ++ led f r) (Z ++ led f (r.s_oclosed o')) := fun _ => upd_aclosed nd
theorem updF_anotes (nd : Sep f r Z) : ∀ o', Upd f.anotes r.onotes o' (Z ++ led f r) (Z ++ led f (r.s_onotes o')) := fun _ => upd_anotes nd
theorem updF_vd (nd : Sep f r Z) (h : (d, o) ∈ r.vdL) : ∀ o', Upd d o o' (Z ++ led f r) (Z ++ led f (r.s_vdL (updL d o' r.vdL))) := fun _ => upd_vd nd h
theorem updF_sd (nd : Sep f r Z) (h : (d, o) ∈ r.sdL) : ∀ o', Upd d o o' (Z ++ led f r) (Z ++ led f (r.s_sdL (updL d o' r.sdL))) := fun _ => upd_sd nd h
theorem updF_cd (nd : Sep f r Z) (h : (d, o) ∈ r.cdL) : ∀ o', Upd d o o' (Z ++ led f r) (Z ++ led f (r.s_cdL (updL d o' r.cdL))) := fun _ => upd_cd nd h
end
section
variable {h₀ h : Heap} {L : Addr} {f : Fix} {r : Raw} {Z : List (Addr × Obj)} {q : Addr × Obj}
theorem dropZ (N : News h₀ L h ((q :: Z) ++ led f r)) : News h₀ L h (Z ++ led f r) := fun p hp => N p (.tail _ hp)
theorem move_news {r' : Raw} {pre post : List (Addr × Obj)} (N : News h₀ L h ((q :: Z) ++ led f r)) (e : led f r = pre ++ post) (e' : led f r' = pre ++ q :: post) : News h₀ L h (Z ++ led f r') := by
  intro p hp
  rw [e'] at hp
  rw [e] at N
  refine N p ?_
  rcases List.mem_append.mp hp with hp | hp
  · exact .tail _ (List.mem_append_left _ hp)
  rcases List.mem_append.mp hp with hp | hp
  · exact .tail _ (List.mem_append_right _ (List.mem_append_left _ hp))
  rcases List.mem_cons.mp hp with rfl | hp
  · exact .head _
  · exact .tail _ (List.mem_append_right _ (List.mem_append_right _ hp))
structure NS (h₀ : Heap) (L : Addr) (h : Heap) (f : Fix) (r : Raw) (Z : List (Addr × Obj)) : Prop where
  N : News h₀ L h (Z ++ led f r)
  nd : Sep f r Z
theorem to_row (N : News h₀ L h ((q :: Z) ++ led f r)) (nd : Sep f r (q :: Z)) : NS h₀ L h f (r.s_rowL (q :: r.rowL)) Z := by
  have e : led f r = (hdL f r) ++ (r.rowL ++ (r.vdL ++ (r.slL ++ (r.sdL ++ (r.cdL ++ (r.lidL ++ (r.imm))))))) := by first | rfl | (simp only [List.append_assoc]; rfl)
  have e' : led f (r.s_rowL (q :: r.rowL)) = (hdL f r) ++ q :: (r.rowL ++ (r.vdL ++ (r.slL ++ (r.sdL ++ (r.cdL ++ (r.lidL ++ (r.imm))))))) := by first | rfl | (simp only [List.append_assoc]; rfl)
  exact ⟨move_news N e e', nd.move e (by rw [e'])⟩
theorem to_vd (N : News h₀ L h ((q :: Z) ++ led f r)) (nd : Sep f r (q :: Z)) : NS h₀ L h f (r.s_vdL (q :: r.vdL)) Z := by
  have e : led f r = (hdL f r ++ (r.rowL)) ++ (r.vdL ++ (r.slL ++ (r.sdL ++ (r.cdL ++ (r.lidL ++ (r.imm)))))) := by first | rfl | (simp only [List.append_assoc]; rfl)
  have e' : led f (r.s_vdL (q :: r.vdL)) = (hdL f r ++ (r.rowL)) ++ q :: (r.vdL ++ (r.slL ++ (r.sdL ++ (r.cdL ++ (r.lidL ++ (r.imm)))))) := by first | rfl | (simp only [List.append_assoc]; rfl)
  exact ⟨move_news N e e', nd.move e (by rw [e'])⟩
theorem to_sl (N : News h₀ L h ((q :: Z) ++ led f r)) (nd : Sep f r (q :: Z)) : NS h₀ L h f (r.s_slL (q :: r.slL)) Z := by
  have e : led f r = (hdL f r ++ (r.rowL ++ (r.vdL))) ++ (r.slL ++ (r.sdL ++ (r.cdL ++ (r.lidL ++ (r.imm))))) := by first | rfl | (simp only [List.append_assoc]; rfl)
  have e' : led f (r.s_slL (q :: r.slL)) = (hdL f r ++ (r.rowL ++ (r.vdL))) ++ q :: (r.slL ++ (r.sdL ++ (r.cdL ++ (r.lidL ++ (r.imm))))) := by first | rfl | (simp only [List.append_assoc]; rfl)
  exact ⟨move_news N e e', nd.move e (by rw [e'])⟩
theorem to_sd (N : News h₀ L h ((q :: Z) ++ led f r)) (nd : Sep f r (q :: Z)) : NS h₀ L h f (r.s_sdL (q :: r.sdL)) Z := by
  have e : led f r = (hdL f r ++ (r.rowL ++ (r.vdL ++ (r.slL)))) ++ (r.sdL ++ (r.cdL ++ (r.lidL ++ (r.imm)))) := by first | rfl | (simp only [List.append_assoc]; rfl)
  have e' : led f (r.s_sdL (q :: r.sdL)) = (hdL f r ++ (r.rowL ++ (r.vdL ++ (r.slL)))) ++ q :: (r.sdL ++ (r.cdL ++ (r.lidL ++ (r.imm)))) := by first | rfl | (simp only [List.append_assoc]; rfl)
  exact ⟨move_news N e e', nd.move e (by rw [e'])⟩
theorem to_cd (N : News h₀ L h ((q :: Z) ++ led f r)) (nd : Sep f r (q :: Z)) : NS h₀ L h f (r.s_cdL (q :: r.cdL)) Z := by
  have e : led f r = (hdL f r ++ (r.rowL ++ (r.vdL ++ (r.slL ++ (r.sdL))))) ++ (r.cdL ++ (r.lidL ++ (r.imm))) := by first | rfl | (simp only [List.append_assoc]; rfl)
  have e' : led f (r.s_cdL (q :: r.cdL)) = (hdL f r ++ (r.rowL ++ (r.vdL ++ (r.slL ++ (r.sdL))))) ++ q :: (r.cdL ++ (r.lidL ++ (r.imm))) := by first | rfl | (simp only [List.append_assoc]; rfl)
  exact ⟨move_news N e e', nd.move e (by rw [e'])⟩
theorem to_lid (N : News h₀ L h ((q :: Z) ++ led f r)) (nd : Sep f r (q :: Z)) : NS h₀ L h f (r.s_lidL (q :: r.lidL)) Z := by
  have e : led f r = (hdL f r ++ (r.rowL ++ (r.vdL ++ (r.slL ++ (r.sdL ++ (r.cdL)))))) ++ (r.lidL ++ (r.imm)) := by first | rfl | (simp only [List.append_assoc]; rfl)
  have e' : led f (r.s_lidL (q :: r.lidL)) = (hdL f r ++ (r.rowL ++ (r.vdL ++ (r.slL ++ (r.sdL ++ (r.cdL)))))) ++ q :: (r.lidL ++ (r.imm)) := by first | rfl | (simp only [List.append_assoc]; rfl)
  exact ⟨move_news N e e', nd.move e (by rw [e'])⟩
theorem to_imm (N : News h₀ L h ((q :: Z) ++ led f r)) (nd : Sep f r (q :: Z)) : NS h₀ L h f (r.s_imm (q :: r.imm)) Z := by
  have e : led f r = (hdL f r ++ (r.rowL ++ (r.vdL ++ (r.slL ++ (r.sdL ++ (r.cdL ++ (r.lidL))))))) ++ (r.imm) := by first | rfl | (simp only [List.append_assoc]; rfl)
  have e' : led f (r.s_imm (q :: r.imm)) = (hdL f r ++ (r.rowL ++ (r.vdL ++ (r.slL ++ (r.sdL ++ (r.cdL ++ (r.lidL))))))) ++ q :: (r.imm) := by first | rfl | (simp only [List.append_assoc]; rfl)
  exact ⟨move_news N e e', nd.move e (by rw [e'])⟩
end
/- the kit's steps once more, so that a proof stays small: a new value's token and the state's count are names, not sums -/
section
variable {M : Model} {A : Around} {E : Value → Shared → Prop} {env : Env} {pos : Pos} {Q : Value → Shared → Prop} {h : Heap} {ge : Array GenState} {dr : Drawn} {tk : Nat} {os : OsState}
end
section
variable {prog : Program} {w : World} {A : Around} {E : Value → Shared → Prop} {Q : Value → Shared → Prop} {h : Heap} {ge : Array GenState} {dr : Drawn} {tk : Nat} {os : OsState} {a b : Int} {t u : Tok}
theorem zIadd (H : ∀ t t', Q (.int (a + b) t) ⟨h, ge, dr, t', os⟩) : wpAny (model prog w) A (inplaceOp .Add (.int a t) (.int b u)) Q E ⟨h, ge, dr, tk, os⟩ := iadd_int (H _ _)
theorem zIor (H : ∀ t t', Q (.int (Builtin.bitOr a b) t) ⟨h, ge, dr, t', os⟩) : wpAny (model prog w) A (inplaceOp .BitOr (.int a t) (.int b u)) Q E ⟨h, ge, dr, tk, os⟩ := ior_int (H _ _)
theorem zAdd (H : ∀ t t', Q (.int (a + b) t) ⟨h, ge, dr, t', os⟩) : wpAny (model prog w) A (binaryOp .Add (.int a t) (.int b u)) Q E ⟨h, ge, dr, tk, os⟩ := add_int (H _ _)
theorem zMod (hb : b ≠ 0) (H : ∀ t t', Q (.int (a.fmod b) t) ⟨h, ge, dr, t', os⟩) : wpAny (model prog w) A (binaryOp .Mod (.int a t) (.int b u)) Q E ⟨h, ge, dr, tk, os⟩ := mod_int' hb (H _ _)
end
theorem zSto {M : Model} {A : Around} {E : Value → Shared → Prop} {h₀ h : Heap} {L a : Addr} {m : Str → Option Value} {cn : Str} {cs : Scope} {ccd : Value} {cl : List (Str × Addr)} {x : Str} {v : Value} {Q : Unit → Shared → Prop} {news : List (Addr × Obj)} {ge : Array GenState} {dr : Drawn} {tk : Nat} {os : OsState}
    (F : Fr h₀ L h m) (N : News h₀ L h news) (H : ∀ h' t', let m' := fun y => if y = x then some v else m y; Fr h₀ L h' m' → News h₀ L h' news → Q () ⟨h', ge, dr, t', os⟩)
    (hk : cs.kind = .function) (hx : (envX cn cs L a ccd cl).kindOf x = some .local) : wpAny M A (storeName (envX cn cs L a ccd cl) x v) Q E ⟨h, ge, dr, tk, os⟩ :=
  storeX_L F N (fun h' F' N' => H h' _ F' N') hk hx
/- a statement's continuation under a name of its own -/
noncomputable def SeqQ (Q : Flow → Shared → Prop) : Flow → Shared → Prop := Q
noncomputable def SeqH (M : Model) (A : Around) (rest : List Stmt) (env : Env) (E : Value → Shared → Prop) (Q Q1 : Flow → Shared → Prop) : Prop := ∀ f s, (match f with | .next => wpAny M A (execs rest env) Q E s | f => Q f s) → Q1 f s
section
variable {M : Model} {A : Around} {E : Value → Shared → Prop} {env : Env} {s : Shared} {st : Stmt} {rest : List Stmt} {Q Q1 : Flow → Shared → Prop} {v : Value}
theorem zSeq (H : ∀ Q1, SeqH M A rest env E Q Q1 → wpAny M A (exec st env) (SeqQ Q1) E s) : wpAny M A (execs (st :: rest) env) Q E s := wpAny_execs_cons (H _ fun _ _ h => h)
theorem zNext (h : SeqH M A rest env E Q Q1) (k : wpAny M A (execs rest env) Q E s) : SeqQ Q1 .next s := h .next s k
theorem zRet (h : SeqH M A rest env E Q Q1) (k : Q (.ret v) s) : SeqQ Q1 (.ret v) s := h (.ret v) s k
end
/- what an expression comes to: without a store, each new value's token written out -/
theorem lines2 : True := by
  k_with "z execs cons" => (((with_reducible refine zSeq ?_); intro zqQ1 zqhq))
  k_with "z SeqQ next" => ((with_reducible refine zNext (by assumption) ?_))
  k_with "z SeqQ ret" => ((with_reducible refine zRet (by assumption) ?_))
  k_with "z SeqQ brk" => ((with_reducible refine zBrk (by assumption) ?_))
  k_with "z SeqQ cont" => ((with_reducible refine zCont (by assumption) ?_))
  k_with "z eval Constant int" => ((refine zInt ?_; intro zqt zqtk))
  k_with "z eval Constant str" => ((refine zStr ?_; intro zqt zqtk))
  k_with "z unaryOp USub int" => ((refine zNeg ?_; intro zqt zqtk))
  k_with "z inplaceOp Add int int" => ((refine zIadd ?_; intro zqt zqtk))
  k_with "z inplaceOp BitOr int int" => ((refine zIor ?_; intro zqt zqtk))
  k_with "z binaryOp Add int int" => ((refine zAdd ?_; intro zqt zqtk))
  k_with "z binaryOp Sub int int" => ((refine zSub ?_; intro zqt zqtk))
  k_with "z binaryOp BitOr int int" => ((refine zOr ?_; intro zqt zqtk))
  k_with "z binaryOp BitAnd int int" => ((refine zAnd ?_; intro zqt zqtk))
  k_with "z binaryOp Mod int int" => ((k_here; k_dflt ((fail_if_success (fail_if_success (refine' zMod ?_ ?_))); refine zMod (by first | decide | assumption | (first | k_extra "z k_ar" | omega)) ?_); intro zqt zqtk))
  k_with "z storeName" => ((k_here; k_dflt (refine zSto (by k_asm) (by k_asm) ?_ (by first | exact rfl | assumption) (by exact rfl)); intro zqh' zqtk zqm' zqF' zqN'; (try k_sweep)))
  trivial
noncomputable def Ev (w : World) (env : Env) (h : Heap) (tk : Nat) (e : PySem.Expr) (v : Value) (tk' : Nat) : Prop :=
  ∀ {A : Around} {E Q : Value → Shared → Prop} {ge : Array GenState} {dr : Drawn} {os : OsState}, Q v ⟨h, ge, dr, tk', os⟩ → wpAny (model PR w) A (eval e env) Q E ⟨h, ge, dr, tk, os⟩
noncomputable def EvL (w : World) (env : Env) (h : Heap) (tk : Nat) (es : List PySem.Expr) (vs : List Value) (tk' : Nat) : Prop :=
  ∀ {A : Around} {E : Value → Shared → Prop} {Q : List Value → Shared → Prop} {ge : Array GenState} {dr : Drawn} {os : OsState} {pos : Pos}, Q vs ⟨h, ge, dr, tk', os⟩ → wpAny (model PR w) A (spliced (backTo pos (starEach es env))) Q E ⟨h, ge, dr, tk, os⟩
/- a body's own environment -/
structure Bo (w : World) (env : Env) (h₀ : Heap) (L : Addr) : Prop where
  X : (KF w.params).In h₀
  T : ∃ p loose mg mb, TopRead p loose mg mb h₀
  e : ∃ cn cs a ccd cl, env = envX cn cs L a ccd cl ∧ cs.kind = .function
noncomputable def lkOk (env : Env) (x : Str) : Bool := match env.kindOf x with
  | some .local => !(x == Str.ofString "__debug__")
  | _ => false
noncomputable def gkOk (env : Env) (x : Str) : Bool := match env.kindOf x with
  | some .globalImplicit => !(x == Str.ofString "__debug__")
  | _ => false
theorem lk_at {env : Env} {x : Str} (h : lkOk env x = true) : env.kindOf x = some .local ∧ (x == Str.ofString "__debug__") = false := by
  unfold lkOk at h
  split at h
  · exact ⟨by assumption, by simpa using h⟩
  · cases h
theorem gk_at {env : Env} {x : Str} (h : gkOk env x = true) : env.kindOf x = some .globalImplicit ∧ (x == Str.ofString "__debug__") = false := by
  unfold gkOk at h
  split at h
  · exact ⟨by assumption, by simpa using h⟩
  · cases h
section
variable {w : World} {env : Env} {h₀ h : Heap} {L : Addr} {m : Str → Option Value} {tk tk1 tk2 : Nat} {x : Str} {pos : Pos} {v : Value} {news : List (Addr × Obj)}
theorem ev_loc (B : Bo w env h₀ L) (F : Fr h₀ L h m) (hk : lkOk env x = true) (hm : m x = some v) : Ev w env h tk (.Name x pos) v tk := by
  obtain ⟨cn, cs, a, ccd, cl, rfl, hf⟩ := B.e
  intro A E Q ge dr os H
  exact nameX_L (s := ⟨h, ge, dr, tk, os⟩) F hm H hf (lk_at hk).1 (lk_at hk).2
theorem ev_glo (B : Bo w env h₀ L) (F : Fr h₀ L h m) (hk : gkOk env x = true) (hn : nsIn (KF w.params) mainGlobals x = some (some v)) : Ev w env h tk (.Name x pos) v tk := by
  obtain ⟨cn, cs, a, ccd, cl, rfl, hf⟩ := B.e
  obtain ⟨p, loose, mg, mb, T⟩ := B.T
  intro A E Q ge dr os H
  exact nameX_K (s := ⟨h, ge, dr, tk, os⟩) F B.X T hn H hf (gk_at hk).1 (gk_at hk).2
theorem ev_blt (B : Bo w env h₀ L) (F : Fr h₀ L h m) (hk : gkOk env x = true) (hn : nsIn (KF w.params) mainGlobals x = some none) (hb : bootBuiltins x = some v) (hx : x ≠ Str.ofString "__name__") : Ev w env h tk (.Name x pos) v tk := by
  obtain ⟨cn, cs, a, ccd, cl, rfl, hf⟩ := B.e
  obtain ⟨p, loose, mg, mb, T⟩ := B.T
  intro A E Q ge dr os H
  exact nameX_B (s := ⟨h, ge, dr, tk, os⟩) F B.X T hn hb hx H hf (gk_at hk).1 (gk_at hk).2
theorem ev_int {i : Int} {k : Nat} : Ev w env h tk (.Constant (.int i) k pos) (.int i tk) (tk + 1) := fun H => wpAny_Constant_int H
theorem ev_str {k : Nat} : Ev w env h tk (.Constant (.str x) k pos) (.str x tk) (tk + 1) := fun H => Constant_str H
theorem ev_none {k : Nat} : Ev w env h tk (.Constant .none k pos) .none tk := fun H => wpAny_Constant_none H
theorem evl_nil : EvL w env h tk [] [] tk := fun H => args_nil H
noncomputable def notStar : PySem.Expr → Bool
  | .Starred .. => false
  | _ => true
theorem star_each {e : PySem.Expr} {es : List PySem.Expr} (hs : notStar e = true) : starEach (e :: es) env = (false, eval e env) :: starEach es env := by
  cases e <;> first | rfl | cases hs
theorem evl_cons {e : PySem.Expr} {es : List PySem.Expr} {vs : List Value} (hs : notStar e = true) (d : Ev w env h tk e v tk1) (r : EvL w env h tk1 es vs tk2) : EvL w env h tk (e :: es) (v :: vs) tk2 :=
  fun H => args_cons (d (r H)) (star_each hs)
theorem evQ {A : Around} {E Q : Value → Shared → Prop} {ge : Array GenState} {dr : Drawn} {os : OsState} {e : PySem.Expr} (d : Ev w env h tk e v tk1) (H : ∀ tk', Q v ⟨h, ge, dr, tk', os⟩) : wpAny (model PR w) A (eval e env) Q E ⟨h, ge, dr, tk, os⟩ := d (H _)
theorem evlQ {A : Around} {E : Value → Shared → Prop} {Q : List Value → Shared → Prop} {ge : Array GenState} {dr : Drawn} {os : OsState} {es : List PySem.Expr} {vs : List Value} (d : EvL w env h tk es vs tk1) (H : ∀ tk', Q vs ⟨h, ge, dr, tk', os⟩) : wpAny (model PR w) A (spliced (backTo pos (starEach es env))) Q E ⟨h, ge, dr, tk, os⟩ := d (H _)
noncomputable def plainBase : PySem.Expr → Bool
  | .Name .. => true
  | .Attribute .. => true
  | .Subscript .. => true
  | _ => false
theorem ev_attr {C a dx : Addr} {od : Obj} {kvs : List (Str × Value)} {e : PySem.Expr} {attr : Option Value} (B : Bo w env h₀ L) (F : Fr h₀ L h m) (N : News h₀ L h news) (d : Ev w env h tk e (.ref a) tk1) (hx : (a, instObj C dx) ∈ news) (hd : (dx, od) ∈ news) (hk : od.IsDictOf (strKind PR w) kvs)
    (hl : valueAt kvs x = some v) (hg : plainGet (KF w.params) C x = true) (hh : hasDictIn (KF w.params) C = true) (ha : findIn (KF w.params) (.ref C) x = some attr) (hn : noGet (KF w.params) attr = true) (hv : handedIn v = true)
    (hb : plainBase e = true) : Ev w env h tk (.Attribute e x pos) v (tk1 + 1) := by
  intro A E Q ge dr os H
  obtain ⟨es, n, rfl, hp, _, _⟩ := dict_shape hk
  refine Attribute_any_ (d (get_own F B.X (InstAt.of_news N hx hd) hg hh ha hn (by rw [pairs_lookup hp, hl]) hv H)) ?_
  cases e <;> first | rfl | cases hb
noncomputable def plainSlice : PySem.Expr → Bool
  | .Slice .. => false
  | _ => true
theorem sub_of {s : PySem.Expr} (hs : plainSlice s = true) {o i : Value} : subscripted s false o i = operate [o, i] (getItem o i) := by
  cases s <;> first | rfl | cases hs
section
variable {e s : PySem.Expr} {T : Type} [DecidableEq T] {knd : KeyKind PR w T} {d : Addr} {o : Obj} {kvs : List (T × Value)} {k : T} {key : Value} {l : Addr} {its : Array Value} {vs : List Value} {n : Nat} {i j : Int} {u u2 : Tok}
theorem ev_item (N : News h₀ L h news) (de : Ev w env h tk e (.ref d) tk1) (ds : Ev w env h tk1 s key tk2) (hs : plainSlice s = true) (hp : (d, o) ∈ news) (hd : o.IsDictOf knd kvs) (hkey : knd.is k key = true) (hl : valueAt kvs k = some v) : Ev w env h tk (.Subscript e s pos) v (tk2 + 1) := by
  intro A E Q ge dr os H
  refine Subscript_ (de (ds ?_))
  exact kba_turn (value' := .Name (Str.ofString "_") pos) (fun _ => rfl) (kda_item N hp hd hkey hl H (sub_of hs) fun _ => rfl)
theorem ev_add (da : Ev w env h tk e (.int i u) tk1) (db : Ev w env h tk1 s (.int j u2) tk2) : Ev w env h tk (.BinOp e .Add s pos) (.int (i + j) tk2) (tk2 + 1) := fun H => wpAny_BinOp (da (db (add_int H)))
theorem ev_sub (da : Ev w env h tk e (.int i u) tk1) (db : Ev w env h tk1 s (.int j u2) tk2) : Ev w env h tk (.BinOp e .Sub s pos) (.int (i - j) tk2) (tk2 + 1) := fun H => wpAny_BinOp (da (db (sub_int H)))
theorem ev_or (da : Ev w env h tk e (.int i u) tk1) (db : Ev w env h tk1 s (.int j u2) tk2) : Ev w env h tk (.BinOp e .BitOr s pos) (.int (Builtin.bitOr i j) tk2) (tk2 + 1) := fun H => wpAny_BinOp (da (db (or_int H)))
theorem ev_and (da : Ev w env h tk e (.int i u) tk1) (db : Ev w env h tk1 s (.int j u2) tk2) : Ev w env h tk (.BinOp e .BitAnd s pos) (.int (Builtin.bitAnd i j) tk2) (tk2 + 1) := fun H => wpAny_BinOp (da (db (and_int H)))
theorem ev_mod (da : Ev w env h tk e (.int i u) tk1) (db : Ev w env h tk1 s (.int j u2) tk2) (hb : j ≠ 0) : Ev w env h tk (.BinOp e .Mod s pos) (.int (i.fmod j) tk2) (tk2 + 1) := fun H => wpAny_BinOp (da (db (mod_int' hb H)))
theorem ev_neg (da : Ev w env h tk e (.int i u) tk1) : Ev w env h tk (.UnaryOp .USub e pos) (.int (-i) tk1) (tk1 + 1) := fun H => wpAny_UnaryOp (da (neg_int H))
/- a test of two written operands -/
section
variable {A : Around} {E : Value → Shared → Prop} {Q : Bool → Shared → Prop} {ge : Array GenState} {dr : Drawn} {os : OsState} {whole : Sem Value}
theorem tc_any {op : CmpOp} {va vb : Value} (hm : behindInMarks op s = false) (da : Ev w env h tk e va tk1) (db : Ev w env h tk1 s vb tk2) (H : ∀ tk', wpAny (model PR w) A (compareOp op va vb) (fun c s₃ => wpAny (model PR w) A (truthy c) Q E s₃) E ⟨h, ge, dr, tk', os⟩) :
    wpAny (model PR w) A (PySem.isTrue (.Compare e [op] [s] pos) env whole) Q E ⟨h, ge, dr, tk, os⟩ := wpAny_isTrue_Compare1 (da (db (H _))) hm
theorem tc_eq (hm : behindInMarks .Eq s = false) (da : Ev w env h tk e (.int i u) tk1) (db : Ev w env h tk1 s (.int j u2) tk2) (H : ∀ tk', Q (i == j) ⟨h, ge, dr, tk', os⟩) :
    wpAny (model PR w) A (PySem.isTrue (.Compare e [.Eq] [s] pos) env whole) Q E ⟨h, ge, dr, tk, os⟩ := tc_any hm da db fun _ => eq_int (wpAny_truthy_bool (H _))
theorem tc_ne (hm : behindInMarks .NotEq s = false) (da : Ev w env h tk e (.int i u) tk1) (db : Ev w env h tk1 s (.int j u2) tk2) (H : ∀ tk', Q (i != j) ⟨h, ge, dr, tk', os⟩) :
    wpAny (model PR w) A (PySem.isTrue (.Compare e [.NotEq] [s] pos) env whole) Q E ⟨h, ge, dr, tk, os⟩ := tc_any hm da db fun _ => ne_int (wpAny_truthy_bool (H _))
theorem tc_lt (hm : behindInMarks .Lt s = false) (da : Ev w env h tk e (.int i u) tk1) (db : Ev w env h tk1 s (.int j u2) tk2) (H : ∀ tk', Q (decide (i < j)) ⟨h, ge, dr, tk', os⟩) :
    wpAny (model PR w) A (PySem.isTrue (.Compare e [.Lt] [s] pos) env whole) Q E ⟨h, ge, dr, tk, os⟩ := tc_any hm da db fun _ => lt_int (wpAny_truthy_bool (H _))
theorem tc_le (hm : behindInMarks .LtE s = false) (da : Ev w env h tk e (.int i u) tk1) (db : Ev w env h tk1 s (.int j u2) tk2) (H : ∀ tk', Q (decide (i ≤ j)) ⟨h, ge, dr, tk', os⟩) :
    wpAny (model PR w) A (PySem.isTrue (.Compare e [.LtE] [s] pos) env whole) Q E ⟨h, ge, dr, tk, os⟩ := tc_any hm da db fun _ => le_int (wpAny_truthy_bool (H _))
theorem tc_gt (hm : behindInMarks .Gt s = false) (da : Ev w env h tk e (.int i u) tk1) (db : Ev w env h tk1 s (.int j u2) tk2) (H : ∀ tk', Q (decide (j < i)) ⟨h, ge, dr, tk', os⟩) :
    wpAny (model PR w) A (PySem.isTrue (.Compare e [.Gt] [s] pos) env whole) Q E ⟨h, ge, dr, tk, os⟩ := tc_any hm da db fun _ => gt_int (wpAny_truthy_bool (H _))
theorem tc_ge (hm : behindInMarks .GtE s = false) (da : Ev w env h tk e (.int i u) tk1) (db : Ev w env h tk1 s (.int j u2) tk2) (H : ∀ tk', Q (decide (j ≤ i)) ⟨h, ge, dr, tk', os⟩) :
    wpAny (model PR w) A (PySem.isTrue (.Compare e [.GtE] [s] pos) env whole) Q E ⟨h, ge, dr, tk, os⟩ := tc_any hm da db fun _ => ge_int (wpAny_truthy_bool (H _))
end
end
end
/- statements -/
section
variable {w : World} {env : Env} {h₀ h : Heap} {L : Addr} {m : Str → Option Value} {tk tk1 tk2 : Nat} {x : Str} {pos p2 : Pos} {v : Value} {news : List (Addr × Obj)} {A : Around} {E : Value → Shared → Prop} {ge : Array GenState} {dr : Drawn} {os : OsState} {e : PySem.Expr} {rest : List Stmt} {Q : Flow → Shared → Prop}
noncomputable def notComp : PySem.Expr → Bool
  | .ListComp .. => false
  | .SetComp .. => false
  | .DictComp .. => false
  | _ => true
theorem swap_no {t : Option PySem.Expr} {line : Nat} (hc : notComp e = true) : swapsWith e t line env = pure false := by
  cases e <;> first | rfl | cases hc
/- x = e, and on -/
theorem sAsg (B : Bo w env h₀ L) (F : Fr h₀ L h m) (N : News h₀ L h news) (hk : lkOk env x = true) (hc : notComp e = true) (d : Ev w env h tk e v tk1)
    (H : ∀ h' tk', let m' := fun y => if y = x then some v else m y; Fr h₀ L h' m' → News h₀ L h' news → wpAny (model PR w) A (execs rest env) Q E ⟨h', ge, dr, tk', os⟩) :
    wpAny (model PR w) A (execs (.Assign [.Name x p2] e pos :: rest) env) Q E ⟨h, ge, dr, tk, os⟩ := by
  obtain ⟨cn, cs, a, ccd, cl, rfl, hf⟩ := B.e
  exact wpAny_execs_cons (wpAny_Assign_Name (d (storeX_L (s := ⟨h, ge, dr, tk1, os⟩) F N (fun h' F' N' => H h' _ F' N') hf (lk_at hk).1)) (swap_no hc))
/- x = e, where e is walked -/
/- return e -/
theorem sRet (d : Ev w env h tk e v tk1) (H : ∀ tk', Q (.ret v) ⟨h, ge, dr, tk', os⟩) : wpAny (model PR w) A (execs (.Return (some e) pos :: rest) env) Q E ⟨h, ge, dr, tk, os⟩ :=
  wpAny_execs_cons (wpAny_Return_some (d (H _)))
end
/- a call of a def: its body at a frame of its own -/
noncomputable def FunQ (Q : Flow → Shared → Prop) : Flow → Shared → Prop := Q
noncomputable def FunH (h₀ : Heap) (L : Addr) (m : Str → Option Value) (g : Heap) (Q : Value → Shared → Prop) (Q1 : Flow → Shared → Prop) : Prop :=
  ∀ v s' L' m' news', Fr g L' s'.heap m' → News g L' s'.heap news' → (Fr h₀ L s'.heap m → News h₀ L s'.heap news' → Q v s') → Q1 (.ret v) s' ∧ (v = .none → Q1 .next s')
section
variable {w : World} {A A₀ : Around} {E Q : Value → Shared → Prop} {h₀ base h : Heap} {L : Addr} {m mg mb : Str → Option Value} {news : List (Addr × Obj)} {p : Program} {loose : List Str} {mean : ExcName → Option Value} {env : Env} {outer : List Env} {ge : Array GenState} {dr : Drawn} {tk : Nat} {os : OsState}
noncomputable abbrev NoE : Value → Shared → Prop := fun _ _ => False
theorem enterC {name qual : Str} {params : Arguments} {body : List Stmt} {scope : Scope} {dV kV doc pm cdv ct oc : Value} {an od : Option Addr} {osl : Array (Option Value)} {fa : Addr} {vs : List Value} {kw : List (Str × Value)} {binds : List (Str × Value)} {R : Result → Shared → Prop} (hR : ∀ v s, Q v s → R (.ok (.ret v)) s)
    (B : Below A₀ base outer h₀) (F : Fr h₀ L h m) (X : (KF w.params).In h₀) (N : News h₀ L h news) (T : Top p loose mean mg mb h₀) (hA : A.frames = some (env :: outer)) (hf : env.frame = some L) (hke : env.scope.kind = .function)
    (ho : (KF w.params).lookup fa = some ⟨oc, od, .func (fnOf name qual params body scope dV kV doc pm an cdv ct), osl⟩) (hcd : codeIn (KF w.params) cdv qual = true) (hroom : A.depth < recursionLimit)
    (hbind : BindsTo ⟨h, ge, dr, tk, os⟩ (fnOf name qual params body scope dV kV doc pm an cdv ct) ⟨vs, kw⟩ binds) (hkind : ∀ y ∈ binds, scope.names.lookup y.1 = some .local)
    (H : ∀ (g : Heap) (L' : Addr) (h₁ : Heap) (tk' : Nat) (Q1 : Flow → Shared → Prop), let env' := envOf qual scope L' fa cdv; let A' := A.deeper env'; let m0 := fun y => List.lookup y binds.reverse;
      Fr g L' h₁ m0 → News g L' h₁ news → Below A base (env :: outer) g → (KF w.params).In g → Top p loose mean mg mb g → Bo w env' g L' → FunH h₀ L m g Q Q1 → wpAny (model PR w) A' (execs body env') (FunQ Q1) NoE ⟨h₁, ge, dr, tk', os⟩)
    (hco : scope.isCoroutine = false) (hgen : scope.isGenerator = false) (hk : scope.kind = .function) (hcell : ∀ x ∈ scope.names, x.2 ≠ .cell) : codeAny (model PR w) A (.call (.ref fa) ⟨vs, kw⟩) R ⟨h, ge, dr, tk, os⟩ := by
  refine code_def (s := ⟨h, ge, dr, tk, os⟩) B F X N T hA hf hke ho hcd hroom hbind hkind (fun g L' h₁ FG F' N' B' X' T' => ?_) hco hgen hk hcell
  refine wpAny_noRaise (H g L' h₁ _ _ F' N' B' X' T' ⟨X', ⟨p, loose, mg, mb, topRead_of T'⟩, ⟨qual, scope, fa, cdv, [], rfl, hk⟩⟩ ?_)
  intro v s' L2 m' news' F2 N2 k
  exact ⟨⟨L2, m', news', F2, N2, fun a b => hR _ _ (k a b)⟩, fun e => by subst e; exact ⟨L2, m', news', F2, N2, fun a b => hR _ _ (k a b)⟩⟩
noncomputable def posNames (params : Arguments) : List Str := params.args.map (·.arg)
noncomputable def mOf (params : Arguments) (vs : List Value) : Str → Option Value := fun y => List.lookup y (List.zip (posNames params) vs).reverse
noncomputable def scOk (params : Arguments) (scope : Scope) : Bool := (posNames params).all (fun n => scope.names.lookup n == some .local) && scope.names.all (fun x => !(x.2 == .cell)) && !scope.isCoroutine && !scope.isGenerator && scope.kind == .function
theorem sck_at {params : Arguments} {scope : Scope} {vs : List Value} (hs : scOk params scope = true) : (∀ y ∈ List.zip (posNames params) vs, scope.names.lookup y.1 = some .local) ∧ scope.isCoroutine = false ∧ scope.isGenerator = false ∧ scope.kind = .function ∧ ∀ x ∈ scope.names, x.2 ≠ .cell := by
  simp only [scOk, Bool.and_eq_true] at hs
  obtain ⟨⟨⟨⟨h1, h2⟩, h3⟩, h4⟩, h5⟩ := hs
  refine ⟨fun y hy => ?_, by simpa using h3, by simpa using h4, by simpa using h5, fun x hx => ?_⟩
  · have hm : y.1 ∈ posNames params := (List.of_mem_zip (a := y.1) (b := y.2) hy).1
    simpa using List.all_eq_true.mp h1 _ hm
  · simpa using List.all_eq_true.mp h2 _ hx
noncomputable def InitQ (x : Addr) (Q : Value → Shared → Prop) (v : Value) (s : Shared) : Prop := v = .none ∧ Q (.ref x) s
theorem initQ {x : Addr} {s : Shared} (h : Q (.ref x) s) : InitQ x Q .none s := ⟨rfl, h⟩
theorem enterG {name qual : Str} {params : Arguments} {body : List Stmt} {scope : Scope} {dV kV doc pm cdv ct oc : Value} {an od : Option Addr} {osl : Array (Option Value)} {fa : Addr} {vs : List Value} {kw : List (Str × Value)} {binds : List (Str × Value)}
    (hA : A.frames = some (env :: outer)) (hf : env.frame = some L) (hke : env.scope.kind = .function) (B : Below A₀ base outer h₀) (F : Fr h₀ L h m) (X : (KF w.params).In h₀) (N : News h₀ L h news) (T : Top p loose mean mg mb h₀)
    (ho : (KF w.params).lookup fa = some ⟨oc, od, .func (fnOf name qual params body scope dV kV doc pm an cdv ct), osl⟩) (hcd : codeIn (KF w.params) cdv qual = true) (hroom : A.depth < recursionLimit)
    (hbind : BindsTo ⟨h, ge, dr, tk, os⟩ (fnOf name qual params body scope dV kV doc pm an cdv ct) ⟨vs, kw⟩ binds) (hkind : ∀ y ∈ binds, scope.names.lookup y.1 = some .local)
    (H : ∀ (g : Heap) (L' : Addr) (h₁ : Heap) (tk' : Nat) (Q1 : Flow → Shared → Prop), let env' := envOf qual scope L' fa cdv; let A' := A.deeper env'; let m0 := fun y => List.lookup y binds.reverse;
      Fr g L' h₁ m0 → News g L' h₁ news → Below A base (env :: outer) g → (KF w.params).In g → Top p loose mean mg mb g → Bo w env' g L' → FunH h₀ L m g Q Q1 → wpAny (model PR w) A' (execs body env') (FunQ Q1) NoE ⟨h₁, ge, dr, tk', os⟩)
    (hco : scope.isCoroutine = false) (hgen : scope.isGenerator = false) (hk : scope.kind = .function) (hcell : ∀ x ∈ scope.names, x.2 ≠ .cell) : wpAny (model PR w) A (call (.ref fa) vs kw) Q E ⟨h, ge, dr, tk, os⟩ :=
  wpAny_call (enterC (Q := Q) (fun _ _ h => h) B F X N T hA hf hke ho hcd hroom hbind hkind H hco hgen hk hcell)
theorem enterZ {name qual : Str} {params : Arguments} {body : List Stmt} {scope : Scope} {dV kV doc pm cdv ct oc : Value} {an od : Option Addr} {osl : Array (Option Value)} {fa : Addr} {vs : List Value}
    (hA : A.frames = some (env :: outer)) (hf : env.frame = some L) (hke : env.scope.kind = .function) (B : Below A₀ base outer h₀) (F : Fr h₀ L h m) (X : (KF w.params).In h₀) (N : News h₀ L h news) (T : Top p loose mean mg mb h₀)
    (ho : (KF w.params).lookup fa = some ⟨oc, od, .func (fnOf name qual params body scope dV kV doc pm an cdv ct), osl⟩) (hcd : codeIn (KF w.params) cdv qual = true) (hroom : A.depth < recursionLimit)
    (hbind : BindsTo ⟨h, ge, dr, tk, os⟩ (fnOf name qual params body scope dV kV doc pm an cdv ct) ⟨vs, []⟩ (List.zip (posNames params) vs)) (hs : scOk params scope = true)
    (H : ∀ (g : Heap) (L' : Addr) (h₁ : Heap) (tk' : Nat) (Q1 : Flow → Shared → Prop), let env' := envOf qual scope L' fa cdv; let A' := A.deeper env'; let m0 := mOf params vs;
      Fr g L' h₁ m0 → News g L' h₁ news → Below A base (env :: outer) g → (KF w.params).In g → Top p loose mean mg mb g → Bo w env' g L' → FunH h₀ L m g Q Q1 → wpAny (model PR w) A' (execs body env') (FunQ Q1) NoE ⟨h₁, ge, dr, tk', os⟩) : wpAny (model PR w) A (call (.ref fa) vs) Q E ⟨h, ge, dr, tk, os⟩ :=
  have c := sck_at (vs := vs) hs
  enterG hA hf hke B F X N T ho hcd hroom hbind c.1 H c.2.1 c.2.2.1 c.2.2.2.1 c.2.2.2.2
theorem enterIG {name qual : Str} {params : Arguments} {body : List Stmt} {scope : Scope} {dV kV doc pm cdv ct oc : Value} {an od : Option Addr} {osl : Array (Option Value)} {fa : Addr} {x : Addr} {pos : List Value} {kw : List (Str × Value)} {binds : List (Str × Value)}
    (hA : A.frames = some (env :: outer)) (hf : env.frame = some L) (hke : env.scope.kind = .function) (B : Below A₀ base outer h₀) (F : Fr h₀ L h m) (X : (KF w.params).In h₀) (N : News h₀ L h news) (T : Top p loose mean mg mb h₀)
    (ho : (KF w.params).lookup fa = some ⟨oc, od, .func (fnOf name qual params body scope dV kV doc pm an cdv ct), osl⟩) (hcd : codeIn (KF w.params) cdv qual = true) (hroom : A.depth < recursionLimit)
    (hbind : BindsTo ⟨h, ge, dr, tk, os⟩ (fnOf name qual params body scope dV kV doc pm an cdv ct) ⟨.ref x :: pos, kw⟩ binds) (hkind : ∀ y ∈ binds, scope.names.lookup y.1 = some .local)
    (H : ∀ (g : Heap) (L' : Addr) (h₁ : Heap) (tk' : Nat) (Q1 : Flow → Shared → Prop), let env' := envOf qual scope L' fa cdv; let A' := A.deeper env'; let m0 := fun y => List.lookup y binds.reverse;
      Fr g L' h₁ m0 → News g L' h₁ news → Below A base (env :: outer) g → (KF w.params).In g → Top p loose mean mg mb g → Bo w env' g L' → FunH h₀ L m g (InitQ x Q) Q1 → wpAny (model PR w) A' (execs body env') (FunQ Q1) NoE ⟨h₁, ge, dr, tk', os⟩)
    (hco : scope.isCoroutine = false) (hgen : scope.isGenerator = false) (hk : scope.kind = .function) (hcell : ∀ x ∈ scope.names, x.2 ≠ .cell) : codeAny (model PR w) A (.call (.ref fa) ⟨.ref x :: pos, kw⟩) (InitBack x fun r s' => match r with | .ok (.ret v) => Q v s' | .ok _ => False | .error e => E e s') ⟨h, ge, dr, tk, os⟩ :=
  enterC (Q := InitQ x Q) (fun _ _ h => h) B F X N T hA hf hke ho hcd hroom hbind hkind H hco hgen hk hcell
theorem enterI {name qual : Str} {params : Arguments} {body : List Stmt} {scope : Scope} {dV kV doc pm cdv ct oc : Value} {an od : Option Addr} {osl : Array (Option Value)} {fa : Addr} {x : Addr} {pos : List Value}
    (hA : A.frames = some (env :: outer)) (hf : env.frame = some L) (hke : env.scope.kind = .function) (B : Below A₀ base outer h₀) (F : Fr h₀ L h m) (X : (KF w.params).In h₀) (N : News h₀ L h news) (T : Top p loose mean mg mb h₀)
    (ho : (KF w.params).lookup fa = some ⟨oc, od, .func (fnOf name qual params body scope dV kV doc pm an cdv ct), osl⟩) (hcd : codeIn (KF w.params) cdv qual = true) (hroom : A.depth < recursionLimit)
    (hbind : BindsTo ⟨h, ge, dr, tk, os⟩ (fnOf name qual params body scope dV kV doc pm an cdv ct) ⟨.ref x :: pos, []⟩ (List.zip (posNames params) (.ref x :: pos))) (hs : scOk params scope = true)
    (H : ∀ (g : Heap) (L' : Addr) (h₁ : Heap) (tk' : Nat) (Q1 : Flow → Shared → Prop), let env' := envOf qual scope L' fa cdv; let A' := A.deeper env'; let m0 := mOf params (.ref x :: pos);
      Fr g L' h₁ m0 → News g L' h₁ news → Below A base (env :: outer) g → (KF w.params).In g → Top p loose mean mg mb g → Bo w env' g L' → FunH h₀ L m g (InitQ x Q) Q1 → wpAny (model PR w) A' (execs body env') (FunQ Q1) NoE ⟨h₁, ge, dr, tk', os⟩) : codeAny (model PR w) A (.call (.ref fa) ⟨.ref x :: pos, []⟩) (InitBack x fun r s' => match r with | .ok (.ret v) => Q v s' | .ok _ => False | .error e => E e s') ⟨h, ge, dr, tk, os⟩ :=
  have c := sck_at (vs := .ref x :: pos) hs
  enterIG hA hf hke B F X N T ho hcd hroom hbind c.1 H c.2.1 c.2.2.1 c.2.2.2.1 c.2.2.2.2
theorem zFunRet {v : Value} {g : Heap} {L' : Addr} {m' : Str → Option Value} {Q1 : Flow → Shared → Prop} (hq : FunH h₀ L m g Q Q1) (F : Fr g L' h m') (N : News g L' h news) (H : Fr h₀ L h m → News h₀ L h news → Q v ⟨h, ge, dr, tk, os⟩) : FunQ Q1 (.ret v) ⟨h, ge, dr, tk, os⟩ := (hq v ⟨h, ge, dr, tk, os⟩ L' m' news F N H).1
theorem zFunNext {g : Heap} {L' : Addr} {m' : Str → Option Value} {Q1 : Flow → Shared → Prop} (hq : FunH h₀ L m g Q Q1) (F : Fr g L' h m') (N : News g L' h news) (H : Fr h₀ L h m → News h₀ L h news → Q .none ⟨h, ge, dr, tk, os⟩) : FunQ Q1 .next ⟨h, ge, dr, tk, os⟩ := (hq .none ⟨h, ge, dr, tk, os⟩ L' m' news F N H).2 rfl
end
/- calls -/
section
variable {w : World} {A : Around} {E Q : Value → Shared → Prop} {h₀ h : Heap} {L : Addr} {m : Str → Option Value} {news : List (Addr × Obj)} {env : Env} {ge : Array GenState} {dr : Drawn} {tk tk1 tk2 : Nat} {os : OsState} {e : PySem.Expr} {es : List PySem.Expr} {vs : List Value} {pos p1 : Pos} {x : Str}
noncomputable def plainArgs : List PySem.Expr → Bool
  | [] => true
  | e :: es => notStar e && plainArgs es
theorem plain_back {pos : Pos} : ∀ {es : List PySem.Expr}, plainArgs es = true → ((backTo pos (starEach es env)).any fun x => x.fst) = false
  | [], _ => rfl
  | e :: es, h => by
    have h' : notStar e = true ∧ plainArgs es = true := by simpa [plainArgs] using h
    rw [star_each h'.1]
    have := plain_back (pos := pos) h'.2
    simpa [backTo] using this
theorem callG (B : Bo w env h₀ L) (F : Fr h₀ L h m) {f : Value} (hk : gkOk env x = true) (hn : nsIn (KF w.params) mainGlobals x = some (some f)) (hkeep : keepIn (KF w.params) f = true) (hp : plainArgs (e :: es) = true) (d : EvL w env h tk (e :: es) vs tk1)
    (H : ∀ tk', wpAny (model PR w) A (call f vs) Q E ⟨h, ge, dr, tk', os⟩) : wpAny (model PR w) A (eval (.Call (.Name x p1) (e :: es) [] pos) env) Q E ⟨h, ge, dr, tk, os⟩ := by
  have h' : notStar e = true ∧ plainArgs es = true := by simpa [plainArgs] using hp
  refine Call_ (ev_glo B F hk hn ?_)
  exact callWith_K B.X hkeep (d ⟨B.X.keeps F.keep, by simpa using H _⟩) (star_each h'.1) (plain_back h'.2)
theorem callG0 (B : Bo w env h₀ L) (F : Fr h₀ L h m) {f : Value} (hk : gkOk env x = true) (hn : nsIn (KF w.params) mainGlobals x = some (some f)) (hkeep : keepIn (KF w.params) f = true)
    (H : wpAny (model PR w) A (call f []) Q E ⟨h, ge, dr, tk, os⟩) : wpAny (model PR w) A (eval (.Call (.Name x p1) [] [] pos) env) Q E ⟨h, ge, dr, tk, os⟩ :=
  Call_ (ev_glo B F hk hn (callWith_K0 (B.X.keeps F.keep) hkeep H))
theorem methG {C a dx fn : Addr} {od : Obj} {kvs : List (Str × Value)} {ap : Pos} (B : Bo w env h₀ L) (F : Fr h₀ L h m) (N : News h₀ L h news) (d : Ev w env h tk e (.ref a) tk1) (hx : (a, instObj C dx) ∈ news) (hd : (dx, od) ∈ news) (hk : od.IsDictOf (strKind PR w) kvs)
    (hl : valueAt kvs x = none) (hg : plainGet (KF w.params) C x = true) (hf : findIn (KF w.params) (.ref C) x = some (some (.ref fn))) (ht : isFn (KF w.params) (.ref fn) = true) (hkeep : keepIn (KF w.params) (.ref fn) = true)
    {e1 : PySem.Expr} {pl : Sem Bool} (he : eval (.Call (.Attribute e x ap) (e1 :: es) [] pos) env = (do
      let ov ← eval e env
      standAt ap.atName
      let (f, first) ← holding [ov] (getMethod ov x pl)
      callWith pos f first (backTo pos (starEach (e1 :: es) env)) [])) (hp : plainArgs (e1 :: es) = true) (da : EvL w env h tk1 (e1 :: es) vs tk2)
    (H : ∀ tk', wpAny (model PR w) A (call (.ref fn) (.ref a :: vs)) Q E ⟨h, ge, dr, tk', os⟩) : wpAny (model PR w) A (eval (.Call (.Attribute e x ap) (e1 :: es) [] pos) env) Q E ⟨h, ge, dr, tk, os⟩ := by
  have h' : notStar e1 = true ∧ plainArgs es = true := by simpa [plainArgs] using hp
  have key : ∀ pl, wpAny (model PR w) A (getMethod (.ref a) x pl) (fun fx s₂ => wpAny (model PR w) A (callWith pos fx.1 fx.2 (backTo pos (starEach (e1 :: es) env)) []) Q E s₂) E ⟨h, ge, dr, tk1, os⟩ := fun pl =>
    mmeth F B.X N hx hd hk hl hg hf ht (callWith_K B.X hkeep (da ⟨B.X.keeps F.keep, H _⟩) (star_each h'.1) (plain_back h'.2))
  exact MethodCall_ (d (key _)) he
theorem tupG {k : Nat} (hp : plainArgs es = true) (d : EvL w env h tk es vs tk1) (H : ∀ tk', wpAny (model PR w) A (newTuple vs) Q E ⟨h, ge, dr, tk', os⟩) : wpAny (model PR w) A (eval (.Tuple es k pos) env) Q E ⟨h, ge, dr, tk, os⟩ := Tuple_ (d (H _))
theorem lstG (hp : plainArgs es = true) (d : EvL w env h tk es vs tk1) (H : ∀ tk', wpAny (model PR w) A (newList vs) Q E ⟨h, ge, dr, tk', os⟩) : wpAny (model PR w) A (eval (.List es pos) env) Q E ⟨h, ge, dr, tk, os⟩ := List_ (d (H _))
end
/- methods of lists and dicts; statements that store -/
noncomputable def Mt (w : World) (h : Heap) (a : Addr) (x : Str) (f : Value) : Prop :=
  ∀ {pl : Sem Bool} {A : Around} {E : Value → Shared → Prop} {Q : Value × List Value → Shared → Prop} {ge : Array GenState} {dr : Drawn} {tk : Nat} {os : OsState}, Q (f, [.ref a]) ⟨h, ge, dr, tk, os⟩ → wpAny (model PR w) A (getMethod (.ref a) x pl) Q E ⟨h, ge, dr, tk, os⟩
section
variable {w : World} {A : Around} {E Q : Value → Shared → Prop} {h₀ h : Heap} {L a : Addr} {m : Str → Option Value} {news : List (Addr × Obj)} {env : Env} {ge : Array GenState} {dr : Drawn} {tk tk1 tk2 tk3 : Nat} {os : OsState} {e o e1 : PySem.Expr} {es : List PySem.Expr} {vs : List Value} {pos p1 ap : Pos} {x : Str} {v : Value}
theorem mt_list {its : Array Value} {n : Nat} {id : String} (N : News h₀ L h news) (hp : (a, listOf its n) ∈ news) (hs : Slot "list" x id) (ht : typeOf (Value.builtin id) = pure (Value.type "method_descriptor")) : Mt w h a x (.builtin id) :=
  fun H => listMethod_K (s := ⟨h, _, _, _, _⟩) N hp hs ht H
theorem methB {id : String} {pl : Sem Bool} (d : Ev w env h tk e (.ref a) tk1) (mt : Mt w h a x (.builtin id)) (he : eval (.Call (.Attribute e x ap) (e1 :: es) [] pos) env = (do
      let ov ← eval e env
      standAt ap.atName
      let (f, first) ← holding [ov] (getMethod ov x pl)
      callWith pos f first (backTo pos (starEach (e1 :: es) env)) [])) (hp : plainArgs (e1 :: es) = true) (da : EvL w env h tk1 (e1 :: es) vs tk2)
    (H : ∀ tk', wpAny (model PR w) A (call (.builtin id) (.ref a :: vs)) Q E ⟨h, ge, dr, tk', os⟩) : wpAny (model PR w) A (eval (.Call (.Attribute e x ap) (e1 :: es) [] pos) env) Q E ⟨h, ge, dr, tk, os⟩ := by
  have h' : notStar e1 = true ∧ plainArgs es = true := by simpa [plainArgs] using hp
  exact MethodCall_ (d (mt (PyProof.Rows.callWith_method1 (da (H _)) (star_each h'.1) (plain_back h'.2)))) he
/- a builtin's call -/
theorem callB {id : String} (B : Bo w env h₀ L) (F : Fr h₀ L h m) (hk : gkOk env x = true) (hn : nsIn (KF w.params) mainGlobals x = some none) (hb : bootBuiltins x = some (.builtin id)) (hx : x ≠ Str.ofString "__name__") (hp : plainArgs (e :: es) = true) (d : EvL w env h tk (e :: es) vs tk1)
    (H : ∀ tk', wpAny (model PR w) A (call (.builtin id) vs) Q E ⟨h, ge, dr, tk', os⟩) : wpAny (model PR w) A (eval (.Call (.Name x p1) (e :: es) [] pos) env) Q E ⟨h, ge, dr, tk, os⟩ := by
  have h' : notStar e = true ∧ plainArgs es = true := by simpa [plainArgs] using hp
  exact Call_ (ev_blt B F hk hn hb hx (PyProof.Rows.callWith_builtin1 (d (H _)) (star_each h'.1) (plain_back h'.2)))
theorem callT {id : String} (B : Bo w env h₀ L) (F : Fr h₀ L h m) (hk : gkOk env x = true) (hn : nsIn (KF w.params) mainGlobals x = some none) (hb : bootBuiltins x = some (.type id)) (hx : x ≠ Str.ofString "__name__") (hp : plainArgs (e :: es) = true) (d : EvL w env h tk (e :: es) vs tk1)
    (H : ∀ tk', wpAny (model PR w) A (call (.type id) vs) Q E ⟨h, ge, dr, tk', os⟩) : wpAny (model PR w) A (eval (.Call (.Name x p1) (e :: es) [] pos) env) Q E ⟨h, ge, dr, tk, os⟩ := by
  have h' : notStar e = true ∧ plainArgs es = true := by simpa [plainArgs] using hp
  exact Call_ (ev_blt B F hk hn hb hx (PyProof.Rows.callWith_type1 (d (H _)) (star_each h'.1) (plain_back h'.2)))
/- len of a list -/
theorem ev_len {its : Array Value} {n : Nat} (B : Bo w env h₀ L) (F : Fr h₀ L h m) (N : News h₀ L h news) (hk : gkOk env (Str.ofString "len") = true) (hn : nsIn (KF w.params) mainGlobals (Str.ofString "len") = some none) (hs : notStar e = true) (d : Ev w env h tk e (.ref a) tk1) (hp : (a, listOf its n) ∈ news) (hz : its.size ≤ 1048576) :
    Ev w env h tk (.Call (.Name (Str.ofString "len") p1) [e] [] pos) (.int its.size (tk1 + 1)) (tk1 + 1 + 1) := fun H =>
  Call_ (ev_blt B F hk hn rfl (by decide) (PyProof.Rows.callWith_builtin1 ((evl_cons hs d evl_nil) (len_list (s := ⟨h, _, _, tk1, _⟩) (isListN N hp) (by omega) H)) (star_each hs) rfl))
end
section
variable {w : World} {A : Around} {E : Value → Shared → Prop} {Q : Flow → Shared → Prop} {h₀ h : Heap} {L a : Addr} {env : Env} {ge : Array GenState} {dr : Drawn} {tk tk1 tk2 tk3 : Nat} {os : OsState} {e o i : PySem.Expr} {rest : List Stmt} {pos p2 : Pos} {x : Str} {v k ov : Value} {s : Shared}
noncomputable def ExpW (Q : Value → Shared → Prop) : Value → Shared → Prop := Q
noncomputable def ExpH (w : World) (A : Around) (rest : List Stmt) (env : Env) (E : Value → Shared → Prop) (Q : Flow → Shared → Prop) (Q1 : Value → Shared → Prop) : Prop := ∀ v s, wpAny (model PR w) A (execs rest env) Q E s → Q1 v s
theorem sExp (B : Bo w env h₀ L) (hc : notComp e = true) (H : ∀ Q1, ExpH w A rest env E Q Q1 → wpAny (model PR w) A (eval e env) (ExpW Q1) E s) : wpAny (model PR w) A (execs (.Expr e pos :: rest) env) Q E s := by
  obtain ⟨cn, cs, a, ccd, cl, rfl, hf⟩ := B.e
  exact wpAny_execs_cons (wpAny_Expr_any (wpAny_mono (H _ fun _ _ h => h) (fun _ _ h => h) fun _ _ h => h) (by unfold interactive; rw [hf]; rfl) (swap_no hc))
theorem zExp {Q1 : Value → Shared → Prop} (hq : ExpH w A rest env E Q Q1) (H : wpAny (model PR w) A (execs rest env) Q E s) : ExpW Q1 v s := hq v s H
theorem sSet (hc : notComp e = true) (d : Ev w env h tk e v tk1) (do_ : Ev w env h tk1 o ov tk2) (H : ∀ tk', wpAny (model PR w) A (setAttr ov x v) (fun _ s' => wpAny (model PR w) A (execs rest env) Q E s') E ⟨h, ge, dr, tk', os⟩) : wpAny (model PR w) A (execs (.Assign [.Attribute o x p2] e pos :: rest) env) Q E ⟨h, ge, dr, tk, os⟩ :=
  wpAny_execs_cons (plainObj_wpAny_Assign_Attribute (d (do_ (H _))) (swap_no hc))
theorem sItm (hc : notComp e = true) (d : Ev w env h tk e v tk1) (do_ : Ev w env h tk1 o ov tk2) (di : Ev w env h tk2 i k tk3) (H : ∀ tk', wpAny (model PR w) A (setItem ov k v) (fun _ s' => wpAny (model PR w) A (execs rest env) Q E s') E ⟨h, ge, dr, tk', os⟩) : wpAny (model PR w) A (execs (.Assign [.Subscript o i p2] e pos :: rest) env) Q E ⟨h, ge, dr, tk, os⟩ :=
  wpAny_execs_cons (wpAny_Assign_Subscript (d (do_ (di (H _)))) (swap_no hc))
/- if, with nothing behind it -/
end
/- calls whose arguments are walked -/
noncomputable def ArgW (Q : List Value → Shared → Prop) : List Value → Shared → Prop := Q
noncomputable def ArgH (w : World) (A : Around) (f : Value) (first : List Value) (E Q : Value → Shared → Prop) (Q1 : List Value → Shared → Prop) : Prop := ∀ vs s, (KF w.params).In s.heap → wpAny (model PR w) A (call f (first ++ vs)) Q E s → Q1 vs s
section
variable {w : World} {A : Around} {E Q : Value → Shared → Prop} {h₀ h : Heap} {L a : Addr} {m : Str → Option Value} {news : List (Addr × Obj)} {env : Env} {ge : Array GenState} {dr : Drawn} {tk tk1 tk2 tk3 : Nat} {os : OsState} {e o e1 : PySem.Expr} {es : List PySem.Expr} {vs : List Value} {pos p1 ap : Pos} {x : Str} {v f : Value}
theorem callW (B : Bo w env h₀ L) (F : Fr h₀ L h m) (hk : gkOk env x = true) (hn : nsIn (KF w.params) mainGlobals x = some (some f)) (hkeep : keepIn (KF w.params) f = true) (hp : plainArgs (e :: es) = true)
    (H : ∀ Q1, ArgH w A f [] E Q Q1 → wpAny (model PR w) A (spliced (backTo pos (starEach (e :: es) env))) (ArgW Q1) E ⟨h, ge, dr, tk, os⟩) : wpAny (model PR w) A (eval (.Call (.Name x p1) (e :: es) [] pos) env) Q E ⟨h, ge, dr, tk, os⟩ := by
  have h' : notStar e = true ∧ plainArgs es = true := by simpa [plainArgs] using hp
  exact Call_ (ev_glo B F hk hn (callWith_K B.X hkeep (H _ fun _ _ h1 h2 => ⟨h1, h2⟩) (star_each h'.1) (plain_back h'.2)))
theorem methW {C dx fn : Addr} {od : Obj} {kvs : List (Str × Value)} (B : Bo w env h₀ L) (F : Fr h₀ L h m) (N : News h₀ L h news) (d : Ev w env h tk e (.ref a) tk1) (hx : (a, instObj C dx) ∈ news) (hd : (dx, od) ∈ news) (hk : od.IsDictOf (strKind PR w) kvs)
    (hl : valueAt kvs x = none) (hg : plainGet (KF w.params) C x = true) (hf : findIn (KF w.params) (.ref C) x = some (some (.ref fn))) (ht : isFn (KF w.params) (.ref fn) = true) (hkeep : keepIn (KF w.params) (.ref fn) = true)
    {pl : Sem Bool} (he : eval (.Call (.Attribute e x ap) (e1 :: es) [] pos) env = (do
      let ov ← eval e env
      standAt ap.atName
      let (f, first) ← holding [ov] (getMethod ov x pl)
      callWith pos f first (backTo pos (starEach (e1 :: es) env)) [])) (hp : plainArgs (e1 :: es) = true)
    (H : ∀ tk' Q1, ArgH w A (.ref fn) [.ref a] E Q Q1 → wpAny (model PR w) A (spliced (backTo pos (starEach (e1 :: es) env))) (ArgW Q1) E ⟨h, ge, dr, tk', os⟩) : wpAny (model PR w) A (eval (.Call (.Attribute e x ap) (e1 :: es) [] pos) env) Q E ⟨h, ge, dr, tk, os⟩ := by
  have h' : notStar e1 = true ∧ plainArgs es = true := by simpa [plainArgs] using hp
  exact MethodCall_ (d (mmeth F B.X N hx hd hk hl hg hf ht (callWith_K B.X hkeep (H _ _ fun _ _ h1 h2 => ⟨h1, h2⟩) (star_each h'.1) (plain_back h'.2)))) he
theorem methBW {id : String} {pl : Sem Bool} (d : Ev w env h tk e (.ref a) tk1) (mt : Mt w h a x (.builtin id)) (he : eval (.Call (.Attribute e x ap) (e1 :: es) [] pos) env = (do
      let ov ← eval e env
      standAt ap.atName
      let (f, first) ← holding [ov] (getMethod ov x pl)
      callWith pos f first (backTo pos (starEach (e1 :: es) env)) [])) (hp : plainArgs (e1 :: es) = true)
    (H : ∀ tk', wpAny (model PR w) A (spliced (backTo pos (starEach (e1 :: es) env))) (fun vs s₁ => wpAny (model PR w) A (call (.builtin id) (.ref a :: vs)) Q E s₁) E ⟨h, ge, dr, tk', os⟩) : wpAny (model PR w) A (eval (.Call (.Attribute e x ap) (e1 :: es) [] pos) env) Q E ⟨h, ge, dr, tk, os⟩ := by
  have h' : notStar e1 = true ∧ plainArgs es = true := by simpa [plainArgs] using hp
  exact MethodCall_ (d (mt (PyProof.Rows.callWith_method1 (H _) (star_each h'.1) (plain_back h'.2)))) he
theorem zArg {Q1 : List Value → Shared → Prop} (B : Bo w env h₀ L) (F : Fr h₀ L h m) (hq : ArgH w A f [] E Q Q1) (H : wpAny (model PR w) A (call f vs) Q E ⟨h, ge, dr, tk, os⟩) : ArgW Q1 vs ⟨h, ge, dr, tk, os⟩ := hq _ _ (B.X.keeps F.keep) H
theorem zArg1 {Q1 : List Value → Shared → Prop} {c : Value} (B : Bo w env h₀ L) (F : Fr h₀ L h m) (hq : ArgH w A f [c] E Q Q1) (H : wpAny (model PR w) A (call f (c :: vs)) Q E ⟨h, ge, dr, tk, os⟩) : ArgW Q1 vs ⟨h, ge, dr, tk, os⟩ := hq _ _ (B.X.keeps F.keep) H
end
theorem room3 {d j k n : Nat} (h : d + k < n) (hj : Nat.ble (3 + j) k = true) : d + 1 + 1 + 1 + j < n := by have := Nat.le_of_ble_eq_true hj; omega
theorem rooU3 {d j k n : Nat} (h : d + k < n) (hj : Nat.ble (9 + j) k = true) : d + 3 + 3 + 3 + j < n := by have := Nat.le_of_ble_eq_true hj; omega
theorem roomD {d k n : Nat} (h : d + k < n) (hj : Nat.ble 3 k = true) : d + 1 + 1 + 1 < n := by have := Nat.le_of_ble_eq_true hj; omega
theorem or_no {t k : Int} {x : Bool} (h : 21 ≤ t) (hk : decide (k < 21) = true) (hx : x = true → False) : (decide (t = k) || x) = true → False := fun hb => by
  cases (Bool.or_eq_true _ _).mp hb with
  | inl h1 => exact Int.not_lt.mpr h ((of_decide_eq_true h1) ▸ of_decide_eq_true hk)
  | inr h1 => exact hx h1
theorem tid_no {t : Int} (h : 21 ≤ t ∧ t ≤ 26) (hb : (decide (t = 20) || (decide (t = 9) || (decide (t = 10) || (decide (t = 11) || (decide (t = 12) || (decide (t = 13) || (decide (t = 14) || (decide (t = 15) || (decide (t = 16) || (decide (t = 17) || (decide (t = 18) || (decide (t = 19) || (decide (t = 1) || (decide (t = 4) || false)))))))))))))) = true) : False := by
  revert hb
  iterate 14 (refine or_no h.1 (by exact Eq.refl true) ?_)
  exact fun h => nomatch h
/- a map over its old one -/
theorem off_bind {x : Str} {v : Option Value} {m m₀ : Str → Option Value} {ns : List Str} (h : ∀ y, y ∉ ns → m y = m₀ y) (hx : ns.elem x = true) : ∀ y, y ∉ ns → (fun y => if y = x then v else m y) y = m₀ y := fun y hy => by
  have : y ≠ x := fun e => hy (by subst e; exact List.elem_iff.mp hx)
  show (if y = x then v else m y) = _
  rw [if_neg this]; exact h y hy
theorem off_same {m : Str → Option Value} {ns : List Str} : ∀ y, y ∉ ns → m y = m y := fun _ _ => rfl
/- room left -/
theorem room0 {d j k n : Nat} (h : d + k < n) (hj : Nat.ble j k = true) : d + j < n := by have := Nat.le_of_ble_eq_true hj; omega
theorem room1 {d j k n : Nat} (h : d + k < n) (hj : Nat.ble (1 + j) k = true) : d + 1 + j < n := by have := Nat.le_of_ble_eq_true hj; omega
theorem room2 {d j k n : Nat} (h : d + k < n) (hj : Nat.ble (2 + j) k = true) : d + 1 + 1 + j < n := by have := Nat.le_of_ble_eq_true hj; omega
theorem roomA {d k n : Nat} (h : d + k < n) : d < n := by omega
theorem roomB {d k n : Nat} (h : d + k < n) (hj : Nat.ble 1 k = true) : d + 1 < n := by have := Nat.le_of_ble_eq_true hj; omega
theorem roomC {d k n : Nat} (h : d + k < n) (hj : Nat.ble 2 k = true) : d + 1 + 1 < n := by have := Nat.le_of_ble_eq_true hj; omega
theorem roomE {A : Around} {e : Env} {k n : Nat} (h : A.depth + k < n) (hj : Nat.ble 1 k = true) : (A.deeper e).depth < n := roomB h hj
theorem roomF {A : Around} {e e' : Env} {k n : Nat} (h : A.depth + k < n) (hj : Nat.ble 2 k = true) : ((A.deeper e).deeper e').depth < n := roomC h hj
theorem rooU1 {d j k n : Nat} (h : d + k < n) (hj : Nat.ble (3 + j) k = true) : d + 3 + j < n := by have := Nat.le_of_ble_eq_true hj; omega
theorem rooUE {A : Around} {e : Env} {j k n : Nat} (h : A.units + k < n) (hj : Nat.ble (3 + j) k = true) : (A.deeper e).units + j < n := rooU1 h hj
theorem rooU2 {d j k n : Nat} (h : d + k < n) (hj : Nat.ble (6 + j) k = true) : d + 3 + 3 + j < n := by have := Nat.le_of_ble_eq_true hj; omega
structure Cx (w : World) (p : Program) (loose : List Str) (mean : ExcName → Option Value) (mg mb : Str → Option Value) (cs : Scope) (outer : List Env) (A₀ : Around) (base h₀ : Heap) (L : Addr) (m : Str → Option Value) (h : Heap) (news : List (Addr × Obj)) : Prop where
  B : Below A₀ base outer h₀
  F : Fr h₀ L h m
  X : (KF w.params).In h₀
  N : News h₀ L h news
  T : Top p loose mean mg mb h₀
  k : cs.kind = .function
noncomputable def wK (f : Fix) (at_ left vmade vstands vnone : Value) : List (Str × Value) :=
  [("in", .ref f.ain), ("at", at_), ("left", left), ("vars", .ref f.avars), ("scopes", .ref f.ascopes), ("told", .ref f.atold), ("consts", .ref f.aconsts), ("made", vmade), ("stands", vstands), ("types", .ref f.atypes), ("none", vnone)]
noncomputable def cxK (f : Fix) (fn owner static init blocks cat : Value) : List (Str × Value) :=
  (Str.ofString "unit", .ref f.aunit) :: (Str.ofString "store", .ref f.astore) :: (Str.ofString "kt", .ref f.akt) :: (Str.ofString "host", f.ax 0) :: (Str.ofString "asm", f.ax 1) :: (Str.ofString "kinds", f.ax 2) :: (Str.ofString "unmet", f.ax 3) :: (Str.ofString "told", f.ax 4) :: (Str.ofString "diags", .ref f.adiags) :: (Str.ofString "exprs", f.ax 5) :: (Str.ofString "stmts", f.ax 6) :: (Str.ofString "types", f.ax 7) :: (Str.ofString "scopes", .ref f.acxsc) :: (Str.ofString "rows", .ref f.acxrows) :: (Str.ofString "closed", .ref f.aclosed) :: (Str.ofString "fn", fn) :: (Str.ofString "owner", owner) :: (Str.ofString "mid", f.ax 8) :: (Str.ofString "static", static) :: (Str.ofString "init", init) :: (Str.ofString "checked", f.ax 9) :: (Str.ofString "free", f.ax 10) :: (Str.ofString "loops", f.ax 11) :: (Str.ofString "blocks", blocks) :: (Str.ofString "tparams", f.ax 12) :: (Str.ofString "targets", f.ax 13) :: (Str.ofString "judge", f.ax 14) :: (Str.ofString "turner", f.ax 15) :: (Str.ofString "fitter", f.ax 16) :: (Str.ofString "keeper", f.ax 17) :: (Str.ofString "early", f.ax 18) :: (Str.ofString "deep", f.ax 19) :: (Str.ofString "at", cat) :: (Str.ofString "notes", .ref f.anotes) :: []
section
variable {f : Fix} {a b c d e g v : Value}
theorem gw_in : valueAt (wK f a b c d e) (Str.ofString "in") = some (.ref f.ain) := rfl
theorem gw_at : valueAt (wK f a b c d e) (Str.ofString "at") = some (a) := rfl
theorem gw_left : valueAt (wK f a b c d e) (Str.ofString "left") = some (b) := rfl
theorem gw_vars : valueAt (wK f a b c d e) (Str.ofString "vars") = some (.ref f.avars) := rfl
theorem gw_scopes : valueAt (wK f a b c d e) (Str.ofString "scopes") = some (.ref f.ascopes) := rfl
theorem gw_told : valueAt (wK f a b c d e) (Str.ofString "told") = some (.ref f.atold) := rfl
theorem gw_consts : valueAt (wK f a b c d e) (Str.ofString "consts") = some (.ref f.aconsts) := rfl
theorem gw_made : valueAt (wK f a b c d e) (Str.ofString "made") = some (c) := rfl
theorem gw_stands : valueAt (wK f a b c d e) (Str.ofString "stands") = some (d) := rfl
theorem gw_types : valueAt (wK f a b c d e) (Str.ofString "types") = some (.ref f.atypes) := rfl
theorem gw_none : valueAt (wK f a b c d e) (Str.ofString "none") = some (e) := rfl
theorem sw_at : stored (wK f a b c d e) (Str.ofString "at") v = wK f v b c d e := rfl
theorem sw_left : stored (wK f a b c d e) (Str.ofString "left") v = wK f a v c d e := rfl
theorem sw_made : stored (wK f a b c d e) (Str.ofString "made") v = wK f a b v d e := rfl
theorem sw_stands : stored (wK f a b c d e) (Str.ofString "stands") v = wK f a b c v e := rfl
theorem gc_unit : valueAt (cxK f a b c d e g) (Str.ofString "unit") = some (.ref f.aunit) := rfl
theorem gc_store : valueAt (cxK f a b c d e g) (Str.ofString "store") = some (.ref f.astore) := rfl
theorem gc_kt : valueAt (cxK f a b c d e g) (Str.ofString "kt") = some (.ref f.akt) := rfl
theorem gc_diags : valueAt (cxK f a b c d e g) (Str.ofString "diags") = some (.ref f.adiags) := rfl
theorem gc_scopes : valueAt (cxK f a b c d e g) (Str.ofString "scopes") = some (.ref f.acxsc) := rfl
theorem gc_rows : valueAt (cxK f a b c d e g) (Str.ofString "rows") = some (.ref f.acxrows) := rfl
theorem gc_closed : valueAt (cxK f a b c d e g) (Str.ofString "closed") = some (.ref f.aclosed) := rfl
theorem gc_fn : valueAt (cxK f a b c d e g) (Str.ofString "fn") = some (a) := rfl
theorem gc_owner : valueAt (cxK f a b c d e g) (Str.ofString "owner") = some (b) := rfl
theorem gc_static : valueAt (cxK f a b c d e g) (Str.ofString "static") = some (c) := rfl
theorem gc_init : valueAt (cxK f a b c d e g) (Str.ofString "init") = some (d) := rfl
theorem gc_blocks : valueAt (cxK f a b c d e g) (Str.ofString "blocks") = some (e) := rfl
theorem gc_at : valueAt (cxK f a b c d e g) (Str.ofString "at") = some (g) := rfl
theorem gc_notes : valueAt (cxK f a b c d e g) (Str.ofString "notes") = some (.ref f.anotes) := rfl
theorem sc_fn : putK (Str.ofString "fn") v (cxK f a b c d e g) = cxK f v b c d e g := rfl
theorem sc_owner : putK (Str.ofString "owner") v (cxK f a b c d e g) = cxK f a v c d e g := rfl
theorem sc_static : putK (Str.ofString "static") v (cxK f a b c d e g) = cxK f a b v d e g := rfl
theorem sc_init : putK (Str.ofString "init") v (cxK f a b c d e g) = cxK f a b c v e g := rfl
theorem sc_blocks : putK (Str.ofString "blocks") v (cxK f a b c d e g) = cxK f a b c d v g := rfl
theorem sc_at : putK (Str.ofString "at") v (cxK f a b c d e g) = cxK f a b c d e v := rfl
end
noncomputable def nodeK (k a kids mods at_ nid : Value) : List (Str × Value) := [("kind", k), ("a", a), ("kids", kids), ("mods", mods), ("at", at_), ("nid", nid)]
noncomputable def unitK (f : Fix) (a b c d e : Value) : List (Str × Value) := [("store", .ref f.astore), ("asm", a), ("fns", .ref f.afns), ("vars", .ref f.avs), ("of_mid", b), ("diags", .ref f.adiags), ("inits", c), ("sinits", d), ("consts", e)]
noncomputable def diagsK (f : Fix) : List (Str × Value) := [("rows", .ref f.arows)]
noncomputable def varK (lid name kind flags owner arg block : Value) : List (Str × Value) := [("lid", lid), ("name", name), ("kind", kind), ("flags", flags), ("owner", owner), ("arg", arg), ("block", block)]
noncomputable def fnK (fnid mid lids params tk ret body up sort elem at_ : Value) : List (Str × Value) := [("fnid", fnid), ("mid", mid), ("lids", lids), ("params", params), ("this_kind", tk), ("ret", ret), ("body", body), ("up", up), ("sort", sort), ("elem", elem), ("at", at_)]
section
variable {a b c d e g v x y z u : Value}
theorem sv_flags : putK (Str.ofString "flags") v (varK a b c d e g x) = varK a b c v e g x := rfl
theorem sv_block : putK (Str.ofString "block") v (varK a b c d e g x) = varK a b c d e g v := rfl
end
/- the lines over Ev -/
theorem lines3 : True := by
  k_with "z k_mem" => (first | with_reducible exact mem_aw | with_reducible exact mem_acxd | with_reducible exact mem_avars | with_reducible exact mem_ascopes | with_reducible exact mem_atold | with_reducible exact mem_aconsts | with_reducible exact mem_afns | with_reducible exact mem_avs | with_reducible exact mem_arows | with_reducible exact mem_acxsc | with_reducible exact mem_acxrows | with_reducible exact mem_aclosed | with_reducible exact mem_anotes | ((with_reducible refine mem_Z ?_); k_mem) | ((with_reducible refine mem_imm ?_); assumption) | ((with_reducible refine mem_row ?_); assumption) | ((with_reducible refine mem_vd ?_); assumption) | ((with_reducible refine mem_sl ?_); assumption) | ((with_reducible refine mem_sd ?_); assumption) | ((with_reducible refine mem_cd ?_); assumption) | ((with_reducible refine mem_lid ?_); assumption))
  k_with "z k_upd" => (first | (refine upd_aw ?_; assumption) | (refine upd_acxd ?_; assumption) | (refine upd_avars ?_; assumption) | (refine upd_ascopes ?_; assumption) | (refine upd_atold ?_; assumption) | (refine upd_aconsts ?_; assumption) | (refine upd_afns ?_; assumption) | (refine upd_avs ?_; assumption) | (refine upd_arows ?_; assumption) | (refine upd_acxsc ?_; assumption) | (refine upd_acxrows ?_; assumption) | (refine upd_aclosed ?_; assumption) | (refine upd_anotes ?_; assumption) | (refine upd_row ?_ ?_ <;> assumption) | (refine upd_vd ?_ ?_ <;> assumption) | (refine upd_sl ?_ ?_ <;> assumption) | (refine upd_sd ?_ ?_ <;> assumption) | (refine upd_cd ?_ ?_ <;> assumption) | (refine upd_lid ?_ ?_ <;> assumption))
  k_with "z k_updF" => (first | (refine updF_aw ?_; assumption) | (refine updF_acxd ?_; assumption) | (refine updF_aconsts ?_; assumption) | (refine updF_aclosed ?_; assumption) | (refine updF_anotes ?_; assumption) | (refine updF_vd ?_ ?_ <;> assumption) | (refine updF_sd ?_ ?_ <;> assumption) | (refine updF_cd ?_ ?_ <;> assumption))
  k_with "z getAttr ref" => ((k_here; k_dflt (refine mget (by k_asm) (by k_asm) (by k_asm) (by k_mem) (by k_mem) (by assumption) (by first | with_reducible exact gc_unit | with_reducible exact gc_store | with_reducible exact gc_kt | with_reducible exact gc_diags | with_reducible exact gc_scopes | with_reducible exact gc_rows | with_reducible exact gc_closed | with_reducible exact gc_fn | with_reducible exact gc_owner | with_reducible exact gc_static | with_reducible exact gc_init | with_reducible exact gc_blocks | with_reducible exact gc_at | with_reducible exact gc_notes | rfl) (by k_is) (by k_is) (by k_is) (by k_is) (by k_handed) ?_); intro zqtk))
  k_with "z getMethod ref" => ((k_here; k_dflt (refine mmeth (by k_asm) (by k_asm) (by k_asm) (by k_mem) (by k_mem) (by assumption) (by rfl) (by k_is) (by k_is) (by k_is) ?_)))
  k_with "z setAttr ref" => ((k_here; k_dflt ((fail_if_success (fail_if_success (refine' mset ?_ ?_ ?_ ?_ ?_ ?_ ?_ ?_ ?_ ?_ ?_ _ ?_ ?_ ?_ ?_))); refine mset (by k_asm) (by k_asm) (by k_asm) (by assumption) (by k_mem) (by k_mem) (by assumption) (by k_is) (by k_is) (by k_is) (by k_is) _ (by k_updF) (by exact Nat.le_of_ble_eq_true rfl) (by first | with_reducible exact sc_fn | with_reducible exact sc_owner | with_reducible exact sc_static | with_reducible exact sc_init | with_reducible exact sc_blocks | with_reducible exact sc_at | with_reducible exact sv_flags | with_reducible exact sv_block | rfl) ?_); intro zqh' zqo' zqtk zqF' zqN' zqnd' zqhk'; (try k_sweep)))
  k_with "z subscriptTail" => ((k_here; (with_reducible show wpAny _ _ (subscriptTail _ _ (Value.ref _) (Value.str _ _)) _ _ _); k_dflt (refine ditem (knd := PySem.strKind _ _) (by k_asm) (by k_mem) (by assumption) (strKind_is _ _ _ _) (by first | with_reducible exact gw_in | with_reducible exact gw_at | with_reducible exact gw_left | with_reducible exact gw_vars | with_reducible exact gw_scopes | with_reducible exact gw_told | with_reducible exact gw_consts | with_reducible exact gw_made | with_reducible exact gw_stands | with_reducible exact gw_types | with_reducible exact gw_none | rfl) ?_); intro zqtk))
  k_with "z getItem ref str" => ((k_here; k_dflt (refine dgetItem (knd := PySem.strKind _ _) (by k_asm) (by k_mem) (by assumption) (strKind_is _ _ _ _) (by first | with_reducible exact gw_in | with_reducible exact gw_at | with_reducible exact gw_left | with_reducible exact gw_vars | with_reducible exact gw_scopes | with_reducible exact gw_told | with_reducible exact gw_consts | with_reducible exact gw_made | with_reducible exact gw_stands | with_reducible exact gw_types | with_reducible exact gw_none | rfl) ?_); intro zqtk))
  k_with "z setItem ref str" => ((k_here; k_dflt ((fail_if_success (fail_if_success (refine' dset (knd := PySem.strKind _ _) ?_ ?_ ?_ ?_ ?_ (strKind_is _ _ _ _) _ ?_ ?_ ?_ ?_))); refine dset (knd := PySem.strKind _ _) (by k_asm) (by k_asm) (by assumption) (by k_mem) (by assumption) (strKind_is _ _ _ _) _ (by k_updF) (by exact Nat.le_of_ble_eq_true rfl) (by first | with_reducible exact sw_at | with_reducible exact sw_left | with_reducible exact sw_made | with_reducible exact sw_stands | with_reducible exact sw_none | rfl) ?_); intro zqh' zqo' zqtk zqF' zqN' zqnd' zqhk'; (try k_sweep)))
  k_with "z newTuple" => ((k_here; k_dflt (refine tupN (by k_asm) (by k_asm) (by assumption) (by exact Nat.le_of_ble_eq_true rfl) ?_); intro zql' zqh' zqZ' zqF' zqN' zqnd'; (try k_sweep)))
  k_with "z newList" => ((k_here; k_dflt (refine lstN (by k_asm) (by k_asm) (by assumption) (by exact Nat.le_of_ble_eq_true rfl) ?_); intro zql' zqh' zqZ' zqF' zqN' zqnd'; (try k_sweep)))
  k_with "z eval Dict nil nil" => ((k_here; k_dflt (refine dctN (by k_asm) (by k_asm) (by assumption) (Top.nolimit (by k_asm)) ?_); intro zqd' zqh' zqo' zqZ' zqF' zqN' zqnd' zqlo' zqhs'; (try k_sweep)))
  k_with "z call builtin:list.append" => ((k_here; (with_reducible show wpAny _ _ (call (Value.builtin _) [Value.ref _, _]) _ _ _); k_dflt ((fail_if_success (fail_if_success (refine' appN ?_ ?_ ?_ ?_ ?_ ?_))); refine appN (by k_asm) (by k_asm) (by assumption) (by k_upd) (by first | assumption | (simp; done) | (first | k_extra "z k_ar" | omega)) ?_); intro zqh' zqF' zqN' zqnd'; (try k_sweep)))
  k_with "z call ref" => ((k_here; k_dflt k_extra "z enterF"))
  k_with "z call builtin:len" => ((k_here; (with_reducible show wpAny _ _ (call (Value.builtin "len") [Value.ref _]) _ _ _); k_dflt (refine lenL (by k_asm) (by k_mem) (by first | assumption | (first | k_extra "z k_ar" | omega) | (simp; (first | k_extra "z k_ar" | omega))) ?_); intro zqt zqtk))
  k_with "z ev_mem" => (k_mem)
  k_with "z ev_mt" => (((fail_if_success (fail_if_success (with_reducible refine' mt_list ?_ ?_ PySem.F.slot_list_append PySem.F.type_list_append))); (with_reducible refine mt_list (by with_reducible assumption) (by k_dflt (k_extra "z ev_mem")) PySem.F.slot_list_append PySem.F.type_list_append)))
  k_with "z evl" => (first | with_reducible exact evl_nil | ((fail_if_success (fail_if_success (with_reducible refine' evl_cons ?_ ?_ ?_))); (with_reducible refine evl_cons (by k_dflt (exact Eq.refl true)) (by k_dflt (k_extra "z ev")) (by k_dflt (k_extra "z evl")))))
  k_with "z ev" => (first | with_reducible exact ev_int | with_reducible exact ev_str | with_reducible exact ev_none | ((fail_if_success (fail_if_success (with_reducible refine' ev_loc ?_ ?_ ?_ ?_))); (with_reducible refine ev_loc (by with_reducible assumption) (by with_reducible assumption) (by k_dflt (exact Eq.refl true)) (by k_dflt (first | exact Eq.refl (some _) | with_reducible assumption)))) | ((fail_if_success (fail_if_success (with_reducible refine' ev_glo ?_ ?_ ?_ ?_))); (with_reducible refine ev_glo (by with_reducible assumption) (by with_reducible assumption) (by k_dflt (exact Eq.refl true)) (by k_dflt (k_is)))) | ((fail_if_success (fail_if_success (with_reducible refine' ev_blt ?_ ?_ ?_ ?_ ?_ ?_))); (with_reducible refine ev_blt (by with_reducible assumption) (by with_reducible assumption) (by k_dflt (exact Eq.refl true)) (by k_dflt (k_is)) (by k_dflt (boot_by_name)) (by k_dflt (decide)))) | ((fail_if_success (fail_if_success (with_reducible refine' ev_neg ?_))); (with_reducible refine ev_neg (by k_dflt (k_extra "z ev")))) | ((fail_if_success (fail_if_success (with_reducible refine' ev_add ?_ ?_))); (with_reducible refine ev_add (by k_dflt (k_extra "z ev")) (by k_dflt (k_extra "z ev")))) | ((fail_if_success (fail_if_success (with_reducible refine' ev_sub ?_ ?_))); (with_reducible refine ev_sub (by k_dflt (k_extra "z ev")) (by k_dflt (k_extra "z ev")))) | ((fail_if_success (fail_if_success (with_reducible refine' ev_or ?_ ?_))); (with_reducible refine ev_or (by k_dflt (k_extra "z ev")) (by k_dflt (k_extra "z ev")))) | ((fail_if_success (fail_if_success (with_reducible refine' ev_and ?_ ?_))); (with_reducible refine ev_and (by k_dflt (k_extra "z ev")) (by k_dflt (k_extra "z ev")))) | ((fail_if_success (fail_if_success (with_reducible refine' ev_mod ?_ ?_ ?_))); (with_reducible refine ev_mod (by k_dflt (k_extra "z ev")) (by k_dflt (k_extra "z ev")) (by k_dflt (first | decide | (first | k_extra "z k_ar" | omega))))) | ((fail_if_success (fail_if_success (with_reducible refine' ev_attr ?_ ?_ ?_ ?_ ?_ ?_ ?_ ?_ ?_ ?_ ?_ ?_ ?_ ?_))); (with_reducible refine ev_attr (by with_reducible assumption) (by with_reducible assumption) (by with_reducible assumption) (by k_dflt (k_extra "z ev")) (by k_dflt (k_extra "z ev_mem")) (by k_dflt (k_extra "z ev_mem")) (by k_dflt (assumption)) (by k_dflt (first | with_reducible exact gc_unit | with_reducible exact gc_store | with_reducible exact gc_kt | with_reducible exact gc_diags | with_reducible exact gc_scopes | with_reducible exact gc_rows | with_reducible exact gc_closed | with_reducible exact gc_fn | with_reducible exact gc_owner | with_reducible exact gc_static | with_reducible exact gc_init | with_reducible exact gc_blocks | with_reducible exact gc_at | with_reducible exact gc_notes | rfl)) (by k_dflt (k_is)) (by k_dflt (k_is)) (by k_dflt (k_is)) (by k_dflt (k_is)) (by k_dflt (k_handed)) (by k_dflt (exact Eq.refl true)))) | ((fail_if_success (fail_if_success (with_reducible refine' ev_item (knd := PySem.strKind _ _) ?_ ?_ ?_ ?_ ?_ ?_ (strKind_is _ _ _ _) ?_))); (with_reducible refine ev_item (knd := PySem.strKind _ _) (by with_reducible assumption) (by k_dflt (k_extra "z ev")) (by k_dflt (k_extra "z ev")) (by k_dflt (exact Eq.refl true)) (by k_dflt (k_extra "z ev_mem")) (by k_dflt (assumption)) (strKind_is _ _ _ _) (by k_dflt (first | with_reducible exact gw_in | with_reducible exact gw_at | with_reducible exact gw_left | with_reducible exact gw_vars | with_reducible exact gw_scopes | with_reducible exact gw_told | with_reducible exact gw_consts | with_reducible exact gw_made | with_reducible exact gw_stands | with_reducible exact gw_types | with_reducible exact gw_none | rfl)))))
  k_with "z ev_off" => (first | exact off_same | assumption | (refine off_bind ?_ (Eq.refl true); k_extra "z ev_off"))
  k_with "z ev_room" => (first | exact roomA (by with_reducible assumption) | exact roomB (by with_reducible assumption) (by exact Eq.refl true) | exact roomC (by with_reducible assumption) (by exact Eq.refl true) | exact roomD (by with_reducible assumption) (by exact Eq.refl true) | exact room1 (by with_reducible assumption) (by exact Eq.refl true) | exact room2 (by with_reducible assumption) (by exact Eq.refl true) | exact rooU1 (by with_reducible assumption) (by exact Eq.refl true) | exact rooU2 (by with_reducible assumption) (by exact Eq.refl true) | exact room3 (by with_reducible assumption) (by exact Eq.refl true) | exact rooU3 (by with_reducible assumption) (by exact Eq.refl true) | exact room1 (by assumption) (by exact Eq.refl true) | exact rooU1 (by assumption) (by exact Eq.refl true) | exact room2 (by assumption) (by exact Eq.refl true) | exact rooU2 (by assumption) (by exact Eq.refl true) | exact room3 (by assumption) (by exact Eq.refl true) | exact rooU3 (by assumption) (by exact Eq.refl true) | exact roomE (by assumption) (by exact Eq.refl true) | exact roomF (by assumption) (by exact Eq.refl true) | exact rooUE (by assumption) (by exact Eq.refl true) | ((try simp +zetaDelta only [depth_under_make, depth_under_kw, depth_in1, depth_deeper, depth_caller, units_under_make, units_in1, units_deeper, Around.mark_units, units_caller]); (try dsimp only [ktrTop]); (first | lia | omega)))
  k_with "z enterF" => (first | ((fail_if_success (fail_if_success (refine' enterZ ?_ ?_ ?_ ?_ ?_ ?_ ?_ ?_ ?_ ?_ ?_ ?_ ?_ ?_))); refine enterZ (by exact rfl) (by exact Eq.refl (some _)) (by first | exact Eq.refl ScopeKind.function | assumption) (by k_asm) (by k_asm) (by k_asm) (by k_asm) (by k_asm) (by k_is) (by k_is) (by first | k_extra "z ev_room" | ktr_room) (by exact BindsTo.of_eq rfl) (by exact Eq.refl true) ?_; intro zqg' zqL' zqh' zqtk' zqQ1 zqenv' zqA' zqm0 zqF' zqN' zqB' zqX' zqT' zqbo zqhq) | ((fail_if_success (fail_if_success (refine' enterG ?_ ?_ ?_ ?_ ?_ ?_ ?_ ?_ ?_ ?_ ?_ ?_ ?_ ?_ ?_ ?_ ?_ ?_))); refine enterG (by exact rfl) (by exact rfl) (by first | exact rfl | assumption) (by k_asm) (by k_asm) (by k_asm) (by k_asm) (by k_asm) (by k_is) (by k_is) (by first | k_extra "z ev_room" | ktr_room) (by first | exact BindsTo.of_eq rfl | exact binds_K (by k_in) rfl (by k_is) rfl rfl rfl) (by exact locs rfl) ?_ (by exact rfl) (by exact rfl) (by exact rfl) (by decide); intro zqg' zqL' zqh' zqtk' zqQ1 zqenv' zqA' zqm0 zqF' zqN' zqB' zqX' zqT' zqbo zqhq) | ((fail_if_success (fail_if_success (refine' enterI ?_ ?_ ?_ ?_ ?_ ?_ ?_ ?_ ?_ ?_ ?_ ?_ ?_ ?_))); refine enterI (by exact rfl) (by exact Eq.refl (some _)) (by first | exact Eq.refl ScopeKind.function | assumption) (by k_asm) (by k_asm) (by k_asm) (by k_asm) (by k_asm) (by k_is) (by k_is) (by first | k_extra "z ev_room" | ktr_room) (by exact BindsTo.of_eq rfl) (by exact Eq.refl true) ?_; intro zqg' zqL' zqh' zqtk' zqQ1 zqenv' zqA' zqm0 zqF' zqN' zqB' zqX' zqT' zqbo zqhq) | ((fail_if_success (fail_if_success (refine' enterIG ?_ ?_ ?_ ?_ ?_ ?_ ?_ ?_ ?_ ?_ ?_ ?_ ?_ ?_ ?_ ?_ ?_ ?_))); refine enterIG (by exact rfl) (by exact rfl) (by first | exact rfl | assumption) (by k_asm) (by k_asm) (by k_asm) (by k_asm) (by k_asm) (by k_is) (by k_is) (by first | k_extra "z ev_room" | ktr_room) (by first | exact BindsTo.of_eq rfl | exact binds_K (by k_in) rfl (by k_is) rfl rfl rfl) (by exact locs rfl) ?_ (by exact rfl) (by exact rfl) (by exact rfl) (by decide); intro zqg' zqL' zqh' zqtk' zqQ1 zqenv' zqA' zqm0 zqF' zqN' zqB' zqX' zqT' zqbo zqhq))
  k_with "z eval Name" => ((k_here; k_dflt (refine evQ (by k_extra "z ev") ?_); intro zqtk'))
  k_with "z eval Attribute" => ((k_here; k_dflt (refine evQ (by k_extra "z ev") ?_); intro zqtk'))
  k_with "z eval Attribute Name" => ((k_here; k_dflt (refine evQ (by k_extra "z ev") ?_); intro zqtk'))
  k_with "z eval Attribute Attribute" => ((k_here; k_dflt (refine evQ (by k_extra "z ev") ?_); intro zqtk'))
  k_with "z eval Subscript" => ((k_here; k_dflt (refine evQ (by k_extra "z ev") ?_); intro zqtk'))
  k_with "z eval BinOp" => ((k_here; k_dflt (refine evQ (by k_extra "z ev") ?_); intro zqtk'))
  k_with "z eval UnaryOp" => ((k_here; k_dflt (refine evQ (by k_extra "z ev") ?_); intro zqtk'))
  k_with "z eval Constant int" => ((k_here; k_dflt (refine evQ (by k_extra "z ev") ?_); intro zqtk'))
  k_with "z eval Constant str" => ((k_here; k_dflt (refine evQ (by k_extra "z ev") ?_); intro zqtk'))
  k_with "z spliced" => ((k_here; k_dflt (refine evlQ (by k_extra "z evl") ?_); intro zqtk'))
  k_with "z isTrue Compare" => ((k_here; k_dflt (first | ((fail_if_success (fail_if_success (with_reducible refine' tc_eq ?_ ?_ ?_ ?_))); (with_reducible refine tc_eq (by k_dflt (exact Eq.refl false)) (by k_dflt (k_extra "z ev")) (by k_dflt (k_extra "z ev")) ?_)) | ((fail_if_success (fail_if_success (with_reducible refine' tc_ne ?_ ?_ ?_ ?_))); (with_reducible refine tc_ne (by k_dflt (exact Eq.refl false)) (by k_dflt (k_extra "z ev")) (by k_dflt (k_extra "z ev")) ?_)) | ((fail_if_success (fail_if_success (with_reducible refine' tc_lt ?_ ?_ ?_ ?_))); (with_reducible refine tc_lt (by k_dflt (exact Eq.refl false)) (by k_dflt (k_extra "z ev")) (by k_dflt (k_extra "z ev")) ?_)) | ((fail_if_success (fail_if_success (with_reducible refine' tc_le ?_ ?_ ?_ ?_))); (with_reducible refine tc_le (by k_dflt (exact Eq.refl false)) (by k_dflt (k_extra "z ev")) (by k_dflt (k_extra "z ev")) ?_)) | ((fail_if_success (fail_if_success (with_reducible refine' tc_gt ?_ ?_ ?_ ?_))); (with_reducible refine tc_gt (by k_dflt (exact Eq.refl false)) (by k_dflt (k_extra "z ev")) (by k_dflt (k_extra "z ev")) ?_)) | ((fail_if_success (fail_if_success (with_reducible refine' tc_ge ?_ ?_ ?_ ?_))); (with_reducible refine tc_ge (by k_dflt (exact Eq.refl false)) (by k_dflt (k_extra "z ev")) (by k_dflt (k_extra "z ev")) ?_)) | ((fail_if_success (fail_if_success (with_reducible refine' tc_any ?_ ?_ ?_ ?_))); (with_reducible refine tc_any (by k_dflt (exact Eq.refl false)) (by k_dflt (k_extra "z ev")) (by k_dflt (k_extra "z ev")) ?_))); intro zqtk'))
  k_with "z execs cons" => ((k_here; k_dflt ((fail_if_success (fail_if_success (with_reducible refine' sAsg ?_ ?_ ?_ ?_ ?_ ?_ ?_))); (with_reducible refine sAsg (by with_reducible assumption) (by with_reducible assumption) (by with_reducible assumption) (by k_dflt (exact Eq.refl true)) (by k_dflt (exact Eq.refl true)) (by k_dflt (k_extra "z ev")) ?_)); intro zqh' zqtk' zqm' zqF' zqN'; (try k_sweep)))
  k_with "z execs cons" => ((k_here; k_dflt ((fail_if_success (fail_if_success (with_reducible refine' sRet ?_ ?_))); (with_reducible refine sRet (by k_dflt (k_extra "z ev")) ?_)); intro zqtk'))
  k_with "z AsgW" => ((k_here; k_dflt ((fail_if_success (fail_if_success (with_reducible refine' zAsgW ?_ ?_ ?_ ?_ ?_ ?_))); (with_reducible refine zAsgW (by with_reducible assumption) (by with_reducible assumption) (by with_reducible assumption) (by with_reducible assumption) (by k_dflt (exact Eq.refl true)) ?_)); intro zqh' zqtk' zqm' zqF' zqN'; (try k_sweep)))
  k_with "z FunQ ret" => ((k_here; k_dflt ((fail_if_success (fail_if_success (refine' zFunRet ?_ ?_ ?_ ?_))); refine zFunRet (by with_reducible assumption) (by with_reducible assumption) (by with_reducible assumption) ?_); intro zqkF zqkN; (try k_sweep)))
  k_with "z FunQ next" => ((k_here; k_dflt ((fail_if_success (fail_if_success (refine' zFunNext ?_ ?_ ?_ ?_))); refine zFunNext (by with_reducible assumption) (by with_reducible assumption) (by with_reducible assumption) ?_); intro zqkF zqkN; (try k_sweep)))
  k_with "z eval Call" => ((k_here; k_dflt ((fail_if_success (fail_if_success (with_reducible refine' callG0 ?_ ?_ ?_ ?_ ?_ ?_))); (with_reducible refine callG0 (by with_reducible assumption) (by with_reducible assumption) (by k_dflt (exact Eq.refl true)) (by k_dflt (k_is)) (by k_dflt (k_is)) ?_))))
  k_with "z call builtin:list.append" => ((k_here; dsimp only [List.cons_append, List.nil_append]))
  k_with "z eval Call" => ((k_here; k_dflt ((fail_if_success (fail_if_success (with_reducible refine' callW ?_ ?_ ?_ ?_ ?_ ?_ ?_))); (with_reducible refine callW (by with_reducible assumption) (by with_reducible assumption) (by k_dflt (exact Eq.refl true)) (by k_dflt (k_is)) (by k_dflt (k_is)) (by k_dflt (exact Eq.refl true)) ?_)); intro zqQ1 zqhq))
  k_with "z eval Call Attribute" => ((k_here; k_dflt ((fail_if_success (fail_if_success (with_reducible refine' methW ?_ ?_ ?_ ?_ ?_ ?_ ?_ ?_ ?_ ?_ ?_ ?_ ?_ ?_ ?_))); (with_reducible refine methW (by with_reducible assumption) (by with_reducible assumption) (by with_reducible assumption) (by k_dflt (k_extra "z ev")) (by k_dflt (k_extra "z ev_mem")) (by k_dflt (k_extra "z ev_mem")) (by k_dflt (assumption)) (by k_dflt (rfl)) (by k_dflt (k_is)) (by k_dflt (k_is)) (by k_dflt (k_is)) (by k_dflt (k_is)) (by k_dflt (exact rfl)) (by k_dflt (exact Eq.refl true)) ?_)); intro zqtk' zqQ1 zqhq))
  k_with "z eval Call Attribute" => ((k_here; k_dflt ((fail_if_success (fail_if_success (with_reducible refine' methBW ?_ ?_ ?_ ?_ ?_))); (with_reducible refine methBW (by k_dflt (k_extra "z ev")) (by k_dflt (k_extra "z ev_mt")) (by k_dflt (exact rfl)) (by k_dflt (exact Eq.refl true)) ?_)); intro zqtk'))
  k_with "z ArgW" => ((k_here; first | ((fail_if_success (fail_if_success (with_reducible refine' zArg ?_ ?_ ?_ ?_))); (with_reducible refine zArg (by with_reducible assumption) (by with_reducible assumption) (by with_reducible assumption) ?_)) | ((fail_if_success (fail_if_success (with_reducible refine' zArg1 ?_ ?_ ?_ ?_))); (with_reducible refine zArg1 (by with_reducible assumption) (by with_reducible assumption) (by with_reducible assumption) ?_))))
  k_with "z eval Call" => ((k_here; k_dflt ((fail_if_success (fail_if_success (with_reducible refine' callG ?_ ?_ ?_ ?_ ?_ ?_ ?_ ?_))); (with_reducible refine callG (by with_reducible assumption) (by with_reducible assumption) (by k_dflt (exact Eq.refl true)) (by k_dflt (k_is)) (by k_dflt (k_is)) (by k_dflt (exact Eq.refl true)) (by k_dflt (k_extra "z evl")) ?_)); intro zqtk'))
  k_with "z eval Tuple" => ((k_here; k_dflt ((fail_if_success (fail_if_success (with_reducible refine' tupG ?_ ?_ ?_))); (with_reducible refine tupG (by k_dflt (exact Eq.refl true)) (by k_dflt (k_extra "z evl")) ?_)); intro zqtk'))
  k_with "z eval List" => ((k_here; k_dflt ((fail_if_success (fail_if_success (with_reducible refine' lstG ?_ ?_ ?_))); (with_reducible refine lstG (by k_dflt (exact Eq.refl true)) (by k_dflt (k_extra "z evl")) ?_)); intro zqtk'))
  k_with "z ev" => (((fail_if_success (fail_if_success (with_reducible refine' ev_len ?_ ?_ ?_ ?_ ?_ ?_ ?_ ?_ ?_))); (with_reducible refine ev_len (by with_reducible assumption) (by with_reducible assumption) (by with_reducible assumption) (by k_dflt (exact Eq.refl true)) (by k_dflt (k_is)) (by k_dflt (exact Eq.refl true)) (by k_dflt (k_extra "z ev")) (by k_dflt (k_extra "z ev_mem")) (by k_dflt (first | assumption | (first | k_extra "z k_ar" | omega) | (simp; (first | k_extra "z k_ar" | omega)))))))
  k_with "z eval Call" => ((k_here; k_dflt ((fail_if_success (fail_if_success (with_reducible refine' callB ?_ ?_ ?_ ?_ ?_ ?_ ?_ ?_ ?_))); (with_reducible refine callB (by with_reducible assumption) (by with_reducible assumption) (by k_dflt (exact Eq.refl true)) (by k_dflt (k_is)) (by k_dflt (boot_by_name)) (by k_dflt (decide)) (by k_dflt (exact Eq.refl true)) (by k_dflt (k_extra "z evl")) ?_)); intro zqtk'))
  k_with "z eval Call" => ((k_here; k_dflt ((fail_if_success (fail_if_success (with_reducible refine' callT ?_ ?_ ?_ ?_ ?_ ?_ ?_ ?_ ?_))); (with_reducible refine callT (by with_reducible assumption) (by with_reducible assumption) (by k_dflt (exact Eq.refl true)) (by k_dflt (k_is)) (by k_dflt (boot_by_name)) (by k_dflt (decide)) (by k_dflt (exact Eq.refl true)) (by k_dflt (k_extra "z evl")) ?_)); intro zqtk'))
  k_with "z eval Call Attribute" => ((k_here; k_dflt ((fail_if_success (fail_if_success (with_reducible refine' methG ?_ ?_ ?_ ?_ ?_ ?_ ?_ ?_ ?_ ?_ ?_ ?_ ?_ ?_ ?_ ?_))); (with_reducible refine methG (by with_reducible assumption) (by with_reducible assumption) (by with_reducible assumption) (by k_dflt (k_extra "z ev")) (by k_dflt (k_extra "z ev_mem")) (by k_dflt (k_extra "z ev_mem")) (by k_dflt (assumption)) (by k_dflt (rfl)) (by k_dflt (k_is)) (by k_dflt (k_is)) (by k_dflt (k_is)) (by k_dflt (k_is)) (by k_dflt (exact rfl)) (by k_dflt (exact Eq.refl true)) (by k_dflt (k_extra "z evl")) ?_)); intro zqtk'))
  k_with "z eval Call Attribute" => ((k_here; k_dflt ((fail_if_success (fail_if_success (with_reducible refine' methB ?_ ?_ ?_ ?_ ?_ ?_))); (with_reducible refine methB (by k_dflt (k_extra "z ev")) (by k_dflt (k_extra "z ev_mt")) (by k_dflt (exact rfl)) (by k_dflt (exact Eq.refl true)) (by k_dflt (k_extra "z evl")) ?_)); intro zqtk'))
  k_with "z execs cons" => ((k_here; ((fail_if_success (fail_if_success (with_reducible refine' sExp ?_ ?_ ?_))); (with_reducible refine sExp (by with_reducible assumption) (by k_dflt (k_dflt (exact Eq.refl true))) ?_); intro zqQ1 zqhq)))
  k_with "z InitQ" => ((with_reducible refine initQ ?_))
  k_with "z ExpW" => ((with_reducible refine zExp (by assumption) ?_))
  k_with "z execs cons" => ((k_here; k_dflt ((fail_if_success (fail_if_success (with_reducible refine' sSet ?_ ?_ ?_ ?_))); (with_reducible refine sSet (by k_dflt (exact Eq.refl true)) (by k_dflt (k_extra "z ev")) (by k_dflt (k_extra "z ev")) ?_)); intro zqtk'))
  k_with "z execs cons" => ((k_here; k_dflt ((fail_if_success (fail_if_success (with_reducible refine' sItm ?_ ?_ ?_ ?_ ?_))); (with_reducible refine sItm (by k_dflt (exact Eq.refl true)) (by k_dflt (k_extra "z ev")) (by k_dflt (k_extra "z ev")) (by k_dflt (k_extra "z ev")) ?_)); intro zqtk'))
  trivial
theorem take_arith {n x : Int} (hn : 0 < n) (hx : 0 ≤ x ∧ x < 1000003) : (0 ≤ x.fdiv n ∧ x.fdiv n < 1000003) ∧ (0 ≤ x.fmod n ∧ x.fmod n < n) := by
  rw [Int.fdiv_eq_ediv_of_nonneg _ (by (first | k_extra "z k_ar" | omega)), Int.fmod_eq_emod_of_nonneg _ (by (first | k_extra "z k_ar" | omega))]
  have h1 := Int.ediv_nonneg hx.1 (by (first | k_extra "z k_ar" | omega) : 0 ≤ n)
  have h2 := Int.ediv_le_self n hx.1
  have h3 := Int.emod_nonneg x (by (first | k_extra "z k_ar" | omega) : n ≠ 0)
  have h4 := Int.emod_lt_of_pos x hn
  (first | k_extra "z k_ar" | omega)
theorem getD_in {l : List Int} {i : Nat} (h : i < l.length) : l.getD i 0 ∈ l := by
  rw [List.getD_eq_getElem?_getD, List.getElem?_eq_getElem h]; exact List.getElem_mem h
section
variable {w : World} {p : Program} {loose : List Str} {mean : ExcName → Option Value} {mg mb : Str → Option Value}
    {dp un : Nat} {gd : Option (List Code)} {cn : Str} {cs : Scope} {a : Addr} {ccd : Value} {cl : List (Str × Addr)} {outer : List Env} {A₀ : Around} {base h₀ : Heap} {L : Addr} {m : Str → Option Value} {s : Shared} {hS : Heap} {gS : Array GenState} {dS : Drawn} {tS : Nat} {oS : OsState}
    {Q E : Value → Shared → Prop} {f : Fix} {r : Raw} {Z : List (Addr × Obj)}
theorem take_spec {at_ left : Int} {tat tleft : Tok} {vmade vstands vnone : Value} {n : Int} {tn : Tok}
    (C : Cx w p loose mean mg mb cs outer A₀ base h₀ L m hS (Z ++ led f r)) (nd : Sep f r Z)
    (hW : r.ow.IsDictOf (strKind PR w) (wK f (.int at_ tat) (.int left tleft) vmade vstands vnone))
    (hin : (f.ain, listOf f.ins.toArray f.nin) ∈ r.imm) (hi : IntsAre f.ins f.ns)
    (hb : ∀ i ∈ f.ns, 0 ≤ i ∧ i < 1000003) (hat : 0 ≤ at_ ∧ at_ ≤ 100) (hleft : 0 ≤ left ∧ left < 1000003) (hlen : f.ns.length ≤ 20)
    (hn : 0 < n ∧ n < 10) (hdp : dp + 5 < recursionLimit) (hu : un + 40 < cLine)
    (ret : ∀ at' tat' left' tleft' g tg h' tk' ow', Fr h₀ L h' m → News h₀ L h' (Z ++ led f (r.s_ow ow')) → Sep f (r.s_ow ow') Z → ow'.IsDictOf (strKind PR w) (wK f (.int at' tat') (.int left' tleft') vmade vstands vnone) →
      0 ≤ at' ∧ at' ≤ 100 → 0 ≤ left' ∧ left' < 1000003 → 0 ≤ g ∧ g < n →
        Q (.int g tg) ⟨h', gS, dS, tk', oS⟩) :
    wpAny (model PR w) (ktrTop dp un gd cn cs L a ccd cl outer) (call (.ref 936) [.ref f.aw, .int n tn]) Q E ⟨hS, gS, dS, tS, oS⟩ := by
 k_with "b" =>
  obtain ⟨B, F, X, N, T, hk⟩ := C
  have hil := hi.length
  k_dflt k_extra "z enterF"
  k_steps
  all_goals (refine ret _ _ _ _ _ _ _ _ _ (by k_asm) (by k_asm) (by assumption) (by assumption) ?_ ?_ ?_)
  all_goals first
    | (first | k_extra "z k_ar" | omega)
    | exact (take_arith hn.1 hleft).1
    | exact (take_arith hn.1 hleft).2
    | (have hx := hb _ (getD_in (l := f.ns) (i := at_.toNat) (by simp at *; (first | k_extra "z k_ar" | omega))); first | exact (take_arith hn.1 hx).1 | exact (take_arith hn.1 hx).2)
    | (simp at *; (first | k_extra "z k_ar" | omega))
 refine no_implicit_lambda% (qo ?_)
 simp (disch := k_dflt k_extra "b") only [↓qs]
end
section
variable {prog : Program} {w : World} {A : Around} {E : Value → Shared → Prop} {s : Shared} {hS : Heap} {gS : Array GenState} {dS : Drawn} {tS : Nat} {oS : OsState} {env : Env} {h₀ : Heap} {x : Str} {body : List Stmt} {Q : Flow → Shared → Prop}
noncomputable def TurnE (h₀ : Heap) (L I : Addr) (io : Obj) (J : (Str → Option Value) → List (Addr × Obj) → Prop) (need : List (Addr × Obj)) (gS : Array GenState) (dS : Drawn) (oS : OsState) (Q : Flow → Shared → Prop) (f : Flow) (s₂ : Shared) : Prop :=
  match f with
  | .ret v => Q (.ret v) s₂
  | .brk => Q .next s₂
  | _ => ∃ h' tk m' news', s₂ = ⟨h', gS, dS, tk, oS⟩ ∧ Fr h₀ L h' m' ∧ News h₀ L h' ((I, io) :: news') ∧ (∀ p ∈ need, p ∈ news') ∧ (∀ p ∈ news', p.1 ≠ I) ∧ J m' news'
theorem turn_next {h₀ h' : Heap} {L I : Addr} {io : Obj} {J : (Str → Option Value) → List (Addr × Obj) → Prop} {need : List (Addr × Obj)} {gS : Array GenState} {dS : Drawn} {oS : OsState} {s₂ : Shared} {tk : Nat} {m' : Str → Option Value} (news' : List (Addr × Obj)) (F : Fr h₀ L h' m') (N : News h₀ L h' ((I, io) :: news')) (hn : ∀ p ∈ need, p ∈ news') (ha : ∀ p ∈ news', p.1 ≠ I) (hj : J m' news')
    (e : s₂ = ⟨h', gS, dS, tk, oS⟩) : TurnE h₀ L I io J need gS dS oS Q .next s₂ := ⟨h', tk, m', news', e, F, N, hn, ha, hj⟩
theorem turn_end {h₀ : Heap} {L I : Addr} {io : Obj} {J : (Str → Option Value) → List (Addr × Obj) → Prop} {need own : List (Addr × Obj)} {fp : List Addr} {gS : Array GenState} {dS : Drawn} {oS : OsState} {s₁ s₂ : Shared} {f : Flow} {Jn : (Str → Option Value) → List (Addr × Obj) → Prop}
    (hs : ∃ h tk, s₁ = ⟨h, gS, dS, tk, oS⟩) (hsub : ∀ p ∈ own, p = (I, io) ∨ p ∈ need) (hJ : ∀ m n, J m n → (∀ p ∈ need, p ∈ n) → Jn m n)
    (e : TurnE h₀ L I io J need gS dS oS Q f s₂) : LoopStepV h₀ L [I] own Jn s₁ (fun v s' => Q (.ret v) s') (fun s' => Q .next s') f s₂ := by
  obtain ⟨hh, tt, rfl⟩ := hs
  have key : (∃ h' tk m' news', s₂ = ⟨h', gS, dS, tk, oS⟩ ∧ Fr h₀ L h' m' ∧ News h₀ L h' ((I, io) :: news') ∧ (∀ p ∈ need, p ∈ news') ∧ (∀ p ∈ news', p.1 ≠ I) ∧ J m' news') →
      LoopStepU h₀ L [I] own Jn ⟨hh, gS, dS, tt, oS⟩ .next s₂ := by
    rintro ⟨h', tk, m', news', rfl, F, N, hn, ha, hj⟩
    refine ⟨rfl, h', tk, m', news', rfl, F, fun p hp => ?_, fun p hp hm => ha p hp (List.mem_singleton.mp hm), hJ _ _ hj hn⟩
    rcases List.mem_append.mp hp with hp | hp
    · rcases hsub p hp with rfl | hp
      · exact N _ (.head _)
      · exact N _ (.tail _ (hn p hp))
    · exact N _ (.tail _ hp)
  cases f with
  | ret v => exact .ret e
  | brk => exact .brk e
  | next => exact .next (key e)
  | cont => exact .cont (key e)
theorem iterL {LL : Addr} {l : Addr} {its : Array Value} {n : Nat} {m₀ : Str → Option Value} {news : List (Addr × Obj)} (J : Nat → (Str → Option Value) → List (Addr × Obj) → Prop)
    (hh : A.handled = none) (F : Fr h₀ LL hS m₀) (N : News h₀ LL hS news) (hp : (l, listOf its n) ∈ news) (hj : J 0 m₀ news)
    (turn : ∀ i v m₁ news₁ I io h tk, its[i]? = some v → J i m₁ news₁ → (l, listOf its n) ∈ news₁ → (∀ p ∈ news₁, p.1 ≠ I) → Fr h₀ LL h (fun y => if y = x then some v else m₁ y) → News h₀ LL h ((I, io) :: news₁) →
      wpAny (model prog w) A (execs body env) (TurnE h₀ LL I io (J (i + 1)) [(l, listOf its n)] gS dS oS Q) E ⟨h, gS, dS, tk, oS⟩)
    (done : ∀ m₁ news₁ h tk, J its.size m₁ news₁ → Fr h₀ LL h m₁ → News h₀ LL h news₁ → Q .next ⟨h, gS, dS, tk, oS⟩)
    (hL : env.locals = LL := by rfl) :
    wpAny (model prog w) A (pyIter (.ref l)) (fun it s₂ => LoopAtV prog w A h₀ env x body Q E it s₂) E ⟨hS, gS, dS, tS, oS⟩ := by
  subst hL
  have hl : hS.get? l = some (listOf its n) := (N _ hp).1
  have hls : hS.IsList l its := ⟨_, hl, rfl, n, rfl⟩
  have hlL : l ≠ env.locals := (N _ hp).2.1
  have hne : l ≠ hS.objs.size := Nat.ne_of_lt (Heap.lt_size hl)
  refine wpAny_pyIter_list hls ?_
  have W := Walks.list (prog := prog) (w := w) hh hS.objs.size l hne its
  refine ⟨_, _, _, its.size, _, _, m₀, news, fun i m₁ news₁ => J i m₁ news₁ ∧ ∀ p ∈ [(l, listOf its n)], p ∈ news₁, rfl, W, ?_, ?_, ?_, ⟨⟨_, Heap.get?_push_size _ rfl, rfl, rfl⟩, hls.at fun o e => Heap.get?_push_of_some _ e⟩, F.push _, (fun p hp => ⟨Heap.get?_push_of_some _ (N p hp).1, (N p hp).2⟩), ⟨hj, fun p hm => by rw [List.mem_singleton.mp hm]; exact hp⟩, ?_, ?_⟩
  · intro hm
    rcases List.mem_cons.mp hm with e | hm
    · exact absurd F.ns.lt (e ▸ Nat.lt_irrefl _)
    · exact hlL (List.mem_singleton.mp hm).symm
  · intro b hb
    rw [List.mem_singleton.mp hb]
    exact next_is_new F
  · intro p hp hI
    exact absurd (Heap.lt_size (N p hp).1) ((List.mem_singleton.mp hI) ▸ Nat.lt_irrefl _)
  · rintro i v m₁ news₁ s₁ own ⟨hh', tk', rfl⟩ hin hP ⟨hJ, hneed⟩ hoff hsub hget hall hst F₁ N₁
    obtain ⟨io, hio, _⟩ := hst.1
    have hIo : (hS.objs.size, io) ∈ own := hall _ (.head _) (next_is_new F) _ hio
    have hl1 : (l, listOf its n) ∈ news₁ := hneed _ (.head _)
    have N2 : News h₀ env.locals hh' ((hS.objs.size, io) :: news₁) := fun p hp => by
      rcases List.mem_cons.mp hp with rfl | hp
      · exact N₁ _ (List.mem_append_left _ hIo)
      · exact N₁ _ (List.mem_append_right _ hp)
    refine wpAny_mono (turn i v m₁ news₁ _ io hh' tk' hP hJ hl1 (fun p hp e => hoff p hp (by rw [e]; exact .head _)) F₁ N2) (fun f s₂ e => ?_) fun _ _ e => e
    refine turn_end (fp := [hS.objs.size, l]) ⟨_, _, rfl⟩ (fun p hp => ?_) (fun m n hj hn => ⟨hj, hn⟩) e
    have hg := hget p hp
    rcases List.mem_cons.mp (hsub p hp) with e1 | e1
    · left
      rw [e1, hio] at hg
      cases p; cases hg; cases e1; rfl
    · right
      have e1 := List.mem_singleton.mp e1
      rw [e1, (N2 _ (.tail _ hl1)).1] at hg
      cases p; cases hg; cases e1; exact .head _
  · rintro h' tk m' news' F' N' _ ⟨hJ, _⟩
    exact done m' news' h' tk hJ F' N'
theorem iterT {LL : Addr} {l : Addr} {vs : List Value} {m₀ : Str → Option Value} {news : List (Addr × Obj)} (J : Nat → (Str → Option Value) → List (Addr × Obj) → Prop)
    (hh : A.handled = none) (F : Fr h₀ LL hS m₀) (N : News h₀ LL hS news) (hp : (l, tupOf vs) ∈ news) (hj : J 0 m₀ news)
    (turn : ∀ i v m₁ news₁ I io h tk, vs[i]? = some v → J i m₁ news₁ → (l, tupOf vs) ∈ news₁ → (∀ p ∈ news₁, p.1 ≠ I) → Fr h₀ LL h (fun y => if y = x then some v else m₁ y) → News h₀ LL h ((I, io) :: news₁) →
      wpAny (model prog w) A (execs body env) (TurnE h₀ LL I io (J (i + 1)) [(l, tupOf vs)] gS dS oS Q) E ⟨h, gS, dS, tk, oS⟩)
    (done : ∀ m₁ news₁ h tk, J vs.length m₁ news₁ → Fr h₀ LL h m₁ → News h₀ LL h news₁ → Q .next ⟨h, gS, dS, tk, oS⟩)
    (hL : env.locals = LL := by rfl) :
    wpAny (model prog w) A (pyIter (.ref l)) (fun it s₂ => LoopAtV prog w A h₀ env x body Q E it s₂) E ⟨hS, gS, dS, tS, oS⟩ := by
  subst hL
  have hl : hS.get? l = some (tupOf vs) := (N _ hp).1
  have hls : hS.IsTuple l vs.toArray := ⟨_, hl, rfl, _, rfl⟩
  have hlL : l ≠ env.locals := (N _ hp).2.1
  have hne : l ≠ hS.objs.size := Nat.ne_of_lt (Heap.lt_size hl)
  refine wpAny_pyIter_tuple hls ?_
  have W := Walks.tuple (prog := prog) (w := w) hh hS.objs.size l hne vs.toArray
  rw [show vs.toArray.size = vs.length from List.size_toArray] at W
  refine ⟨_, _, _, vs.length, _, _, m₀, news, fun i m₁ news₁ => J i m₁ news₁ ∧ ∀ p ∈ [(l, tupOf vs)], p ∈ news₁, rfl, W, ?_, ?_, ?_, ⟨⟨_, Heap.get?_push_size _ rfl, rfl, rfl⟩, hls.at fun o e => Heap.get?_push_of_some _ e⟩, F.push _, (fun p hp => ⟨Heap.get?_push_of_some _ (N p hp).1, (N p hp).2⟩), ⟨hj, fun p hm => by rw [List.mem_singleton.mp hm]; exact hp⟩, ?_, ?_⟩
  · intro hm
    rcases List.mem_cons.mp hm with e | hm
    · exact absurd F.ns.lt (e ▸ Nat.lt_irrefl _)
    · exact hlL (List.mem_singleton.mp hm).symm
  · intro b hb
    rw [List.mem_singleton.mp hb]
    exact next_is_new F
  · intro p hp hI
    exact absurd (Heap.lt_size (N p hp).1) ((List.mem_singleton.mp hI) ▸ Nat.lt_irrefl _)
  · rintro i v m₁ news₁ s₁ own ⟨hh', tk', rfl⟩ hin hP ⟨hJ, hneed⟩ hoff hsub hget hall hst F₁ N₁
    obtain ⟨io, hio, _⟩ := hst.1
    have hIo : (hS.objs.size, io) ∈ own := hall _ (.head _) (next_is_new F) _ hio
    have hl1 : (l, tupOf vs) ∈ news₁ := hneed _ (.head _)
    have N2 : News h₀ env.locals hh' ((hS.objs.size, io) :: news₁) := fun p hp => by
      rcases List.mem_cons.mp hp with rfl | hp
      · exact N₁ _ (List.mem_append_left _ hIo)
      · exact N₁ _ (List.mem_append_right _ hp)
    refine wpAny_mono (turn i v m₁ news₁ _ io hh' tk' (by simpa using hP) hJ hl1 (fun p hp e => hoff p hp (by rw [e]; exact .head _)) F₁ N2) (fun f s₂ e => ?_) fun _ _ e => e
    refine turn_end (fp := [hS.objs.size, l]) ⟨_, _, rfl⟩ (fun p hp => ?_) (fun m n hj hn => ⟨hj, hn⟩) e
    have hg := hget p hp
    rcases List.mem_cons.mp (hsub p hp) with e1 | e1
    · left
      rw [e1, hio] at hg
      cases p; cases hg; cases e1; rfl
    · right
      have e1 := List.mem_singleton.mp e1
      rw [e1, (N2 _ (.tail _ hl1)).1] at hg
      cases p; cases hg; cases e1; exact .head _
  · rintro h' tk m' news' F' N' _ ⟨hJ, _⟩
    exact done m' news' h' tk hJ F' N'
theorem iterR {LL : Addr} {r : Addr} {a₀ b₀ c₀ : Int} {t₀ u₀ v₀ : Tok} {n : Nat} {m₀ : Str → Option Value} {news : List (Addr × Obj)} (J : Nat → (Str → Option Value) → List (Addr × Obj) → Prop)
    (hh : A.handled = none) (hr : IsRange hS r a₀ b₀ c₀ t₀ u₀ v₀) (hsmall : Builtin.Range.small a₀ b₀ c₀ = true) (hn : Builtin.Range.rangeSize a₀ b₀ c₀ = (n : Int))
    (F : Fr h₀ LL hS m₀) (N : News h₀ LL hS news) (hj : J 0 m₀ news)
    (turn : ∀ i t m₁ news₁ I io h tk, i < n → J i m₁ news₁ → (∀ p ∈ news₁, p.1 ≠ I) → Fr h₀ LL h (fun y => if y = x then some (.int (a₀ + (i : Nat) * c₀) t) else m₁ y) → News h₀ LL h ((I, io) :: news₁) →
      wpAny (model prog w) A (execs body env) (TurnE h₀ LL I io (J (i + 1)) [] gS dS oS Q) E ⟨h, gS, dS, tk, oS⟩)
    (done : ∀ m₁ news₁ h tk, J n m₁ news₁ → Fr h₀ LL h m₁ → News h₀ LL h news₁ → Q .next ⟨h, gS, dS, tk, oS⟩)
    (hL : env.locals = LL := by rfl) :
    wpAny (model prog w) A (pyIter (.ref r)) (fun it s₂ => LoopAtV prog w A h₀ env x body Q E it s₂) E ⟨hS, gS, dS, tS, oS⟩ := by
  subst hL
  refine wpAny_pyIter_range hr hsmall ?_
  have W := Walks.range (prog := prog) (w := w) hh hS.objs.size a₀ c₀ n
  refine ⟨_, _, _, n, _, _, m₀, news, J, rfl, W, ?_, ?_, ?_, (by show IsRangeIter _ _ _ _ _; rw [hn]; simpa using Heap.get?_push_size _ rfl), F.push _, (fun p hp => ⟨Heap.get?_push_of_some _ (N p hp).1, (N p hp).2⟩), hj, ?_, ?_⟩
  · intro hm
    exact absurd F.ns.lt ((List.mem_singleton.mp hm) ▸ Nat.lt_irrefl _)
  · intro b hb
    rw [List.mem_singleton.mp hb]
    exact next_is_new F
  · intro p hp hI
    exact absurd (Heap.lt_size (N p hp).1) ((List.mem_singleton.mp hI) ▸ Nat.lt_irrefl _)
  · rintro i v m₁ news₁ s₁ own ⟨hh', tk', rfl⟩ hin ⟨t, rfl⟩ hJ hoff hsub hget hall hst F₁ N₁
    have hio := hst
    have hIo := hall _ (.head _) (next_is_new F) _ hio
    have N2 : News h₀ env.locals hh' ((hS.objs.size, _) :: news₁) := fun p hp => by
      rcases List.mem_cons.mp hp with rfl | hp
      · exact N₁ _ (List.mem_append_left _ hIo)
      · exact N₁ _ (List.mem_append_right _ hp)
    refine wpAny_mono (turn i t m₁ news₁ _ _ hh' tk' hin hJ (fun p hp e => hoff p hp (by rw [e]; exact .head _)) F₁ N2) (fun f s₂ e => ?_) fun _ _ e => e
    refine turn_end (fp := [hS.objs.size]) ⟨_, _, rfl⟩ (fun p hp => ?_) (fun m n hj hn => hj) e
    have hg := hget p hp
    have e1 := List.mem_singleton.mp (hsub p hp)
    left
    have hio' : hh'.get? hS.objs.size = some _ := hio
    rw [e1] at hg
    rw [hio'] at hg
    cases p; cases hg; cases e1; rfl
  · rintro h' tk m' news' F' N' _ hJ
    exact done m' news' h' tk hJ F' N'
end
inductive UnitP (w : World) (f : Fix) (imm : List (Addr × Obj)) : Prop
  | mk (o : Obj) (a b c d e : Value) : (f.aunitd, o) ∈ imm → o.IsDictOf (strKind PR w) (unitK f a b c d e) → UnitP w f imm
inductive DgP (w : World) (f : Fix) (imm : List (Addr × Obj)) : Prop
  | mk (o : Obj) : (f.adiagsd, o) ∈ imm → o.IsDictOf (strKind PR w) (diagsK f) → DgP w f imm
structure Sta (w : World) (f : Fix) (imm : List (Addr × Obj)) : Prop where
  cx : (f.acx, instObj 766 f.acxd) ∈ imm
  unit : (f.aunit, instObj 397 f.aunitd) ∈ imm
  unitd : UnitP w f imm
  dg : (f.adiags, instObj 327 f.adiagsd) ∈ imm
  dgd : DgP w f imm
  ain : (f.ain, listOf f.ins.toArray f.nin) ∈ imm
  inx : IntsAre f.ins f.ns
  low : ∀ i ∈ f.ns, 0 ≤ i ∧ i < 1000003
  len : f.ns.length ≤ 20
theorem Sta.mono {w : World} {f : Fix} {imm imm' : List (Addr × Obj)} (S : Sta w f imm) (h : ∀ p ∈ imm, p ∈ imm') : Sta w f imm' where
  cx := h _ S.cx
  unit := h _ S.unit
  unitd := let ⟨_, _, _, _, _, _, a, b⟩ := S.unitd; ⟨_, _, _, _, _, _, h _ a, b⟩
  dg := h _ S.dg
  dgd := let ⟨_, a, b⟩ := S.dgd; ⟨_, h _ a, b⟩
  ain := h _ S.ain
  inx := S.inx
  low := S.low
  len := S.len
theorem Sta.cons {w : World} {f : Fix} {imm : List (Addr × Obj)} (S : Sta w f imm) (q : Addr × Obj) : Sta w f (q :: imm) := S.mono fun _ h => .tail _ h
/- what a node in the asking function's own ledger is -/
inductive NodeAt (w : World) (l : List (Addr × Obj)) (an : Addr) (at_ : Int) : Prop
  | mk (nd : Addr) (on : Obj) (t : Tok) (a b c d e : Value) : (an, instObj 285 nd) ∈ l → (nd, on) ∈ l → on.IsDictOf (strKind PR w) (nodeK a b c d (.int at_ t) e) → NodeAt w l an at_
theorem NodeAt.mono {w : World} {l l' : List (Addr × Obj)} {an : Addr} {x : Int} (h : NodeAt w l an x) (k : ∀ p ∈ l, p ∈ l') : NodeAt w l' an x := let ⟨_, _, _, _, _, _, _, _, a, b, c⟩ := h; ⟨_, _, _, _, _, _, _, _, k _ a, k _ b, c⟩
section
variable {w : World} {p : Program} {loose : List Str} {mean : ExcName → Option Value} {mg mb : Str → Option Value}
    {dp un : Nat} {gd : Option (List Code)} {cn : Str} {cs : Scope} {a : Addr} {ccd : Value} {cl : List (Str × Addr)} {outer : List Env} {A₀ : Around} {base h₀ : Heap} {L : Addr} {m : Str → Option Value} {s : Shared} {hS : Heap} {gS : Array GenState} {dS : Drawn} {tS : Nat} {oS : OsState}
    {Q E : Value → Shared → Prop} {f : Fix} {r : Raw} {Z : List (Addr × Obj)}
/- cx.fault(number, None, words): it stands at cx.at -/
theorem fault_none_spec {num wt : Value} {fn owner static init blocks : Value} {cat : Int} {tc : Tok} 
    (C : Cx w p loose mean mg mb cs outer A₀ base h₀ L m hS (Z ++ led f r)) (nd : Sep f r Z)
    (hC : r.ocx.IsDictOf (strKind PR w) (cxK f fn owner static init blocks (.int cat tc)))
    (S : Sta w f r.imm)
    (hz : r.rows.size ≤ 900) (hdp : dp + 8 < recursionLimit) (hu : un + 60 < cLine)
    (ret : ∀ t h' tk', Fr h₀ L h' m → News h₀ L h' (Z ++ led f ((r.s_rows (r.rows.push (.ref t)) (r.nrows + 1)).s_imm ((t, tupOf [num, .int cat tc, wt]) :: r.imm))) →
      Sep f ((r.s_rows (r.rows.push (.ref t)) (r.nrows + 1)).s_imm ((t, tupOf [num, .int cat tc, wt]) :: r.imm)) Z → Q .none ⟨h', gS, dS, tk', oS⟩) :
    wpAny (model PR w) (ktrTop dp un gd cn cs L a ccd cl outer) (call (.ref 728) [.ref f.acx, num, .none, wt]) Q E ⟨hS, gS, dS, tS, oS⟩ := by
 k_with "b" =>
  refine hide ?_
  intro GG hGG
  obtain ⟨B, F, X, N, T, hk⟩ := C
  have hcx := S.cx
  have hdg := S.dg
  obtain ⟨odiags, hdd, hD⟩ := S.dgd
  refine hGG ?_
  clear hGG GG
  k_dflt k_extra "z enterF"
  k_steps
  · obtain ⟨N2, nd2⟩ := to_imm (h := by assumption) (f := f) (Z := Z) (by k_asm) (by assumption)
    exact ret _ _ _ (by k_asm) N2 nd2
 refine no_implicit_lambda% (qo ?_)
 simp (disch := k_dflt k_extra "b") only [↓qs]
/- cx.fault(number, node, words): it stands at node.at -/
theorem fault_node_spec {num wt : Value} {fn owner static init blocks cat : Value} {an : Addr} {nat : Int}
    (C : Cx w p loose mean mg mb cs outer A₀ base h₀ L m hS (Z ++ led f r)) (nd : Sep f r Z)
    (hC : r.ocx.IsDictOf (strKind PR w) (cxK f fn owner static init blocks cat))
    (S : Sta w f r.imm) (hn : NodeAt w Z an nat)
    (hz : r.rows.size ≤ 900) (hdp : dp + 8 < recursionLimit) (hu : un + 60 < cLine)
    (ret : ∀ t tn h' tk', Fr h₀ L h' m → News h₀ L h' (Z ++ led f ((r.s_rows (r.rows.push (.ref t)) (r.nrows + 1)).s_imm ((t, tupOf [num, .int nat tn, wt]) :: r.imm))) →
      Sep f ((r.s_rows (r.rows.push (.ref t)) (r.nrows + 1)).s_imm ((t, tupOf [num, .int nat tn, wt]) :: r.imm)) Z → Q .none ⟨h', gS, dS, tk', oS⟩) :
    wpAny (model PR w) (ktrTop dp un gd cn cs L a ccd cl outer) (call (.ref 728) [.ref f.acx, num, .ref an, wt]) Q E ⟨hS, gS, dS, tS, oS⟩ := by
 k_with "b" =>
  refine hide ?_
  intro GG hGG
  obtain ⟨B, F, X, N, T, hk⟩ := C
  have hcx := S.cx
  have hdg := S.dg
  obtain ⟨odiags, hdd, hD⟩ := S.dgd
  obtain ⟨and_, on, t, a, b, c, d, e, hn1, hn2, hn3⟩ := hn
  refine hGG ?_
  clear hGG GG
  k_dflt k_extra "z enterF"
  k_steps
  · obtain ⟨N2, nd2⟩ := to_imm (h := by assumption) (f := f) (Z := Z) (by k_asm) (by assumption)
    exact ret _ _ _ _ (by k_asm) N2 nd2
 refine no_implicit_lambda% (qo ?_)
 simp (disch := k_dflt k_extra "b") only [↓qs]
end
noncomputable def IsBad (vs : List Value) : Prop := ∃ t1 t2 t3, vs = [.int 1 t1, .int 15 t2, .int 0 t3]
section
variable {w : World} {p : Program} {loose : List Str} {mean : ExcName → Option Value} {mg mb : Str → Option Value}
    {dp un : Nat} {gd : Option (List Code)} {cn : Str} {cs : Scope} {a : Addr} {ccd : Value} {cl : List (Str × Addr)} {outer : List Env} {A₀ : Around} {base h₀ : Heap} {L : Addr} {m : Str → Option Value} {s : Shared} {hS : Heap} {gS : Array GenState} {dS : Drawn} {tS : Nat} {oS : OsState}
    {Q E : Value → Shared → Prop} {f : Fix} {r : Raw} {Z : List (Addr × Obj)}
theorem lines4 : True := by
  k_with "z call ref" => ((k_here; (with_reducible show wpAny _ _ (call (Value.ref 728) [_, _, Value.ref _, _]) _ _ _); k_dflt (refine fault_node_spec ⟨by k_asm, by k_asm, by k_asm, by k_asm, by k_asm, by first | exact rfl | assumption⟩ (by assumption) (by assumption) (by assumption) (by first | assumption | exact NodeAt.mono (by assumption) (fun _ h => .tail _ h)) (by first | assumption | (simp; (first | k_extra "z k_ar" | omega))) (by k_extra "z ev_room") (by k_extra "z ev_room") ?_); intro zqt' zqtn' zqh' zqtk zqF' zqN' zqnd'; (try k_sweep)))
  trivial
theorem tell_fault_spec {num wt : Value} {fn owner static init blocks cat : Value} {an : Addr} {nat : Int}
    (C : Cx w p loose mean mg mb cs outer A₀ base h₀ L m hS (Z ++ led f r)) (nd : Sep f r Z)
    (hC : r.ocx.IsDictOf (strKind PR w) (cxK f fn owner static init blocks cat))
    (S : Sta w f r.imm) (hn : NodeAt w Z an nat)
    (hz : r.rows.size ≤ 900) (hdp : dp + 12 < recursionLimit) (hu : un + 80 < cLine)
    (ret : ∀ t tn b vs h' tk', IsBad vs → Fr h₀ L h' m → News h₀ L h' (Z ++ led f ((r.s_rows (r.rows.push (.ref t)) (r.nrows + 1)).s_imm ((b, tupOf vs) :: (t, tupOf [num, .int nat tn, wt]) :: r.imm))) →
      Sep f ((r.s_rows (r.rows.push (.ref t)) (r.nrows + 1)).s_imm ((b, tupOf vs) :: (t, tupOf [num, .int nat tn, wt]) :: r.imm)) Z → Q (.ref b) ⟨h', gS, dS, tk', oS⟩) :
    wpAny (model PR w) (ktrTop dp un gd cn cs L a ccd cl outer) (call (.ref 845) [.ref f.acx, num, .ref an, wt]) Q E ⟨hS, gS, dS, tS, oS⟩ := by
 k_with "b" =>
  refine hide ?_
  intro GG hGG
  obtain ⟨B, F, X, N, T, hk⟩ := C
  refine hGG ?_
  clear hGG GG
  have hcx := S.cx
  k_dflt k_extra "z enterF"
  k_steps
  all_goals trace_state
  · obtain ⟨N2, nd2⟩ := to_imm (h := by assumption) (f := f) (Z := Z) (by k_asm) (by assumption)
    exact ret _ _ _ _ _ _ ⟨_, _, _, rfl⟩ (by k_asm) N2 nd2
 refine no_implicit_lambda% (qo ?_)
 simp (disch := k_dflt k_extra "b") only [↓qs]
end
noncomputable def Hold (P : Prop) : Prop := P
theorem hold {P : Prop} (h : Hold P) : P := h
theorem unhold {P : Prop} (h : P) : Hold P := h
theorem lines5 : True := by
  k_with "z exec For Name Call cons nil" => ((k_here; refine hold ?_))
  k_with "z exec For Name Name cons nil" => ((k_here; refine hold ?_))
  k_with "z exec For Name Subscript cons nil" => ((k_here; refine hold ?_))
  k_with "z exec For Name Tuple cons nil" => ((k_here; refine hold ?_))
  k_with "z exec For Name Attribute cons nil" => ((k_here; refine hold ?_))
  k_with "z pyIter ref" => ((k_here; refine hold ?_))
  k_with "z call type:range" => ((k_here; with_reducible (show wpAny _ _ (call _ [_]) _ _ _); refine range1_rows (by k_asm) (by k_asm) ?_; intro zqh' zqtk' t₁ u₁ v₁ R' F' N' K'))
  k_with "z subscriptTail" => ((k_here; (with_reducible show wpAny _ _ (subscriptTail _ _ (Value.ref _) (Value.int _ _)) _ _ _); first | k_dflt (refine itemT (by k_asm) (by k_mem) (by decide) (by decide) (by rfl) ?_) | k_dflt (refine itemL (by k_asm) (by k_mem) (by decide) (by decide) (by rfl) ?_) | refine hold ?_))
  trivial
theorem sub_news {h₀ h : Heap} {L : Addr} {l l' : List (Addr × Obj)} (N : News h₀ L h l) (hs : ∀ p ∈ l', p ∈ l) : News h₀ L h l' := fun p hp => N p (hs p hp)
inductive EntsAre (imm : List (Addr × Obj)) : List Value → List (Str × Int) → Prop
  | nil : EntsAre imm [] []
  | cons {a : Addr} {x : Str} {i : Int} {t1 t2 : Tok} {vs : List Value} {es : List (Str × Int)} : (a, tupOf [.str x t1, .int i t2]) ∈ imm → EntsAre imm vs es → EntsAre imm (.ref a :: vs) ((x, i) :: es)
theorem EntsAre.get {imm : List (Addr × Obj)} {vs : List Value} {es : List (Str × Int)} (h : EntsAre imm vs es) : ∀ {i : Nat} {v : Value}, vs[i]? = some v → ∃ a x k t1 t2, v = .ref a ∧ es[i]? = some (x, k) ∧ (a, tupOf [.str x t1, .int k t2]) ∈ imm := by
  induction h with
  | nil => intro i v h; simp at h
  | @cons a x k t1 t2 vs es hm _ ih =>
    intro i v h
    cases i with
    | zero => simp at h; exact ⟨a, x, k, t1, t2, h.symm, rfl, hm⟩
    | succ i => simp at h; simpa using ih h
theorem EntsAre.length {imm : List (Addr × Obj)} {vs : List Value} {es : List (Str × Int)} (h : EntsAre imm vs es) : vs.length = es.length := by
  induction h with
  | nil => rfl
  | cons _ _ ih => simp [ih]
/- the law's own search: the last row that bears the name -/
noncomputable def findIn1 (x : Str) (d : Int) (es : List (Str × Int)) (z : Int × Int) : Int × Int := es.foldl (fun z e => if e.1 = x then (e.2, d) else z) z
noncomputable def findUp (x : Str) : Nat → List (List (Str × Int)) → Int × Int → Int × Int
  | _, [], z => z
  | d, es :: r, z => findUp x (d + 1) r (findIn1 x d es z)
theorem findUp_take (x : Str) : ∀ (lv : List (List (Str × Int))) (d i : Nat) (es : List (Str × Int)) (z : Int × Int), lv[i]? = some es → findUp x d (lv.take (i + 1)) z = findIn1 x ((d + i : Nat) : Int) es (findUp x d (lv.take i) z)
  | [], _, i, _, _, h => by simp at h
  | e :: r, d, 0, es, z, h => by simp at h; subst h; simp [findUp]
  | e :: r, d, i + 1, es, z, h => by
    simp at h
    show findUp x (d + 1) (r.take (i + 1)) (findIn1 x d e z) = findIn1 x _ es (findUp x (d + 1) (r.take i) (findIn1 x d e z))
    rw [findUp_take x r (d + 1) i es _ h]
    congr 2; (first | k_extra "z k_ar" | omega)
theorem findIn1_take (x : Str) (d : Int) (es : List (Str × Int)) (i : Nat) (y : Str) (k : Int) (z : Int × Int) (h : es[i]? = some (y, k)) : findIn1 x d (es.take (i + 1)) z = if y = x then (k, d) else findIn1 x d (es.take i) z := by
  unfold findIn1
  rw [List.take_add_one, h, List.foldl_append]; rfl
/- the law's scopes, as the heap bears them -/
inductive SlR (r : Raw) (a : Addr) (es : List (Str × Int)) : Prop
  | mk (vs : List Value) (n : Nat) : (a, listOf vs.toArray n) ∈ r.slL → EntsAre r.imm vs es → SlR r a es
structure SlAre (r : Raw) (sas : List Addr) (lv : List (List (Str × Int))) : Prop where
  refs : r.scopes.toList = sas.map Value.ref
  len : sas.length = lv.length
  row : ∀ (i : Nat) (a : Addr) (es : List (Str × Int)), sas[i]? = some a → lv[i]? = some es → SlR r a es
theorem mapIf {M : Str → Option Value} {k : Str} {v : Option Value} (h : M k = v) : (fun y => if y = k then v else M y) = M := by funext y; by_cases e : y = k <;> simp [e, h]
noncomputable abbrev bind1 (k : Str) (v : Option Value) (M : Str → Option Value) : Str → Option Value := fun y => if y = k then v else M y
theorem bind_twice {k : Str} {v u : Option Value} {M : Str → Option Value} : bind1 k v (bind1 k u M) = bind1 k v M := by funext y; unfold bind1; by_cases e : y = k <;> simp [e]
theorem bind_swap {k j : Str} {v u : Option Value} {M : Str → Option Value} (h : k ≠ j) : bind1 k v (bind1 j u M) = bind1 j u (bind1 k v M) := by
  funext y; unfold bind1; by_cases e : y = k
  · subst e; simp [h]
  · simp [e]
section
variable {w : World} {p : Program} {loose : List Str} {mean : ExcName → Option Value} {mg mb : Str → Option Value}
    {dp un : Nat} {gd : Option (List Code)} {cn : Str} {cs : Scope} {a : Addr} {ccd : Value} {cl : List (Str × Addr)} {outer : List Env} {A₀ : Around} {base h₀ : Heap} {L : Addr} {m : Str → Option Value} {s : Shared} {hS : Heap} {gS : Array GenState} {dS : Drawn} {tS : Nat} {oS : OsState}
    {Q E : Value → Shared → Prop} {f : Fix} {r : Raw} {Z : List (Addr × Obj)}
theorem find_spec {wa wb wc wd we : Value} {x : Str} {tx : Tok} {sas : List Addr} {lv : List (List (Str × Int))}
    (C : Cx w p loose mean mg mb cs outer A₀ base h₀ L m hS (Z ++ led f r)) (nd : Sep f r Z)
    (hW : r.ow.IsDictOf (strKind PR w) (wK f wa wb wc wd we)) (S : SlAre r sas lv) (hz : lv.length ≤ 10) (hl : ∀ es ∈ lv, es.length ≤ 10)
    (hdp : dp + 8 < recursionLimit) (hu : un + 60 < cLine)
    (ret : ∀ t t1 t2 h' tk', Fr h₀ L h' m → News h₀ L h' (((t, tupOf [.int (findUp x 0 lv (0, 0)).1 t1, .int (findUp x 0 lv (0, 0)).2 t2]) :: Z) ++ led f r) →
      Sep f r ((t, tupOf [.int (findUp x 0 lv (0, 0)).1 t1, .int (findUp x 0 lv (0, 0)).2 t2]) :: Z) → Q (.ref t) ⟨h', gS, dS, tk', oS⟩) :
    wpAny (model PR w) (ktrTop dp un gd cn cs L a ccd cl outer) (call (.ref 950) [.ref f.aw, .str x tx]) Q E ⟨hS, gS, dS, tS, oS⟩ := by
 k_with "b" =>
  refine hide ?_
  intro GG hGG
  obtain ⟨B, F, X, N, T, hk⟩ := C
  refine hGG ?_
  clear hGG GG
  have hsz : r.scopes.size = lv.length := by rw [← S.len, ← Array.length_toList, S.refs, List.length_map]
  k_dflt k_extra "z enterF"
  k_steps
  refine unhold ?_
  rename Fr _ _ _ _ => lF'
  with_unfolding_all refine For_invVF lF' rfl rfl ?_
  k_steps
  refine unhold ?_
  rename IsRange _ _ _ _ _ _ _ _ => rg
  refine iterR (fun i m₁ n₁ => ∃ fa t1 t2 ud ur, m₁ = bind1 "found" (some (.ref fa)) (bind1 "deep" ud (bind1 "row" ur (fun y => List.lookup y [(("name" : Str), Value.str x tx), ("w", .ref f.aw)]))) ∧
      n₁ = ((fa, tupOf [.int (findUp x 0 (lv.take i) (0, 0)).1 t1, .int (findUp x 0 (lv.take i) (0, 0)).2 t2]) :: Z) ++ led f r ∧ Sep f r ((fa, tupOf [.int (findUp x 0 (lv.take i) (0, 0)).1 t1, .int (findUp x 0 (lv.take i) (0, 0)).2 t2]) :: Z))
    rfl rg (small_one (by decide) (by decide) (by (first | k_extra "z k_ar" | omega)) (by (first | k_extra "z k_ar" | omega))) (n := lv.length) (by rw [rangeSize_one, hsz]; split <;> (first | k_extra "z k_ar" | omega)) (by k_asm) (by k_asm) ?_ ?_ ?_
  · refine ⟨_, _, _, none, none, ?_, rfl, by assumption⟩
    have e1 : bind1 "row" none (fun y => List.lookup y [(("name" : Str), Value.str x tx), ("w", .ref f.aw)]) = (fun y => List.lookup y [(("name" : Str), Value.str x tx), ("w", .ref f.aw)]) := mapIf rfl
    have e2 : bind1 "deep" none (fun y => List.lookup y [(("name" : Str), Value.str x tx), ("w", .ref f.aw)]) = (fun y => List.lookup y [(("name" : Str), Value.str x tx), ("w", .ref f.aw)]) := mapIf rfl
    rw [e1, e2]
    rfl
  · rintro i t m₁ n₁ I io h tk hi ⟨fa, t1, t2, ud, ur, rfl, rfl, nd1⟩ hI F1 N1
    have nd2 := Sep.cons' (q := (I, io)) nd1 hI
    replace N1 : News _ _ h (((I, io) :: (fa, tupOf [.int (findUp x 0 (lv.take i) (0, 0)).1 t1, .int (findUp x 0 (lv.take i) (0, 0)).2 t2]) :: Z) ++ led f r) := N1
    clear hI nd1
    have hi' : i < sas.length := by rw [S.len]; exact hi
    refine hide ?_
    intro GG hGG
    obtain ⟨vs, n, hsl, hE⟩ := S.row i sas[i] lv[i] (List.getElem?_eq_getElem hi') (List.getElem?_eq_getElem hi)
    refine hGG ?_
    clear hGG GG
    have hlen := hE.length
    have hle := hl lv[i] (List.getElem_mem hi)
    k_steps
    refine unhold ?_
    rename Fr _ _ _ _ => lF'
    with_unfolding_all refine For_invVF lF' rfl rfl ?_
    k_steps
    refine unhold ?_
    refine itemL (v := .ref sas[i]) (by k_asm) mem_ascopes (by (first | k_extra "z k_ar" | omega)) (by (first | k_extra "z k_ar" | omega)) ?_ ?_
    · have : (0 + (i : Int) * 1).toNat = i := by (first | k_extra "z k_ar" | omega)
      rw [this, ← Array.getElem?_toList, S.refs, List.getElem?_map, List.getElem?_eq_getElem hi']; rfl
    k_steps
    refine unhold ?_
    rename Fr _ _ _ _ => lF'
    rename News _ _ _ _ => lN'
    rename Sep _ _ _ => nd3
    refine iterL (fun j m₁ n₁ => ∃ fa t1 t2 ur, m₁ = bind1 "found" (some (.ref fa)) (bind1 "deep" (some (.int (0 + (i : Int) * 1) t)) (bind1 "row" ur (fun y => List.lookup y [(("name" : Str), Value.str x tx), ("w", .ref f.aw)]))) ∧
        n₁ = ((fa, tupOf [.int (findIn1 x (0 + (i : Int) * 1) (lv[i].take j) (findUp x 0 (lv.take i) (0, 0))).1 t1, .int (findIn1 x (0 + (i : Int) * 1) (lv[i].take j) (findUp x 0 (lv.take i) (0, 0))).2 t2]) :: (I, io) :: Z) ++ led f r ∧
        Sep f r ((fa, tupOf [.int (findIn1 x (0 + (i : Int) * 1) (lv[i].take j) (findUp x 0 (lv.take i) (0, 0))).1 t1, .int (findIn1 x (0 + (i : Int) * 1) (lv[i].take j) (findUp x 0 (lv.take i) (0, 0))).2 t2]) :: (I, io) :: Z))
      rfl lF' (n := n) (its := vs.toArray) (sub_news lN' (l' := ((fa, tupOf [.int (findUp x 0 (lv.take i) (0, 0)).1 t1, .int (findUp x 0 (lv.take i) (0, 0)).2 t2]) :: (I, io) :: Z) ++ led f r) ?_) (mem_sl hsl) ?_ ?_ ?_
    · intro p hp
      simp only [List.cons_append, List.mem_cons] at hp ⊢
      rcases hp with h | h | h
      · exact .inr (.inl h)
      · exact .inl h
      · exact .inr (.inr h)
    · refine ⟨fa, t1, t2, ur, ?_, rfl, nd3.swap⟩
      rw [show (fun y => if y = ("deep" : Str) then some (Value.int (0 + (i : Int) * 1) t) else bind1 "found" (some (.ref fa)) (bind1 "deep" ud (bind1 "row" ur (fun y => List.lookup y [(("name" : Str), Value.str x tx), ("w", .ref f.aw)]))) y) = bind1 "deep" (some (Value.int (0 + (i : Int) * 1) t)) (bind1 "found" (some (.ref fa)) (bind1 "deep" ud (bind1 "row" ur (fun y => List.lookup y [(("name" : Str), Value.str x tx), ("w", .ref f.aw)])))) from rfl]
      rw [bind_swap (by decide), bind_twice]
    · rintro j v m₁ n₁ I2 io2 h2 tk2 hv ⟨fb, u1, u2, ur2, rfl, rfl, nd4⟩ hm hI2 F2 N2
      refine hide ?_
      intro GG hGG
      obtain ⟨a2, x2, k2, v1, v2, rfl, hes, himm⟩ := hE.get (by simpa using hv)
      refine hGG ?_
      clear hGG GG
      have nd5 := Sep.cons' (q := (I2, io2)) nd4 hI2
      replace N2 : News _ _ h2 (((I2, io2) :: (fb, tupOf [.int (findIn1 x (0 + (i : Int) * 1) (lv[i].take j) (findUp x 0 (lv.take i) (0, 0))).1 u1, .int (findIn1 x (0 + (i : Int) * 1) (lv[i].take j) (findUp x 0 (lv.take i) (0, 0))).2 u2]) :: (I, io) :: Z) ++ led f r) := N2
      clear nd4 hm nd3 lN' lF'
      have hft := findIn1_take x (0 + (i : Int) * 1) lv[i] j x2 k2 (findUp x 0 (lv.take i) (0, 0)) hes
      k_steps
      · rename ((x2 == x) = true) => hq
        rw [if_pos (by simpa using hq)] at hft
        rename Sep f r _ => nd6; rename Fr _ _ _ _ => Fq2; rename News _ _ _ _ => Nq2
        refine turn_next (((zql', tupOf [.int k2 v2, .int (0 + (i : Int) * 1) t]) :: (I, io) :: Z) ++ led f r) Fq2 (sub_news Nq2 ?_) ?_ (nd6.drop3.swap).ne ⟨zql', v2, t, some (.ref a2), ?_, ?_, ?_⟩ rfl
        · intro p hp
          simp +zetaDelta only [List.cons_append, List.mem_cons] at hp ⊢
          rcases hp with h | h | h | h
          · exact .inr (.inl h)
          · exact .inl h
          · exact .inr (.inr (.inr (.inl h)))
          · exact .inr (.inr (.inr (.inr h)))
        · intro p hp
          rw [List.mem_singleton.mp hp]
          exact mem_sl hsl
        · show bind1 "found" (some (.ref zql')) (bind1 "row" (some (.ref a2)) (bind1 "found" (some (.ref fb)) (bind1 "deep" (some (Value.int (0 + (i : Int) * 1) t)) (bind1 "row" ur2 (fun y => List.lookup y [(("name" : Str), Value.str x tx), ("w", .ref f.aw)]))))) = _
          rw [bind_swap (k := "row") (j := "found") (by decide), bind_twice, bind_swap (k := "row") (j := "deep") (by decide), bind_twice]
        · rw [hft]
        · simp only [hft]; exact nd6.swap.drop.drop2
      · rename ((x2 == x) = false) => hq
        rw [if_neg (by simpa using hq)] at hft
        refine turn_next (((fb, tupOf [.int (findIn1 x (0 + (i : Int) * 1) (lv[i].take j) (findUp x 0 (lv.take i) (0, 0))).1 u1, .int (findIn1 x (0 + (i : Int) * 1) (lv[i].take j) (findUp x 0 (lv.take i) (0, 0))).2 u2]) :: (I, io) :: Z) ++ led f r) F2 N2 ?_ nd5.ne ⟨fb, u1, u2, some (.ref a2), ?_, ?_, ?_⟩ rfl
        · intro p hp
          rw [List.mem_singleton.mp hp]
          exact mem_sl hsl
        · show bind1 "row" (some (.ref a2)) (bind1 "found" (some (.ref fb)) (bind1 "deep" (some (Value.int (0 + (i : Int) * 1) t)) (bind1 "row" ur2 (fun y => List.lookup y [(("name" : Str), Value.str x tx), ("w", .ref f.aw)])))) = _
          rw [bind_swap (k := "row") (j := "found") (by decide), bind_swap (k := "row") (j := "deep") (by decide), bind_twice]
        · rw [hft]
        · rw [hft]; exact nd5.drop
    · rintro m₁ n₁ h2 tk2 ⟨fb, u1, u2, ur2, rfl, rfl, nd4⟩ F2 N2
      have hup := findUp_take x lv 0 i lv[i] (0, 0) (List.getElem?_eq_getElem hi)
      have ed : ((0 + i : Nat) : Int) = 0 + (i : Int) * 1 := by (first | k_extra "z k_ar" | omega)
      rw [ed] at hup
      rw [List.size_toArray, hlen, List.take_length, ← hup] at N2 nd4
      dsimp only
      k_steps
      refine turn_next (((fb, tupOf [.int (findUp x 0 (lv.take (i + 1)) (0, 0)).1 u1, .int (findUp x 0 (lv.take (i + 1)) (0, 0)).2 u2]) :: Z) ++ led f r) F2 (sub_news N2 ?_) (fun _ h => nomatch h) nd4.swap.ne ⟨fb, u1, u2, _, _, rfl, rfl, nd4.drop2⟩ rfl
      intro p hp
      simp only [List.cons_append, List.mem_cons] at hp ⊢
      rcases hp with h | h | h
      · exact .inr (.inl h)
      · exact .inl h
      · exact .inr (.inr h)
  · rintro m₁ n₁ h tk ⟨fa, t1, t2, ud, ur, rfl, rfl, nd1⟩ F1 N1
    rw [List.take_length] at N1 nd1
    dsimp only
    k_steps
    exact ret _ _ _ _ _ (by k_asm) (by k_asm) nd1
 refine no_implicit_lambda% (qo ?_)
 simp (disch := k_dflt k_extra "b") only [↓qs]
end
/- a scope's dict: its names and ints -/
theorem turn_ret {h₀ : Heap} {L I : Addr} {io : Obj} {J : (Str → Option Value) → List (Addr × Obj) → Prop} {need : List (Addr × Obj)} {gS : Array GenState} {dS : Drawn} {oS : OsState} {s₂ : Shared} {Qf : Flow → Shared → Prop} {v : Value} (h : Qf (.ret v) s₂) : TurnE h₀ L I io J need gS dS oS Qf (.ret v) s₂ := h
inductive KvsAre : List (Str × Value) → List (Str × Int) → Prop
  | nil : KvsAre [] []
  | cons {x : Str} {i : Int} {t : Tok} {kvs : List (Str × Value)} {es : List (Str × Int)} : KvsAre kvs es → KvsAre ((x, .int i t) :: kvs) ((x, i) :: es)
noncomputable def lookE (x : Str) (es : List (Str × Int)) : Option Int := (es.find? fun e => e.1 = x).map (·.2)
theorem KvsAre.at {kvs : List (Str × Value)} {es : List (Str × Int)} (h : KvsAre kvs es) (x : Str) : (lookE x es = none ∧ valueAt kvs x = none) ∨ ∃ i t, lookE x es = some i ∧ valueAt kvs x = some (.int i t) := by
  induction h with
  | nil => exact .inl ⟨rfl, rfl⟩
  | @cons y i t kvs es _ ih =>
    by_cases e : y = x
    · right; exact ⟨i, t, by simp [lookE, e], by simp [valueAt, e]⟩
    · have e1 : lookE x ((y, i) :: es) = lookE x es := by simp [lookE, e]
      have e2 : valueAt ((y, Value.int i t) :: kvs) x = valueAt kvs x := by simp [valueAt, e]
      rw [e1, e2]; exact ih
theorem KvsAre.length {kvs : List (Str × Value)} {es : List (Str × Int)} (h : KvsAre kvs es) : kvs.length = es.length := by
  induction h with
  | nil => rfl
  | cons _ ih => simp [ih]
theorem KvsAre.keys {kvs : List (Str × Value)} {es : List (Str × Int)} (h : KvsAre kvs es) : kvs.map (·.1) = es.map (·.1) := by
  induction h with
  | nil => rfl
  | cons _ ih => simp [ih]
/- the binder's own search: from the innermost scope outwards -/
noncomputable def lookDn (x : Str) : List (List (Str × Int)) → Int
  | [] => 0
  | es :: r => match lookE x es with
    | some i => if i = 0 then lookDn x r else i
    | none => lookDn x r
inductive SdR (w : World) (r : Raw) (a : Addr) (es : List (Str × Int)) : Prop
  | mk (o : Obj) (kvs : List (Str × Value)) : (a, o) ∈ r.sdL → o.IsDictOf (strKind PR w) kvs → KvsAre kvs es → (a == sysModules) = false → SdR w r a es
structure SdAre (w : World) (r : Raw) (das : List Addr) (lv : List (List (Str × Int))) : Prop where
  refs : r.cxsc.toList = das.map Value.ref
  len : das.length = lv.length
  row : ∀ (i : Nat) (a : Addr) (es : List (Str × Int)), das[i]? = some a → lv[i]? = some es → SdR w r a es
section
variable {prog : Program} {w : World} {K : Type} [DecidableEq K] {knd : KeyKind prog w K} {A : Around} {E : Value → Shared → Prop} {s : Shared} {hS : Heap} {gS : Array GenState} {dS : Drawn} {tS : Nat} {oS : OsState} {h₀ : Heap} {L d : Addr} {news : List (Addr × Obj)} {o : Obj} {kvs : List (K × Value)} {k : K} {key v dflt : Value}
theorem dget2 {Q : Value → Shared → Prop} (N : News h₀ L hS news) (hp : (d, o) ∈ news) (hd : o.IsDictOf knd kvs) (lo : (d == sysModules) = false) (hkey : knd.is k key = true) {y : Option Value} (hl : valueAt kvs k = y) (h : ∀ tk, Q (y.getD dflt) ⟨hS, gS, dS, tk, oS⟩) :
    wpAny (model prog w) A (call (.builtin "dict.get") [.ref d, key, dflt]) Q E ⟨hS, gS, dS, tS, oS⟩ := kdg_get2 N hp hd lo hkey _ hl (h _)
theorem dget1 {Q : Value → Shared → Prop} (N : News h₀ L hS news) (hp : (d, o) ∈ news) (hd : o.IsDictOf knd kvs) (lo : (d == sysModules) = false) (hkey : knd.is k key = true) {y : Option Value} (hl : valueAt kvs k = y) (h : ∀ tk, Q (y.getD .none) ⟨hS, gS, dS, tk, oS⟩) :
    wpAny (model prog w) A (call (.builtin "dict.get") [.ref d, key]) Q E ⟨hS, gS, dS, tS, oS⟩ := kdg_get1 N hp hd lo hkey _ hl (h _)
end
theorem lines6 : True := by
  k_with "z getMethod ref" => ((k_here; (with_reducible show wpAny _ _ (getMethod (Value.ref _) (Str.ofString "get") _) _ _ _); k_dflt (first | refine kdg_method (knd := PySem.strKind _ _) (by k_asm) (by k_mem) (by assumption) ?_ | refine kdg_method (knd := PySem.intKind _ _) (by k_asm) (by k_mem) (by assumption) ?_)))
  k_with "z call builtin:dict.get" => ((k_here; k_dflt (first | (refine dget2 (knd := PySem.strKind _ _) (by k_asm) (by k_mem) (by assumption) (by assumption) (strKind_is _ _ _ _) (by assumption) ?_; intro zqtk; try dsimp only [Option.getD]) | (refine dget2 (knd := PySem.intKind _ _) (by k_asm) (by k_mem) (by assumption) (by assumption) (intKind_is _ _ _ _) (by assumption) ?_; intro zqtk; try dsimp only [Option.getD]) | (refine dget1 (knd := PySem.strKind _ _) (by k_asm) (by k_mem) (by assumption) (by assumption) (strKind_is _ _ _ _) (by assumption) ?_; intro zqtk; try dsimp only [Option.getD]) | (refine dget1 (knd := PySem.intKind _ _) (by k_asm) (by k_mem) (by assumption) (by assumption) (intKind_is _ _ _ _) (by assumption) ?_; intro zqtk; try dsimp only [Option.getD]))))
  k_with "z TurnE" => ((with_reducible refine turn_ret ?_; try dsimp only))
  k_with "z call type:range" => ((k_here; with_reducible (show wpAny _ _ (call _ [_, _, _]) _ _ _); refine range3_rows (by k_asm) (by k_asm) (by decide) ?_; intro zqh' zqtk' t₁ u₁ v₁ R' F' N' K'))
  trivial
theorem down_at {m n i : Nat} (e : m = n) (h : i < n) : ((m : Int) - 1 + (i : Int) * -1).toNat = n - 1 - i := by
  have q : (m : Int) - 1 + (i : Int) * -1 = (m : Int) - ((1 + i : Nat) : Int) := by rw [Int.mul_neg, Int.mul_one, ← Int.sub_eq_add_neg, Int.sub_sub, Int.natCast_add]; rfl
  rw [q, Int.toNat_sub, e, Nat.sub_add_eq]
section
variable {w : World} {p : Program} {loose : List Str} {mean : ExcName → Option Value} {mg mb : Str → Option Value}
    {dp un : Nat} {gd : Option (List Code)} {cn : Str} {cs : Scope} {a : Addr} {ccd : Value} {cl : List (Str × Addr)} {outer : List Env} {A₀ : Around} {base h₀ : Heap} {L : Addr} {m : Str → Option Value} {s : Shared} {hS : Heap} {gS : Array GenState} {dS : Drawn} {tS : Nat} {oS : OsState}
    {Q E : Value → Shared → Prop} {f : Fix} {r : Raw} {Z : List (Addr × Obj)}
theorem lookDn_skip {x : Str} {es : List (Str × Int)} {r : List (List (Str × Int))} (h : lookE x es = none ∨ lookE x es = some 0) : lookDn x (es :: r) = lookDn x r := by
  rcases h with h | h <;> simp [lookDn, h]
theorem lookDn_hit {x : Str} {es : List (Str × Int)} {r : List (List (Str × Int))} {i : Int} (h : lookE x es = some i) (hi : i ≠ 0) : lookDn x (es :: r) = i := by
  simp [lookDn, h, hi]
theorem find_name_spec {fn owner static init blocks cat : Value} {x : Str} {tx : Tok} {das : List Addr} {lv : List (List (Str × Int))}
    (C : Cx w p loose mean mg mb cs outer A₀ base h₀ L m hS (Z ++ led f r)) (nd : Sep f r Z)
    (hC : r.ocx.IsDictOf (strKind PR w) (cxK f fn owner static init blocks cat)) (S : Sta w f r.imm) (D : SdAre w r das lv) (hz : lv.length ≤ 10)
    (hdp : dp + 12 < recursionLimit) (hu : un + 80 < cLine)
    (ret : ∀ t h' tk', Fr h₀ L h' m → News h₀ L h' (Z ++ led f r) → Sep f r Z → Q (.int (lookDn x lv.reverse) t) ⟨h', gS, dS, tk', oS⟩) :
    wpAny (model PR w) (ktrTop dp un gd cn cs L a ccd cl outer) (call (.ref 749) [.ref f.acx, .str x tx]) Q E ⟨hS, gS, dS, tS, oS⟩ := by
 k_with "b" =>
  refine hide ?_
  intro GG hGG
  obtain ⟨B, F, X, N, T, hk⟩ := C
  refine hGG ?_
  clear hGG GG
  have hcx := S.cx
  have hsz : r.cxsc.size = lv.length := by rw [← D.len, ← Array.length_toList, D.refs, List.length_map]
  k_dflt k_extra "z enterF"
  k_steps
  refine unhold ?_
  rename Fr _ _ _ _ => lF'
  with_unfolding_all refine For_invVF lF' rfl rfl ?_
  k_steps
  refine unhold ?_
  rename IsRange _ _ _ _ _ _ _ _ => rg
  refine iterR (fun i m₁ n₁ => ∃ ui ul, m₁ = bind1 "i" ui (bind1 "lid" ul (fun y => List.lookup y [(("name" : Str), Value.str x tx), ("cx", .ref f.acx)])) ∧ n₁ = Z ++ led f r ∧ lookDn x lv.reverse = lookDn x (lv.reverse.drop i))
    rfl rg ?small (n := lv.length) ?size (by k_asm) (by k_asm) ?_ ?_ ?_
  case small => exact small_down (by (first | k_extra "z k_ar" | omega)) (by (first | k_extra "z k_ar" | omega)) (by decide) (by decide)
  case size => rw [rangeSize_down]; split <;> (first | k_extra "z k_ar" | omega)
  · exact ⟨none, none, by rw [show bind1 "lid" none (fun y => List.lookup y [(("name" : Str), Value.str x tx), ("cx", .ref f.acx)]) = (fun y => List.lookup y [(("name" : Str), Value.str x tx), ("cx", .ref f.acx)]) from mapIf rfl, show bind1 "i" none (fun y => List.lookup y [(("name" : Str), Value.str x tx), ("cx", .ref f.acx)]) = (fun y => List.lookup y [(("name" : Str), Value.str x tx), ("cx", .ref f.acx)]) from mapIf rfl]; rfl, rfl, rfl⟩
  · rintro i t m₁ n₁ I io h tk hi ⟨ui, ul, rfl, rfl, hJ⟩ hI F1 N1
    have nd2 := Sep.cons' (q := (I, io)) nd hI
    replace N1 : News _ _ h (((I, io) :: Z) ++ led f r) := N1
    have hri : i < lv.reverse.length := by simpa using hi
    have hdi : lv.length - 1 - i < das.length := by rw [D.len]; (first | k_extra "z k_ar" | omega)
    refine hide ?_
    intro GG hGG
    obtain ⟨o, kvs, hsd, hO, hK, hlo⟩ := D.row (lv.length - 1 - i) das[lv.length - 1 - i] lv[lv.length - 1 - i] (List.getElem?_eq_getElem hdi) (List.getElem?_eq_getElem (by (first | k_extra "z k_ar" | omega)))
    refine hGG ?_
    clear hGG GG
    have hrev : lv.reverse[i] = lv[lv.length - 1 - i] := List.getElem_reverse ..
    have hdrop : lv.reverse.drop i = lv[lv.length - 1 - i] :: lv.reverse.drop (i + 1) := by rw [List.drop_eq_getElem_cons hri, hrev]
    rw [hdrop] at hJ
    k_steps
    refine unhold ?_
    refine itemL (v := .ref das[lv.length - 1 - i]) (by k_asm) mem_acxsc (by (first | k_extra "z k_ar" | omega)) (by (first | k_extra "z k_ar" | omega)) ?_ ?_
    · have : ((r.cxsc.size : Int) - 1 + (i : Int) * -1).toNat = lv.length - 1 - i := down_at (by assumption) hi
      rw [this, ← Array.getElem?_toList, D.refs, List.getElem?_map, List.getElem?_eq_getElem hdi]; rfl
    rcases hK.at x with ⟨h1, h2⟩ | ⟨k, tk', h1, h2⟩
    · rw [lookDn_skip (.inl h1)] at hJ
      k_steps
      refine' turn_next (Z ++ led f r) (by assumption) (by assumption) (fun _ h => nomatch h) nd2.ne ⟨_, _, ?_, rfl, hJ⟩ rfl
      show bind1 "lid" _ (bind1 "i" _ (bind1 "i" ui (bind1 "lid" ul (fun y => List.lookup y [(("name" : Str), Value.str x tx), ("cx", .ref f.acx)])))) = _
      rw [bind_twice, bind_swap (k := "lid") (j := "i") (by decide), bind_twice]
    · k_steps
      · rw [hJ, lookDn_hit h1 (by assumption)] at ret
        exact ret _ _ _ (by k_asm) (dropZ (by k_asm)) nd
      · rw [lookDn_skip (.inr (by rw [h1]; congr 1))] at hJ
        refine' turn_next (Z ++ led f r) (by assumption) (by assumption) (fun _ h => nomatch h) nd2.ne ⟨_, _, ?_, rfl, hJ⟩ rfl
        show bind1 "lid" _ (bind1 "i" _ (bind1 "i" ui (bind1 "lid" ul (fun y => List.lookup y [(("name" : Str), Value.str x tx), ("cx", .ref f.acx)])))) = _
        rw [bind_twice, bind_swap (k := "lid") (j := "i") (by decide), bind_twice]
  · rintro m₁ n₁ h tk ⟨ui, ul, rfl, rfl, hJ⟩ F1 N1
    have : lookDn x lv.reverse = 0 := by rw [hJ, List.drop_of_length_le (by simp)]; rfl
    rw [this] at ret
    dsimp only
    k_steps
    exact ret _ _ _ (by k_asm) (by k_asm) (by assumption)
 refine no_implicit_lambda% (qo ?_)
 simp (disch := k_dflt k_extra "b") only [↓qs]
end
set_option genInjectivity true in
set_option genSizeOf true in
inductive EK where
  | s (x : Str)
  | i (k : Int)
  | t (l : List Int)
deriving DecidableEq
section
variable {prog : Program} {w : World}
noncomputable def EK.hash (w : World) : EK → Int
  | .s x => hashStr w x
  | .i k => hashInt k
  | .t l => reduceHash (Builtin.Tuple.tupleHashOf (l.map hashInt))
noncomputable def EK.draws : EK → Nat
  | .s _ => 1
  | .i _ => 1
  | .t l => l.length + 1
noncomputable def EK.data : EK → PyData
  | .s x => .str x
  | .i k => .int k
  | .t l => .tuple (l.map .int)
inductive EItem (prog : Program) (w : World) (h : Heap) : EK → Value → Prop
  | s {x : Str} {t : Tok} : (PyData.str x).canLay0 = true → EItem prog w h (.s x) (.str x t)
  | i {k : Int} {t : Tok} : EItem prog w h (.i k) (.int k t)
  | t {l : List Int} {b : Addr} : IsTupleKey (PySem.intKind prog w) h l b → EItem prog w h (.t l) (.ref b)
inductive EItems (prog : Program) (w : World) (h : Heap) : List EK → List Value → Prop
  | nil : EItems prog w h [] []
  | cons {k : EK} {v : Value} {ks : List EK} {vs : List Value} : EItem prog w h k v → EItems prog w h ks vs → EItems prog w h (k :: ks) (v :: vs)
noncomputable def IsEKey (prog : Program) (w : World) (h : Heap) (ks : List EK) (a : Addr) : Prop := ∃ o items n, h.get? a = some o ∧ o.cls = .type "tuple" ∧ o.data = .seq items n ∧ EItems prog w h ks items.toList
theorem EItem.inj {h : Heap} {x y : EK} {v : Value} (hx : EItem prog w h x v) (hy : EItem prog w h y v) : x = y := by
  cases hx with
  | s _ => cases hy; rfl
  | i => cases hy; rfl
  | t hx => cases hy with | t hy => rw [hx.inj hy]
theorem EItems.inj {h : Heap} {x y : List EK} {vs : List Value} (hx : EItems prog w h x vs) (hy : EItems prog w h y vs) : x = y := by
  induction hx generalizing y with
  | nil => cases hy; rfl
  | cons h1 _ ih => cases hy with | cons h2 t2 => rw [h1.inj h2, ih t2]
theorem EItem.mono {h h' : Heap} {x : EK} {v : Value} (hx : EItem prog w h x v) (k : ∀ b o, h.get? b = some o → (∃ items n, o.data = .seq items n) → h'.get? b = some o) : EItem prog w h' x v := by
  cases hx with
  | s ok => exact .s ok
  | i => exact .i
  | t hx => obtain ⟨o, items, n, ho, hc, hd, hi⟩ := hx; exact .t ⟨o, items, n, k _ _ ho ⟨_, _, hd⟩, hc, hd, hi⟩
theorem EItems.mono {h h' : Heap} {x : List EK} {vs : List Value} (hx : EItems prog w h x vs) (k : ∀ b o, h.get? b = some o → (∃ items n, o.data = .seq items n) → h'.get? b = some o) : EItems prog w h' x vs := by
  induction hx with
  | nil => exact .nil
  | cons h1 _ ih => exact .cons (h1.mono k) ih
theorem IsEKey.mono {h h' : Heap} {ks : List EK} {a : Addr} (x : IsEKey prog w h ks a) (k : ∀ b o, h.get? b = some o → (∃ items n, o.data = .seq items n) → h'.get? b = some o) : IsEKey prog w h' ks a :=
  Exists.imp (fun _ => Exists.imp fun _ => Exists.imp fun _ y => ⟨k _ _ y.1 ⟨_, _, y.2.2.1⟩, y.2.1, y.2.2.1, y.2.2.2.mono k⟩) x
theorem IsEKey.inj {h : Heap} {a : Addr} {x y : List EK} (hx : IsEKey prog w h x a) (hy : IsEKey prog w h y a) : x = y := by
  obtain ⟨o, items, n, ho, _, hd, hi⟩ := hx
  obtain ⟨o', items', n', ho', _, hd', hi'⟩ := hy
  obtain rfl : o = o' := Option.some.inj (ho.symm.trans ho')
  rw [hd] at hd'; injection hd' with h1 _; subst h1
  exact hi.inj hi'
theorem IsEKey.typeIs {s : Shared} {ks : List EK} {a : Addr} (x : IsEKey prog w s.heap ks a) : s.TypeIs (.ref a) "tuple" := Exists.imp (fun _ y => Exists.elim y fun _ y => Exists.elim y fun _ y => ⟨y.1, y.2.1⟩) x
theorem ItemsAre.reads {h : Heap} {ks : List Int} {vs : List Value} (x : ItemsAre (PySem.intKind prog w) ks vs) : ReadsAll h vs (ks.map .int) [] := by
  induction x with
  | nil => exact .nil
  | cons h1 _ ih => obtain ⟨t, rfl⟩ := Value.isInt_shape h1; exact ReadsAll.cons (as := []) (bs := []) (.int _ _) ih
theorem EItem.reads {h : Heap} {k : EK} {v : Value} (x : EItem prog w h k v) : Reads h v k.data [] := by
  cases x with
  | s _ => exact .str _ _
  | i => exact .int _ _
  | t x => obtain ⟨o, items, n, ho, hc, hd, hi⟩ := x; exact .tuple ho hc hd (ItemsAre.reads hi)
theorem EItems.reads {h : Heap} {ks : List EK} {vs : List Value} (x : EItems prog w h ks vs) : ReadsAll h vs (ks.map EK.data) [] := by
  induction x with
  | nil => exact .nil
  | cons h1 _ ih => exact ReadsAll.cons (as := []) (bs := []) h1.reads ih
theorem IsEKey.reads {h : Heap} {ks : List EK} {a : Addr} (x : IsEKey prog w h ks a) : Reads h (.ref a) (.tuple (ks.map EK.data)) [] := by
  obtain ⟨o, items, n, ho, hc, hd, hi⟩ := x; exact .tuple ho hc hd hi.reads
theorem canInts : ∀ l : List Int, PyData.canLayAll0 (l.map PyData.int) = true
  | [] => rfl
  | x :: l => by show (PyData.canLay0 (.int x) && PyData.canLayAll0 (l.map PyData.int)) = true; rw [canInts l]; rfl
theorem EItem.can {h : Heap} {k : EK} {v : Value} (x : EItem prog w h k v) : k.data.canLay0 = true := by
  cases x with
  | s ok => exact ok
  | i => rfl
  | t _ => exact canInts _
theorem EItems.can {h : Heap} {ks : List EK} {vs : List Value} (x : EItems prog w h ks vs) : PyData.canLayAll0 (ks.map EK.data) = true := by
  induction x with
  | nil => rfl
  | cons h1 _ ih => rw [List.map_cons, PyData.canLayAll0, h1.can, ih]; rfl
theorem eqvInts : ∀ a b : List Int, PyData.eqvAll (a.map .int) (b.map .int) = decide (a = b) := ked_eqvAll
theorem EK.eqv (a b : EK) : PyData.eqv a.data b.data = decide (a = b) := by
  cases a <;> cases b <;> simp [EK.data, PyData.eqv, eqvInts] <;> rfl
theorem eks_eqv : ∀ a b : List EK, PyData.eqvAll (a.map EK.data) (b.map EK.data) = decide (a = b)
  | [], [] => by simp [PyData.eqvAll]
  | [], _ :: _ => by simp [PyData.eqvAll]
  | _ :: _, [] => by simp [PyData.eqvAll]
  | x :: a, y :: b => by
    rw [List.map_cons, List.map_cons, PyData.eqvAll, EK.eqv, eks_eqv a b]
    by_cases h1 : x = y <;> by_cases h2 : a = b <;> simp [h1, h2]
theorem depthInts : ∀ l : List Int, PyData.depthAll (l.map PyData.int) = 0
  | [] => by rw [List.map_nil, PyData.depthAll]
  | x :: l => by rw [List.map_cons, PyData.depthAll, depthInts l, PyData.depth]; rfl
theorem depthE (k : EK) : k.data.depth ≤ 1 := by
  cases k <;> simp [EK.data, PyData.depth, depthInts]
theorem depthEs : ∀ l : List EK, PyData.depthAll (l.map EK.data) ≤ 1
  | [] => by rw [List.map_nil, PyData.depthAll]; (first | k_extra "z k_ar" | omega)
  | x :: l => by rw [List.map_cons, PyData.depthAll]; have := depthE x; have := depthEs l; (first | k_extra "z k_ar" | omega)
variable {A : Around} {E : Value → Shared → Prop} {s : Shared}
theorem ekey_eq {x y : List EK} {a b : Addr} {Q : Bool → Shared → Prop} (hu : A.units + 10 < cLine) (hx : IsEKey prog w s.heap x a) (hy : IsEKey prog w s.heap y b) (h : Q (decide (x = y)) s) :
    wpAny (model prog w) A (eqBool (.ref a) (.ref b)) Q E s := by
  have cx : PyData.canLayAll0 (x.map EK.data) = true := by obtain ⟨_, _, _, _, _, _, hi⟩ := hx; exact hi.can
  have cy : PyData.canLayAll0 (y.map EK.data) = true := by obtain ⟨_, _, _, _, _, _, hi⟩ := hy; exact hi.can
  have d1 : (PyData.tuple (x.map EK.data)).depth ≤ 2 := by rw [PyData.depth]; have := depthEs x; (first | k_extra "z k_ar" | omega)
  refine SeqAt.eqAt_reads (.tuple (x.map EK.data)) (.tuple (y.map EK.data)) A s _ _ _ _ hx.reads hy.reads cx cy (by (first | k_extra "z k_ar" | omega)) prog w E Q ?_
  rw [PyData.eqv, eks_eqv]; exact h
theorem ehash_item {k : EK} {v : Value} {Q : Int → Shared → Prop} (hu : A.units < cLine) (x : EItem prog w s.heap k v) (h : Q (k.hash w) { s with toks := s.toks + k.draws }) :
    wpAny (model prog w) A (PySem.pyHash v) Q E s := by
  cases x with
  | s _ => exact (PySem.strKind prog w).pyHash (strKind_is _ _ _ _) h
  | i => exact (PySem.intKind prog w).pyHash (intKind_is _ _ _ _) h
  | t x => exact wpAny_pyHash_tuple hu x h
theorem ehash {ks : List EK} {a : Addr} {Q : Int → Shared → Prop} (hu : A.units + 10 < cLine) (hk : IsEKey prog w s.heap ks a)
    (h : Q (reduceHash (Builtin.Tuple.tupleHashOf (ks.map (EK.hash w)))) { s with toks := s.toks + ((ks.map EK.draws).sum + 1) }) :
    wpAny (model prog w) A (PySem.pyHash (.ref a)) Q E s := by
  have hT := hk.typeIs
  obtain ⟨o, items, n, ho, _, hd, hi⟩ := hk
  unfold PySem.pyHash
  first | unfold pyHashByItsType | skip
  first | refine wpAny_bind (wpAny_cRoomFor_or (.inr (by (first | k_extra "z k_ar" | omega))) ?_) | skip
  refine wpAny_bind (wpAny_specialOf hT F.slot_tuple_hash.lookup ?_)
  show wpAny _ _ (if (some (Value.builtin "tuple.__hash__") == some Value.none) = true then _ else _) Q E s
  rw [if_neg (by rw [beq_builtin_none]; exact Bool.false_ne_true)]
  refine wpAny_bind (wpAny_specialOf hT F.slot_tuple_hash.lookup ?_)
  show wpAny _ _ (callSpecialIfBoundUnlessNone? (.ref a) "__hash__" _ >>= _) Q E s
  refine wpAny_bind (wpAny_callSpecialIfBoundUnlessNone?_slot hT F.slot_tuple_hash (wpAny_call_entry F.slot_tuple_hash hT F.entry_tuple_hash ?_ (F.args_tuple_hash_1 _)))
  show wpAny _ _ (Builtin.Tuple.tupleItemsOf (.ref a) >>= _) _ _ s
  refine wpAny_bind (wpAny_tupleItemsOf ho hd ?_)
  refine wpAny_bind ?_
  rw [← Array.forIn_toList]
  refine wpAny_forIn_list _
    (fun rest (b : Array Int) s' => ∃ done left, ks = done ++ left ∧ EItems prog w s.heap left rest ∧ b.toList = done.map (EK.hash w) ∧ s' = { s with toks := s.toks + (done.map EK.draws).sum })
    _ ?_ ?_ _ _ ⟨[], ks, rfl, hi, rfl, rfl⟩
  · rintro x rest b s' ⟨done, left, rfl, hl, hb, rfl⟩
    cases hl with
    | @cons k _ ks' _ h1 hl' =>
      refine wpAny_bind (ehash_item (by show A.units + 1 < cLine; (first | k_extra "z k_ar" | omega)) h1 ?_)
      first
        | exact wpAny_pure ⟨done ++ [k], ks', by simp, hl', by simp [hb], by simp [Nat.add_assoc]⟩
        | exact wpAny_bind (wpAny_pure (wpAny_pure ⟨done ++ [k], ks', by simp, hl', by simp [hb], by simp [Nat.add_assoc]⟩))
  · rintro b s' ⟨done, left, rfl, hl, hb, rfl⟩
    cases hl
    rw [List.append_nil] at h
    show wpAny _ _ (retInt (Builtin.Tuple.tupleHashOf b.toList)) _ _ _
    rw [hb]
    refine wpAny_ret_mkInt ?_
    show wpAny _ _ (if (decide (-(2 : Int) ^ 63 ≤ Builtin.Tuple.tupleHashOf (done.map (EK.hash w))) && decide (Builtin.Tuple.tupleHashOf (done.map (EK.hash w)) < 2 ^ 63)) = true then _ else _) Q E _
    unfold reduceHash at h
    by_cases hr : (decide (-(2 : Int) ^ 63 ≤ Builtin.Tuple.tupleHashOf (done.map (EK.hash w))) && decide (Builtin.Tuple.tupleHashOf (done.map (EK.hash w)) < 2 ^ 63)) = true
    · rw [if_pos hr]
      rw [if_pos hr] at h
      exact wpAny_pure (by simpa [Nat.add_assoc] using h)
    · rw [if_neg hr]
      rw [if_neg hr] at h
      exact wpAny_bind (wpAny_rule (wpAny_pure (by simpa [Nat.add_assoc] using h)))
theorem equiet_flat {l : List Int} {b : Addr} {n : Nat} {Q : Bool → Shared → Prop} (hk : IsTupleKey (PySem.intKind prog w) s.heap l b) (h : Q true s) : wpAny (model prog w) A (eqIsQuiet (n + 1) (.ref b)) Q E s := by
  have hT := hk.typeIs
  obtain ⟨o, items, n', ho, _, hd, hi⟩ := hk
  unfold eqIsQuiet
  refine wpAny_bind (wpAny_specialOf hT F.slot_tuple_eq.lookup ?_)
  show wpAny _ _ (isInstance (.ref b) (.type "tuple") >>= _) _ _ s
  refine wpAny_bind (wpAny_isInstance hT isSubtype_tuple_tuple ?_)
  simp only [Bool.not_true, Bool.false_eq_true, if_false]
  refine wpAny_bind (wpAny_seqItems ho hd ?_)
  refine wpAny_bind ?_
  show wpAny _ _ (forIn items _ _) _ _ s
  rw [← Array.forIn_toList]
  refine wpAny_forIn_list _ (fun rest r s' => r.1 = none ∧ s' = s ∧ ∀ v ∈ rest, carriedByValue v = true) _ ?_ ?_ _ _ ⟨rfl, rfl, hi.byValue⟩
  · rintro v rest r s' ⟨hr, rfl, hall⟩
    rw [eqIsQuiet_byValue _ (hall v List.mem_cons_self)]
    refine wpAny_bind (wpAny_pure ?_)
    simp only [Bool.not_true, Bool.false_eq_true, if_false]
    exact wpAny_pure ⟨rfl, rfl, fun u hu' => hall u (List.mem_cons_of_mem _ hu')⟩
  · rintro ⟨r1, r2⟩ s' ⟨hr, rfl, _⟩
    simp only at hr
    subst hr
    exact wpAny_pure h
theorem equiet_item {k : EK} {v : Value} {n : Nat} {Q : Bool → Shared → Prop} (hk : EItem prog w s.heap k v) (h : Q true s) : wpAny (model prog w) A (eqIsQuiet (n + 1) v) Q E s := by
  cases hk with
  | s _ => rw [eqIsQuiet_byValue _ rfl]; exact wpAny_pure h
  | i => rw [eqIsQuiet_byValue _ rfl]; exact wpAny_pure h
  | t x => exact equiet_flat x h
theorem equiet {ks : List EK} {a : Addr} {Q : Bool → Shared → Prop} (hk : IsEKey prog w s.heap ks a) (h : Q true s) : wpAny (model prog w) A (eqIsQuiet 8 (.ref a)) Q E s := by
  have hT := hk.typeIs
  obtain ⟨o, items, n', ho, _, hd, hi⟩ := hk
  unfold eqIsQuiet
  refine wpAny_bind (wpAny_specialOf hT F.slot_tuple_eq.lookup ?_)
  show wpAny _ _ (isInstance (.ref a) (.type "tuple") >>= _) _ _ s
  refine wpAny_bind (wpAny_isInstance hT isSubtype_tuple_tuple ?_)
  simp only [Bool.not_true, Bool.false_eq_true, if_false]
  refine wpAny_bind (wpAny_seqItems ho hd ?_)
  refine wpAny_bind ?_
  show wpAny _ _ (forIn items _ _) _ _ s
  rw [← Array.forIn_toList]
  refine wpAny_forIn_list _ (fun rest r s' => r.1 = none ∧ s' = s ∧ ∃ left, EItems prog w s.heap left rest) _ ?_ ?_ _ _ ⟨rfl, rfl, ks, hi⟩
  · rintro v rest r s' ⟨hr, rfl, left, hall⟩
    cases hall with
    | cons h1 h2 =>
      refine wpAny_bind (equiet_item h1 ?_)
      simp only [Bool.not_true, Bool.false_eq_true, if_false]
      exact wpAny_pure ⟨rfl, rfl, _, h2⟩
  · rintro ⟨r1, r2⟩ s' ⟨hr, rfl, _⟩
    simp only at hr
    subst hr
    exact wpAny_pure h
end
noncomputable def eKind (prog : Program) (w : World) : HeapKind prog w (List EK) where
  is := IsEKey prog w
  hash := fun ks => reduceHash (Builtin.Tuple.tupleHashOf (ks.map (EK.hash w)))
  draws := fun ks => (ks.map EK.draws).sum + 1
  room := fun A => A.units + 10 < cLine
  inj := fun hx hy => hx.inj hy
  keeps := fun x ho hd hs => x.mono fun b o e hc => (hs.2 b (by
    rintro rfl
    obtain rfl := Option.some.inj (ho.symm.trans e)
    obtain ⟨_, _, hq⟩ := hc
    rw [hd] at hq; cases hq)).trans e
  pyHash := fun hu hk h => ehash hu hk h
  eqBool := fun hu hx hy h => ekey_eq hu hx hy h
  quiet := fun hk h => equiet hk h
inductive EIn (imm : List (Addr × Obj)) : EK → Value → Prop
  | s {x : Str} {t : Tok} : (PyData.str x).canLay0 = true → EIn imm (.s x) (.str x t)
  | i {k : Int} {t : Tok} : EIn imm (.i k) (.int k t)
  | t {l : List Int} {vs : List Value} {b : Addr} : (b, tupOf vs) ∈ imm → IntsAre vs l → EIn imm (.t l) (.ref b)
inductive EIns (imm : List (Addr × Obj)) : List EK → List Value → Prop
  | nil : EIns imm [] []
  | cons {k : EK} {v : Value} {ks : List EK} {vs : List Value} : EIn imm k v → EIns imm ks vs → EIns imm (k :: ks) (v :: vs)
noncomputable def KeyIn (imm : List (Addr × Obj)) (ks : List EK) (a : Addr) : Prop := ∃ vs, (a, tupOf vs) ∈ imm ∧ EIns imm ks vs
section
variable {prog : Program} {w : World} {imm imm' news : List (Addr × Obj)} {h₀ h : Heap} {L : Addr}
theorem EIn.mono {k : EK} {v : Value} (x : EIn imm k v) (s : ∀ p ∈ imm, p ∈ imm') : EIn imm' k v := by
  cases x with
  | s h => exact .s h
  | i => exact .i
  | t h1 h2 => exact .t (s _ h1) h2
theorem EIns.mono {k : List EK} {v : List Value} (x : EIns imm k v) (s : ∀ p ∈ imm, p ∈ imm') : EIns imm' k v := by
  induction x with
  | nil => exact .nil
  | cons h _ ih => exact .cons (h.mono s) ih
theorem KeyIn.mono {ks : List EK} {a : Addr} (x : KeyIn imm ks a) (s : ∀ p ∈ imm, p ∈ imm') : KeyIn imm' ks a := Exists.imp (fun _ => And.imp (s _) fun e => e.mono s) x
theorem ints_items {vs : List Value} {l : List Int} (h : IntsAre vs l) : ItemsAre (PySem.intKind prog w) l vs := by
  induction h with
  | nil => exact .nil
  | cons i t _ ih => exact .cons (intKind_is _ _ _ _) ih
theorem EIn.heap {k : EK} {v : Value} (x : EIn imm k v) (N : News h₀ L h news) (s : ∀ p ∈ imm, p ∈ news) : EItem prog w h k v := by
  cases x with
  | s h => exact .s h
  | i => exact .i
  | t h1 h2 => exact .t ⟨_, _, _, (N _ (s _ h1)).1, rfl, rfl, ints_items h2⟩
theorem EIns.heap {k : List EK} {v : List Value} (x : EIns imm k v) (N : News h₀ L h news) (s : ∀ p ∈ imm, p ∈ news) : EItems prog w h k v := by
  induction x with
  | nil => exact .nil
  | cons h _ ih => exact .cons (h.heap N s) ih
theorem KeyIn.heap {ks : List EK} {a : Addr} (x : KeyIn imm ks a) (N : News h₀ L h news) (s : ∀ p ∈ imm, p ∈ news) : IsEKey prog w h ks a :=
  let ⟨vs, hm, e⟩ := x; ⟨_, _, _, (N _ (s _ hm)).1, rfl, rfl, e.heap N s⟩
noncomputable def EDictIs (prog : Program) (w : World) (imm : List (Addr × Obj)) (o : Obj) (xs : List (List EK × Addr × Value)) : Prop :=
  ∃ es ep, o.ExactDict ∧ o.data = .dict es ep ∧ es.toList = xs.map (entryOfKey (eKind prog w)) ∧ (∀ x ∈ xs, KeyIn imm x.1 x.2.1) ∧ (xs.map (·.1)).Nodup
theorem EDictIs.mono {o : Obj} {xs : List (List EK × Addr × Value)} (x : EDictIs prog w imm o xs) (s : ∀ p ∈ imm, p ∈ imm') : EDictIs prog w imm' o xs :=
  Exists.imp (fun _ => Exists.imp fun _ => And.imp_right (And.imp_right (And.imp_right (And.imp_left fun d y hy => (d y hy).mono s)))) x
theorem EDictIs.heap {o : Obj} {xs : List (List EK × Addr × Value)} {d : Addr} (x : EDictIs prog w imm o xs) (N : News h₀ L h news) (s : ∀ p ∈ imm, p ∈ news) (hd : (d, o) ∈ news) : h.DictOfH (eKind prog w) d xs :=
  Exists.elim x fun es y => Exists.elim y fun ep y => ⟨o, es, ep, (N _ hd).1, y.1, y.2.1, y.2.2.1, fun z hz => (y.2.2.2.1 z hz).heap N s, y.2.2.2.2⟩
theorem dictH_get {prog : Program} {w : World} {kd : HeapKind prog w (List EK)} {d : Addr} {xs : List (List EK × Addr × Value)} (x : h.DictOfH kd d xs) : ∃ o, h.get? d = some o := Exists.imp (fun _ y => Exists.elim y fun _ y => Exists.elim y fun _ y => y.1) x
variable {A : Around} {E : Value → Shared → Prop} {s : Shared} {hS : Heap} {gS : Array GenState} {dS : Drawn} {tS : Nat} {oS : OsState} {d a : Addr} {o : Obj} {xs : List (List EK × Addr × Value)} {k : List EK}
theorem edmeth {pl : Sem Bool} {Q : Value × List Value → Shared → Prop} (N : News h₀ L s.heap news) (hs : ∀ p ∈ imm, p ∈ news) (hp : (d, o) ∈ news) (hd : EDictIs prog w imm o xs) (h : Q (.builtin "dict.get", [.ref d]) s) :
    wpAny (model prog w) A (getMethod (.ref d) "get" pl) Q E s :=
  have hD := hd.heap N hs hp
  getMethod_builtin hD.typeIs PySem.F.plainAttrs_dict PySem.F.slot_dict_get PySem.F.type_dict_get (dictOfH_noDict hD) h
theorem edget {dflt : Value} {Q : Value → Shared → Prop} (hu : A.units + 11 < cLine) (N : News h₀ L hS news) (hs : ∀ p ∈ imm, p ∈ news) (hp : (d, o) ∈ news) (hd : EDictIs prog w imm o xs) (lo : (d == sysModules) = false)
    (hk : IsEKey prog w hS k a) {y : Option Value} (hl : (atKey xs k).map (·.2) = y) (h : ∀ tk, Q (y.getD dflt) ⟨hS, gS, dS, tk, oS⟩) : wpAny (model prog w) A (call (.builtin "dict.get") [.ref d, .ref a, dflt]) Q E ⟨hS, gS, dS, tS, oS⟩ :=
  have hD := hd.heap N hs hp
  call_meetsIn PySem.F.slot_dict_get hD.typeIs PySem.F.entry_dict_get (PySem.F.args_dict_get_3 _ _ _) (meetsH_dict_get_default (eKind prog w) d a lo dflt) ⟨(show A.units + 1 + 10 < cLine by (first | k_extra "z k_ar" | omega)), k, xs, hk, hD, by rw [hl]; exact h _⟩
theorem obj_shape {h₁ : Heap} {o' : Obj} {xs' : List (List EK × Addr × Value)} (hg : h₁.get? d = some o') (hm : h₁.DictOfH (eKind prog w) d xs') (hk : ∀ x ∈ xs', KeyIn imm x.1 x.2.1) : EDictIs prog w imm o' xs' := by
  obtain ⟨o, es, ep, ho, a, b, c, _, g⟩ := hm
  obtain rfl := Option.some.inj (hg.symm.trans ho)
  exact ⟨es, ep, a, b, c, hk, g⟩
theorem edset {m : Str → Option Value} {f : Fix} {r : Raw} {Z : List (Addr × Obj)} {v : Value} {Q : Unit → Shared → Prop} (hu : A.units + 11 < cLine) (F : Fr h₀ L hS m) (N : News h₀ L hS (Z ++ led f r)) (nd : Sep f r Z) (hs : ∀ p ∈ imm, p ∈ Z ++ led f r) (hp : (d, o) ∈ Z ++ led f r) (hd : EDictIs prog w imm o xs)
    (hk : KeyIn imm k a) (r' : Obj → Raw) (U : ∀ o', Upd d o o' (Z ++ led f r) (Z ++ led f (r' o'))) (hsz : xs.length ≤ 1000)
    (h : ∀ h' o' tk, Fr h₀ L h' m → News h₀ L h' (Z ++ led f (r' o')) → Sep f (r' o') Z → EDictIs prog w imm o' (storedH xs k a v) → Q () ⟨h', gS, dS, tk, oS⟩) : wpAny (model prog w) A (setItem (.ref d) (.ref a) v) Q E ⟨hS, gS, dS, tS, oS⟩ := by
  have hD := hd.heap N hs hp
  have hm := N _ hp
  refine wpAny_setItem_heap (hsz := by rw [sizeLine_eq]; (first | k_extra "z k_ar" | omega)) (show A.units + 1 + 10 < cLine by (first | k_extra "z k_ar" | omega)) (hk.heap N hs) hD fun h' hmm hss => ?_
  obtain ⟨o', ho'⟩ : ∃ o', h'.get? d = some o' := dictH_get hmm
  refine h h' o' _ (F.change hss hm.2.1 hm.2.2) (news_upd' N (U o') hss ho') (nd.upd (U o')) (obj_shape ho' hmm fun x hx => ?_)
  obtain ⟨_, _, _, _, _, hks, _⟩ := hd
  rcases mem_storedH hx with ⟨y, hy, e1, e2⟩ | ⟨e1, e2⟩
  · rw [e1, e2]; exact hks y hy
  · rw [e1, e2]; exact hk
end
theorem valueAt_cons {K : Type} [DecidableEq K] {kvs : List (K × Value)} {k j : K} {v : Value} : valueAt ((k, v) :: kvs) j = if k = j then some v else valueAt kvs j := by
  unfold valueAt
  by_cases h : k = j <;> simp [h]
theorem valueAt_mem {K : Type} [DecidableEq K] {k : K} {v : Value} {kvs : List (K × Value)} (h : valueAt kvs k = some v) : (k, v) ∈ kvs := by
  induction kvs with
  | nil => exact nomatch h
  | cons p kvs ih =>
    rw [valueAt_cons (k := p.1) (v := p.2)] at h
    by_cases e : p.1 = k
    · rw [if_pos e] at h
      rw [← Option.some.inj h, ← e]; exact .head _
    · rw [if_neg e] at h
      exact .tail _ (ih h)
theorem valueAt_none {K : Type} [DecidableEq K] {k : K} {kvs : List (K × Value)} (h : ∀ p ∈ kvs, p.1 ≠ k) : valueAt kvs k = none := by
  induction kvs with
  | nil => rfl
  | cons p kvs ih =>
    rw [valueAt_cons (k := p.1) (v := p.2), if_neg (h _ (.head _))]
    exact ih fun q hq => h q (.tail _ hq)
theorem valueAt_map {K : Type} [DecidableEq K] {k j : K} {v : Value} (kvs : List (K × Value)) : valueAt (kvs.map fun kv => if kv.1 = k then (kv.1, v) else kv) j = if j = k then (valueAt kvs j).map fun _ => v else valueAt kvs j := by
  induction kvs with
  | nil => by_cases h : j = k <;> simp only [h, if_true, if_false] <;> rfl
  | cons p kvs ih =>
    rw [List.map_cons, valueAt_cons (k := p.1) (v := p.2)]
    by_cases h : p.1 = k
    · rw [if_pos h, valueAt_cons, ih]
      by_cases hj : j = k
      · rw [if_pos hj, if_pos hj, if_pos (h.trans hj.symm), if_pos (h.trans hj.symm)]; rfl
      · rw [if_neg hj, if_neg hj]
        rw [if_neg fun e => hj (e.symm.trans h), if_neg fun e => hj (e.symm.trans h)]
    · rw [if_neg h, valueAt_cons (k := p.1) (v := p.2), ih]
      by_cases hj : j = k
      · rw [if_pos hj, if_pos hj]
        rw [if_neg fun e => h (e.trans hj), if_neg fun e => h (e.trans hj)]
      · rw [if_neg hj, if_neg hj]
theorem valueAt_app {K : Type} [DecidableEq K] {j : K} (a b : List (K × Value)) : valueAt (a ++ b) j = match valueAt a j with | some v => some v | none => valueAt b j := by
  induction a with
  | nil => rfl
  | cons p a ih =>
    rw [List.cons_append, valueAt_cons (k := p.1) (v := p.2), valueAt_cons (k := p.1) (v := p.2), ih]
    by_cases h : p.1 = j
    · rw [if_pos h, if_pos h]
    · rw [if_neg h, if_neg h]
theorem valueAt_stored {K : Type} [DecidableEq K] (kvs : List (K × Value)) (k j : K) (v : Value) : valueAt (stored kvs k v) j = if j = k then some v else valueAt kvs j := by
  unfold stored
  split
  · rename_i h
    rw [valueAt_map]
    split
    · rename_i e; subst e
      obtain ⟨p, hp, e⟩ := List.any_eq_true.mp h
      cases hv : valueAt kvs j with
      | some _ => rfl
      | none =>
        exfalso
        have : (kvs.any fun kv => kv.1 = j) = (valueAt kvs j).isSome := (valueAt_isSome_eq_any ..).symm
        rw [hv, h] at this; cases this
    · rfl
  · rename_i h
    rw [valueAt_app, valueAt_cons]
    have : (kvs.any fun kv => kv.1 = k) = (valueAt kvs k).isSome := (valueAt_isSome_eq_any ..).symm
    by_cases e : j = k
    · subst e
      cases hv : valueAt kvs j with
      | none => simp
      | some _ => rw [hv] at this; exact absurd this h
    · rw [if_neg (Ne.symm e), if_neg e]
      cases valueAt kvs j <;> rfl
theorem at_kvs (xs : List (List EK × Addr × Value)) (k : List EK) : (atKey xs k).map (·.2) = valueAt (kvsOf xs) k := by
  unfold atKey valueAt kvsOf
  rw [List.find?_map, Option.map_map, Option.map_map]
  rfl
theorem storedH_len (xs : List (List EK × Addr × Value)) (k : List EK) (a : Addr) (v : Value) : (storedH xs k a v).length ≤ xs.length + 1 := by
  unfold storedH; split <;> simp
theorem ints_snoc {vs : List Value} {l : List Int} (h : IntsAre vs l) (v : Int) (t : Tok) : IntsAre (vs ++ [.int v t]) (l ++ [v]) := by
  induction h with
  | nil => exact .cons _ _ .nil
  | cons i t _ ih => exact .cons _ _ ih
theorem empty_is {prog : Program} {w : World} : (dictOf [] 0).IsDictOf (strKind prog w) [] := ⟨_, _, ⟨rfl, rfl, rfl⟩, rfl, fun e he => by simp at he, .nil, List.nodup_nil⟩
theorem over1 {a : Str} {m m₀ : Str → Option Value} (h : ∀ y, y ∉ [a] → m y = m₀ y) : ∃ u, m = bind1 a u m₀ := by
  refine ⟨m a, ?_⟩
  funext y
  unfold bind1
  by_cases e1 : y = a
  · subst e1; simp
  simp only [e1, if_false]
  exact h y (by simp [e1])
theorem over2 {a b : Str} {m m₀ : Str → Option Value} (h : ∀ y, y ∉ [a, b] → m y = m₀ y) : ∃ u1 u2, m = bind1 a u1 (bind1 b u2 m₀) := by
  refine ⟨m a, m b, ?_⟩
  funext y
  unfold bind1
  by_cases e1 : y = a
  · subst e1; simp
  by_cases e2 : y = b
  · subst e2; simp [e1]
  simp only [e1, e2, if_false]
  exact h y (by simp [e1, e2])
theorem lines7 : True := by
  k_with "z k_mem" => (first | ((with_reducible refine mem_vd ?_); exact mem_updL_self (by assumption)) | ((with_reducible refine mem_row ?_); exact mem_updL_self (by assumption)))
  trivial
theorem dropZ2 {h₀ h : Heap} {L : Addr} {f : Fix} {r : Raw} {Z : List (Addr × Obj)} {q q' : Addr × Obj} (N : News h₀ L h ((q :: q' :: Z) ++ led f r)) : News h₀ L h ((q :: Z) ++ led f r) := fun p hp => N p (by rcases List.mem_cons.mp hp with rfl | hp; exact .head _; exact .tail _ (.tail _ hp))
theorem to_imm2 {h₀ h : Heap} {L : Addr} {f : Fix} {r : Raw} {Z : List (Addr × Obj)} {q q' : Addr × Obj} (N : News h₀ L h ((q :: q' :: Z) ++ led f r)) (nd : Sep f r (q :: q' :: Z)) : NS h₀ L h f (r.s_imm (q :: r.imm)) Z := to_imm (dropZ2 N) nd.drop2
inductive FnIs (w : World) (imm : List (Addr × Obj)) : Value → Int → Int → Prop
  | none : FnIs w imm .none 0 0
  | fn {fa fd la : Addr} {fo : Obj} {fnid up : Int} {t t2 : Tok} {a b c d e g i j : Value} : (fa, instObj 376 fd) ∈ imm → (fd, fo) ∈ imm → fo.IsDictOf (strKind PR w) (fnK (.int fnid t) a (.ref la) b c d e (.int up t2) g i j) → FnIs w imm (.ref fa) fnid up
section
variable {w : World} {p : Program} {loose : List Str} {mean : ExcName → Option Value} {mg mb : Str → Option Value}
    {dp un : Nat} {gd : Option (List Code)} {cn : Str} {cs : Scope} {a : Addr} {ccd : Value} {cl : List (Str × Addr)} {outer : List Env} {A₀ : Around} {base h₀ : Heap} {L : Addr} {m : Str → Option Value} {s : Shared} {hS : Heap} {gS : Array GenState} {dS : Drawn} {tS : Nat} {oS : OsState}
    {Q E : Value → Shared → Prop} {f : Fix} {r : Raw} {Z : List (Addr × Obj)}
theorem lines8 : True := by
  k_with "z getMethod ref" => ((k_here; (with_reducible show wpAny _ _ (getMethod (Value.ref _) (Str.ofString "get") _) _ _ _); k_dflt (refine edmeth (imm := Raw.imm _) (by k_asm) (fun _ h => mem_imm h) (by k_mem) (by assumption) ?_)))
  k_with "z call ref" => ((k_here; (with_reducible show wpAny _ _ (call (Value.ref 845) [_, _, Value.ref _, _]) _ _ _); k_dflt (refine tell_fault_spec ⟨by k_asm, by k_asm, by k_asm, by k_asm, by k_asm, by first | exact rfl | assumption⟩ (by assumption) (by assumption) (by assumption) (by first | assumption | exact NodeAt.mono (by assumption) (fun _ h => .tail _ h) | exact NodeAt.mono (by assumption) (fun _ h => .tail _ (.tail _ h))) (by first | assumption | (simp; (first | k_extra "z k_ar" | omega))) (by k_extra "z ev_room") (by k_extra "z ev_room") ?_); intro zqt' zqtn' zqb' zqvs' zqh' zqtk zqhB' zqF' zqN' zqnd'; (try k_sweep)))
  trivial
theorem local_use_spec {fn owner static init blocks cat : Value} {fnid up : Int} {an : Addr} {nat : Int} {lid : Int} {tl : Tok} {va vd : Addr} {vo : Obj} {vl varg vblock : Value} {name : Str} {tn tk tf to : Tok} {kind flags own : Int}
    {xs : List (List EK × Addr × Value)}
    (C : Cx w p loose mean mg mb cs outer A₀ base h₀ L m hS (Z ++ led f r)) (nd : Sep f r Z)
    (hC : r.ocx.IsDictOf (strKind PR w) (cxK f fn owner static init blocks cat)) (S : Sta w f r.imm) (hfn : FnIs w r.imm fn fnid up) (hn : NodeAt w Z an nat)
    (hl : 0 ≤ lid ∧ lid < 100) (hvs : r.vs[lid.toNat]? = some (.ref va)) (hva : (va, instObj 355 vd) ∈ r.imm) (hvd : (vd, vo) ∈ r.vdL)
    (hvo : vo.IsDictOf (strKind PR w) (varK vl (.str name tn) (.int kind tk) (.int flags tf) (.int own to) varg vblock))
    (hno : EDictIs PR w r.imm r.onotes xs) (hlo : (f.anotes == sysModules) = false)
    (hown : fn = .none → own = fnid)
    (hz : r.rows.size ≤ 900) (hdp : dp + 16 < recursionLimit) (hu : un + 120 < cLine)
    (retC : Builtin.bitAnd flags 16 ≠ 0 → ∀ b vs h' tk', IsBad vs → Fr h₀ L h' m → News h₀ L h' (Z ++ led f (r.s_imm ((b, tupOf vs) :: r.imm))) → Sep f (r.s_imm ((b, tupOf vs) :: r.imm)) Z →
      Q (((atKey xs [.s "const", .i lid]).map (·.2)).getD (.ref b)) ⟨h', gS, dS, tk', oS⟩)
    (retF : Builtin.bitAnd flags 16 = 0 → own ≠ fnid → Builtin.bitAnd flags (Builtin.bitOr 2 4) ≠ 0 → ∀ (t : Addr) (tnn : Tok × Tok) b c us vs h' tk', IsBad vs → us = [.str name tn] → Fr h₀ L h' m →
      News h₀ L h' (Z ++ led f ((r.s_rows (r.rows.push (.ref t)) (r.nrows + 1)).s_imm ((c, tupOf us) :: (b, tupOf vs) :: (t, tupOf [.int 1628 tnn.1, .int nat tnn.2, .ref c]) :: r.imm))) →
      Sep f ((r.s_rows (r.rows.push (.ref t)) (r.nrows + 1)).s_imm ((c, tupOf us) :: (b, tupOf vs) :: (t, tupOf [.int 1628 tnn.1, .int nat tnn.2, .ref c]) :: r.imm)) Z → Q (.ref b) ⟨h', gS, dS, tk', oS⟩)
    (retK : Builtin.bitAnd flags 16 = 0 → own ≠ fnid → Builtin.bitAnd flags (Builtin.bitOr 2 4) = 0 → ∀ t t1 t2 t3 t4 vo' h' tk', vo'.IsDictOf (strKind PR w) (varK vl (.str name tn) (.int kind tk) (.int (Builtin.bitOr flags 8) t4) (.int own to) varg vblock) → Fr h₀ L h' m →
      News h₀ L h' (Z ++ led f ((r.s_vdL (updL vd vo' r.vdL)).s_imm ((t, tupOf [.int 2 t1, .int kind t2, .int lid t3]) :: r.imm))) → Sep f ((r.s_vdL (updL vd vo' r.vdL)).s_imm ((t, tupOf [.int 2 t1, .int kind t2, .int lid t3]) :: r.imm)) Z →
      Q (.ref t) ⟨h', gS, dS, tk', oS⟩)
    (retO : Builtin.bitAnd flags 16 = 0 → own = fnid → ∀ t t1 t2 t3 h' tk', Fr h₀ L h' m →
      News h₀ L h' (Z ++ led f (r.s_imm ((t, tupOf [.int 2 t1, .int kind t2, .int lid t3]) :: r.imm))) → Sep f (r.s_imm ((t, tupOf [.int 2 t1, .int kind t2, .int lid t3]) :: r.imm)) Z →
      Q (.ref t) ⟨h', gS, dS, tk', oS⟩) :
    wpAny (model PR w) (ktrTop dp un gd cn cs L a ccd cl outer) (call (.ref 859) [.ref f.acx, .int lid tl, .ref an]) Q E ⟨hS, gS, dS, tS, oS⟩ := by
 k_with "b" =>
  refine hide ?_
  intro GG hGG
  obtain ⟨B, F, X, N, T, hk⟩ := C
  have hcx := S.cx
  have hun := S.unit
  obtain ⟨ou, ua, ub, uc, ud, ue, hud, hU⟩ := S.unitd
  refine hGG ?_
  clear hGG GG
  cases hfn with
  | none =>
    k_dflt k_extra "z enterF"
    k_steps
    refine unhold ?_
    refine itemL (by k_asm) mem_avs hl.1 (by (first | k_extra "z k_ar" | omega)) hvs ?_
    k_steps
    · rename Fr _ _ _ _ => lF'
      rename News _ _ _ _ => lN'
      rename Sep _ _ _ => nd3
      refine edget (imm := r.imm) (k := [.s "const", .i lid]) (by k_extra "z ev_room") lN' (fun _ h => mem_imm h) mem_anotes hno hlo ⟨_, _, _, (lN' _ (.tail _ (.head _))).1, rfl, rfl, .cons (.s (by decide +kernel)) (.cons .i .nil)⟩ rfl ?_
      intro tkk
      k_steps
      obtain ⟨N5, nd5⟩ := to_imm2 (f := f) (Z := Z) (by k_asm) (by assumption)
      exact retC (by assumption) _ _ _ _ ⟨_, _, _, rfl⟩ (by k_asm) N5 nd5
    · obtain ⟨N5, nd5⟩ := to_imm (f := f) (Z := Z) (by k_asm) (by assumption)
      exact retO (by assumption) (hown rfl) _ _ _ _ _ _ (by k_asm) N5 nd5
  | fn h1 h2 h3 =>
    k_dflt k_extra "z enterF"
    k_steps
    refine unhold ?_
    refine itemL (by k_asm) mem_avs hl.1 (by (first | k_extra "z k_ar" | omega)) hvs ?_
    k_steps
    · rename Fr _ _ _ _ => lF'
      rename News _ _ _ _ => lN'
      rename Sep _ _ _ => nd3
      refine edget (imm := r.imm) (k := [.s "const", .i lid]) (by k_extra "z ev_room") lN' (fun _ h => mem_imm h) mem_anotes hno hlo ⟨_, _, _, (lN' _ (.tail _ (.head _))).1, rfl, rfl, .cons (.s (by decide +kernel)) (.cons .i .nil)⟩ rfl ?_
      intro tkk
      k_steps
      obtain ⟨N5, nd5⟩ := to_imm2 (f := f) (Z := Z) (by k_asm) (by assumption)
      exact retC (by assumption) _ _ _ _ ⟨_, _, _, rfl⟩ (by k_asm) N5 nd5
    · obtain ⟨N5, nd5⟩ := to_imm (f := f) (Z := Z) (by k_asm) (by assumption)
      exact retF (by assumption) (by assumption) (by assumption) _ (_, _) _ _ _ _ _ _ (by assumption) rfl (by k_asm) N5 nd5
    · obtain ⟨N5, nd5⟩ := to_imm (f := f) (Z := Z) (by k_asm) (by assumption)
      exact retK (by assumption) (by assumption) (by assumption) _ _ _ _ _ _ _ _ (by assumption) (by k_asm) N5 nd5
    · obtain ⟨N5, nd5⟩ := to_imm (f := f) (Z := Z) (by k_asm) (by assumption)
      exact retO (by assumption) (by assumption) _ _ _ _ _ _ (by k_asm) N5 nd5
 refine no_implicit_lambda% (qo ?_)
 simp (disch := k_dflt k_extra "b") only [↓qs]
end
section
variable {prog : Program} {w : World} {A : Around} {E : Value → Shared → Prop} {s : Shared} {hS : Heap} {gS : Array GenState} {dS : Drawn} {tS : Nat} {oS : OsState} {h₀ : Heap} {L : Addr} {m : Str → Option Value} {f : Fix} {r r' : Raw} {Z : List (Addr × Obj)}
theorem lset {D : Addr} {its : Array Value} {n : Nat} {k : Int} {t : Tok} {v : Value} {Q : Unit → Shared → Prop} (F : Fr h₀ L hS m) (N : News h₀ L hS (Z ++ led f r)) (nd : Sep f r Z) (U : Upd D (listOf its n) (listOf (its.setIfInBounds k.toNat v) n) (Z ++ led f r) (Z ++ led f r'))
    (h0 : 0 ≤ k) (h1 : k < its.size) (h2 : k < 1000)
    (h : ∀ h', Fr h₀ L h' m → News h₀ L h' (Z ++ led f r') → Sep f r' Z → Q () ⟨h', gS, dS, tS, oS⟩) : wpAny (model prog w) A (setItem (.ref D) (.int k t) v) Q E ⟨hS, gS, dS, tS, oS⟩ := by
  have nd' := nd.upd U
  refine hide ?_
  intro GG hGG
  obtain ⟨pre, post, e1, e2, a, b⟩ := U.split
  refine hGG ?_
  clear hGG GG
  have z := N (D, listOf its n) (by rw [e1]; simp)
  rw [e1] at N
  refine ki_setAt z.1 h0 (by (first | k_extra "z k_ar" | omega)) h1 (h _ (F.change (Heap.SameBut.update ..) z.2.1 z.2.2) ?_ nd')
  rw [e2]
  exact ki_turn _ N a b rfl (by simp)
end
section
variable {w : World} {p : Program} {loose : List Str} {mean : ExcName → Option Value} {mg mb : Str → Option Value}
    {dp un : Nat} {gd : Option (List Code)} {cn : Str} {cs : Scope} {a : Addr} {ccd : Value} {cl : List (Str × Addr)} {outer : List Env} {A₀ : Around} {base h₀ : Heap} {L : Addr} {m : Str → Option Value} {s : Shared} {hS : Heap} {gS : Array GenState} {dS : Drawn} {tS : Nat} {oS : OsState}
    {Q E : Value → Shared → Prop} {f : Fix} {r : Raw} {Z : List (Addr × Obj)}
theorem lines9 : True := by
  k_with "z setItem ref int" => ((k_here; k_dflt ((fail_if_success (fail_if_success (refine' lset ?_ ?_ ?_ ?_ ?_ ?_ ?_ ?_))); refine lset (by k_asm) (by k_asm) (by assumption) (by k_upd) (by decide) (by first | decide | (simp; done)) (by decide) ?_); intro zqh' zqF' zqN' zqnd'; (try k_sweep)))
  trivial
theorem law_local_spec {wa wb wc wd we : Value} {lid : Int} {tl : Tok} {out : Bool} {at_ : Int} {tat : Tok} {ra : Addr} {name : Str} {tn tk tf : Tok} {kind flags : Int} {n : Nat} {ckv : List (Int × Value)}
    (C : Cx w p loose mean mg mb cs outer A₀ base h₀ L m hS (Z ++ led f r)) (nd : Sep f r Z)
    (hW : r.ow.IsDictOf (strKind PR w) (wK f wa wb wc wd we))
    (hl : 1 ≤ lid ∧ lid < 100) (hvs : r.vars[(lid - 1).toNat]? = some (.ref ra)) (hra : (ra, listOf #[.str name tn, .int kind tk, .int flags tf] n) ∈ r.rowL)
    (hco : r.oconsts.IsDictOf (intKind PR w) ckv) (hlo : (f.aconsts == sysModules) = false)
    (hz : r.told.size ≤ 900) (hdp : dp + 8 < recursionLimit) (hu : un + 120 < cLine)
    (retC : Builtin.bitAnd flags 16 ≠ 0 → ∀ b vs h' tk', IsBad vs → Fr h₀ L h' m → News h₀ L h' (Z ++ led f (r.s_imm ((b, tupOf vs) :: r.imm))) → Sep f (r.s_imm ((b, tupOf vs) :: r.imm)) Z →
      Q ((valueAt ckv lid).getD (.ref b)) ⟨h', gS, dS, tk', oS⟩)
    (retF : Builtin.bitAnd flags 16 = 0 → out = true → Builtin.bitAnd flags (Builtin.bitOr 2 4) ≠ 0 → ∀ (t : Addr) t1 b c us vs h' tk', IsBad vs → us = [.str name tn] → Fr h₀ L h' m →
      News h₀ L h' (Z ++ led f ((r.s_told (r.told.push (.ref t)) (r.ntold + 1)).s_imm ((c, tupOf us) :: (t, tupOf [.int 1628 t1, .int at_ tat, .ref c]) :: (b, tupOf vs) :: r.imm))) →
      Sep f ((r.s_told (r.told.push (.ref t)) (r.ntold + 1)).s_imm ((c, tupOf us) :: (t, tupOf [.int 1628 t1, .int at_ tat, .ref c]) :: (b, tupOf vs) :: r.imm)) Z → Q (.ref b) ⟨h', gS, dS, tk', oS⟩)
    (retK : Builtin.bitAnd flags 16 = 0 → out = true → Builtin.bitAnd flags (Builtin.bitOr 2 4) = 0 → ∀ t t1 t2 t3 t4 h' tk', Fr h₀ L h' m →
      News h₀ L h' (Z ++ led f ((r.s_rowL (updL ra (listOf #[.str name tn, .int kind tk, .int (Builtin.bitOr flags 8) t4] n) r.rowL)).s_imm ((t, tupOf [.int 2 t1, .int kind t2, .int lid t3]) :: r.imm))) →
      Sep f ((r.s_rowL (updL ra (listOf #[.str name tn, .int kind tk, .int (Builtin.bitOr flags 8) t4] n) r.rowL)).s_imm ((t, tupOf [.int 2 t1, .int kind t2, .int lid t3]) :: r.imm)) Z →
      Q (.ref t) ⟨h', gS, dS, tk', oS⟩)
    (retO : Builtin.bitAnd flags 16 = 0 → out = false → ∀ t t1 t2 t3 h' tk', Fr h₀ L h' m →
      News h₀ L h' (Z ++ led f (r.s_imm ((t, tupOf [.int 2 t1, .int kind t2, .int lid t3]) :: r.imm))) → Sep f (r.s_imm ((t, tupOf [.int 2 t1, .int kind t2, .int lid t3]) :: r.imm)) Z →
      Q (.ref t) ⟨h', gS, dS, tk', oS⟩) :
    wpAny (model PR w) (ktrTop dp un gd cn cs L a ccd cl outer) (call (.ref 962) [.ref f.aw, .int lid tl, .bool out, .int at_ tat]) Q E ⟨hS, gS, dS, tS, oS⟩ := by
 k_with "b" =>
  refine hide ?_
  intro GG hGG
  obtain ⟨B, F, X, N, T, hk⟩ := C
  refine hGG ?_
  clear hGG GG
  k_dflt k_extra "z enterF"
  k_steps
  refine unhold ?_
  refine itemL (by k_asm) mem_avars (by (first | k_extra "z k_ar" | omega)) (by (first | k_extra "z k_ar" | omega)) hvs ?_
  have hcv : valueAt ckv lid = valueAt ckv lid := rfl
  k_steps
  · obtain ⟨N5, nd5⟩ := to_imm (f := f) (Z := Z) (by k_asm) (by assumption)
    exact retC (by assumption) _ _ _ _ ⟨_, _, _, rfl⟩ (by k_asm) N5 nd5
  · refine hide ?_
    intro GG hGG
    obtain ⟨N5, nd5⟩ := to_imm (f := f) (Z := _ :: _ :: Z) (by k_asm) (by assumption)
    obtain ⟨N6, nd6⟩ := to_imm (f := f) (Z := _ :: Z) N5 nd5
    obtain ⟨N7, nd7⟩ := to_imm (f := f) (Z := Z) N6 nd6
    refine hGG ?_
    clear hGG GG
    exact retF (by assumption) (by assumption) (by assumption) _ _ _ _ _ _ _ _ ⟨_, _, _, rfl⟩ rfl (by k_asm) N7 nd7
  · refine unhold ?_
    refine itemL (by k_asm) mem_avars (by (first | k_extra "z k_ar" | omega)) (by (first | k_extra "z k_ar" | omega)) hvs ?_
    k_steps
    obtain ⟨N5, nd5⟩ := to_imm (f := f) (Z := Z) (by k_asm) (by assumption)
    exact retK (by assumption) (by assumption) (by assumption) _ _ _ _ _ _ _ (by k_asm) N5 nd5
  · obtain ⟨N5, nd5⟩ := to_imm (f := f) (Z := Z) (by k_asm) (by assumption)
    exact retO (by assumption) (by assumption) _ _ _ _ _ _ (by k_asm) N5 nd5
 refine no_implicit_lambda% (qo ?_)
 simp (disch := k_dflt k_extra "b") only [↓qs]
end
noncomputable def storeK (f : Fix) (types a b c d e : Value) : List (Str × Value) := [("kt", .ref f.akt), ("types", types), ("fields_", a), ("methods", b), ("names", c), ("asms", d), ("entry", e)]
noncomputable def ktK (index a b c d : Value) : List (Str × Value) := [("rows", a), ("index", index), ("depths", b), ("weights", c), ("opens", d)]
noncomputable def tdK (sort params a b c d e g i j k l m n o p q r u : Value) : List (Str × Value) := ("tid", a) :: ("name", b) :: ("sort", sort) :: ("flags", c) :: ("base", d) :: ("ifaces", e) :: ("params", params) :: ("variances", g) :: ("bounds", i) :: ("fields", j) :: ("methods", k) :: ("asm", l) :: ("cctor", m) :: ("under", n) :: ("impls", o) :: ("props", p) :: ("events", q) :: ("finaliser", r) :: ("home", u) :: []
/- the kinds' table and the types' table, as they stand after the setup -/
inductive StdP (w : World) (f : Fix) (imm : List (Addr × Obj)) (its : Array Value) : Prop
  | mk (o : Obj) (aT : Addr) (a b c d e : Value) (n : Nat) : (f.astored, o) ∈ imm → o.IsDictOf (strKind PR w) (storeK f (.ref aT) a b c d e) → (aT, listOf its n) ∈ imm → StdP w f imm its
inductive KtdP (w : World) (f : Fix) (imm : List (Addr × Obj)) (xs : List (List EK × Addr × Value)) : Prop
  | mk (o : Obj) (ai : Addr) (oi : Obj) (a b c d : Value) : (f.aktd, o) ∈ imm → o.IsDictOf (strKind PR w) (ktK (.ref ai) a b c d) → (ai, oi) ∈ imm → EDictIs PR w imm oi xs → (ai == sysModules) = false → KtdP w f imm xs
structure Kin (w : World) (f : Fix) (imm : List (Addr × Obj)) (its : Array Value) (xs : List (List EK × Addr × Value)) : Prop where
  st : (f.astore, instObj 250 f.astored) ∈ imm
  std : StdP w f imm its
  kt : (f.akt, instObj 110 f.aktd) ∈ imm
  ktd : KtdP w f imm xs
theorem Kin.mono {w : World} {f : Fix} {imm imm' : List (Addr × Obj)} {its : Array Value} {xs : List (List EK × Addr × Value)} (S : Kin w f imm its xs) (h : ∀ p ∈ imm, p ∈ imm') : Kin w f imm' its xs where
  st := h _ S.st
  std := let ⟨_, _, _, _, _, _, _, _, a, b, c⟩ := S.std; ⟨_, _, _, _, _, _, _, _, h _ a, b, h _ c⟩
  kt := h _ S.kt
  ktd := let ⟨_, _, _, _, _, _, _, a, b, c, d, e⟩ := S.ktd; ⟨_, _, _, _, _, _, _, h _ a, b, h _ c, d.mono h, e⟩
noncomputable def KRow (xs : List (List EK × Addr × Value)) (k : List EK) (i : Int) : Prop := ∃ t, (atKey xs k).map (·.2) = some (.int i t)
/- a type that the setup made -/
inductive TdAt (w : World) (imm : List (Addr × Obj)) (its : Array Value) (tid : Int) (np : Nat) (sort : Int) : Prop
  | mk (ta td : Addr) (o : Obj) (t : Tok) (pa : Addr) (pits : Array Value) (n : Nat) (a b c d e g i j k l m n' o' p q r u : Value) : its[tid.toNat]? = some (.ref ta) → (ta, instObj 229 td) ∈ imm → (td, o) ∈ imm → o.IsDictOf (strKind PR w) (tdK (.int sort t) (.ref pa) a b c d e g i j k l m n' o' p q r u) → (pa, listOf pits n) ∈ imm → pits.size = np → TdAt w imm its tid np sort
theorem TdAt.mono {w : World} {imm imm' : List (Addr × Obj)} {its : Array Value} {tid : Int} {np : Nat} {sort : Int} (x : TdAt w imm its tid np sort) (h : ∀ p ∈ imm, p ∈ imm') : TdAt w imm' its tid np sort := let ⟨_, _, _, _, _, _, _, _, _, _, _, _, _, _, _, _, _, _, _, _, _, _, _, _, a, b, c, d, e, g⟩ := x; ⟨_, _, _, _, _, _, _, _, _, _, _, _, _, _, _, _, _, _, _, _, _, _, _, _, a, h _ b, h _ c, d, h _ e, g⟩
section
variable {w : World} {p : Program} {loose : List Str} {mean : ExcName → Option Value} {mg mb : Str → Option Value}
    {dp un : Nat} {gd : Option (List Code)} {cn : Str} {cs : Scope} {a : Addr} {ccd : Value} {cl : List (Str × Addr)} {outer : List Env} {A₀ : Around} {base h₀ : Heap} {L : Addr} {m : Str → Option Value} {s : Shared} {hS : Heap} {gS : Array GenState} {dS : Drawn} {tS : Nat} {oS : OsState}
    {Q E : Value → Shared → Prop} {f : Fix} {r : Raw} {Z : List (Addr × Obj)}
theorem lines10 : True := by
  k_with "z k_mem" => ((with_reducible exact mem_Z (List.mem_cons_self ..)))
  trivial
theorem tupleOfN {l : Addr} {vs : List Value} {n : Nat} {Q : Value → Shared → Prop} {prog : Program} {A : Around} (F : Fr h₀ L hS m) (N : News h₀ L hS (Z ++ led f r)) (nd : Sep f r Z) (hp : (l, listOf vs.toArray n) ∈ Z ++ led f r) (hz : vs.length ≤ 1000)
    (h : ∀ D h', let Z' := (D, tupOf vs) :: Z; Fr h₀ L h' m → News h₀ L h' (Z' ++ led f r) → Sep f r Z' → Q (.ref D) ⟨h', gS, dS, tS, oS⟩) : wpAny (model prog w) A (call (.type "tuple") [.ref l]) Q E ⟨hS, gS, dS, tS, oS⟩ :=
  kde_tupleOf F N (isListN N hp) (by simp; (first | k_extra "z k_ar" | omega)) rfl fun D h' F' N' l => h D h' F' N' (nd.push l)
theorem lines11 : True := by
  k_with "z call type:tuple" => ((k_here; (with_reducible show wpAny _ _ (call (Value.type _) [Value.ref _]) _ _ _); k_dflt (refine tupleOfN (by k_asm) (by k_asm) (by assumption) (by k_mem) (by (first | k_extra "z k_ar" | omega)) ?_); intro zql' zqh' zqZ' zqF' zqN' zqnd'; (try k_sweep)))
  trivial
theorem appZ {pre Z₂ : List (Addr × Obj)} {D : Addr} {its : Array Value} {n : Nat} {x : Value} {Q : Value → Shared → Prop} {prog : Program} {A : Around} (F : Fr h₀ L hS m) (N : News h₀ L hS ((pre ++ (D, listOf its n) :: Z₂) ++ led f r)) (nd : Sep f r (pre ++ (D, listOf its n) :: Z₂)) (hz : its.size ≤ 1000)
    (h : ∀ h', Fr h₀ L h' m → News h₀ L h' ((pre ++ (D, listOf (its.push x) (n + 1)) :: Z₂) ++ led f r) → Sep f r (pre ++ (D, listOf (its.push x) (n + 1)) :: Z₂) → Q .none ⟨h', gS, dS, tS, oS⟩) : wpAny (model prog w) A (call (.builtin "list.append") [.ref D, x]) Q E ⟨hS, gS, dS, tS, oS⟩ := by
  unfold Sep at nd
  have U : Upd D (listOf its n) (listOf (its.push x) (n + 1)) ((pre ++ (D, listOf its n) :: Z₂) ++ led f r) ((pre ++ (D, listOf (its.push x) (n + 1)) :: Z₂) ++ led f r) := by
    simp only [List.append_assoc, List.cons_append] at nd ⊢
    exact upd_mid nd
  refine append_K F N U (fun h' F' N' => h h' F' N' ?_) (by rw [sizeLine_eq]; (first | k_extra "z k_ar" | omega))
  unfold Sep
  rw [upd_fst U]; exact nd
/- kt.put of a row that is there -/
theorem put_spec {its : Array Value} {xs : List (List EK × Addr × Value)} {k : List EK} {i : Int} {b : Addr}
    (C : Cx w p loose mean mg mb cs outer A₀ base h₀ L m hS (Z ++ led f r)) (nd : Sep f r Z)
    (S : Kin w f r.imm its xs) (hk : KeyIn (Z ++ led f r) k b) (hi : KRow xs k i) (h0 : 0 ≤ i)
    (hdp : dp + 8 < recursionLimit) (hu : un + 60 < cLine)
    (ret : ∀ t h' tk', Fr h₀ L h' m → News h₀ L h' (Z ++ led f r) → Sep f r Z → Q (.int i t) ⟨h', gS, dS, tk', oS⟩) :
    wpAny (model PR w) (ktrTop dp un gd cn cs L a ccd cl outer) (call (.ref 107) [.ref f.akt, .ref b]) Q E ⟨hS, gS, dS, tS, oS⟩ := by
 k_with "b" =>
  refine hide ?_
  intro GG hGG
  obtain ⟨B, F, X, N, T, hkk⟩ := C
  have hkt := S.kt
  obtain ⟨o, ai, oi, wa, wb, wc, wd, hkd, hko, hix, hed, hlo⟩ := S.ktd
  obtain ⟨tv, hi⟩ := hi
  refine hGG ?_
  clear hGG GG
  k_dflt k_extra "z enterF"
  k_steps
  rename Fr _ _ _ _ => lF'
  rename News _ _ _ _ => lN'
  refine edget (imm := r.imm) (by k_extra "z ev_room") lN' (fun _ h => mem_imm h) (mem_imm hix) hed hlo (hk.heap lN' fun _ h => h) hi ?_
  intro tkk
  dsimp only [Option.getD]
  k_steps
  · exact ret _ _ _ (by k_asm) (by k_asm) (by assumption)
  all_goals trace_state
  all_goals (first | k_extra "z k_ar" | omega)
 refine no_implicit_lambda% (qo ?_)
 simp (disch := k_dflt k_extra "b") only [↓qs]
theorem lines12 : True := by
  k_with "z call ref" => ((k_here; (with_reducible show wpAny _ _ (call (Value.ref 107) [Value.ref _, Value.ref _]) _ _ _); first | (k_dflt (refine put_spec ⟨by k_asm, by k_asm, by k_asm, by k_asm, by k_asm, by first | exact rfl | assumption⟩ (by assumption) (by assumption) (by first | exact ⟨_, by k_mem, .cons .i (.cons .i .nil)⟩ | exact ⟨_, by k_mem, .cons .i (.cons .i (.cons (.t (by k_mem) (by assumption)) .nil))⟩) (by assumption) (by first | assumption | (first | k_extra "z k_ar" | omega)) (by k_extra "z ev_room") (by k_extra "z ev_room") ?_); intro zqt' zqh' zqtk zqF' zqN' zqnd'; (try k_sweep)) | refine hold ?_))
  trivial
theorem self_kind_spec {its : Array Value} {xs : List (List EK × Addr × Value)} {tid k : Int} {tt : Tok} {np : Nat} {sort : Int} {vks : List Int}
    (C : Cx w p loose mean mg mb cs outer A₀ base h₀ L m hS (Z ++ led f r)) (nd : Sep f r Z)
    (S : Kin w f r.imm its xs) (hT : TdAt w r.imm its tid np sort) (htid : 21 ≤ tid ∧ tid ≤ 26) (hnp : np ≤ 2) (hvl : vks.length = 2)
    (hv : ∀ (i : Nat) v, vks[i]? = some v → 0 ≤ v ∧ KRow xs [.i 6, .i (i : Int)] v) (hs1 : sort = 2 ∨ sort = 5 → KRow xs [.i 3, .i tid, .t (vks.take np)] k) (hs2 : ¬(sort = 2 ∨ sort = 5) → KRow xs [.i 2, .i tid, .t (vks.take np)] k) (hk0 : 0 ≤ k)
    (hdp : dp + 20 < recursionLimit) (hu : un + 120 < cLine)
    (ret : ∀ t h' tk', Fr h₀ L h' m → News h₀ L h' (Z ++ led f r) → Sep f r Z → Q (.int k t) ⟨h', gS, dS, tk', oS⟩) :
    wpAny (model PR w) (ktrTop dp un gd cn cs L a ccd cl outer) (call (.ref 261) [.ref f.astore, .int tid tt]) Q E ⟨hS, gS, dS, tS, oS⟩ := by
 k_with "b" =>
  refine hide ?_
  intro GG hGG
  obtain ⟨B, F, X, N, T, hkk⟩ := C
  have hst := S.st
  have hkt := S.kt
  obtain ⟨ok, ai, oi, ia, ib, ic, id, hkd, hko, hix, hed, hlo⟩ := S.ktd
  obtain ⟨o, aT, wa, wb, wc, wd, we, wn, hsd, hso, hts⟩ := S.std
  obtain ⟨ta, td, ot, t, pa, pits, n, xa, xb, xc, xd, xe, g, i, j, k', l, mm, n', o', p', q, rr, u, hit, hta, htd, hto, hpa, hpn⟩ := hT
  refine hGG ?_
  clear hGG GG
  k_dflt k_extra "z enterF"
  k_steps
  · exfalso
    exact tid_no (by assumption) (by assumption)
  refine unhold ?_
  refine itemL (by k_asm) (mem_imm hts) (by (first | k_extra "z k_ar" | omega)) (by (first | k_extra "z k_ar" | omega)) hit ?_
  k_steps
  refine unhold ?_
  rename Fr _ _ _ _ => lF'
  with_unfolding_all refine For_invVF lF' rfl rfl ?_
  k_steps
  refine unhold ?_
  rename IsRange _ _ _ _ _ _ _ _ => rg
  rename Sep f r _ => ndl
  refine iterR (fun i m₁ n₁ => ∃ up vs, m₁ = bind1 "place" up (bind1 "args" (some (.ref zql')) (bind1 "t" (some (.ref ta)) (fun y => List.lookup y [(("tid" : Str), Value.int tid tt), ("store", .ref f.astore)]))) ∧ n₁ = ((zql', listOf vs.toArray i) :: Z) ++ led f r ∧ Sep f r ((zql', listOf vs.toArray i) :: Z) ∧ IntsAre vs (vks.take i))
    rfl rg (small_one (by decide) (by decide) (by (first | k_extra "z k_ar" | omega)) (by (first | k_extra "z k_ar" | omega))) (n := np) (by rw [rangeSize_one, hpn]; split <;> (first | k_extra "z k_ar" | omega)) (by k_asm) (by k_asm) ?_ ?_ ?_
  · refine ⟨none, [], ?_, rfl, ndl, .nil⟩
    exact (mapIf rfl).symm
  · rintro i t m₁ n₁ I io h tk hi ⟨up, vs, rfl, rfl, nd1, hvs⟩ hI F1 N1
    have nd2 := Sep.cons' (q := (I, io)) nd1 hI
    replace N1 : News _ _ h (((I, io) :: (zql', listOf vs.toArray i) :: Z) ++ led f r) := N1
    clear hI nd1
    have hvl2 := hvs.length
    rw [List.length_take] at hvl2
    refine hide ?_
    intro GG hGG
    obtain ⟨v, hvi⟩ : ∃ v, vks[i]? = some v := ⟨_, List.getElem?_eq_getElem (by (first | k_extra "z k_ar" | omega))⟩
    obtain ⟨hv0, hvk⟩ := hv i v hvi
    refine hGG ?_
    clear hGG GG
    rw [show (i : Int) = 0 + (i : Int) * 1 from by (first | k_extra "z k_ar" | omega)] at hvk
    k_steps
    rename Fr _ _ _ _ => lF'
    rename News _ _ _ _ => lN'
    rename Sep _ _ _ => nd3
    refine appZ (pre := [_, _]) lF' lN' nd3 (by simp; (first | k_extra "z k_ar" | omega)) ?_
    intro h5 F5 N5 nd5
    rw [List.push_toArray] at N5 nd5
    simp only [List.cons_append, List.nil_append] at N5 nd5
    k_steps
    refine turn_next (_ ++ led f r) F5 (sub_news N5 (fun p hp => .tail _ hp)) (fun _ h => nomatch h) (nd5.drop).ne ⟨some (Value.int (0 + (i : Int) * 1) t), _, bind_twice, rfl, (nd5.drop).drop, ?_⟩ rfl
    rw [List.take_add_one, hvi]
    exact ints_snoc hvs _ _
  · rintro m₁ n₁ h tk ⟨up, vs, rfl, rfl, nd1, hvs⟩ F1 N1
    have hvl2 := hvs.length
    rw [List.length_take] at hvl2
    dsimp only
    k_steps
    refine unhold ?_
    refine itemL (by k_asm) (mem_imm hts) (by (first | k_extra "z k_ar" | omega)) (by (first | k_extra "z k_ar" | omega)) hit ?_
    k_steps
    · refine unhold ?_
      refine put_spec ⟨by k_asm, by k_asm, by k_asm, by k_asm, by k_asm, by first | exact rfl | assumption⟩ (by assumption) (by assumption) ⟨_, by k_mem, .cons .i (.cons .i (.cons (.t (by k_mem) (by assumption)) .nil))⟩ (hs1 (.inl (by assumption))) hk0 (by k_extra "z ev_room") (by k_extra "z ev_room") ?_
      intro t' h' tk F' N' nd'
      k_steps
      exact ret _ _ _ (by k_asm) (dropZ (dropZ (dropZ (by k_asm)))) nd
    · refine unhold ?_
      refine put_spec ⟨by k_asm, by k_asm, by k_asm, by k_asm, by k_asm, by first | exact rfl | assumption⟩ (by assumption) (by assumption) ⟨_, by k_mem, .cons .i (.cons .i (.cons (.t (by k_mem) (by assumption)) .nil))⟩ (hs1 (.inr (by assumption))) hk0 (by k_extra "z ev_room") (by k_extra "z ev_room") ?_
      intro t' h' tk F' N' nd'
      k_steps
      exact ret _ _ _ (by k_asm) (dropZ (dropZ (dropZ (by k_asm)))) nd
    · refine unhold ?_
      refine put_spec ⟨by k_asm, by k_asm, by k_asm, by k_asm, by k_asm, by first | exact rfl | assumption⟩ (by assumption) (by assumption) ⟨_, by k_mem, .cons .i (.cons .i (.cons (.t (by k_mem) (by assumption)) .nil))⟩ (hs2 (by intro hh; rcases hh with hh | hh <;> contradiction)) hk0 (by k_extra "z ev_room") (by k_extra "z ev_room") ?_
      intro t' h' tk F' N' nd'
      k_steps
      exact ret _ _ _ (by k_asm) (dropZ (dropZ (dropZ (by k_asm)))) nd
 refine no_implicit_lambda% (qo ?_)
 simp (disch := k_dflt k_extra "b") only [↓qs]
end
section
variable {w : World} {p : Program} {loose : List Str} {mean : ExcName → Option Value} {mg mb : Str → Option Value}
    {dp un : Nat} {gd : Option (List Code)} {cn : Str} {cs : Scope} {a : Addr} {ccd : Value} {cl : List (Str × Addr)} {outer : List Env} {A₀ : Around} {base h₀ : Heap} {L : Addr} {m : Str → Option Value} {s : Shared} {hS : Heap} {gS : Array GenState} {dS : Drawn} {tS : Nat} {oS : OsState}
    {Q E : Value → Shared → Prop} {f : Fix} {r : Raw} {Z : List (Addr × Obj)}
structure OwnIs (w : World) (imm : List (Addr × Obj)) (its : Array Value) (xs : List (List EK × Addr × Value)) (tid : Int) (np : Nat) (sort : Int) (vks : List Int) (k : Int) : Prop where
  td : TdAt w imm its tid np sort
  np2 : np ≤ 2
  vl : vks.length = 2
  hv : ∀ (i : Nat) v, vks[i]? = some v → 0 ≤ v ∧ KRow xs [.i 6, .i (i : Int)] v
  hs1 : sort = 2 ∨ sort = 5 → KRow xs [.i 3, .i tid, .t (vks.take np)] k
  hs2 : ¬(sort = 2 ∨ sort = 5) → KRow xs [.i 2, .i tid, .t (vks.take np)] k
noncomputable def Own (w : World) (imm : List (Addr × Obj)) (its : Array Value) (xs : List (List EK × Addr × Value)) (tid k : Int) : Prop :=
  0 ≤ k ∧ k < 40 ∧ (tid = 15 ∧ k = 7 ∨ tid = 4 ∧ k = 13 ∨ tid = 1 ∧ k = 12 ∨ (21 ≤ tid ∧ tid ≤ 26) ∧ ∃ np sort vks, OwnIs w imm its xs tid np sort vks k)
theorem Own.mono {imm imm' : List (Addr × Obj)} {its : Array Value} {xs : List (List EK × Addr × Value)} {tid k : Int} (x : Own w imm its xs tid k) (h : ∀ p ∈ imm, p ∈ imm') : Own w imm' its xs tid k := by
  refine hide ?_
  intro GG hGG
  obtain ⟨h0, h1, x⟩ := x
  refine hGG ?_
  clear hGG GG
  refine ⟨h0, h1, ?_⟩
  rcases x with x | x | x | ⟨h2, np, sort, vks, O⟩
  · exact .inl x
  · exact .inr (.inl x)
  · exact .inr (.inr (.inl x))
  · exact .inr (.inr (.inr ⟨h2, np, sort, vks, ⟨O.td.mono h, O.np2, O.vl, O.hv, O.hs1, O.hs2⟩⟩))
theorem lines13 : True := by
  k_with "z subscriptTail" => (((with_reducible show wpAny _ _ (subscriptTail _ _ (Value.ref 79) (Value.int _ _)) _ _ _); kt_at_item))
  trivial
theorem self_spec {its : Array Value} {xs : List (List EK × Addr × Value)} {tid k : Int} {tt : Tok}
    (C : Cx w p loose mean mg mb cs outer A₀ base h₀ L m hS (Z ++ led f r)) (nd : Sep f r Z)
    (S : Kin w f r.imm its xs) (O : Own w r.imm its xs tid k)
    (hdp : dp + 20 < recursionLimit) (hu : un + 120 < cLine)
    (ret : ∀ t h' tk', Fr h₀ L h' m → News h₀ L h' (Z ++ led f r) → Sep f r Z → Q (.int k t) ⟨h', gS, dS, tk', oS⟩) :
    wpAny (model PR w) (ktrTop dp un gd cn cs L a ccd cl outer) (call (.ref 261) [.ref f.astore, .int tid tt]) Q E ⟨hS, gS, dS, tS, oS⟩ := by
 k_with "b" =>
  refine hide ?_
  intro GG hGG
  obtain ⟨h0, h1, x⟩ := O
  refine hGG ?_
  clear hGG GG
  rcases x with ⟨rfl, rfl⟩ | ⟨rfl, rfl⟩ | ⟨rfl, rfl⟩ | ⟨h2, np, sort, vks, O⟩
  iterate 3
    · refine hide ?_
      intro GG hGG
      obtain ⟨B, F, X, N, T, hkk⟩ := C
      refine hGG ?_
      clear hGG GG
      k_dflt k_extra "z enterF"
      k_steps
      exact ret _ _ _ (by k_asm) (by k_asm) nd
  · exact self_kind_spec C nd S O.td h2 O.np2 O.vl O.hv O.hs1 O.hs2 h0 hdp hu ret
 refine no_implicit_lambda% (qo ?_)
 simp (disch := k_dflt k_extra "b") only [↓qs]
/- whether a kind is a value kind, as the kinds' table has it -/
inductive ValIs (imm : List (Addr × Obj)) (kits : Array Value) (k : Int) (b : Bool) : Prop
  | mk (ra : Addr) (sort : Int) (t : Tok) (vs : List Value) : kits[k.toNat]? = some (.ref ra) → (ra, tupOf (.int sort t :: vs)) ∈ imm → b = (decide (1 ≤ k ∧ k ≤ 11) || decide (sort = 3)) → ValIs imm kits k b
theorem ValIs.mono {imm imm' : List (Addr × Obj)} {kits : Array Value} {k : Int} {b : Bool} (x : ValIs imm kits k b) (h : ∀ p ∈ imm, p ∈ imm') : ValIs imm' kits k b :=
  let ⟨_, _, _, _, a, b, c⟩ := x; ⟨_, _, _, _, a, h _ b, c⟩
inductive KitsAt (w : World) (f : Fix) (imm : List (Addr × Obj)) (kits : Array Value) : Prop
  | mk (h : (f.akt, instObj 110 f.aktd) ∈ imm) (o : Obj) (ar : Addr) (a b c d : Value) (n : Nat) : (f.aktd, o) ∈ imm → o.IsDictOf (strKind PR w) (ktK a (.ref ar) b c d) → (ar, listOf kits n) ∈ imm → KitsAt w f imm kits
theorem KitsAt.mono {imm imm' : List (Addr × Obj)} {kits : Array Value} (x : KitsAt w f imm kits) (h : ∀ p ∈ imm, p ∈ imm') : KitsAt w f imm' kits :=
  let ⟨x, _, _, _, _, _, _, _, a, b, c⟩ := x; ⟨h _ x, _, _, _, _, _, _, _, h _ a, b, h _ c⟩
theorem is_value_spec {kits : Array Value} {k : Int} {b : Bool} {tt : Tok}
    (C : Cx w p loose mean mg mb cs outer A₀ base h₀ L m hS (Z ++ led f r)) (nd : Sep f r Z)
    (S : KitsAt w f r.imm kits) (V : ValIs r.imm kits k b) (hk : 0 ≤ k ∧ k < 40) (hz : kits.size < 100)
    (hdp : dp + 8 < recursionLimit) (hu : un + 60 < cLine)
    (ret : ∀ h' tk', Fr h₀ L h' m → News h₀ L h' (Z ++ led f r) → Sep f r Z → Q (.bool b) ⟨h', gS, dS, tk', oS⟩) :
    wpAny (model PR w) (ktrTop dp un gd cn cs L a ccd cl outer) (call (.ref 205) [.ref f.akt, .int k tt]) Q E ⟨hS, gS, dS, tS, oS⟩ := by
 k_with "b" =>
  refine hide ?_
  intro GG hGG
  obtain ⟨B, F, X, N, T, hkk⟩ := C
  obtain ⟨hkt, o, ar, xa, xb, xc, xd, n, hkd, hko, hkr⟩ := S
  obtain ⟨ra, sort, t, vs, hv1, hv2, hv3⟩ := V
  refine hGG ?_
  clear hGG GG
  have hsz : k < kits.size := by have := (Array.getElem?_eq_some_iff.mp hv1).1; (first | k_extra "z k_ar" | omega)
  k_dflt k_extra "z enterF"
  k_steps
  · have : b = true := by rw [hv3]; simp; (first | k_extra "z k_ar" | omega)
    subst this
    exact ret _ _ (by k_asm) (by k_asm) nd
  all_goals
    refine unhold ?_
    refine itemL (by k_asm) (mem_imm hkr) (by (first | k_extra "z k_ar" | omega)) (by (first | k_extra "z k_ar" | omega)) hv1 ?_
    k_steps
    have : b = (sort == 3) := by rw [hv3, show decide (1 ≤ k ∧ k ≤ 11) = false by simp; (first | k_extra "z k_ar" | omega)]; rfl
    subst this
    exact ret _ _ (by k_asm) (by k_asm) nd
 refine no_implicit_lambda% (qo ?_)
 simp (disch := k_dflt k_extra "b") only [↓qs]
end
section
variable {w : World} {p : Program} {loose : List Str} {mean : ExcName → Option Value} {mg mb : Str → Option Value}
    {dp un : Nat} {gd : Option (List Code)} {cn : Str} {cs : Scope} {a : Addr} {ccd : Value} {cl : List (Str × Addr)} {outer : List Env} {A₀ : Around} {base h₀ : Heap} {L : Addr} {m : Str → Option Value} {s : Shared} {hS : Heap} {gS : Array GenState} {dS : Drawn} {tS : Nat} {oS : OsState}
    {Q E : Value → Shared → Prop} {f : Fix} {r : Raw} {Z : List (Addr × Obj)}
theorem lines14 : True := by
  k_with "z call ref" => ((k_here; (with_reducible show wpAny _ _ (call (Value.ref 261) [Value.ref _, Value.int _ _]) _ _ _); k_dflt (refine self_spec ⟨by k_asm, by k_asm, by k_asm, by k_asm, by k_asm, by first | exact rfl | assumption⟩ (by assumption) (by assumption) (by assumption) (by k_extra "z ev_room") (by k_extra "z ev_room") ?_); intro zqt' zqh' zqtk zqF' zqN' zqnd'; (try k_sweep)))
  k_with "z call ref" => ((k_here; (with_reducible show wpAny _ _ (call (Value.ref 205) [Value.ref _, Value.int _ _]) _ _ _); k_dflt (refine is_value_spec ⟨by k_asm, by k_asm, by k_asm, by k_asm, by k_asm, by first | exact rfl | assumption⟩ (by assumption) (by assumption) (by assumption) (by first | assumption | (first | k_extra "z k_ar" | omega)) (by first | assumption | (first | k_extra "z k_ar" | omega)) (by k_extra "z ev_room") (by k_extra "z ev_room") ?_); intro zqh' zqtk zqF' zqN' zqnd'; (try k_sweep)))
  trivial
theorem this_expr_spec {fn blocks cat : Value} {fnid up tid k static init number : Int} {to ts ti tnum : Tok} {an : Addr} {nat : Int} {b : Bool}
    {its kits : Array Value} {xs : List (List EK × Addr × Value)}
    (C : Cx w p loose mean mg mb cs outer A₀ base h₀ L m hS (Z ++ led f r)) (nd : Sep f r Z)
    (hC : r.ocx.IsDictOf (strKind PR w) (cxK f fn (.int tid to) (.int static ts) (.int init ti) blocks cat)) (S : Sta w f r.imm) (hfn : FnIs w r.imm fn fnid up) (hn : NodeAt w Z an nat)
    (KS : Kin w f r.imm its xs) (KO : Own w r.imm its xs tid k) (KK : KitsAt w f r.imm kits) (KV : ValIs r.imm kits k b) (hkz : kits.size < 100)
    (hz : r.rows.size ≤ 900) (hdp : dp + 26 < recursionLimit) (hu : un + 160 < cLine)
    (retF : ∀ (code : Int) tc, (static ≠ 0 ∧ code = number ∨ static = 0 ∧ init ≠ 0 ∧ code = (if number = 26 then 27 else if init = 1 then 236 else 120) ∨ static = 0 ∧ init = 0 ∧ up ≠ 0 ∧ b = true ∧ code = 1673) →
      ∀ (t : Addr) tn b c vs h' tk', IsBad vs → Fr h₀ L h' m →
      News h₀ L h' (Z ++ led f ((r.s_rows (r.rows.push (.ref t)) (r.nrows + 1)).s_imm ((c, tupOf []) :: (b, tupOf vs) :: (t, tupOf [.int code tc, .int nat tn, .ref c]) :: r.imm))) →
      Sep f ((r.s_rows (r.rows.push (.ref t)) (r.nrows + 1)).s_imm ((c, tupOf []) :: (b, tupOf vs) :: (t, tupOf [.int code tc, .int nat tn, .ref c]) :: r.imm)) Z → Q (.ref b) ⟨h', gS, dS, tk', oS⟩)
    (retO : static = 0 → init = 0 → ¬(up ≠ 0 ∧ b = true) → ∀ t t1 t2 h' tk', Fr h₀ L h' m →
      News h₀ L h' (Z ++ led f (r.s_imm ((t, tupOf [.int 3 t1, .int k t2]) :: r.imm))) → Sep f (r.s_imm ((t, tupOf [.int 3 t1, .int k t2]) :: r.imm)) Z →
      Q (.ref t) ⟨h', gS, dS, tk', oS⟩) :
    wpAny (model PR w) (ktrTop dp un gd cn cs L a ccd cl outer) (call (.ref 852) [.ref f.acx, .ref an, .int number tnum]) Q E ⟨hS, gS, dS, tS, oS⟩ := by
 k_with "b" =>
  refine hide ?_
  intro GG hGG
  obtain ⟨B, F, X, N, T, hkk⟩ := C
  refine hGG ?_
  clear hGG GG
  have hcx := S.cx
  have hk40 := KO.1
  have hk41 := KO.2.1
  cases hfn with
  | none =>
    k_dflt k_extra "z enterF"
    k_steps
    all_goals
      obtain ⟨N5, nd5⟩ := to_imm (f := f) (Z := Z) (by k_asm) (by assumption)
      first
        | exact retO (by assumption) (by assumption) (by rintro ⟨e1, e2⟩; first | contradiction | (simp_all; done)) _ _ _ _ _ (by k_asm) N5 nd5
        | exact retF _ _ (by first | exact .inl ⟨by assumption, rfl⟩ | exact .inr (.inr ⟨by assumption, by assumption, by assumption, by assumption, rfl⟩) | exact .inr (.inl ⟨by assumption, by assumption, by split <;> first | rfl | contradiction | (split <;> first | rfl | contradiction)⟩)) _ _ _ _ _ _ _ (by assumption) (by k_asm) N5 nd5
  | fn h1 h2 h3 =>
    k_dflt k_extra "z enterF"
    k_steps
    all_goals
      obtain ⟨N5, nd5⟩ := to_imm (f := f) (Z := Z) (by k_asm) (by assumption)
      first
        | exact retO (by assumption) (by assumption) (by rintro ⟨e1, e2⟩; first | contradiction | (simp_all; done)) _ _ _ _ _ (by k_asm) N5 nd5
        | exact retF _ _ (by first | exact .inl ⟨by assumption, rfl⟩ | exact .inr (.inr ⟨by assumption, by assumption, by assumption, by assumption, rfl⟩) | exact .inr (.inl ⟨by assumption, by assumption, by split <;> first | rfl | contradiction | (split <;> first | rfl | contradiction)⟩)) _ _ _ _ _ _ _ (by assumption) (by k_asm) N5 nd5
 refine no_implicit_lambda% (qo ?_)
 simp (disch := k_dflt k_extra "b") only [↓qs]
end
theorem ints_getD {vs : List Value} {l : List Int} (h : IntsAre vs l) : ∀ {i : Nat}, i < l.length → ∃ t, vs[i]? = some (.int (l.getD i 0) t) := by
  induction h with
  | nil => intro i hi; simp at hi
  | @cons k vs l t _ ih =>
    intro i hi
    cases i with
    | zero => exact ⟨_, rfl⟩
    | succ i => obtain ⟨t, e⟩ := ih (i := i) (by simpa using hi); exact ⟨t, by simpa using e⟩
noncomputable def thisCode (number place : Int) : Int := if number = 26 then [0, 26, 27, 27].getD place.toNat 0 else [0, 120, 236, 120].getD place.toNat 0
section
variable {w : World} {p : Program} {loose : List Str} {mean : ExcName → Option Value} {mg mb : Str → Option Value}
    {dp un : Nat} {gd : Option (List Code)} {cn : Str} {cs : Scope} {a : Addr} {ccd : Value} {cl : List (Str × Addr)} {outer : List Env} {A₀ : Around} {base h₀ : Heap} {L : Addr} {m : Str → Option Value} {s : Shared} {hS : Heap} {gS : Array GenState} {dS : Drawn} {tS : Nat} {oS : OsState}
    {Q E : Value → Shared → Prop} {f : Fix} {r : Raw} {Z : List (Addr × Obj)}
theorem itemTI {value slice : PySem.Expr} {prog : Program} {A : Around} {news : List (Addr × Obj)} {l : Addr} {vs : List Value} {ls : List Int} {k v : Int} {u : Tok} {Q : Value → Shared → Prop} (N : News h₀ L hS news) (hp : (l, tupOf vs) ∈ news) (hi : IntsAre vs ls)
    (h0 : 0 ≤ k) (h1 : k < ls.length) (hz : ls.length < 1000) (e : ls.getD k.toNat 0 = v) (h : ∀ t, Q (.int v t) ⟨hS, gS, dS, tS, oS⟩)
    (hs : subscripted slice false (.ref l) (.int k u) = operate [.ref l, .int k u] (getItem (.ref l) (.int k u)) := by with_unfolding_all rfl) :
    wpAny (model prog w) A (subscriptTail value slice (.ref l) (.int k u)) Q E ⟨hS, gS, dS, tS, oS⟩ := by
  obtain ⟨t, ht⟩ := ints_getD hi (i := k.toNat) (by (first | k_extra "z k_ar" | omega))
  rw [e] at ht
  exact itemT N hp h0 (by (first | k_extra "z k_ar" | omega)) ht (h t) hs
theorem law_this_spec {wa wb wc wd we : Value} {spot place number at_ k : Int} {tsp tpl tnum tat tk : Tok} {lam b : Bool} {sa ra : Addr} {trs : List Value} {tidv : Value}
    (C : Cx w p loose mean mg mb cs outer A₀ base h₀ L m hS (Z ++ led f r)) (nd : Sep f r Z)
    (hW : r.ow.IsDictOf (strKind PR w) (wK f wa wb wc wd we))
    (hst : (sa, tupOf [.int spot tsp, .int place tpl, .bool lam]) ∈ Z) (hsp : 0 ≤ spot ∧ spot < 9) (hpl : 0 ≤ place ∧ place < 4)
    (hty : (f.atypes, tupOf trs) ∈ r.imm) (htr : trs[spot.toNat]? = some (.ref ra)) (hra : (ra, tupOf [tidv, .int k tk, .bool b]) ∈ r.imm)
    (hz : r.told.size ≤ 900) (hdp : dp + 8 < recursionLimit) (hu : un + 120 < cLine)
    (retF : ∀ (code : Int) tc, (thisCode number place ≠ 0 ∧ code = thisCode number place ∨ thisCode number place = 0 ∧ lam = true ∧ b = true ∧ code = 1673) →
      ∀ (t b' c : Addr) vs h' tk', IsBad vs → Fr h₀ L h' m →
      News h₀ L h' (Z ++ led f ((r.s_told (r.told.push (.ref t)) (r.ntold + 1)).s_imm ((c, tupOf []) :: (t, tupOf [.int code tc, .int at_ tat, .ref c]) :: (b', tupOf vs) :: r.imm))) →
      Sep f ((r.s_told (r.told.push (.ref t)) (r.ntold + 1)).s_imm ((c, tupOf []) :: (t, tupOf [.int code tc, .int at_ tat, .ref c]) :: (b', tupOf vs) :: r.imm)) Z → Q (.ref b') ⟨h', gS, dS, tk', oS⟩)
    (retO : thisCode number place = 0 → ¬(lam = true ∧ b = true) → ∀ t t1 t2 h' tk', Fr h₀ L h' m →
      News h₀ L h' (Z ++ led f (r.s_imm ((t, tupOf [.int 3 t1, .int k t2]) :: r.imm))) → Sep f (r.s_imm ((t, tupOf [.int 3 t1, .int k t2]) :: r.imm)) Z →
      Q (.ref t) ⟨h', gS, dS, tk', oS⟩) :
    wpAny (model PR w) (ktrTop dp un gd cn cs L a ccd cl outer) (call (.ref 969) [.ref f.aw, .ref sa, .int number tnum, .int at_ tat]) Q E ⟨hS, gS, dS, tS, oS⟩ := by
 k_with "b" =>
  refine hide ?_
  intro GG hGG
  obtain ⟨B, F, X, N, T, hkk⟩ := C
  refine hGG ?_
  clear hGG GG
  k_dflt k_extra "z enterF"
  k_steps
  refine unhold ?_
  refine itemT (by k_asm) (mem_imm hty) (by (first | k_extra "z k_ar" | omega)) (by (first | k_extra "z k_ar" | omega)) htr ?_
  k_steps
  all_goals
    refine unhold ?_
    refine itemTI (v := thisCode number place) (by k_asm) (by k_mem) (.cons _ _ (.cons _ _ (.cons _ _ (.cons _ _ .nil)))) (by (first | k_extra "z k_ar" | omega)) (by simp; (first | k_extra "z k_ar" | omega)) (by decide) (by unfold thisCode; first | rw [if_pos (by assumption)] | rw [if_neg (by assumption)]) ?_
    intro tc
    k_steps
    · refine unhold ?_
      refine itemT (by k_asm) (mem_imm hty) (by (first | k_extra "z k_ar" | omega)) (by (first | k_extra "z k_ar" | omega)) htr ?_
      k_steps
      · refine hide ?_
        intro GG hGG
        obtain ⟨N5, nd5⟩ := to_imm (f := f) (Z := _ :: _ :: _ :: Z) (by k_asm) (by assumption)
        obtain ⟨N6, nd6⟩ := to_imm (f := f) (Z := _ :: _ :: Z) N5 nd5
        obtain ⟨N7, nd7⟩ := to_imm (f := f) (Z := _ :: Z) N6 nd6
        refine hGG ?_
        clear hGG GG
        exact retF _ _ (.inr ⟨by assumption, by first | assumption | rfl, by assumption, rfl⟩) _ _ _ _ _ _ ⟨_, _, _, rfl⟩ (by k_asm) (dropZ N7) nd7.drop
      · obtain ⟨N5, nd5⟩ := to_imm (f := f) (Z := _ :: Z) (by k_asm) (by assumption)
        exact retO (by assumption) (by rintro ⟨e1, e2⟩; simp_all only [Bool.false_eq_true, reduceCtorEq]) _ _ _ _ _ (by k_asm) (dropZ N5) nd5.drop
      · contradiction
    · obtain ⟨N5, nd5⟩ := to_imm (f := f) (Z := _ :: Z) (by k_asm) (by assumption)
      exact retO (by assumption) (by rintro ⟨e1, e2⟩; simp_all only [Bool.false_eq_true, reduceCtorEq]) _ _ _ _ _ (by k_asm) (dropZ N5) nd5.drop
    · contradiction
    · contradiction
    · refine hide ?_
      intro GG hGG
      obtain ⟨N5, nd5⟩ := to_imm (f := f) (Z := _ :: _ :: _ :: Z) (by k_asm) (by assumption)
      obtain ⟨N6, nd6⟩ := to_imm (f := f) (Z := _ :: _ :: Z) N5 nd5
      obtain ⟨N7, nd7⟩ := to_imm (f := f) (Z := _ :: Z) N6 nd6
      refine hGG ?_
      clear hGG GG
      exact retF _ _ (.inl ⟨by assumption, rfl⟩) _ _ _ _ _ _ ⟨_, _, _, rfl⟩ (by k_asm) (dropZ N7) nd7.drop
 refine no_implicit_lambda% (qo ?_)
 simp (disch := k_dflt k_extra "b") only [↓qs]
end
section
variable {w : World} {p : Program} {loose : List Str} {mean : ExcName → Option Value} {mg mb : Str → Option Value}
    {dp un : Nat} {gd : Option (List Code)} {cn : Str} {cs : Scope} {a : Addr} {ccd : Value} {cl : List (Str × Addr)} {outer : List Env} {A₀ : Around} {base h₀ : Heap} {L : Addr} {m : Str → Option Value} {s : Shared} {hS : Heap} {gS : Array GenState} {dS : Drawn} {tS : Nat} {oS : OsState}
    {Q E : Value → Shared → Prop} {f : Fix} {r : Raw} {Z : List (Addr × Obj)}
theorem lines15 : True := by
  k_with "z call ref" => ((k_here; (with_reducible show wpAny _ _ (call (Value.ref 852) [_, Value.ref _, _]) _ _ _); refine hold ?_))
  k_with "z call ref" => ((k_here; (with_reducible show wpAny _ _ (call (Value.ref 969) [_, Value.ref _, _, _]) _ _ _); refine hold ?_))
  trivial
theorem need_obj_spec {fn blocks cat obj : Value} {fnid up tid k static init how : Int} {to ts ti th tnm : Tok} {an : Addr} {nat : Int} {b st : Bool} {name : Str}
    {its kits : Array Value} {xs : List (List EK × Addr × Value)}
    (C : Cx w p loose mean mg mb cs outer A₀ base h₀ L m hS (Z ++ led f r)) (nd : Sep f r Z)
    (hC : r.ocx.IsDictOf (strKind PR w) (cxK f fn (.int tid to) (.int static ts) (.int init ti) blocks cat)) (S : Sta w f r.imm) (hfn : FnIs w r.imm fn fnid up) (hn : NodeAt w Z an nat)
    (KS : Kin w f r.imm its xs) (KO : Own w r.imm its xs tid k) (KK : KitsAt w f r.imm kits) (KV : ValIs r.imm kits k b) (hkz : kits.size < 100)
    (hz : r.rows.size ≤ 900) (hdp : dp + 34 < recursionLimit) (hu : un + 220 < cLine)
    (retN : st = true → how ≠ 3 → how ≠ 4 → ∀ h' tk', Fr h₀ L h' m → News h₀ L h' (Z ++ led f r) → Sep f r Z → Q .none ⟨h', gS, dS, tk', oS⟩)
    (retX : st = false → how ≠ 2 → how ≠ 1 → ∀ h' tk', Fr h₀ L h' m → News h₀ L h' (Z ++ led f r) → Sep f r Z → Q obj ⟨h', gS, dS, tk', oS⟩)
    (retF : ∀ (code : Int) tc us, (st = true ∧ (how = 3 ∨ how = 4) ∧ code = 176 ∧ us = [.str name tnm] ∨ st = false ∧ how = 2 ∧ code = 120 ∧ us = [.str name tnm] ∨
        st = false ∧ how = 1 ∧ us = [] ∧ (static ≠ 0 ∧ code = 120 ∨ static = 0 ∧ init ≠ 0 ∧ code = (if init = 1 then 236 else 120) ∨ static = 0 ∧ init = 0 ∧ up ≠ 0 ∧ b = true ∧ code = 1673)) →
      ∀ (t : Addr) tn b c vs h' tk', IsBad vs → Fr h₀ L h' m →
      News h₀ L h' (Z ++ led f ((r.s_rows (r.rows.push (.ref t)) (r.nrows + 1)).s_imm ((c, tupOf us) :: (b, tupOf vs) :: (t, tupOf [.int code tc, .int nat tn, .ref c]) :: r.imm))) →
      Sep f ((r.s_rows (r.rows.push (.ref t)) (r.nrows + 1)).s_imm ((c, tupOf us) :: (b, tupOf vs) :: (t, tupOf [.int code tc, .int nat tn, .ref c]) :: r.imm)) Z → Q (.ref b) ⟨h', gS, dS, tk', oS⟩)
    (retO : st = false → how = 1 → static = 0 → init = 0 → ¬(up ≠ 0 ∧ b = true) → ∀ t t1 t2 h' tk', Fr h₀ L h' m →
      News h₀ L h' (Z ++ led f (r.s_imm ((t, tupOf [.int 3 t1, .int k t2]) :: r.imm))) → Sep f (r.s_imm ((t, tupOf [.int 3 t1, .int k t2]) :: r.imm)) Z →
      Q (.ref t) ⟨h', gS, dS, tk', oS⟩) :
    wpAny (model PR w) (ktrTop dp un gd cn cs L a ccd cl outer) (call (.ref 866) [.ref f.acx, obj, .int how th, .bool st, .ref an, .str name tnm]) Q E ⟨hS, gS, dS, tS, oS⟩ := by
 k_with "b" =>
  refine hide ?_
  intro GG hGG
  obtain ⟨B, F, X, N, T, hkk⟩ := C
  refine hGG ?_
  clear hGG GG
  have hcx := S.cx
  k_dflt k_extra "z enterF"
  k_steps
  · rename (List.any _ _) = true => hb
    simp only [List.any_cons, List.any_nil, Bool.or_eq_true, beq_iff_eq, Bool.false_eq_true, or_false] at hb
    obtain ⟨N5, nd5⟩ := to_imm (f := f) (Z := _ :: Z) (by k_asm) (by assumption)
    exact retF _ _ _ (.inl ⟨by assumption, by (first | k_extra "z k_ar" | omega), rfl, rfl⟩) _ _ _ _ _ _ _ (by assumption) (by k_asm) (dropZ N5) nd5.drop
  · rename (List.any _ _) = false => hb
    simp only [List.any_cons, List.any_nil, Bool.or_eq_false_iff, beq_eq_false_iff_ne] at hb
    exact retN (by assumption) (by (first | k_extra "z k_ar" | omega)) (by (first | k_extra "z k_ar" | omega)) _ _ (by k_asm) (dropZ (by k_asm)) nd
  · obtain ⟨N5, nd5⟩ := to_imm (f := f) (Z := Z) (by k_asm) (by assumption)
    exact retF _ _ _ (.inr (.inl ⟨by assumption, by assumption, rfl, rfl⟩)) _ _ _ _ _ _ _ (by assumption) (by k_asm) N5 nd5
  · refine unhold ?_
    refine this_expr_spec ⟨by k_asm, by k_asm, by k_asm, by k_asm, by k_asm, by first | exact rfl | assumption⟩ (by assumption) hC S hfn hn KS KO KK KV hkz hz (by k_extra "z ev_room") (by k_extra "z ev_room") ?_ ?_
    · intro code tc hcd t tn b' c vs h' tk' hB F5 N5 nd5
      k_steps
      exact retF _ _ _ (.inr (.inr ⟨by assumption, by assumption, rfl, by simpa using hcd⟩)) t tn b' c _ _ _ hB (by k_asm) (by k_asm) nd5
    · intro e1 e2 e3 t t1 t2 h' tk' F5 N5 nd5
      k_steps
      exact retO (by assumption) (by assumption) e1 e2 e3 t t1 t2 _ _ (by k_asm) (by k_asm) nd5
  · exact retX (by assumption) (by assumption) (by assumption) _ _ (by k_asm) (by k_asm) nd
 refine no_implicit_lambda% (qo ?_)
 simp (disch := k_dflt k_extra "b") only [↓qs]
theorem law_object_spec {wa wb wc wd we obj : Value} {spot place how at_ k : Int} {tsp tpl th tnm tat tk : Tok} {lam b st : Bool} {sa ra : Addr} {trs : List Value} {tidv : Value} {name : Str}
    (C : Cx w p loose mean mg mb cs outer A₀ base h₀ L m hS (Z ++ led f r)) (nd : Sep f r Z)
    (hW : r.ow.IsDictOf (strKind PR w) (wK f wa wb wc wd we))
    (hst : (sa, tupOf [.int spot tsp, .int place tpl, .bool lam]) ∈ Z) (hsp : 0 ≤ spot ∧ spot < 9) (hpl : 0 ≤ place ∧ place < 4)
    (hty : (f.atypes, tupOf trs) ∈ r.imm) (htr : trs[spot.toNat]? = some (.ref ra)) (hra : (ra, tupOf [tidv, .int k tk, .bool b]) ∈ r.imm)
    (hz : r.told.size ≤ 900) (hdp : dp + 16 < recursionLimit) (hu : un + 180 < cLine)
    (retN : st = true → how ≠ 3 → how ≠ 4 → ∀ h' tk', Fr h₀ L h' m → News h₀ L h' (Z ++ led f r) → Sep f r Z → Q .none ⟨h', gS, dS, tk', oS⟩)
    (retX : st = false → how ≠ 2 → how ≠ 1 → ∀ h' tk', Fr h₀ L h' m → News h₀ L h' (Z ++ led f r) → Sep f r Z → Q obj ⟨h', gS, dS, tk', oS⟩)
    (retF : ∀ (code : Int) tc us, (st = true ∧ (how = 3 ∨ how = 4) ∧ code = 176 ∧ us = [.str name tnm] ∨ st = false ∧ how = 2 ∧ code = 120 ∧ us = [.str name tnm] ∨
        st = false ∧ how = 1 ∧ us = [] ∧ (thisCode 120 place ≠ 0 ∧ code = thisCode 120 place ∨ thisCode 120 place = 0 ∧ lam = true ∧ b = true ∧ code = 1673)) →
      ∀ (t b' c : Addr) vs h' tk', IsBad vs → Fr h₀ L h' m →
      News h₀ L h' (Z ++ led f ((r.s_told (r.told.push (.ref t)) (r.ntold + 1)).s_imm ((c, tupOf us) :: (t, tupOf [.int code tc, .int at_ tat, .ref c]) :: (b', tupOf vs) :: r.imm))) →
      Sep f ((r.s_told (r.told.push (.ref t)) (r.ntold + 1)).s_imm ((c, tupOf us) :: (t, tupOf [.int code tc, .int at_ tat, .ref c]) :: (b', tupOf vs) :: r.imm)) Z → Q (.ref b') ⟨h', gS, dS, tk', oS⟩)
    (retO : st = false → how = 1 → thisCode 120 place = 0 → ¬(lam = true ∧ b = true) → ∀ t t1 t2 h' tk', Fr h₀ L h' m →
      News h₀ L h' (Z ++ led f (r.s_imm ((t, tupOf [.int 3 t1, .int k t2]) :: r.imm))) → Sep f (r.s_imm ((t, tupOf [.int 3 t1, .int k t2]) :: r.imm)) Z →
      Q (.ref t) ⟨h', gS, dS, tk', oS⟩) :
    wpAny (model PR w) (ktrTop dp un gd cn cs L a ccd cl outer) (call (.ref 976) [.ref f.aw, .ref sa, obj, .int how th, .bool st, .str name tnm, .int at_ tat]) Q E ⟨hS, gS, dS, tS, oS⟩ := by
 k_with "b" =>
  refine hide ?_
  intro GG hGG
  obtain ⟨B, F, X, N, T, hkk⟩ := C
  refine hGG ?_
  clear hGG GG
  k_dflt k_extra "z enterF"
  k_steps
  · rename (List.any _ _) = true => hb
    simp only [List.any_cons, List.any_nil, Bool.or_eq_true, beq_iff_eq, Bool.false_eq_true, or_false] at hb
    refine hide ?_
    intro GG hGG
    obtain ⟨N5, nd5⟩ := to_imm (f := f) (Z := _ :: _ :: _ :: Z) (by k_asm) (by assumption)
    obtain ⟨N6, nd6⟩ := to_imm (f := f) (Z := _ :: _ :: Z) N5 nd5
    obtain ⟨N7, nd7⟩ := to_imm (f := f) (Z := _ :: Z) N6 nd6
    refine hGG ?_
    clear hGG GG
    exact retF _ _ _ (.inl ⟨by assumption, by (first | k_extra "z k_ar" | omega), rfl, rfl⟩) _ _ _ _ _ _ ⟨_, _, _, rfl⟩ (by k_asm) (dropZ N7) nd7.drop
  · rename (List.any _ _) = false => hb
    simp only [List.any_cons, List.any_nil, Bool.or_eq_false_iff, beq_eq_false_iff_ne] at hb
    exact retN (by assumption) (by (first | k_extra "z k_ar" | omega)) (by (first | k_extra "z k_ar" | omega)) _ _ (by k_asm) (dropZ (by k_asm)) nd
  · refine hide ?_
    intro GG hGG
    obtain ⟨N5, nd5⟩ := to_imm (f := f) (Z := _ :: _ :: Z) (by k_asm) (by assumption)
    obtain ⟨N6, nd6⟩ := to_imm (f := f) (Z := _ :: Z) N5 nd5
    obtain ⟨N7, nd7⟩ := to_imm (f := f) (Z := Z) N6 nd6
    refine hGG ?_
    clear hGG GG
    exact retF _ _ _ (.inr (.inl ⟨by assumption, by assumption, rfl, rfl⟩)) _ _ _ _ _ _ ⟨_, _, _, rfl⟩ (by k_asm) N7 nd7
  · refine unhold ?_
    refine law_this_spec ⟨by k_asm, by k_asm, by k_asm, by k_asm, by k_asm, by first | exact rfl | assumption⟩ (by assumption) hW hst hsp hpl hty htr hra hz (by k_extra "z ev_room") (by k_extra "z ev_room") ?_ ?_
    · intro code tc hcd t b' c vs h' tk' hB F5 N5 nd5
      k_steps
      exact retF _ _ _ (.inr (.inr ⟨by assumption, by assumption, rfl, hcd⟩)) t b' c _ _ _ hB (by k_asm) (by k_asm) nd5
    · intro e1 e2 t t1 t2 h' tk' F5 N5 nd5
      k_steps
      exact retO (by assumption) (by assumption) e1 e2 t t1 t2 _ _ (by k_asm) (by k_asm) nd5
  · exact retX (by assumption) (by assumption) (by assumption) _ _ (by k_asm) (by k_asm) nd
 refine no_implicit_lambda% (qo ?_)
 simp (disch := k_dflt k_extra "b") only [↓qs]
end
/- values that read as data over a ledger; the number bounds their depth -/
inductive Dat (imm : List (Addr × Obj)) : Nat → List Value → List PyData → Prop
  | nil {n : Nat} : Dat imm n [] []
  | int {n : Nat} {i : Int} {t : Tok} {vs : List Value} {ds : List PyData} : Dat imm n vs ds → Dat imm n (.int i t :: vs) (.int i :: ds)
  | str {n : Nat} {x : Str} {t : Tok} {vs : List Value} {ds : List PyData} : (PyData.str x).canLay0 = true → Dat imm n vs ds → Dat imm n (.str x t :: vs) (.str x :: ds)
  | none {n : Nat} {vs : List Value} {ds : List PyData} : Dat imm n vs ds → Dat imm n (.none :: vs) (.none :: ds)
  | tup {n : Nat} {a : Addr} {us : List Value} {es : List PyData} {vs : List Value} {ds : List PyData} : (a, tupOf us) ∈ imm → Dat imm n us es → Dat imm (n + 1) vs ds → Dat imm (n + 1) (.ref a :: vs) (.tuple es :: ds)
section
variable {imm imm' news : List (Addr × Obj)} {h₀ h : Heap} {L : Addr} {n : Nat} {vs us : List Value} {ds es : List PyData}
theorem Dat.mono (x : Dat imm n vs ds) (s : ∀ p ∈ imm, p ∈ imm') : Dat imm' n vs ds := by
  induction x with
  | nil => exact .nil
  | int _ ih => exact .int ih
  | str h _ ih => exact .str h ih
  | none _ ih => exact .none ih
  | tup h _ _ ih1 ih2 => exact .tup (s _ h) ih1 ih2
theorem Dat.more (x : Dat imm n vs ds) : ∀ {k : Nat}, n ≤ k → Dat imm k vs ds := by
  induction x with
  | nil => intro k _; exact .nil
  | int _ ih => intro k h; exact .int (ih h)
  | str h' _ ih => intro k h; exact .str h' (ih h)
  | none _ ih => intro k h; exact .none (ih h)
  | tup h' _ _ ih1 ih2 => intro k h; obtain ⟨j, rfl⟩ : ∃ j, k = j + 1 := ⟨k - 1, by (first | k_extra "z k_ar" | omega)⟩; exact .tup h' (ih1 (by (first | k_extra "z k_ar" | omega))) (ih2 h)
theorem Dat.app (x : Dat imm n vs ds) (y : Dat imm n us es) : Dat imm n (vs ++ us) (ds ++ es) := by
  induction x with
  | nil => exact y
  | int _ ih => exact .int (ih y)
  | str h' _ ih => exact .str h' (ih y)
  | none _ ih => exact .none (ih y)
  | tup h' h1 _ _ ih2 => exact .tup h' h1 (ih2 y)
theorem Dat.length (x : Dat imm n vs ds) : vs.length = ds.length := by
  induction x with
  | nil => rfl
  | int _ ih => simp [ih]
  | str h' _ ih => simp [ih]
  | none _ ih => simp [ih]
  | tup h' _ _ _ ih2 => simp [ih2]
theorem Dat.reads (x : Dat imm n vs ds) (N : News h₀ L h news) (s : ∀ p ∈ imm, p ∈ news) : ReadsAll h vs ds [] := by
  induction x with
  | nil => exact .nil
  | int _ ih => exact ReadsAll.cons (as := []) (bs := []) (.int _ _) ih
  | str h' _ ih => exact ReadsAll.cons (as := []) (bs := []) (.str _ _) ih
  | none _ ih => exact ReadsAll.cons (as := []) (bs := []) .none ih
  | tup h' _ _ ih1 ih2 => exact ReadsAll.cons (as := []) (bs := []) (.tuple (N _ (s _ h')).1 rfl rfl ih1) ih2
theorem Dat.can (x : Dat imm n vs ds) : PyData.canLayAll0 ds = true := by
  induction x with
  | nil => rfl
  | int _ ih => rw [PyData.canLayAll0, ih]; rfl
  | str h' _ ih => rw [PyData.canLayAll0, ih, h']; rfl
  | none _ ih => rw [PyData.canLayAll0, ih]; rfl
  | tup h' _ _ ih1 ih2 => rw [PyData.canLayAll0, ih2, PyData.canLay0, ih1]; rfl
theorem Dat.depth (x : Dat imm n vs ds) : PyData.depthAll ds ≤ n := by
  induction x with
  | nil => rw [PyData.depthAll]; (first | k_extra "z k_ar" | omega)
  | int _ ih => rw [PyData.depthAll, PyData.depth]; (first | k_extra "z k_ar" | omega)
  | str h' _ ih => rw [PyData.depthAll, PyData.depth]; (first | k_extra "z k_ar" | omega)
  | none _ ih => rw [PyData.depthAll, PyData.depth]; (first | k_extra "z k_ar" | omega)
  | tup h' _ _ ih1 ih2 => rw [PyData.depthAll, PyData.depth]; (first | k_extra "z k_ar" | omega)
noncomputable def Da (imm : List (Addr × Obj)) (v : Value) (d : PyData) : Prop := Dat imm 8 [v] [d]
theorem Da.mono {v : Value} {d : PyData} (x : Da imm v d) (s : ∀ p ∈ imm, p ∈ imm') : Da imm' v d := Dat.mono x s
theorem Da.reads {v : Value} {d : PyData} (x : Da imm v d) (N : News h₀ L h news) (s : ∀ p ∈ imm, p ∈ news) : Reads h v d [] := by
  have h1 := Dat.reads x N s
  generalize hb : ([] : List Addr) = b at h1
  cases h1 with
  | @cons _ _ _ _ as bs h2 h3 =>
    have : as = [] := by cases as with | nil => rfl | cons _ _ => exact absurd hb (by simp)
    subst this; rw [List.nil_append] at hb; subst hb; exact h2
theorem Da.can {v : Value} {d : PyData} (x : Da imm v d) : d.canLay0 = true := by
  have h := Dat.can x
  rw [PyData.canLayAll0, PyData.canLayAll0] at h
  simpa using h
theorem Da.depth {v : Value} {d : PyData} (x : Da imm v d) : d.depth ≤ 8 := by
  have h := Dat.depth x
  rw [PyData.depthAll] at h
  (first | k_extra "z k_ar" | omega)
variable {prog : Program} {w : World} {A : Around} {E : Value → Shared → Prop} {s : Shared}
theorem da_ne {a b : Value} {da db : PyData} {Q : Value → Shared → Prop} (ha : Da imm a da) (hb : Da imm b db) (N : News h₀ L s.heap news) (hs : ∀ p ∈ imm, p ∈ news) (hu : A.units + 10 < cLine) (h : Q (.bool (!PyData.eqv da db)) s) :
    wpAny (model prog w) A (compareOp .NotEq a b) Q E s :=
  SeqAt.compareNe_reads (ha.reads N hs) (hb.reads N hs) ha.can hb.can (by have := ha.depth; (first | k_extra "z k_ar" | omega)) h
theorem da_ne_same {a b : Value} {d : PyData} {Q : Value → Shared → Prop} (ha : Da imm a d) (hb : Da imm b d) (N : News h₀ L s.heap news) (hs : ∀ p ∈ imm, p ∈ news) (hu : A.units + 10 < cLine) (h : Q (.bool false) s) :
    wpAny (model prog w) A (compareOp .NotEq a b) Q E s := da_ne ha hb N hs hu (by rw [SeqAt.eqv_refl _ ha.can]; exact h)
theorem dal_reads {l : Addr} {vs : List Value} {k : Nat} (x : Dat imm n vs ds) (N : News h₀ L h news) (hs : ∀ p ∈ imm, p ∈ news) (hp : (l, listOf vs.toArray k) ∈ news) : Reads h (.ref l) (.list ds) [l] :=
  .list (N _ hp).1 rfl rfl (x.reads N hs)
theorem dal_ne_same {l l' : Addr} {vs us : List Value} {k k' : Nat} {Q : Value → Shared → Prop} (x : Dat imm n vs ds) (y : Dat imm n us ds) (hn : n ≤ 8) (N : News h₀ L s.heap news) (hs : ∀ p ∈ imm, p ∈ news) (hp : (l, listOf vs.toArray k) ∈ news) (hp' : (l', listOf us.toArray k') ∈ news)
    (hu : A.units + 12 < cLine) (h : Q (.bool false) s) : wpAny (model prog w) A (compareOp .NotEq (.ref l) (.ref l')) Q E s :=
  have hc : (PyData.list ds).canLay0 = true := by rw [PyData.canLay0]; exact x.can
  SeqAt.compareNe_reads (dal_reads x N hs hp) (dal_reads y N hs hp') hc hc (by rw [PyData.depth]; have := x.depth; (first | k_extra "z k_ar" | omega)) (by rw [SeqAt.eqv_refl _ hc]; exact h)
theorem dal_eq_same {l l' : Addr} {vs us : List Value} {k k' : Nat} {Q : Value → Shared → Prop} (x : Dat imm n vs ds) (y : Dat imm n us ds) (hn : n ≤ 8) (N : News h₀ L s.heap news) (hs : ∀ p ∈ imm, p ∈ news) (hp : (l, listOf vs.toArray k) ∈ news) (hp' : (l', listOf us.toArray k') ∈ news)
    (hu : A.units + 12 < cLine) (h : Q (.bool true) s) : wpAny (model prog w) A (compareOp .Eq (.ref l) (.ref l')) Q E s :=
  have hc : (PyData.list ds).canLay0 = true := by rw [PyData.canLay0]; exact x.can
  SeqAt.compareEq_reads (dal_reads x N hs hp) (dal_reads y N hs hp') hc hc (by rw [PyData.depth]; have := x.depth; (first | k_extra "z k_ar" | omega)) (by rw [SeqAt.eqv_refl _ hc]; exact h)
end
/- objects of a group, numbered -/
noncomputable def TabAre (T : List (Addr × Obj)) (n : Nat) (P : Nat → Addr → Obj → Prop) : Prop := ∃ as : List Addr, as.Nodup ∧ as.length = n ∧ ∀ i a, as[i]? = some a → ∃ o, (a, o) ∈ T ∧ P i a o
section
variable {T T' : List (Addr × Obj)} {n : Nat} {P P' : Nat → Addr → Obj → Prop}
theorem TabAre.nil : TabAre T 0 P := ⟨[], by simp, rfl, fun i a h => by simp at h⟩
theorem TabAre.imp (x : TabAre T n P) (h : ∀ i a o, i < n → P i a o → P' i a o) : TabAre T n P' := by
  obtain ⟨as, h1, h2, h3⟩ := x
  refine ⟨as, h1, h2, fun i a e => ?_⟩
  obtain ⟨o, h4, h5⟩ := h3 i a e
  exact ⟨o, h4, h i a o (by have := (List.getElem?_eq_some_iff.mp e).1; (first | k_extra "z k_ar" | omega)) h5⟩
theorem TabAre.less (x : TabAre T n P) {k : Nat} (hk : k ≤ n) : TabAre T k P := by
  obtain ⟨as, h1, h2, h3⟩ := x
  refine ⟨as.take k, h1.sublist (List.take_sublist _ _), by simp; (first | k_extra "z k_ar" | omega), fun i a e => h3 i a ?_⟩
  rw [List.getElem?_take] at e
  split at e
  · exact e
  · cases e
theorem TabAre.push {a : Addr} {o : Obj} (x : TabAre T n P) (hf : ∀ p ∈ T, p.1 ≠ a) (h : ∀ i b q, i < n → P i b q → P' i b q) (hn : P' n a o) : TabAre ((a, o) :: T) (n + 1) P' := by
  obtain ⟨as, h1, h2, h3⟩ := x
  refine ⟨as ++ [a], ?_, by simp [h2], fun i b e => ?_⟩
  · rw [List.nodup_append]
    refine ⟨h1, by simp, fun b hb c hc e => ?_⟩
    rw [List.mem_singleton.mp hc] at e
    subst e
    obtain ⟨i, hi, e⟩ := List.mem_iff_getElem.mp hb
    obtain ⟨o, ho, _⟩ := h3 i b (by rw [← e]; exact List.getElem?_eq_getElem hi)
    exact hf _ ho rfl
  · rcases Nat.lt_trichotomy i as.length with hi | hi | hi
    · rw [List.getElem?_append_left hi] at e
      obtain ⟨o, ho, hp⟩ := h3 i b e
      exact ⟨o, .tail _ ho, h i b o (by (first | k_extra "z k_ar" | omega)) hp⟩
    · subst hi
      rw [List.getElem?_append_right (Nat.le_refl _)] at e
      simp at e; subst e
      exact ⟨_, .head _, h2 ▸ hn⟩
    · rw [List.getElem?_append_right (by (first | k_extra "z k_ar" | omega))] at e
      have := (List.getElem?_eq_some_iff.mp e).1
      simp at this; (first | k_extra "z k_ar" | omega)
inductive TabIt (T : List (Addr × Obj)) (n : Nat) (P : Nat → Addr → Obj → Prop) (i : Nat) : Prop
  | mk (a : Addr) (o : Obj) : (a, o) ∈ T → P i a o → (∀ (o' : Obj) (P' : Nat → Addr → Obj → Prop), P' i a o' → (∀ j b q, j < n → j ≠ i → P j b q → P' j b q) → TabAre (updL a o' T) n P') → TabIt T n P i
theorem TabAre.at (x : TabAre T n P) {i : Nat} (hi : i < n) : TabIt T n P i := by
  obtain ⟨as, h1, h2, h3⟩ := x
  have e := List.getElem?_eq_getElem (l := as) (i := i) (by (first | k_extra "z k_ar" | omega))
  obtain ⟨o, ho, hp⟩ := h3 i _ e
  refine ⟨as[i], o, ho, hp, fun o' P' hp' hk => ⟨as, h1, h2, fun j b e' => ?_⟩⟩
  obtain ⟨q, hq, hpq⟩ := h3 j b e'
  have hj := (List.getElem?_eq_some_iff.mp e').1
  by_cases hji : j = i
  · subst hji
    rw [e] at e'; cases e'
    exact ⟨o', mem_updL_self ho, hp'⟩
  · refine ⟨q, mem_updL_ne hq fun hb => ?_, hk j b q (by (first | k_extra "z k_ar" | omega)) hji hpq⟩
    have : as[j]? = as[i]? := by rw [e, e', ← hb]
    exact hji ((List.getElem?_inj hj h1).mp this)
theorem TabAre.get (x : TabAre T n P) {i : Nat} (hi : i < n) : ∃ a o, (a, o) ∈ T ∧ P i a o := let ⟨a, o, h1, h2, _⟩ := x.at hi; ⟨a, o, h1, h2⟩
end
theorem nodup_le {α : Type} [DecidableEq α] : ∀ (B l : List α), l.Nodup → (∀ x ∈ l, x ∈ B) → l.length ≤ B.length
  | [], l, _, h => by cases l with | nil => simp | cons a l => exact absurd (h a (.head _)) (by simp)
  | b :: B, l, hn, h => by
    have h2 := nodup_le B (l.erase b) (hn.sublist (List.erase_sublist)) fun x hx => by
      have hx' := (hn.mem_erase_iff).mp hx
      rcases List.mem_cons.mp (h x hx'.2) with e | e
      · exact absurd e hx'.1
      · exact e
    rw [List.length_erase] at h2
    split at h2 <;> simp <;> (first | k_extra "z k_ar" | omega)
noncomputable def nameL : List Str := [Str.ofString "a", Str.ofString "b", Str.ofString "c", Str.ofString "d"]
structure VR where
  name : Str
  kind : Int
  flags : Int
  own : Int
structure LR where
  name : Str
  kind : Int
  flags : Int
noncomputable def VR.row (v : VR) : LR := ⟨v.name, v.kind, v.flags⟩
structure Gst where
  its : Array Value
  kits : Array Value
  xs : List (List EK × Addr × Value)
  none : Bool
  made : Int
  stands : Int
  fv : Value
  fs : List (Value × Int × Int)
  lv : List (List (Str × Int))
  bl : List (List (Str × Int))
  bv : List VR
  lw : List LR
  dr : List PyData
  dt : List PyData
  cd : Int → Option PyData
  cn : Nat
inductive TyAt (w : World) (imm : List (Addr × Obj)) (its kits : Array Value) (xs : List (List EK × Addr × Value)) (trs : List Value) (i : Nat) : Prop
  | mk (ra : Addr) (tid k : Int) (b : Bool) (t1 t2 : Tok) : trs[i]? = some (.ref ra) → (ra, tupOf [.int tid t1, .int k t2, .bool b]) ∈ imm → Own w imm its xs tid k → ValIs imm kits k b → TyAt w imm its kits xs trs i
inductive TysAt (w : World) (f : Fix) (imm : List (Addr × Obj)) (its kits : Array Value) (xs : List (List EK × Addr × Value)) : Prop
  | mk (trs : List Value) : (f.atypes, tupOf trs) ∈ imm → trs.length = 9 → (∀ i : Nat, i < 9 → TyAt w imm its kits xs trs i) → TysAt w f imm its kits xs
structure Sets (w : World) (f : Fix) (imm : List (Addr × Obj)) (its kits : Array Value) (xs : List (List EK × Addr × Value)) : Prop where
  kin : Kin w f imm its xs
  kit : KitsAt w f imm kits
  kz : kits.size < 100
  ty : TysAt w f imm its kits xs
  lo1 : (f.anotes == sysModules) = false
  lo2 : (f.aconsts == sysModules) = false
  lo3 : (f.aclosed == sysModules) = false
theorem Sets.mono {w : World} {f : Fix} {imm imm' : List (Addr × Obj)} {its kits : Array Value} {xs : List (List EK × Addr × Value)} (S : Sets w f imm its kits xs) (h : ∀ p ∈ imm, p ∈ imm') : Sets w f imm' its kits xs where
  kin := S.kin.mono h
  kit := S.kit.mono h
  kz := S.kz
  ty := let ⟨_, a, b, c⟩ := S.ty; ⟨_, h _ a, b, fun i hi => let ⟨_, _, _, _, _, _, a, b, c, d⟩ := c i hi; ⟨_, _, _, _, _, _, a, h _ b, c.mono h, d.mono h⟩⟩
  lo1 := S.lo1
  lo2 := S.lo2
  lo3 := S.lo3
inductive CoAt (imm : List (Addr × Obj)) : Option PyData → Option Value → Option Value → Prop
  | no : CoAt imm none none none
  | yes {d : PyData} {v : Value} : Da imm v d → CoAt imm (some d) (some v) (some v)
theorem CoAt.mono {imm imm' : List (Addr × Obj)} {d : Option PyData} {a b : Option Value} (x : CoAt imm d a b) (h : ∀ p ∈ imm, p ∈ imm') : CoAt imm' d a b := by
  cases x with
  | no => exact .no
  | yes y => exact .yes (y.mono h)
inductive FnOk (w : World) (imm lidL : List (Addr × Obj)) (fns : Array Value) (K : Nat) : Value → Int → Int → Prop
  | none : FnOk w imm lidL fns K .none 0 0
  | fn {fa fd la : Addr} {fo : Obj} {fnid up : Int} {t t2 : Tok} {a b c d e g i j : Value} {its : Array Value} {n : Nat} : (fa, instObj 376 fd) ∈ imm → (fd, fo) ∈ imm → fo.IsDictOf (strKind PR w) (fnK (.int fnid t) a (.ref la) b c d e (.int up t2) g i j) →
      (la, listOf its n) ∈ lidL → its.size ≤ K → fns[fnid.toNat]? = some (.ref fa) → 1 ≤ fnid ∧ fnid < 100 → FnOk w imm lidL fns K (.ref fa) fnid up
theorem FnOk.mono {w : World} {imm imm' lidL : List (Addr × Obj)} {fns fns' : Array Value} {K K' : Nat} {v : Value} {x y : Int} (q : FnOk w imm lidL fns K v x y) (h : ∀ p ∈ imm, p ∈ imm') (hK : K ≤ K') (hf : ∀ (i : Nat) u, fns[i]? = some u → fns'[i]? = some u) : FnOk w imm' lidL fns' K' v x y := by
  cases q with
  | none => exact .none
  | fn a b c d e g i => exact .fn (h _ a) (h _ b) c d (Nat.le_trans e hK) (hf _ _ g) i
theorem FnOk.is {w : World} {imm lidL : List (Addr × Obj)} {fns : Array Value} {K : Nat} {v : Value} {x y : Int} (q : FnOk w imm lidL fns K v x y) : FnIs w imm v x y := by
  cases q with
  | none => exact .none
  | fn a b c d e g i => exact .fn a b c
inductive SlQ (sc : Array Value) (imm : List (Addr × Obj)) (lv : List (List (Str × Int))) (i : Nat) (a : Addr) (o : Obj) : Prop
  | mk (h : sc[i]? = some (.ref a)) (vs : List Value) (n : Nat) (es : List (Str × Int)) : o = listOf vs.toArray n → lv[i]? = some es → EntsAre imm vs es → SlQ sc imm lv i a o
noncomputable abbrev SlP (r : Raw) (lv : List (List (Str × Int))) (i : Nat) (a : Addr) (o : Obj) : Prop := SlQ r.scopes r.imm lv i a o
inductive SdQ (w : World) (sc : Array Value) (lv : List (List (Str × Int))) (i : Nat) (a : Addr) (o : Obj) : Prop
  | mk (h : sc[i]? = some (.ref a)) (lo : (a == sysModules) = false) (es : List (Str × Int)) (kvs : List (Str × Value)) : lv[i]? = some es → o.IsDictOf (strKind PR w) kvs → KvsAre kvs es → SdQ w sc lv i a o
noncomputable abbrev SdP (w : World) (r : Raw) (lv : List (List (Str × Int))) (i : Nat) (a : Addr) (o : Obj) : Prop := SdQ w r.cxsc lv i a o
inductive VdQ (w : World) (vs : Array Value) (imm : List (Addr × Obj)) (bv : List VR) (i : Nat) (vd : Addr) (vo : Obj) : Prop
  | mk (va : Addr) (v : VR) (vl varg vblock : Value) (tn tk tf to : Tok) : vs[i + 1]? = some (.ref va) → (va, instObj 355 vd) ∈ imm → bv[i]? = some v → vo.IsDictOf (strKind PR w) (varK vl (.str v.name tn) (.int v.kind tk) (.int v.flags tf) (.int v.own to) varg vblock) → VdQ w vs imm bv i vd vo
noncomputable abbrev VdP (w : World) (r : Raw) (bv : List VR) (i : Nat) (vd : Addr) (vo : Obj) : Prop := VdQ w r.vs r.imm bv i vd vo
inductive RlQ (vars : Array Value) (lw : List LR) (i : Nat) (ra : Addr) (o : Obj) : Prop
  | mk (v : LR) (n : Nat) (tn tk tf : Tok) : vars[i]? = some (.ref ra) → lw[i]? = some v → o = listOf #[.str v.name tn, .int v.kind tk, .int v.flags tf] n → RlQ vars lw i ra o
noncomputable abbrev RlP (r : Raw) (lw : List LR) (i : Nat) (ra : Addr) (o : Obj) : Prop := RlQ r.vars lw i ra o
inductive WoP (w : World) (f : Fix) (o : Obj) (made stands : Int) (none : Bool) : Prop
  | mk (at_ : Int) (tat : Tok) (left : Int) (tl tm ts : Tok) : o.IsDictOf (strKind PR w) (wK f (.int at_ tat) (.int left tl) (.int made tm) (.int stands ts) (.bool none)) → (0 ≤ at_ ∧ at_ ≤ 100) → (0 ≤ left ∧ left < 1000003) → WoP w f o made stands none
inductive CxP (w : World) (f : Fix) (o : Obj) (fv : Value) : Prop
  | mk (owner static init : Value) (b : Int) (tb : Tok) (cat : Value) : o.IsDictOf (strKind PR w) (cxK f fv owner static init (.int b tb) cat) → CxP w f o fv
inductive CoP (w : World) (imm : List (Addr × Obj)) (onotes oconsts : Obj) (cn : Nat) (cd : Int → Option PyData) : Prop
  | mk (xs : List (List EK × Addr × Value)) (ckv : List (Int × Value)) : EDictIs PR w imm onotes xs → oconsts.IsDictOf (intKind PR w) ckv → xs.length ≤ cn → ckv.length ≤ cn → (∀ lid : Int, CoAt imm (cd lid) ((atKey xs [.s "const", .i lid]).map (·.2)) (valueAt ckv lid)) → CoP w imm onotes oconsts cn cd
inductive ClD (w : World) (cdL : List (Addr × Obj)) (v : Value) : Prop
  | mk (a : Addr) (o : Obj) (kvs : List (Str × Value)) : v = .ref a → (a, o) ∈ cdL → o.IsDictOf (strKind PR w) kvs → (∀ q ∈ kvs, q.1 ∈ nameL) → (a == sysModules) = false → ClD w cdL v
inductive VoP (w : World) (vo : Obj) (v : VR) : Prop
  | mk (vl varg vblock : Value) (tn tk tf to : Tok) : vo.IsDictOf (strKind PR w) (varK vl (.str v.name tn) (.int v.kind tk) (.int v.flags tf) (.int v.own to) varg vblock) → VoP w vo v
theorem SlQ.ref {sc : Array Value} {imm : List (Addr × Obj)} {lv : List (List (Str × Int))} {i : Nat} {a : Addr} {o : Obj} (x : SlQ sc imm lv i a o) : sc[i]? = some (.ref a) := by cases x; assumption
theorem SdQ.ref {w : World} {sc : Array Value} {lv : List (List (Str × Int))} {i : Nat} {a : Addr} {o : Obj} (x : SdQ w sc lv i a o) : sc[i]? = some (.ref a) := by cases x; assumption
theorem mem_stored {K : Type} [DecidableEq K] {kvs : List (K × Value)} {k : K} {v : Value} {p : K × Value} (h : p ∈ stored kvs k v) : (p ∈ kvs ∧ p.1 ≠ k) ∨ p = (k, v) := by
  unfold stored at h
  split at h
  · refine hide ?_
    intro GG hGG
    obtain ⟨q, hq, e⟩ := List.mem_map.mp h
    refine hGG ?_
    clear hGG GG
    by_cases hk : q.1 = k
    · rw [if_pos hk] at e; right; rw [← e, hk]
    · rw [if_neg hk] at e; left; rw [← e]; exact ⟨hq, hk⟩
  · rename_i hn
    rcases List.mem_append.mp h with h | h
    · left; refine ⟨h, fun e => hn ?_⟩
      rw [List.any_eq_true]; exact ⟨p, h, by simpa using e⟩
    · right; exact List.mem_singleton.mp h
theorem dict_nodup {prog : Program} {w : World} {K : Type} [DecidableEq K] {knd : KeyKind prog w K} {o : Obj} {kvs : List (K × Value)} (h : o.IsDictOf knd kvs) : (kvs.map (·.1)).Nodup := by
  refine hide ?_
  intro GG hGG
  obtain ⟨es, ep, ⟨h1, h2, h3⟩, h4, h5, h6, h7⟩ := h
  refine hGG ?_
  clear hGG GG
  exact h7
structure ClAre (w : World) (oc : Obj) (cdL : List (Addr × Obj)) (n : Nat) (cl : List (Int × Value)) : Prop where
  is : oc.IsDictOf (intKind PR w) cl
  keys : ∀ p ∈ cl, 1 ≤ p.1 ∧ p.1 ≤ 3
  full : ∀ k : Int, 1 ≤ k → k ≤ n → ∃ v, valueAt cl k = some v
  dict : ∀ p ∈ cl, ClD w cdL p.2
  inj : ∀ p ∈ cl, ∀ q ∈ cl, p.2 = q.2 → p.1 = q.1
theorem ClAre.small {w : World} {oc : Obj} {cdL : List (Addr × Obj)} {n : Nat} {cl : List (Int × Value)} (x : ClAre w oc cdL n cl) : cl.length ≤ 3 := by
  have := nodup_le [1, 2, 3] (cl.map (·.1)) (dict_nodup x.is) fun k hk => by
    refine hide ?_
    intro GG hGG
    obtain ⟨p, hp, rfl⟩ := List.mem_map.mp hk
    refine hGG ?_
    clear hGG GG
    have := x.keys p hp
    simp; (first | k_extra "z k_ar" | omega)
  simpa using this
theorem ClAre.put {w : World} {oc oc' o : Obj} {cdL : List (Addr × Obj)} {n n' : Nat} {cl : List (Int × Value)} {a : Addr} {k : Int} (x : ClAre w oc cdL n cl) (h : oc'.IsDictOf (intKind PR w) (stored cl k (.ref a))) (hk : 1 ≤ k ∧ k ≤ 3) (hn : n' ≤ n ∨ n' ≤ n + 1 ∧ k = (n : Int) + 1) (hf : ∀ p ∈ cdL, p.1 ≠ a) (ho : o.IsDictOf (strKind PR w) []) (lo : (a == sysModules) = false) :
    ClAre w oc' ((a, o) :: cdL) n' (stored cl k (.ref a)) where
  is := h
  keys := fun p hp => by
    rcases mem_stored hp with ⟨hp, _⟩ | rfl
    · exact x.keys p hp
    · exact hk
  full := fun j h1 h2 => by
    rw [valueAt_stored]
    split
    · exact ⟨_, rfl⟩
    · exact x.full j h1 (by (first | k_extra "z k_ar" | omega))
  dict := fun p hp => by
    rcases mem_stored hp with ⟨hp, _⟩ | rfl
    · refine hide ?_
      intro GG hGG
      obtain ⟨b, q, kvs, e1, e2, e3, e4, e5⟩ := x.dict p hp
      refine hGG ?_
      clear hGG GG
      exact ⟨b, q, kvs, e1, .tail _ e2, e3, e4, e5⟩
    · exact ⟨a, o, [], rfl, .head _, ho, (fun _ h => nomatch h), lo⟩
  inj := fun p hp q hq e => by
    have old : ∀ p ∈ cl, p.2 ≠ .ref a := fun p hp e => by
      refine hide ?_
      intro GG hGG
      obtain ⟨b, q, kvs, e1, e2, e3, e4, e5⟩ := x.dict p hp
      refine hGG ?_
      clear hGG GG
      rw [e1] at e; cases e
      exact hf _ e2 rfl
    rcases mem_stored hp with ⟨hp, _⟩ | rfl <;> rcases mem_stored hq with ⟨hq, _⟩ | rfl
    · exact x.inj p hp q hq e
    · exact absurd e (old p hp)
    · exact absurd e.symm (old q hq)
    · rfl
theorem EntsAre.mono' {imm imm' : List (Addr × Obj)} {vs : List Value} {es : List (Str × Int)} (x : EntsAre imm vs es) (h : ∀ p ∈ imm, p ∈ imm') : EntsAre imm' vs es := by
  induction x with
  | nil => exact .nil
  | cons a _ ih => exact .cons (h _ a) ih
structure Ok (w : World) (f : Fix) (r : Raw) (G : Gst) : Prop where
  sta : Sta w f r.imm
  sets : Sets w f r.imm G.its G.kits G.xs
  wo : WoP w f r.ow G.made G.stands G.none
  cx : CxP w f r.ocx G.fv
  slz : r.scopes.size = G.lv.length
  sl : TabAre r.slL G.lv.length (SlP r G.lv)
  sdz : r.cxsc.size = G.bl.length
  sd : TabAre r.sdL G.bl.length (SdP w r G.bl)
  rwz : r.cxrows.size = G.bl.length
  cl : ∃ cl, ClAre w r.oclosed r.cdL G.bl.length cl
  vdz : r.vs.size = G.bv.length + 1
  vd : TabAre r.vdL G.bv.length (VdP w r G.bv)
  rlz : r.vars.size = G.lw.length
  rl : TabAre r.rowL G.lw.length (RlP r G.lw)
  tr : Dat r.imm 4 r.rows.toList G.dr
  tt : Dat r.imm 4 r.told.toList G.dt
  co : CoP w r.imm r.onotes r.oconsts G.cn G.cd
  fn : ∀ q ∈ G.fs, FnOk w r.imm r.lidL r.fns G.bv.length q.1 q.2.1 q.2.2
section
variable {w : World} {f : Fix} {r : Raw} {G : Gst}
theorem Ok.imm (O : Ok w f r G) {imm' : List (Addr × Obj)} (h : ∀ p ∈ r.imm, p ∈ imm') : Ok w f (r.s_imm imm') G where
  sta := O.sta.mono h
  sets := O.sets.mono h
  wo := O.wo
  cx := O.cx
  slz := O.slz
  sl := O.sl.imp fun i a o _ x => let ⟨a, b, c, d, e, g, y⟩ := x; ⟨a, b, c, d, e, g, y.mono' h⟩
  sdz := O.sdz
  sd := O.sd
  rwz := O.rwz
  cl := O.cl
  vdz := O.vdz
  vd := O.vd.imp fun i a o _ x => let ⟨_, _, _, _, _, _, _, _, _, x, y, z, u⟩ := x; ⟨_, _, _, _, _, _, _, _, _, x, h _ y, z, u⟩
  rlz := O.rlz
  rl := O.rl
  tr := O.tr.mono h
  tt := O.tt.mono h
  co := let ⟨_, _, a, b, c, d, e⟩ := O.co; ⟨_, _, a.mono h, b, c, d, fun l => (e l).mono h⟩
  fn := fun q hq => (O.fn q hq).mono h (Nat.le_refl _) fun _ _ e => e
theorem Ok.s_ow (O : Ok w f r G) {o : Obj} {a b : Int} (h : WoP w f o a b G.none) : Ok w f (r.s_ow o) { G with made := a, stands := b } where
  sta := O.sta
  sets := O.sets
  wo := h
  cx := O.cx
  slz := O.slz
  sl := O.sl
  sdz := O.sdz
  sd := O.sd
  rwz := O.rwz
  cl := O.cl
  vdz := O.vdz
  vd := O.vd
  rlz := O.rlz
  rl := O.rl
  tr := O.tr
  tt := O.tt
  co := O.co
  fn := O.fn
theorem Ok.s_ocx (O : Ok w f r G) {o : Obj} {v : Value} (h : CxP w f o v) : Ok w f (r.s_ocx o) { G with fv := v } where
  sta := O.sta
  sets := O.sets
  wo := O.wo
  cx := h
  slz := O.slz
  sl := O.sl
  sdz := O.sdz
  sd := O.sd
  rwz := O.rwz
  cl := O.cl
  vdz := O.vdz
  vd := O.vd
  rlz := O.rlz
  rl := O.rl
  tr := O.tr
  tt := O.tt
  co := O.co
  fn := O.fn
theorem Ok.row (O : Ok w f r G) {v : Value} {d : PyData} {n : Nat} (h : Dat r.imm 4 [v] [d]) : Ok w f (r.s_rows (r.rows.push v) n) { G with dr := G.dr ++ [d] } where
  sta := O.sta
  sets := O.sets
  wo := O.wo
  cx := O.cx
  slz := O.slz
  sl := O.sl
  sdz := O.sdz
  sd := O.sd
  rwz := O.rwz
  cl := O.cl
  vdz := O.vdz
  vd := O.vd
  rlz := O.rlz
  rl := O.rl
  tr := by rw [Array.toList_push]; exact O.tr.app h
  tt := O.tt
  co := O.co
  fn := O.fn
theorem Ok.tell (O : Ok w f r G) {v : Value} {d : PyData} {n : Nat} (h : Dat r.imm 4 [v] [d]) : Ok w f (r.s_told (r.told.push v) n) { G with dt := G.dt ++ [d] } where
  sta := O.sta
  sets := O.sets
  wo := O.wo
  cx := O.cx
  slz := O.slz
  sl := O.sl
  sdz := O.sdz
  sd := O.sd
  rwz := O.rwz
  cl := O.cl
  vdz := O.vdz
  vd := O.vd
  rlz := O.rlz
  rl := O.rl
  tr := O.tr
  tt := by rw [Array.toList_push]; exact O.tt.app h
  co := O.co
  fn := O.fn
theorem Ok.fault (O : Ok w f r G) {v : Value} {d : PyData} {n : Nat} {imm' : List (Addr × Obj)} (h : ∀ p ∈ r.imm, p ∈ imm') (x : Dat imm' 4 [v] [d]) : Ok w f ((r.s_rows (r.rows.push v) n).s_imm imm') { G with dr := G.dr ++ [d] } := (O.imm h).row x
theorem Ok.telled (O : Ok w f r G) {v : Value} {d : PyData} {n : Nat} {imm' : List (Addr × Obj)} (h : ∀ p ∈ r.imm, p ∈ imm') (x : Dat imm' 4 [v] [d]) : Ok w f ((r.s_told (r.told.push v) n).s_imm imm') { G with dt := G.dt ++ [d] } := (O.imm h).tell x
theorem Ok.s_vd (O : Ok w f r G) {l : List (Addr × Obj)} {v : VR} {i : Nat} (h : TabAre l G.bv.length (VdP w r (G.bv.set i v))) : Ok w f (r.s_vdL l) { G with bv := G.bv.set i v } where
  sta := O.sta
  sets := O.sets
  wo := O.wo
  cx := O.cx
  slz := O.slz
  sl := O.sl
  sdz := O.sdz
  sd := O.sd
  rwz := O.rwz
  cl := O.cl
  vdz := by rw [List.length_set]; exact O.vdz
  vd := by rw [List.length_set]; exact h
  rlz := O.rlz
  rl := O.rl
  tr := O.tr
  tt := O.tt
  co := O.co
  fn := by rw [List.length_set]; exact O.fn
theorem Ok.s_rl (O : Ok w f r G) {l : List (Addr × Obj)} {v : LR} {i : Nat} (h : TabAre l G.lw.length (RlP r (G.lw.set i v))) : Ok w f (r.s_rowL l) { G with lw := G.lw.set i v } where
  sta := O.sta
  sets := O.sets
  wo := O.wo
  cx := O.cx
  slz := O.slz
  sl := O.sl
  sdz := O.sdz
  sd := O.sd
  rwz := O.rwz
  cl := O.cl
  vdz := O.vdz
  vd := O.vd
  rlz := by rw [List.length_set]; exact O.rlz
  rl := by rw [List.length_set]; exact h
  tr := O.tr
  tt := O.tt
  co := O.co
  fn := O.fn
theorem FnOk.mono' {imm imm' lidL lidL' : List (Addr × Obj)} {fns fns' : Array Value} {K K' : Nat} {v : Value} {x y : Int} (q : FnOk w imm lidL fns K v x y) (h : ∀ p ∈ imm, p ∈ imm') (hL : ∀ p ∈ lidL, p ∈ lidL') (hK : K ≤ K') (hf : ∀ (i : Nat) u, fns[i]? = some u → fns'[i]? = some u) : FnOk w imm' lidL' fns' K' v x y := by
  cases q with
  | none => exact .none
  | fn a b c d e g i => exact .fn (h _ a) (h _ b) c (hL _ d) (Nat.le_trans e hK) (hf _ _ g) i
theorem push_get {fns : Array Value} {v : Value} : ∀ (i : Nat) u, fns[i]? = some u → (fns.push v)[i]? = some u := fun i u h => by
  have hi := (Array.getElem?_eq_some_iff.mp h).1
  rw [Array.getElem?_push_lt hi]; rw [Array.getElem?_eq_getElem hi] at h; exact h
theorem Ok.fnpush (O : Ok w f r G) {v : Value} {n : Nat} {q : Addr × Obj} : Ok w f ((r.s_fns (r.fns.push v) n).s_lidL (q :: r.lidL)) G where
  sta := O.sta
  sets := O.sets
  wo := O.wo
  cx := O.cx
  slz := O.slz
  sl := O.sl
  sdz := O.sdz
  sd := O.sd
  rwz := O.rwz
  cl := O.cl
  vdz := O.vdz
  vd := O.vd
  rlz := O.rlz
  rl := O.rl
  tr := O.tr
  tt := O.tt
  co := O.co
  fn := fun p hp => (O.fn p hp).mono' (fun _ h => h) (fun _ h => .tail _ h) (Nat.le_refl _) push_get
inductive EmptyAt (w : World) (oc : Obj) (cdL : List (Addr × Obj)) (d : Int) : Prop
  | mk (cl : List (Int × Value)) (a : Addr) (o : Obj) : oc.IsDictOf (intKind PR w) cl → valueAt cl d = some (.ref a) → (a, o) ∈ cdL → o.IsDictOf (strKind PR w) [] → (a == sysModules) = false → EmptyAt w oc cdL d
theorem Ok.opened (O : Ok w f r G) {d1 d2 : Addr} {o1 o2 oc ocx : Obj} {n1 n2 : Nat} {v : Value} {clv : List (Int × Value)} (hf : ∀ p ∈ r.sdL, p.1 ≠ d1) (lo : (d1 == sysModules) = false) (hs : o1.IsDictOf (strKind PR w) [])
    (hcx : CxP w f ocx G.fv) (hcl : ClAre w oc ((d2, o2) :: r.cdL) (G.bl.length + 1) clv) : Ok w f ((((((r.s_cxsc (r.cxsc.push (.ref d1)) n1).s_ocx ocx).s_cxrows (r.cxrows.push v) n2).s_oclosed oc).s_cdL ((d2, o2) :: r.cdL)).s_sdL ((d1, o1) :: r.sdL)) { G with bl := G.bl ++ [[]] } where
  sta := O.sta
  sets := O.sets
  wo := O.wo
  cx := hcx
  slz := O.slz
  sl := O.sl
  sdz := by simp [O.sdz]
  sd := by
    rw [List.length_append, List.length_singleton]
    refine O.sd.push hf (fun i b q hi x => ?_) ⟨?_, lo, [], [], ?_, hs, .nil⟩
    · refine hide ?_
      intro GG hGG
      obtain ⟨h1, h2, es, kvs, h3, h4, h5⟩ := x
      refine hGG ?_
      clear hGG GG
      exact ⟨push_get _ _ h1, h2, es, kvs, by rw [List.getElem?_append_left hi]; exact h3, h4, h5⟩
    · show (r.cxsc.push _)[G.bl.length]? = _
      rw [← O.sdz]; simp
    · rw [List.getElem?_append_right (Nat.le_refl _)]; simp
  rwz := by simp [O.rwz]
  cl := ⟨clv, by simpa using hcl⟩
  vdz := O.vdz
  vd := O.vd
  rlz := O.rlz
  rl := O.rl
  tr := O.tr
  tt := O.tt
  co := O.co
  fn := O.fn
theorem Ok.lopened (O : Ok w f r G) {a : Addr} {n1 k : Nat} (hf : ∀ p ∈ r.slL, p.1 ≠ a) : Ok w f ((r.s_scopes (r.scopes.push (.ref a)) n1).s_slL ((a, listOf #[] k) :: r.slL)) { G with lv := G.lv ++ [[]] } where
  sta := O.sta
  sets := O.sets
  wo := O.wo
  cx := O.cx
  slz := by simp [O.slz]
  sl := by
    rw [List.length_append, List.length_singleton]
    refine O.sl.push hf (fun i b q hi x => ?_) ⟨?_, [], k, [], rfl, ?_, .nil⟩
    · refine hide ?_
      intro GG hGG
      obtain ⟨h1, vs, n, es, h2, h3, h4⟩ := x
      refine hGG ?_
      clear hGG GG
      exact ⟨push_get _ _ h1, vs, n, es, h2, by rw [List.getElem?_append_left hi]; exact h3, h4⟩
    · show (r.scopes.push _)[G.lv.length]? = _
      rw [← O.slz]; simp
    · rw [List.getElem?_append_right (Nat.le_refl _)]; simp
  sdz := O.sdz
  sd := O.sd
  rwz := O.rwz
  cl := O.cl
  vdz := O.vdz
  vd := O.vd
  rlz := O.rlz
  rl := O.rl
  tr := O.tr
  tt := O.tt
  co := O.co
  fn := O.fn
theorem Ok.varpush (O : Ok w f r G) {va vd : Addr} {vo : Obj} {v : VR} {n : Nat} (hva : (va, instObj 355 vd) ∈ r.imm) (hf : ∀ p ∈ r.vdL, p.1 ≠ vd) (hvo : VoP w vo v) : Ok w f ((r.s_vs (r.vs.push (.ref va)) n).s_vdL ((vd, vo) :: r.vdL)) { G with bv := G.bv ++ [v] } where
  sta := O.sta
  sets := O.sets
  wo := O.wo
  cx := O.cx
  slz := O.slz
  sl := O.sl
  sdz := O.sdz
  sd := O.sd
  rwz := O.rwz
  cl := O.cl
  vdz := by simp [O.vdz]
  vd := by
    rw [List.length_append, List.length_singleton]
    refine O.vd.push hf (fun i b q hi x => ?_) ?_
    · refine hide ?_
      intro GG hGG
      obtain ⟨x0, x1, x2, x3, x4, x5, x6, x7, x8, y1, y2, y3, y4⟩ := x
      refine hGG ?_
      clear hGG GG
      exact ⟨x0, x1, x2, x3, x4, x5, x6, x7, x8, push_get _ _ y1, y2, by rw [List.getElem?_append_left hi]; exact y3, y4⟩
    · refine hide ?_
      intro GG hGG
      obtain ⟨vl, varg, vb, tn, tk, tf, to, h⟩ := hvo
      refine hGG ?_
      clear hGG GG
      refine ⟨va, v, vl, varg, vb, tn, tk, tf, to, ?_, hva, ?_, h⟩
      · show (r.vs.push _)[G.bv.length + 1]? = _
        rw [← O.vdz]; simp
      · rw [List.getElem?_append_right (Nat.le_refl _)]; simp
  rlz := O.rlz
  rl := O.rl
  tr := O.tr
  tt := O.tt
  co := O.co
  fn := by rw [List.length_append]; exact fun q hq => (O.fn q hq).mono (fun _ h => h) (Nat.le_add_right _ _) fun _ _ e => e
theorem Ok.lids (O : Ok w f r G) {la : Addr} {its : Array Value} {n k : Nat} {x : Value} (hm : (la, listOf its n) ∈ r.lidL) (hs : its.size + 1 ≤ G.bv.length) : Ok w f (r.s_lidL (updL la (listOf (its.push x) k) r.lidL)) G where
  sta := O.sta
  sets := O.sets
  wo := O.wo
  cx := O.cx
  slz := O.slz
  sl := O.sl
  sdz := O.sdz
  sd := O.sd
  rwz := O.rwz
  cl := O.cl
  vdz := O.vdz
  vd := O.vd
  rlz := O.rlz
  rl := O.rl
  tr := O.tr
  tt := O.tt
  co := O.co
  fn := fun q hq => by
    have h := O.fn q hq
    refine hide ?_
    intro GG hGG
    obtain ⟨v, i, u⟩ := q
    refine hGG ?_
    clear hGG GG
    simp only at h ⊢
    cases h with
    | none => exact .none
    | @fn fa fd la' fo _ _ t t2 a b c d e g i j its' n' h1 h2 h3 h4 h5 h6 h7 =>
      by_cases hla : la' = la
      · subst hla
        exact .fn h1 h2 h3 (mem_updL_self hm) (by simpa using hs) h6 h7
      · exact .fn h1 h2 h3 (mem_updL_ne h4 hla) h5 h6 h7
theorem Ok.s_vd0 (O : Ok w f r G) {l : List (Addr × Obj)} (h : TabAre l G.bv.length (VdP w r G.bv)) : Ok w f (r.s_vdL l) G where
  sta := O.sta
  sets := O.sets
  wo := O.wo
  cx := O.cx
  slz := O.slz
  sl := O.sl
  sdz := O.sdz
  sd := O.sd
  rwz := O.rwz
  cl := O.cl
  vdz := O.vdz
  vd := h
  rlz := O.rlz
  rl := O.rl
  tr := O.tr
  tt := O.tt
  co := O.co
  fn := O.fn
theorem Ok.s_sd (O : Ok w f r G) {l : List (Addr × Obj)} {bl : List (List (Str × Int))} (hl : bl.length = G.bl.length) (h : TabAre l G.bl.length (SdP w r bl)) : Ok w f (r.s_sdL l) { G with bl := bl } where
  sta := O.sta
  sets := O.sets
  wo := O.wo
  cx := O.cx
  slz := O.slz
  sl := O.sl
  sdz := by rw [hl]; exact O.sdz
  sd := by rw [hl]; exact h
  rwz := by rw [hl]; exact O.rwz
  cl := by rw [hl]; exact O.cl
  vdz := O.vdz
  vd := O.vd
  rlz := O.rlz
  rl := O.rl
  tr := O.tr
  tt := O.tt
  co := O.co
  fn := O.fn
theorem Ok.s_sl (O : Ok w f r G) {l : List (Addr × Obj)} {lv : List (List (Str × Int))} (hl : lv.length = G.lv.length) (h : TabAre l G.lv.length (SlP r lv)) : Ok w f (r.s_slL l) { G with lv := lv } where
  sta := O.sta
  sets := O.sets
  wo := O.wo
  cx := O.cx
  slz := by rw [hl]; exact O.slz
  sl := by rw [hl]; exact h
  sdz := O.sdz
  sd := O.sd
  rwz := O.rwz
  cl := O.cl
  vdz := O.vdz
  vd := O.vd
  rlz := O.rlz
  rl := O.rl
  tr := O.tr
  tt := O.tt
  co := O.co
  fn := O.fn
theorem Ok.rowpush (O : Ok w f r G) {ra : Addr} {v : LR} {n k : Nat} {tn tk tf : Tok} (hf : ∀ p ∈ r.rowL, p.1 ≠ ra) : Ok w f ((r.s_vars (r.vars.push (.ref ra)) n).s_rowL ((ra, listOf #[.str v.name tn, .int v.kind tk, .int v.flags tf] k) :: r.rowL)) { G with lw := G.lw ++ [v] } where
  sta := O.sta
  sets := O.sets
  wo := O.wo
  cx := O.cx
  slz := O.slz
  sl := O.sl
  sdz := O.sdz
  sd := O.sd
  rwz := O.rwz
  cl := O.cl
  vdz := O.vdz
  vd := O.vd
  rlz := by simp [O.rlz]
  rl := by
    rw [List.length_append, List.length_singleton]
    refine O.rl.push hf (fun i b q hi x => ?_) ⟨v, k, tn, tk, tf, ?_, ?_, rfl⟩
    · refine hide ?_
      intro GG hGG
      obtain ⟨x0, x1, x2, x3, x4, y1, y2, y3⟩ := x
      refine hGG ?_
      clear hGG GG
      exact ⟨x0, x1, x2, x3, x4, push_get _ _ y1, by rw [List.getElem?_append_left hi]; exact y2, y3⟩
    · show (r.vars.push _)[G.lw.length]? = _
      rw [← O.rlz]; simp
    · rw [List.getElem?_append_right (Nat.le_refl _)]; simp
  tr := O.tr
  tt := O.tt
  co := O.co
  fn := O.fn
theorem Ok.s_co (O : Ok w f r G) {o1 o2 : Obj} {cd : Int → Option PyData} (h : CoP w r.imm o2 o1 (G.cn + 1) cd) : Ok w f ((r.s_oconsts o1).s_onotes o2) { G with cd := cd, cn := G.cn + 1 } where
  sta := O.sta
  sets := O.sets
  wo := O.wo
  cx := O.cx
  slz := O.slz
  sl := O.sl
  sdz := O.sdz
  sd := O.sd
  rwz := O.rwz
  cl := O.cl
  vdz := O.vdz
  vd := O.vd
  rlz := O.rlz
  rl := O.rl
  tr := O.tr
  tt := O.tt
  co := h
  fn := O.fn
theorem co_put {imm : List (Addr × Obj)} {cd : Int → Option PyData} {xs : List (List EK × Addr × Value)} {ckv : List (Int × Value)} {v : Value} {d : PyData} {lid : Int} {a : Addr} (h : ∀ l : Int, CoAt imm (cd l) ((atKey xs [.s "const", .i l]).map (·.2)) (valueAt ckv l)) (hd : Da imm v d) :
    ∀ l : Int, CoAt imm (if l = lid then some d else cd l) ((atKey (storedH xs [.s "const", .i lid] a v) [.s "const", .i l]).map (·.2)) (valueAt (stored ckv lid v) l) := fun l => by
  rw [at_kvs, kvsOf_storedH, valueAt_stored, valueAt_stored]
  by_cases hl : l = lid
  · subst hl
    rw [if_pos rfl, if_pos rfl, if_pos rfl]; exact .yes hd
  · rw [if_neg hl, if_neg hl, if_neg (by simpa using hl), ← at_kvs]; exact h l
theorem Ok.popped (O : Ok w f r G) {p q : List Value} {y z : Value} {n1 n2 : Nat} {oc : Obj} {cdL : List (Addr × Obj)} {clv : List (Int × Value)} (hp : r.cxsc.toList = p ++ [y]) (hq : r.cxrows.toList = q ++ [z]) (hcl : ClAre w oc cdL (G.bl.length - 1) clv) : Ok w f ((((r.s_cxsc p.toArray n1).s_cxrows q.toArray n2).s_oclosed oc).s_cdL cdL) { G with bl := G.bl.dropLast } where
  sta := O.sta
  sets := O.sets
  wo := O.wo
  cx := O.cx
  slz := O.slz
  sl := O.sl
  sdz := by have := congrArg List.length hp; have h2 := O.sdz; simp at this ⊢; (first | k_extra "z k_ar" | omega)
  sd := by
    rw [List.length_dropLast]
    refine (O.sd.less (Nat.sub_le _ 1)).imp fun i a o hi x => ?_
    refine hide ?_
    intro GG hGG
    obtain ⟨h1, h2, es, kvs, h3, h4, h4'⟩ := x
    refine hGG ?_
    clear hGG GG
    refine ⟨?_, h2, es, kvs, by rw [List.getElem?_dropLast, if_pos hi]; exact h3, h4, h4'⟩
    have hl : r.cxsc.size = p.length + 1 := by rw [← Array.length_toList, hp]; simp
    have h5 := O.sdz
    rw [← Array.getElem?_toList, hp, List.getElem?_append_left (by (first | k_extra "z k_ar" | omega))] at h1
    show p.toArray[i]? = _
    rw [List.getElem?_toArray]; exact h1
  rwz := by have := congrArg List.length hq; have h2 := O.rwz; simp at this ⊢; (first | k_extra "z k_ar" | omega)
  cl := ⟨clv, by simpa using hcl⟩
  vdz := O.vdz
  vd := O.vd
  rlz := O.rlz
  rl := O.rl
  tr := O.tr
  tt := O.tt
  co := O.co
  fn := O.fn
theorem Ok.lpopped (O : Ok w f r G) {p : List Value} {y : Value} {n1 : Nat} (hp : r.scopes.toList = p ++ [y]) : Ok w f (r.s_scopes p.toArray n1) { G with lv := G.lv.dropLast } where
  sta := O.sta
  sets := O.sets
  wo := O.wo
  cx := O.cx
  slz := by have := congrArg List.length hp; have h2 := O.slz; simp at this ⊢; (first | k_extra "z k_ar" | omega)
  sl := by
    rw [List.length_dropLast]
    refine (O.sl.less (Nat.sub_le _ 1)).imp fun i a o hi x => ?_
    refine hide ?_
    intro GG hGG
    obtain ⟨h1, vs, n, es, h2, h3, h4⟩ := x
    refine hGG ?_
    clear hGG GG
    refine ⟨?_, vs, n, es, h2, by rw [List.getElem?_dropLast, if_pos hi]; exact h3, h4⟩
    have hl : r.scopes.size = p.length + 1 := by rw [← Array.length_toList, hp]; simp
    have h5 := O.slz
    rw [← Array.getElem?_toList, hp, List.getElem?_append_left (by (first | k_extra "z k_ar" | omega))] at h1
    show p.toArray[i]? = _
    rw [List.getElem?_toArray]; exact h1
  sdz := O.sdz
  sd := O.sd
  rwz := O.rwz
  cl := O.cl
  vdz := O.vdz
  vd := O.vd
  rlz := O.rlz
  rl := O.rl
  tr := O.tr
  tt := O.tt
  co := O.co
  fn := O.fn
theorem last_split {α : Type} {l : List α} {y : α} (h : l[l.length - 1]? = some y) : l = l.dropLast ++ [y] := by
  have hl : l.length ≥ 1 := by have := (List.getElem?_eq_some_iff.mp h).1; (first | k_extra "z k_ar" | omega)
  apply List.ext_getElem?
  intro i
  by_cases hi : i < l.length - 1
  · rw [List.getElem?_append_left (by simp; (first | k_extra "z k_ar" | omega)), List.getElem?_dropLast, if_pos hi]
  · by_cases hii : i = l.length - 1
    · subst hii; rw [h, List.getElem?_append_right (by simp)]; simp
    · rw [List.getElem?_eq_none (by (first | k_extra "z k_ar" | omega)), List.getElem?_eq_none (by simp; (first | k_extra "z k_ar" | omega))]
theorem ClAre.turn {oc : Obj} {cdL cdL' : List (Addr × Obj)} {n n' : Nat} {cl : List (Int × Value)} (x : ClAre w oc cdL n cl) (hn : n' ≤ n) (h : ∀ a o kvs, (a, o) ∈ cdL → o.IsDictOf (strKind PR w) kvs → (∀ q ∈ kvs, q.1 ∈ nameL) → ∃ o' kvs', (a, o') ∈ cdL' ∧ o'.IsDictOf (strKind PR w) kvs' ∧ ∀ q ∈ kvs', q.1 ∈ nameL) : ClAre w oc cdL' n' cl where
  is := x.is
  keys := x.keys
  full := fun k h1 h2 => x.full k h1 (by (first | k_extra "z k_ar" | omega))
  dict := fun p hp => by
    refine hide ?_
    intro GG hGG
    obtain ⟨a, o, kvs, e1, e2, e3, e4, e5⟩ := x.dict p hp
    obtain ⟨o', kvs', h1, h2, h3⟩ := h a o kvs e2 e3 e4
    refine hGG ?_
    clear hGG GG
    exact ⟨a, o', kvs', e1, h1, h2, h3, e5⟩
  inj := x.inj
end
structure Gr (r r' : Raw) : Prop where
  imm : ∀ p ∈ r.imm, p ∈ r'.imm
  cl : r'.oclosed = r.oclosed
  cd : r'.cdL = r.cdL
  fns : r'.fns = r.fns
  ocx : r'.ocx = r.ocx
structure Gw (r r' : Raw) : Prop where
  imm : ∀ p ∈ r.imm, p ∈ r'.imm
  cl : r'.oclosed = r.oclosed
  cd : r'.cdL = r.cdL
  fns : r'.fns = r.fns
theorem Gr.w {a b : Raw} (x : Gr a b) : Gw a b := ⟨x.imm, x.cl, x.cd, x.fns⟩
theorem Gw.trans {a b c : Raw} (x : Gw a b) (y : Gw b c) : Gw a c := ⟨fun p h => y.imm p (x.imm p h), y.cl.trans x.cl, y.cd.trans x.cd, y.fns.trans x.fns⟩
theorem Gr.refl (r : Raw) : Gr r r := ⟨fun _ h => h, rfl, rfl, rfl, rfl⟩
theorem Gr.trans {a b c : Raw} (x : Gr a b) (y : Gr b c) : Gr a c := ⟨fun p h => y.imm p (x.imm p h), y.cl.trans x.cl, y.cd.trans x.cd, y.fns.trans x.fns, y.ocx.trans x.ocx⟩
noncomputable def badD : PyData := .tuple [.int 1, .int 15, .int 0]
noncomputable def faultD (code at_ : Int) (us : List PyData) : PyData := .tuple [.int code, .int at_, .tuple us]
noncomputable def locD (kind lid : Int) : PyData := .tuple [.int 2, .int kind, .int lid]
noncomputable def useB (G : Gst) (lid : Int) (v : VR) (at_ : Int) (out : Prop) [Decidable out] : PyData × Gst :=
  if Builtin.bitAnd v.flags 16 ≠ 0 then ((G.cd lid).getD badD, G) else
  if out then if Builtin.bitAnd v.flags (Builtin.bitOr 2 4) ≠ 0 then (badD, { G with dr := G.dr ++ [faultD 1628 at_ [.str v.name]] })
    else (locD v.kind lid, { G with bv := G.bv.set (lid - 1).toNat { v with flags := Builtin.bitOr v.flags 8 } })
  else (locD v.kind lid, G)
noncomputable def useL (G : Gst) (lid : Int) (v : LR) (at_ : Int) (out : Prop) [Decidable out] : PyData × Gst :=
  if Builtin.bitAnd v.flags 16 ≠ 0 then ((G.cd lid).getD badD, G) else
  if out then if Builtin.bitAnd v.flags (Builtin.bitOr 2 4) ≠ 0 then (badD, { G with dt := G.dt ++ [faultD 1628 at_ [.str v.name]] })
    else (locD v.kind lid, { G with lw := G.lw.set (lid - 1).toNat { v with flags := Builtin.bitOr v.flags 8 } })
  else (locD v.kind lid, G)
noncomputable def tellR (G : Gst) (code at_ : Int) (us : List PyData) : Gst := if code = 0 then G else { G with dr := G.dr ++ [faultD code at_ us] }
noncomputable def tellT (G : Gst) (code at_ : Int) (us : List PyData) : Gst := if code = 0 then G else { G with dt := G.dt ++ [faultD code at_ us] }
noncomputable def thisD (code k : Int) : PyData := if code = 0 then .tuple [.int 3, .int k] else badD
noncomputable def thisB (number static init up : Int) (b : Bool) : Int := if static ≠ 0 then number else if init ≠ 0 then (if number = 26 then 27 else if init = 1 then 236 else 120) else if up ≠ 0 ∧ b = true then 1673 else 0
noncomputable def thisL (number place : Int) (lam b : Bool) : Int := if thisCode number place ≠ 0 then thisCode number place else if lam = true ∧ b = true then 1673 else 0
noncomputable def needR (tell : Gst → Int → Int → List PyData → Gst) (G : Gst) (st : Bool) (how : Int) (name : Str) (at_ c k : Int) (d : PyData) : PyData × Gst :=
  if st = true then if how = 3 ∨ how = 4 then (badD, tell G 176 at_ [.str name]) else (.none, G)
  else if how = 2 then (badD, tell G 120 at_ [.str name]) else if how = 1 then (thisD c k, tell G c at_ []) else (d, G)
theorem bad_dat {imm : List (Addr × Obj)} {b : Addr} {vs : List Value} (h : (b, tupOf vs) ∈ imm) (hB : IsBad vs) : Da imm (.ref b) badD := by
  refine hide ?_
  intro GG hGG
  obtain ⟨t1, t2, t3, rfl⟩ := hB
  refine hGG ?_
  clear hGG GG
  exact .tup h (.int (.int (.int .nil))) .nil
theorem fault_dat {imm : List (Addr × Obj)} {t c : Addr} {code at_ : Int} {t1 t2 : Tok} {us : List Value} {ds : List PyData} (h : (t, tupOf [.int code t1, .int at_ t2, .ref c]) ∈ imm) (h2 : (c, tupOf us) ∈ imm) (h3 : Dat imm 2 us ds) : Dat imm 4 [.ref t] [faultD code at_ ds] :=
  .tup h (.int (.int (.tup h2 h3 .nil))) .nil
section
variable {w : World} {p : Program} {loose : List Str} {mean : ExcName → Option Value} {mg mb : Str → Option Value}
    {dp un : Nat} {gd : Option (List Code)} {cn : Str} {cs : Scope} {a : Addr} {ccd : Value} {cl : List (Str × Addr)} {outer : List Env} {A₀ : Around} {base h₀ : Heap} {L : Addr} {m : Str → Option Value} {s : Shared} {hS : Heap} {gS : Array GenState} {dS : Drawn} {tS : Nat} {oS : OsState}
    {Q E : Value → Shared → Prop} {f : Fix} {r : Raw} {Z : List (Addr × Obj)} {G : Gst}
theorem Ok.rowsz (O : Ok w f r G) : r.rows.size = G.dr.length := by rw [← O.tr.length, Array.length_toList]
theorem Ok.toldsz (O : Ok w f r G) : r.told.size = G.dt.length := by rw [← O.tt.length, Array.length_toList]
theorem take_ok {n : Int} {tn : Tok}
    (C : Cx w p loose mean mg mb cs outer A₀ base h₀ L m hS (Z ++ led f r)) (nd : Sep f r Z) (O : Ok w f r G) (hn : 0 < n ∧ n < 10) (hdp : dp + 5 < recursionLimit) (hu : un + 40 < cLine)
    (ret : ∀ g tg r' h' tk', Ok w f r' G → Gr r r' → Fr h₀ L h' m → News h₀ L h' (Z ++ led f r') → Sep f r' Z → 0 ≤ g ∧ g < n → Q (.int g tg) ⟨h', gS, dS, tk', oS⟩) :
    wpAny (model PR w) (ktrTop dp un gd cn cs L a ccd cl outer) (call (.ref 936) [.ref f.aw, .int n tn]) Q E ⟨hS, gS, dS, tS, oS⟩ := by
  obtain ⟨at_, tat, left, tl, tm, ts, hW, hat, hleft⟩ := O.wo
  exact take_spec C nd hW O.sta.ain O.sta.inx O.sta.low hat hleft O.sta.len hn hdp hu fun at' tat' left' tleft' g tg h' tk' ow' F N nd' hW' h1 h2 h3 => ret g tg _ h' tk' (O.s_ow ⟨_, _, _, _, _, _, hW', h1, h2⟩) ⟨fun _ h => h, rfl, rfl, rfl, rfl⟩ F N nd' h3
theorem local_use_ok {an : Addr} {nat : Int} {lid : Int} {tl : Tok} {v : VR} {fnid up : Int}
    (C : Cx w p loose mean mg mb cs outer A₀ base h₀ L m hS (Z ++ led f r)) (nd : Sep f r Z) (O : Ok w f r G) (hn : NodeAt w Z an nat) (hfv : (G.fv, fnid, up) ∈ G.fs) (hl : 1 ≤ lid ∧ lid < 100) (hv : G.bv[(lid - 1).toNat]? = some v) (hown : G.fv = .none → v.own = fnid) (hc : (PyData.str v.name).canLay0 = true)
    (hz : G.dr.length ≤ 900) (hdp : dp + 16 < recursionLimit) (hu : un + 120 < cLine)
    (ret : ∀ x r' h' tk', Ok w f r' (useB G lid v nat (v.own ≠ fnid)).2 → Gr r r' → Da r'.imm x (useB G lid v nat (v.own ≠ fnid)).1 → Fr h₀ L h' m → News h₀ L h' (Z ++ led f r') → Sep f r' Z → Q x ⟨h', gS, dS, tk', oS⟩) :
    wpAny (model PR w) (ktrTop dp un gd cn cs L a ccd cl outer) (call (.ref 859) [.ref f.acx, .int lid tl, .ref an]) Q E ⟨hS, gS, dS, tS, oS⟩ := by
  have hil := (List.getElem?_eq_some_iff.mp hv).1
  refine hide ?_
  intro GG hGG
  obtain ⟨vd, vo, hvd, ⟨va, v', vl, varg, vblock, tn, tk, tf, to, e1, e2, e3, e4⟩, upd⟩ := O.vd.at hil
  obtain rfl : v' = v := Option.some.inj (e3.symm.trans hv)
  obtain ⟨owner, st, init, b, tb, cat, hC⟩ := O.cx
  obtain ⟨xs, ckv, n1, n2, n3, n4, n5⟩ := O.co
  refine hGG ?_
  clear hGG GG
  rw [show (lid - 1).toNat + 1 = lid.toNat by (first | k_extra "z k_ar" | omega)] at e1
  have hfn := (O.fn _ hfv).is
  have hrz := O.rowsz
  refine local_use_spec C nd hC O.sta hfn hn ⟨by (first | k_extra "z k_ar" | omega), hl.2⟩ e1 e2 hvd e4 n1 O.sets.lo1 hown (by (first | k_extra "z k_ar" | omega)) hdp hu ?_ ?_ ?_ ?_
  · intro hf b' vs h' tk' hB F N nd'
    have e : useB G lid v' nat (v'.own ≠ fnid) = ((G.cd lid).getD badD, G) := if_pos hf
    rw [e] at ret
    have hx := n5 lid
    generalize (atKey xs [.s "const", .i lid]).map (·.2) = y at hx ⊢
    generalize valueAt ckv lid = z at hx
    generalize G.cd lid = cdl at hx ret
    refine ret _ _ _ _ (O.imm fun _ h => .tail _ h) ⟨fun _ h => .tail _ h, rfl, rfl, rfl, rfl⟩ ?_ F N nd'
    cases hx with
    | no => exact bad_dat (.head _) hB
    | yes q => exact q.mono fun _ h => .tail _ h
  · intro hf ho hr t tnn b' c us vs h' tk' hB hus F N nd'
    have e : useB G lid v' nat (v'.own ≠ fnid) = (badD, { G with dr := G.dr ++ [faultD 1628 nat [.str v'.name]] }) := by unfold useB; rw [if_neg (by simp [hf]), if_pos ho, if_pos hr]
    rw [e] at ret
    subst hus
    exact ret _ _ _ _ (O.fault (fun _ h => .tail _ (.tail _ (.tail _ h))) (fault_dat (.tail _ (.tail _ (.head _))) (.head _) (.str hc .nil))) ⟨fun _ h => .tail _ (.tail _ (.tail _ h)), rfl, rfl, rfl, rfl⟩ (bad_dat (.tail _ (.head _)) hB) F N nd'
  · intro hf ho hr t t1 t2 t3 t4 vo' h' tk' hvo F N nd'
    have e : useB G lid v' nat (v'.own ≠ fnid) = (locD v'.kind lid, { G with bv := G.bv.set (lid - 1).toNat { v' with flags := Builtin.bitOr v'.flags 8 } }) := by unfold useB; rw [if_neg (by simp [hf]), if_pos ho, if_neg (by simp [hr])]
    rw [e] at ret
    have hT := upd vo' (VdP w r (G.bv.set (lid - 1).toNat { v' with flags := Builtin.bitOr v'.flags 8 })) ⟨va, _, vl, varg, vblock, tn, tk, t4, to, by rw [show (lid - 1).toNat + 1 = lid.toNat by (first | k_extra "z k_ar" | omega)]; exact e1, e2, List.getElem?_set_self hil, hvo⟩ fun j b q hj hji hP => by
      obtain ⟨x0, x1, x2, x3, x4, x5, x6, x7, x8, y1, y2, y3, y4⟩ := hP
      exact ⟨x0, x1, x2, x3, x4, x5, x6, x7, x8, y1, y2, by rw [List.getElem?_set_ne (Ne.symm hji)]; exact y3, y4⟩
    exact ret _ _ _ _ ((O.s_vd hT).imm fun _ h => .tail _ h) ⟨fun _ h => .tail _ h, rfl, rfl, rfl, rfl⟩ (.tup (.head _) (.int (.int (.int .nil))) .nil) F N nd'
  · intro hf ho t t1 t2 t3 h' tk' F N nd'
    have e : useB G lid v' nat (v'.own ≠ fnid) = (locD v'.kind lid, G) := by unfold useB; rw [if_neg (by simp [hf]), if_neg (by simp [ho])]
    rw [e] at ret
    exact ret _ _ _ _ (O.imm fun _ h => .tail _ h) ⟨fun _ h => .tail _ h, rfl, rfl, rfl, rfl⟩ (.tup (.head _) (.int (.int (.int .nil))) .nil) F N nd'
theorem law_local_ok {lid : Int} {tl : Tok} {v : LR} {out : Bool} {at_ : Int} {tat : Tok}
    (C : Cx w p loose mean mg mb cs outer A₀ base h₀ L m hS (Z ++ led f r)) (nd : Sep f r Z) (O : Ok w f r G) (hl : 1 ≤ lid ∧ lid < 100) (hv : G.lw[(lid - 1).toNat]? = some v) (hc : (PyData.str v.name).canLay0 = true)
    (hz : G.dt.length ≤ 900) (hdp : dp + 8 < recursionLimit) (hu : un + 120 < cLine)
    (ret : ∀ x r' h' tk', Ok w f r' (useL G lid v at_ (out = true)).2 → Gr r r' → Da r'.imm x (useL G lid v at_ (out = true)).1 → Fr h₀ L h' m → News h₀ L h' (Z ++ led f r') → Sep f r' Z → Q x ⟨h', gS, dS, tk', oS⟩) :
    wpAny (model PR w) (ktrTop dp un gd cn cs L a ccd cl outer) (call (.ref 962) [.ref f.aw, .int lid tl, .bool out, .int at_ tat]) Q E ⟨hS, gS, dS, tS, oS⟩ := by
  have hil := (List.getElem?_eq_some_iff.mp hv).1
  refine hide ?_
  intro GG hGG
  obtain ⟨ra, o, hra, ⟨v', n, tn, tk, tf, e1, e2, rfl⟩, upd⟩ := O.rl.at hil
  obtain rfl : v' = v := Option.some.inj (e2.symm.trans hv)
  obtain ⟨ya, yb, yc, yd, ye, yf, hW, _⟩ := O.wo
  obtain ⟨xs, ckv, n1, n2, n3, n4, n5⟩ := O.co
  refine hGG ?_
  clear hGG GG
  have hrz := O.toldsz
  refine law_local_spec C nd hW hl e1 hra n2 O.sets.lo2 (by (first | k_extra "z k_ar" | omega)) hdp hu ?_ ?_ ?_ ?_
  · intro hf b' vs h' tk' hB F N nd'
    have e : useL G lid v' at_ (out = true) = ((G.cd lid).getD badD, G) := if_pos hf
    rw [e] at ret
    have hx := n5 lid
    generalize (atKey xs [.s "const", .i lid]).map (·.2) = y at hx
    generalize valueAt ckv lid = z at hx ⊢
    generalize G.cd lid = cdl at hx ret
    refine ret _ _ _ _ (O.imm fun _ h => .tail _ h) ⟨fun _ h => .tail _ h, rfl, rfl, rfl, rfl⟩ ?_ F N nd'
    cases hx with
    | no => exact bad_dat (.head _) hB
    | yes q => exact q.mono fun _ h => .tail _ h
  · intro hf ho hr t t1 b' c us vs h' tk' hB hus F N nd'
    have e : useL G lid v' at_ (out = true) = (badD, { G with dt := G.dt ++ [faultD 1628 at_ [.str v'.name]] }) := by unfold useL; rw [if_neg (by simp [hf]), if_pos ho, if_pos hr]
    rw [e] at ret
    subst hus
    exact ret _ _ _ _ (O.telled (fun _ h => .tail _ (.tail _ (.tail _ h))) (fault_dat (.tail _ (.head _)) (.head _) (.str hc .nil))) ⟨fun _ h => .tail _ (.tail _ (.tail _ h)), rfl, rfl, rfl, rfl⟩ (bad_dat (.tail _ (.tail _ (.head _))) hB) F N nd'
  · intro hf ho hr t t1 t2 t3 t4 h' tk' F N nd'
    have e : useL G lid v' at_ (out = true) = (locD v'.kind lid, { G with lw := G.lw.set (lid - 1).toNat { v' with flags := Builtin.bitOr v'.flags 8 } }) := by unfold useL; rw [if_neg (by simp [hf]), if_pos ho, if_neg (by simp [hr])]
    rw [e] at ret
    have hT := upd _ (RlP r (G.lw.set (lid - 1).toNat { v' with flags := Builtin.bitOr v'.flags 8 })) ⟨_, n, tn, tk, t4, e1, List.getElem?_set_self hil, rfl⟩ fun j b q hj hji hP => by
      obtain ⟨x0, x1, x2, x3, x4, y1, y2, y3⟩ := hP
      exact ⟨x0, x1, x2, x3, x4, y1, by rw [List.getElem?_set_ne (Ne.symm hji)]; exact y2, y3⟩
    exact ret _ _ _ _ ((O.s_rl hT).imm fun _ h => .tail _ h) ⟨fun _ h => .tail _ h, rfl, rfl, rfl, rfl⟩ (.tup (.head _) (.int (.int (.int .nil))) .nil) F N nd'
  · intro hf ho t t1 t2 t3 h' tk' F N nd'
    have e : useL G lid v' at_ (out = true) = (locD v'.kind lid, G) := by unfold useL; rw [if_neg (by simp [hf]), if_neg (by simp [ho])]
    rw [e] at ret
    exact ret _ _ _ _ (O.imm fun _ h => .tail _ h) ⟨fun _ h => .tail _ h, rfl, rfl, rfl, rfl⟩ (.tup (.head _) (.int (.int (.int .nil))) .nil) F N nd'
theorem this_ok {fnid up tid k static init number : Int} {to ts ti tnum : Tok} {an : Addr} {nat : Int} {b : Bool} {blocks cat : Value}
    (C : Cx w p loose mean mg mb cs outer A₀ base h₀ L m hS (Z ++ led f r)) (nd : Sep f r Z) (O : Ok w f r G) (hC : r.ocx.IsDictOf (strKind PR w) (cxK f G.fv (.int tid to) (.int static ts) (.int init ti) blocks cat)) (hn : NodeAt w Z an nat) (hfv : (G.fv, fnid, up) ∈ G.fs)
    (KO : Own w r.imm G.its G.xs tid k) (KV : ValIs r.imm G.kits k b) (hnum : number ≠ 0)
    (hz : G.dr.length ≤ 900) (hdp : dp + 26 < recursionLimit) (hu : un + 160 < cLine)
    (ret : ∀ x r' h' tk', Ok w f r' (tellR G (thisB number static init up b) nat []) → r'.ocx = r.ocx → Gr r r' → Da r'.imm x (thisD (thisB number static init up b) k) → Fr h₀ L h' m → News h₀ L h' (Z ++ led f r') → Sep f r' Z → Q x ⟨h', gS, dS, tk', oS⟩) :
    wpAny (model PR w) (ktrTop dp un gd cn cs L a ccd cl outer) (call (.ref 852) [.ref f.acx, .ref an, .int number tnum]) Q E ⟨hS, gS, dS, tS, oS⟩ := by
  have hrz := O.rowsz
  refine this_expr_spec C nd hC O.sta (O.fn _ hfv).is hn O.sets.kin KO O.sets.kit KV O.sets.kz (by (first | k_extra "z k_ar" | omega)) hdp hu ?_ ?_
  · intro code tc hcd t tn b' c vs h' tk' hB F N nd'
    have e : thisB number static init up b = code ∧ code ≠ 0 := by
      unfold thisB
      rcases hcd with ⟨h1, h2⟩ | ⟨h1, h2, h3⟩ | ⟨h1, h2, h3, h4, h5⟩
      · rw [if_pos h1]; exact ⟨h2.symm, h2 ▸ hnum⟩
      · rw [if_neg (by simp [h1]), if_pos h2]; refine ⟨h3.symm, ?_⟩; rw [h3]; split; decide; split <;> decide
      · rw [if_neg (by simp [h1]), if_neg (by simp [h2]), if_pos ⟨h3, h4⟩]; exact ⟨h5.symm, by rw [h5]; decide⟩
    rw [e.1] at ret
    unfold tellR thisD at ret
    simp only [if_neg e.2] at ret
    exact ret _ _ _ _ (O.fault (fun _ h => .tail _ (.tail _ (.tail _ h))) (fault_dat (.tail _ (.tail _ (.head _))) (.head _) .nil)) rfl ⟨fun _ h => .tail _ (.tail _ (.tail _ h)), rfl, rfl, rfl, rfl⟩ (bad_dat (.tail _ (.head _)) hB) F N nd'
  · intro h1 h2 h3 t t1 t2 h' tk' F N nd'
    have e : thisB number static init up b = 0 := by unfold thisB; rw [if_neg (by simp [h1]), if_neg (by simp [h2]), if_neg h3]
    rw [e] at ret
    exact ret _ _ _ _ (O.imm fun _ h => .tail _ h) rfl ⟨fun _ h => .tail _ h, rfl, rfl, rfl, rfl⟩ (.tup (.head _) (.int (.int .nil)) .nil) F N nd'
theorem need_ok {fnid up tid k static init how : Int} {to ts ti th tnm : Tok} {an : Addr} {nat : Int} {b st : Bool} {blocks cat obj : Value} {name : Str} {d : PyData}
    (C : Cx w p loose mean mg mb cs outer A₀ base h₀ L m hS (Z ++ led f r)) (nd : Sep f r Z) (O : Ok w f r G) (hC : r.ocx.IsDictOf (strKind PR w) (cxK f G.fv (.int tid to) (.int static ts) (.int init ti) blocks cat)) (hn : NodeAt w Z an nat) (hfv : (G.fv, fnid, up) ∈ G.fs)
    (KO : Own w r.imm G.its G.xs tid k) (KV : ValIs r.imm G.kits k b) (hc : (PyData.str name).canLay0 = true) (hd : Da r.imm obj d)
    (hz : G.dr.length ≤ 900) (hdp : dp + 34 < recursionLimit) (hu : un + 220 < cLine)
    (ret : ∀ x r' h' tk', Ok w f r' (needR tellR G st how name nat (thisB 120 static init up b) k d).2 → r'.ocx = r.ocx → Gr r r' → Da r'.imm x (needR tellR G st how name nat (thisB 120 static init up b) k d).1 → Fr h₀ L h' m → News h₀ L h' (Z ++ led f r') → Sep f r' Z → Q x ⟨h', gS, dS, tk', oS⟩) :
    wpAny (model PR w) (ktrTop dp un gd cn cs L a ccd cl outer) (call (.ref 866) [.ref f.acx, obj, .int how th, .bool st, .ref an, .str name tnm]) Q E ⟨hS, gS, dS, tS, oS⟩ := by
  have hrz := O.rowsz
  refine need_obj_spec C nd hC O.sta (O.fn _ hfv).is hn O.sets.kin KO O.sets.kit KV O.sets.kz (by (first | k_extra "z k_ar" | omega)) hdp hu ?_ ?_ ?_ ?_
  · intro h1 h2 h3 h' tk' F N nd'
    have e : needR tellR G st how name nat (thisB 120 static init up b) k d = (.none, G) := by unfold needR; rw [if_pos h1, if_neg (by rintro (h | h) <;> contradiction)]
    rw [e] at ret
    exact ret _ _ _ _ O rfl (Gr.refl _) (.none .nil) F N nd'
  · intro h1 h2 h3 h' tk' F N nd'
    have e : needR tellR G st how name nat (thisB 120 static init up b) k d = (d, G) := by unfold needR; rw [if_neg (by simp [h1]), if_neg h2, if_neg h3]
    rw [e] at ret
    exact ret _ _ _ _ O rfl (Gr.refl _) hd F N nd'
  · intro code tc us hcd t tn b' c vs h' tk' hB F N nd'
    have hS : ∀ p ∈ r.imm, p ∈ ((c, tupOf us) :: (b', tupOf vs) :: (t, tupOf [.int code tc, .int nat tn, .ref c]) :: r.imm) := fun _ h => .tail _ (.tail _ (.tail _ h))
    rcases hcd with ⟨h1, h2, rfl, rfl⟩ | ⟨h1, h2, rfl, rfl⟩ | ⟨h1, h2, rfl, h3⟩
    · have e : needR tellR G st how name nat (thisB 120 static init up b) k d = (badD, tellR G 176 nat [.str name]) := by unfold needR; rw [if_pos h1, if_pos h2]
      rw [e] at ret
      exact ret _ _ _ _ (O.fault hS (fault_dat (.tail _ (.tail _ (.head _))) (.head _) (.str hc .nil))) rfl ⟨hS, rfl, rfl, rfl, rfl⟩ (bad_dat (.tail _ (.head _)) hB) F N nd'
    · have e : needR tellR G st how name nat (thisB 120 static init up b) k d = (badD, tellR G 120 nat [.str name]) := by unfold needR; rw [if_neg (by simp [h1]), if_pos h2]
      rw [e] at ret
      exact ret _ _ _ _ (O.fault hS (fault_dat (.tail _ (.tail _ (.head _))) (.head _) (.str hc .nil))) rfl ⟨hS, rfl, rfl, rfl, rfl⟩ (bad_dat (.tail _ (.head _)) hB) F N nd'
    · have e0 : thisB 120 static init up b = code ∧ code ≠ 0 := by
        unfold thisB
        rcases h3 with ⟨h1, h2⟩ | ⟨h1, h2, h3⟩ | ⟨h1, h2, h3, h4, h5⟩
        · rw [if_pos h1]; exact ⟨h2.symm, by rw [h2]; decide⟩
        · rw [if_neg (by simp [h1]), if_pos h2, if_neg (by decide)]; refine ⟨h3.symm, ?_⟩; rw [h3]; split <;> decide
        · rw [if_neg (by simp [h1]), if_neg (by simp [h2]), if_pos ⟨h3, h4⟩]; exact ⟨h5.symm, by rw [h5]; decide⟩
      rw [e0.1] at ret
      have e : needR tellR G st how name nat code k d = (badD, { G with dr := G.dr ++ [faultD code nat []] }) := by unfold needR thisD tellR; rw [if_neg (by simp [h1]), if_neg (by (first | k_extra "z k_ar" | omega)), if_pos h2, if_neg e0.2, if_neg e0.2]
      rw [e] at ret
      exact ret _ _ _ _ (O.fault hS (fault_dat (.tail _ (.tail _ (.head _))) (.head _) .nil)) rfl ⟨hS, rfl, rfl, rfl, rfl⟩ (bad_dat (.tail _ (.head _)) hB) F N nd'
  · intro h1 h2 h3 h4 h5 t t1 t2 h' tk' F N nd'
    have e0 : thisB 120 static init up b = 0 := by unfold thisB; rw [if_neg (by simp [h3]), if_neg (by simp [h4]), if_neg h5]
    rw [e0] at ret
    have e : needR tellR G st how name nat 0 k d = (.tuple [.int 3, .int k], G) := by unfold needR thisD tellR; rw [if_neg (by simp [h1]), if_neg (by (first | k_extra "z k_ar" | omega)), if_pos h2]; rfl
    rw [e] at ret
    exact ret _ _ _ _ (O.imm fun _ h => .tail _ h) rfl ⟨fun _ h => .tail _ h, rfl, rfl, rfl, rfl⟩ (.tup (.head _) (.int (.int .nil)) .nil) F N nd'
inductive SpotP (w : World) (f : Fix) (imm : List (Addr × Obj)) (its kits : Array Value) (xs : List (List EK × Addr × Value)) (spot : Int) : Prop
  | mk (trs : List Value) (ra : Addr) (tid k : Int) (b : Bool) (t1 t2 : Tok) : (f.atypes, tupOf trs) ∈ imm → trs[spot.toNat]? = some (.ref ra) → (ra, tupOf [.int tid t1, .int k t2, .bool b]) ∈ imm → Own w imm its xs tid k → ValIs imm kits k b → SpotP w f imm its kits xs spot
theorem Sets.spot {imm : List (Addr × Obj)} {its kits : Array Value} {xs : List (List EK × Addr × Value)} (S : Sets w f imm its kits xs) {spot : Int} (h : 0 ≤ spot ∧ spot < 9) :
    SpotP w f imm its kits xs spot := by
  refine hide ?_
  intro GG hGG
  obtain ⟨trs, h1, h2, h3⟩ := S.ty
  obtain ⟨ra, tid, k, b, t1, t2, x1, x2, x3, x4⟩ := h3 spot.toNat (by (first | k_extra "z k_ar" | omega))
  refine hGG ?_
  clear hGG GG
  exact ⟨trs, ra, tid, k, b, t1, t2, h1, x1, x2, x3, x4⟩
theorem law_this_ok {spot place number at_ k : Int} {tsp tpl tnum tat tk : Tok} {lam b : Bool} {sa ra : Addr} {trs : List Value} {tidv : Value}
    (C : Cx w p loose mean mg mb cs outer A₀ base h₀ L m hS (Z ++ led f r)) (nd : Sep f r Z) (O : Ok w f r G)
    (hst : (sa, tupOf [.int spot tsp, .int place tpl, .bool lam]) ∈ Z) (hsp : 0 ≤ spot ∧ spot < 9) (hpl : 0 ≤ place ∧ place < 4)
    (hty : (f.atypes, tupOf trs) ∈ r.imm) (htr : trs[spot.toNat]? = some (.ref ra)) (hra : (ra, tupOf [tidv, .int k tk, .bool b]) ∈ r.imm)
    (hz : G.dt.length ≤ 900) (hdp : dp + 8 < recursionLimit) (hu : un + 120 < cLine)
    (ret : ∀ x r' h' tk', Ok w f r' (tellT G (thisL number place lam b) at_ []) → Gr r r' → Da r'.imm x (thisD (thisL number place lam b) k) → Fr h₀ L h' m → News h₀ L h' (Z ++ led f r') → Sep f r' Z → Q x ⟨h', gS, dS, tk', oS⟩) :
    wpAny (model PR w) (ktrTop dp un gd cn cs L a ccd cl outer) (call (.ref 969) [.ref f.aw, .ref sa, .int number tnum, .int at_ tat]) Q E ⟨hS, gS, dS, tS, oS⟩ := by
  obtain ⟨ya, yb, yc, yd, ye, yf, hW, _⟩ := O.wo
  have hrz := O.toldsz
  refine law_this_spec C nd hW hst hsp hpl hty htr hra (by (first | k_extra "z k_ar" | omega)) hdp hu ?_ ?_
  · intro code tc hcd t b' c vs h' tk' hB F N nd'
    have e : thisL number place lam b = code ∧ code ≠ 0 := by
      unfold thisL
      rcases hcd with ⟨h1, h2⟩ | ⟨h1, h2, h3, h4⟩
      · rw [if_pos h1]; exact ⟨h2.symm, h2 ▸ h1⟩
      · rw [if_neg (by simp [h1]), if_pos ⟨h2, h3⟩]; exact ⟨h4.symm, by rw [h4]; decide⟩
    rw [e.1] at ret
    unfold tellT thisD at ret
    simp only [if_neg e.2] at ret
    exact ret _ _ _ _ (O.telled (fun _ h => .tail _ (.tail _ (.tail _ h))) (fault_dat (.tail _ (.head _)) (.head _) .nil)) ⟨fun _ h => .tail _ (.tail _ (.tail _ h)), rfl, rfl, rfl, rfl⟩ (bad_dat (.tail _ (.tail _ (.head _))) hB) F N nd'
  · intro h1 h2 t t1 t2 h' tk' F N nd'
    have e : thisL number place lam b = 0 := by unfold thisL; rw [if_neg (by simp [h1]), if_neg h2]
    rw [e] at ret
    exact ret _ _ _ _ (O.imm fun _ h => .tail _ h) ⟨fun _ h => .tail _ h, rfl, rfl, rfl, rfl⟩ (.tup (.head _) (.int (.int .nil)) .nil) F N nd'
theorem object_ok {spot place how at_ k : Int} {tsp tpl th tnm tat tk : Tok} {lam b st : Bool} {sa ra : Addr} {trs : List Value} {tidv obj : Value} {name : Str} {d : PyData}
    (C : Cx w p loose mean mg mb cs outer A₀ base h₀ L m hS (Z ++ led f r)) (nd : Sep f r Z) (O : Ok w f r G)
    (hst : (sa, tupOf [.int spot tsp, .int place tpl, .bool lam]) ∈ Z) (hsp : 0 ≤ spot ∧ spot < 9) (hpl : 0 ≤ place ∧ place < 4)
    (hty : (f.atypes, tupOf trs) ∈ r.imm) (htr : trs[spot.toNat]? = some (.ref ra)) (hra : (ra, tupOf [tidv, .int k tk, .bool b]) ∈ r.imm)
    (hc : (PyData.str name).canLay0 = true) (hd : Da r.imm obj d)
    (hz : G.dt.length ≤ 900) (hdp : dp + 16 < recursionLimit) (hu : un + 180 < cLine)
    (ret : ∀ x r' h' tk', Ok w f r' (needR tellT G st how name at_ (thisL 120 place lam b) k d).2 → Gr r r' → Da r'.imm x (needR tellT G st how name at_ (thisL 120 place lam b) k d).1 → Fr h₀ L h' m → News h₀ L h' (Z ++ led f r') → Sep f r' Z → Q x ⟨h', gS, dS, tk', oS⟩) :
    wpAny (model PR w) (ktrTop dp un gd cn cs L a ccd cl outer) (call (.ref 976) [.ref f.aw, .ref sa, obj, .int how th, .bool st, .str name tnm, .int at_ tat]) Q E ⟨hS, gS, dS, tS, oS⟩ := by
  obtain ⟨ya, yb, yc, yd, ye, yf, hW, _⟩ := O.wo
  have hrz := O.toldsz
  refine law_object_spec C nd hW hst hsp hpl hty htr hra (by (first | k_extra "z k_ar" | omega)) hdp hu ?_ ?_ ?_ ?_
  · intro h1 h2 h3 h' tk' F N nd'
    have e : needR tellT G st how name at_ (thisL 120 place lam b) k d = (.none, G) := by unfold needR; rw [if_pos h1, if_neg (by rintro (h | h) <;> contradiction)]
    rw [e] at ret
    exact ret _ _ _ _ O (Gr.refl _) (.none .nil) F N nd'
  · intro h1 h2 h3 h' tk' F N nd'
    have e : needR tellT G st how name at_ (thisL 120 place lam b) k d = (d, G) := by unfold needR; rw [if_neg (by simp [h1]), if_neg h2, if_neg h3]
    rw [e] at ret
    exact ret _ _ _ _ O (Gr.refl _) hd F N nd'
  · intro code tc us hcd t b' c vs h' tk' hB F N nd'
    have hS : ∀ p ∈ r.imm, p ∈ ((c, tupOf us) :: (t, tupOf [.int code tc, .int at_ tat, .ref c]) :: (b', tupOf vs) :: r.imm) := fun _ h => .tail _ (.tail _ (.tail _ h))
    rcases hcd with ⟨h1, h2, rfl, rfl⟩ | ⟨h1, h2, rfl, rfl⟩ | ⟨h1, h2, rfl, h3⟩
    · have e : needR tellT G st how name at_ (thisL 120 place lam b) k d = (badD, tellT G 176 at_ [.str name]) := by unfold needR; rw [if_pos h1, if_pos h2]
      rw [e] at ret
      exact ret _ _ _ _ (O.telled hS (fault_dat (.tail _ (.head _)) (.head _) (.str hc .nil))) ⟨hS, rfl, rfl, rfl, rfl⟩ (bad_dat (.tail _ (.tail _ (.head _))) hB) F N nd'
    · have e : needR tellT G st how name at_ (thisL 120 place lam b) k d = (badD, tellT G 120 at_ [.str name]) := by unfold needR; rw [if_neg (by simp [h1]), if_pos h2]
      rw [e] at ret
      exact ret _ _ _ _ (O.telled hS (fault_dat (.tail _ (.head _)) (.head _) (.str hc .nil))) ⟨hS, rfl, rfl, rfl, rfl⟩ (bad_dat (.tail _ (.tail _ (.head _))) hB) F N nd'
    · have e0 : thisL 120 place lam b = code ∧ code ≠ 0 := by
        unfold thisL
        rcases h3 with ⟨h1, h2⟩ | ⟨h1, h2, h3, h4⟩
        · rw [if_pos h1]; exact ⟨h2.symm, h2 ▸ h1⟩
        · rw [if_neg (by simp [h1]), if_pos ⟨h2, h3⟩]; exact ⟨h4.symm, by rw [h4]; decide⟩
      rw [e0.1] at ret
      have e : needR tellT G st how name at_ code k d = (badD, { G with dt := G.dt ++ [faultD code at_ []] }) := by unfold needR thisD tellT; rw [if_neg (by simp [h1]), if_neg (by (first | k_extra "z k_ar" | omega)), if_pos h2, if_neg e0.2, if_neg e0.2]
      rw [e] at ret
      exact ret _ _ _ _ (O.telled hS (fault_dat (.tail _ (.head _)) (.head _) .nil)) ⟨hS, rfl, rfl, rfl, rfl⟩ (bad_dat (.tail _ (.tail _ (.head _))) hB) F N nd'
  · intro h1 h2 h3 h4 t t1 t2 h' tk' F N nd'
    have e0 : thisL 120 place lam b = 0 := by unfold thisL; rw [if_neg (by simp [h3]), if_neg h4]
    rw [e0] at ret
    have e : needR tellT G st how name at_ 0 k d = (.tuple [.int 3, .int k], G) := by unfold needR thisD tellT; rw [if_neg (by simp [h1]), if_neg (by (first | k_extra "z k_ar" | omega)), if_pos h2]; rfl
    rw [e] at ret
    exact ret _ _ _ _ (O.imm fun _ h => .tail _ h) ⟨fun _ h => .tail _ h, rfl, rfl, rfl, rfl⟩ (.tup (.head _) (.int (.int .nil)) .nil) F N nd'
end
theorem findUp_snoc (x : Str) : ∀ (lv : List (List (Str × Int))) (d : Nat) (es : List (Str × Int)) (z : Int × Int), findUp x d (lv ++ [es]) z = findIn1 x ((d + lv.length : Nat) : Int) es (findUp x d lv z)
  | [], d, es, z => rfl
  | e :: r, d, es, z => by
    show findUp x (d + 1) (r ++ [es]) (findIn1 x d e z) = _
    rw [findUp_snoc x r (d + 1) es]
    show findIn1 x ((d + 1 + r.length : Nat) : Int) es _ = findIn1 x ((d + (r.length + 1) : Nat) : Int) es _
    rw [show d + 1 + r.length = d + (r.length + 1) by (first | k_extra "z k_ar" | omega)]; rfl
theorem lookE_none {x : Str} {es : List (Str × Int)} (h : x ∉ es.map (·.1)) : lookE x es = none := by
  unfold lookE
  rw [Option.map_eq_none_iff, List.find?_eq_none]
  intro e he hx
  exact h (List.mem_map.mpr ⟨e, he, by simpa using hx⟩)
theorem lookE_cons {x y : Str} {i : Int} {es : List (Str × Int)} : lookE x ((y, i) :: es) = if y = x then some i else lookE x es := by
  unfold lookE
  by_cases h : y = x <;> simp [h]
theorem lookE_mem {x : Str} {i : Int} : ∀ {es : List (Str × Int)}, lookE x es = some i → (x, i) ∈ es
  | [], h => by simp [lookE] at h
  | (y, j) :: es, h => by
    rw [lookE_cons] at h
    split at h
    · rename_i e; cases h; rw [← e]; exact .head _
    · exact .tail _ (lookE_mem h)
theorem lookE_some {x : Str} : ∀ {es : List (Str × Int)}, x ∈ es.map (·.1) → ∃ i, lookE x es = some i
  | [], h => by simp at h
  | (y, j) :: es, h => by
    rw [lookE_cons]
    split
    · exact ⟨_, rfl⟩
    · rename_i e
      rw [List.map_cons] at h
      rcases List.mem_cons.mp h with e' | h
      · exact absurd e'.symm e
      · exact lookE_some h
theorem findIn1_look (x : Str) (d : Int) : ∀ (es : List (Str × Int)) (z : Int × Int), (es.map (·.1)).Nodup → findIn1 x d es z = match lookE x es with | some i => (i, d) | none => z
  | [], z, _ => rfl
  | (y, i) :: es, z, hn => by
    rw [List.map_cons, List.nodup_cons] at hn
    show findIn1 x d es (if y = x then (i, d) else z) = _
    rw [findIn1_look x d es _ hn.2, lookE_cons]
    by_cases h : y = x
    · subst h
      rw [lookE_none hn.1]; simp
    · simp [h]
theorem find_same (x : Str) (lv : List (List (Str × Int))) (hk : ∀ es ∈ lv, (es.map (·.1)).Nodup ∧ ∀ e ∈ es, 1 ≤ e.2) :
    (findUp x 0 lv (0, 0)).1 = lookDn x lv.reverse ∧ ((findUp x 0 lv (0, 0)).1 ≠ 0 → ∃ (i : Nat) (es : List (Str × Int)), (findUp x 0 lv (0, 0)).2 = (i : Int) ∧ lv[i]? = some es ∧ (x, (findUp x 0 lv (0, 0)).1) ∈ es) := by
  obtain ⟨rv, hr⟩ : ∃ rv, rv = lv.reverse := ⟨_, rfl⟩
  have hl : lv = rv.reverse := by rw [hr, List.reverse_reverse]
  subst hl
  clear hr
  induction rv with
  | nil => exact ⟨rfl, fun h => absurd rfl h⟩
  | cons es rv ih =>
    have hes := hk es (by simp)
    have ih := ih fun e he => hk e (by simp at he ⊢; exact .inl he)
    rw [List.reverse_reverse] at ih
    rw [List.reverse_reverse, List.reverse_cons, findUp_snoc, findIn1_look _ _ _ _ hes.1]
    cases hx : lookE x es with
    | none =>
      simp only
      rw [lookDn_skip (.inl hx)]
      refine ⟨ih.1, fun h => ?_⟩
      refine hide ?_
      intro GG hGG
      obtain ⟨i, es', e1, e2, e3⟩ := ih.2 h
      refine hGG ?_
      clear hGG GG
      exact ⟨i, es', e1, by rw [List.getElem?_append_left (List.getElem?_eq_some_iff.mp e2).1]; exact e2, e3⟩
    | some i =>
      simp only
      have hi := hes.2 _ (lookE_mem hx)
      simp only at hi
      rw [lookDn_hit hx (by (first | k_extra "z k_ar" | omega))]
      refine ⟨rfl, fun _ => ⟨rv.reverse.length, es, by simp, ?_, lookE_mem hx⟩⟩
      rw [List.getElem?_append_right (Nat.le_refl _)]; simp
structure Wf (G : Gst) : Prop where
  len : G.fs.length = G.lv.length
  ent : ∀ (i : Nat) es, G.lv[i]? = some es → (es.map (·.1)).Nodup ∧ ∀ e ∈ es, e.1 ∈ nameL ∧ 1 ≤ e.2 ∧ ∃ v q, G.bv[(e.2 - 1).toNat]? = some v ∧ v.name = e.1 ∧ G.fs[i]? = some q ∧ v.own = q.2.1
  nod : (G.fs.map (·.2.1)).Nodup
  non : ∀ q ∈ G.fs, q.1 = .none → G.fs.length = 1
  nam : ∀ v ∈ G.bv, v.name ∈ nameL
  l3 : G.lv.length ≤ 3
  b10 : G.bv.length ≤ 10
structure Rest (G : Gst) : Prop where
  bl : G.bl = G.lv
  lw : G.lw = G.bv.map VR.row
  dr : G.dr = G.dt
theorem can_name {x : Str} (h : x ∈ nameL) : (PyData.str x).canLay0 = true := by
  have : ∀ x ∈ nameL, (PyData.str x).canLay0 = true := by decide +kernel
  exact this x h
theorem Wf.keys {G : Gst} (W : Wf G) : ∀ es ∈ G.lv, (es.map (·.1)).Nodup ∧ ∀ e ∈ es, 1 ≤ e.2 := fun es he => by
  refine hide ?_
  intro GG hGG
  obtain ⟨i, hi, rfl⟩ := List.mem_iff_getElem.mp he
  refine hGG ?_
  clear hGG GG
  have := W.ent i _ (List.getElem?_eq_getElem hi)
  exact ⟨this.1, fun e he => (this.2 e he).2.1⟩
theorem Wf.small {G : Gst} (W : Wf G) : ∀ es ∈ G.lv, es.length ≤ 4 := fun es he => by
  refine hide ?_
  intro GG hGG
  obtain ⟨i, hi, rfl⟩ := List.mem_iff_getElem.mp he
  refine hGG ?_
  clear hGG GG
  have := W.ent i _ (List.getElem?_eq_getElem hi)
  have h2 := nodup_le nameL (G.lv[i].map (·.1)) this.1 fun x hx => by
    refine hide ?_
    intro GG hGG
    obtain ⟨e, he, rfl⟩ := List.mem_map.mp hx
    refine hGG ?_
    clear hGG GG
    exact (this.2 e he).1
  simpa [nameL] using h2
section
variable {w : World} {p : Program} {loose : List Str} {mean : ExcName → Option Value} {mg mb : Str → Option Value}
    {dp un : Nat} {gd : Option (List Code)} {cn : Str} {cs : Scope} {a : Addr} {ccd : Value} {cl : List (Str × Addr)} {outer : List Env} {A₀ : Around} {base h₀ : Heap} {L : Addr} {m : Str → Option Value} {s : Shared} {hS : Heap} {gS : Array GenState} {dS : Drawn} {tS : Nat} {oS : OsState}
    {Q E : Value → Shared → Prop} {f : Fix} {r : Raw} {Z : List (Addr × Obj)} {G : Gst}
theorem Ok.slAre (O : Ok w f r G) : ∃ sas, SlAre r sas G.lv := by
  refine hide ?_
  intro GG hGG
  obtain ⟨as, h1, h2, h3⟩ := O.sl
  refine hGG ?_
  clear hGG GG
  refine ⟨as, ?_, h2, fun i a es ha he => ?_⟩
  · apply List.ext_getElem?; intro i; rw [Array.getElem?_toList, List.getElem?_map]
    by_cases hi : i < as.length
    · refine hide ?_
      intro GG hGG
      obtain ⟨o, ho, hp⟩ := h3 i as[i] (List.getElem?_eq_getElem hi)
      refine hGG ?_
      clear hGG GG
      rw [hp.ref, List.getElem?_eq_getElem hi]; rfl
    · rw [List.getElem?_eq_none (by (first | k_extra "z k_ar" | omega)), Array.getElem?_eq_none (by rw [O.slz]; (first | k_extra "z k_ar" | omega))]; rfl
  · refine hide ?_
    intro GG hGG
    obtain ⟨o, ho, h4, vs, n, es', rfl, h5, h6⟩ := h3 i a ha
    refine hGG ?_
    clear hGG GG
    rw [he] at h5; cases h5
    exact ⟨vs, n, ho, h6⟩
theorem Ok.sdAre (O : Ok w f r G) : ∃ das, SdAre w r das G.bl := by
  refine hide ?_
  intro GG hGG
  obtain ⟨as, h1, h2, h3⟩ := O.sd
  refine hGG ?_
  clear hGG GG
  refine ⟨as, ?_, h2, fun i a es ha he => ?_⟩
  · apply List.ext_getElem?; intro i; rw [Array.getElem?_toList, List.getElem?_map]
    by_cases hi : i < as.length
    · refine hide ?_
      intro GG hGG
      obtain ⟨o, ho, hp⟩ := h3 i as[i] (List.getElem?_eq_getElem hi)
      refine hGG ?_
      clear hGG GG
      rw [hp.ref, List.getElem?_eq_getElem hi]; rfl
    · rw [List.getElem?_eq_none (by (first | k_extra "z k_ar" | omega)), Array.getElem?_eq_none (by rw [O.sdz]; (first | k_extra "z k_ar" | omega))]; rfl
  · refine hide ?_
    intro GG hGG
    obtain ⟨o, ho, h4, h5, es', kvs, h6, h7, h8⟩ := h3 i a ha
    refine hGG ?_
    clear hGG GG
    rw [he] at h6; cases h6
    exact ⟨o, kvs, ho, h7, h8, h5⟩
theorem find_ok {x : Str} {tx : Tok}
    (C : Cx w p loose mean mg mb cs outer A₀ base h₀ L m hS (Z ++ led f r)) (nd : Sep f r Z) (O : Ok w f r G) (W : Wf G) (hdp : dp + 8 < recursionLimit) (hu : un + 60 < cLine)
    (ret : ∀ t t1 t2 h' tk', Fr h₀ L h' m → News h₀ L h' (((t, tupOf [.int (findUp x 0 G.lv (0, 0)).1 t1, .int (findUp x 0 G.lv (0, 0)).2 t2]) :: Z) ++ led f r) →
      Sep f r ((t, tupOf [.int (findUp x 0 G.lv (0, 0)).1 t1, .int (findUp x 0 G.lv (0, 0)).2 t2]) :: Z) → Q (.ref t) ⟨h', gS, dS, tk', oS⟩) :
    wpAny (model PR w) (ktrTop dp un gd cn cs L a ccd cl outer) (call (.ref 950) [.ref f.aw, .str x tx]) Q E ⟨hS, gS, dS, tS, oS⟩ := by
  refine hide ?_
  intro GG hGG
  obtain ⟨ya, yb, yc, yd, ye, yf, hW, _⟩ := O.wo
  obtain ⟨sas, hS⟩ := O.slAre
  refine hGG ?_
  clear hGG GG
  exact find_spec C nd hW hS (by have := W.l3; (first | k_extra "z k_ar" | omega)) (fun es he => by have := W.small es he; (first | k_extra "z k_ar" | omega)) hdp hu ret
theorem find_name_ok {x : Str} {tx : Tok}
    (C : Cx w p loose mean mg mb cs outer A₀ base h₀ L m hS (Z ++ led f r)) (nd : Sep f r Z) (O : Ok w f r G) (hz : G.bl.length ≤ 10) (hdp : dp + 12 < recursionLimit) (hu : un + 80 < cLine)
    (ret : ∀ t h' tk', Fr h₀ L h' m → News h₀ L h' (Z ++ led f r) → Sep f r Z → Q (.int (lookDn x G.bl.reverse) t) ⟨h', gS, dS, tk', oS⟩) :
    wpAny (model PR w) (ktrTop dp un gd cn cs L a ccd cl outer) (call (.ref 749) [.ref f.acx, .str x tx]) Q E ⟨hS, gS, dS, tS, oS⟩ := by
  refine hide ?_
  intro GG hGG
  obtain ⟨owner, st, init, b, tb, cat, hC⟩ := O.cx
  obtain ⟨das, hS⟩ := O.sdAre
  refine hGG ?_
  clear hGG GG
  exact find_name_spec C nd hC O.sta hS hz hdp hu ret
end
section
variable {prog : Program} {w : World} {A A₀ : Around} {E : Value → Shared → Prop} {s : Shared} {hS : Heap} {gS : Array GenState} {dS : Drawn} {tS : Nat} {oS : OsState} {h₀ base : Heap} {L : Addr} {m : Str → Option Value} {f : Fix} {r r' : Raw} {Z Z₂ pre news : List (Addr × Obj)} {K : Frag}
  {x C dx : Addr} {od : Obj} {kvs : List (Str × Value)} {name : Str} {v : Value} {attr : Option Value} {Q : Value → Shared → Prop}
theorem call_clsZ {pos : List Value} {kw : List (Str × Value)} {fI : Addr} (F : Fr h₀ L hS m) (X₀ : K.In h₀) (N : News h₀ L hS (Z ++ led f r)) (nd : Sep f r Z) (hm : makesIn K C = true) (hi : findIn K (.ref C) "__init__" = some (some (.ref fI))) (hf : isFn K (.ref fI) = true)
    (h : ∀ x dx od h', Fr h₀ L h' m → News h₀ L h' (((x, instObj C dx) :: (dx, od) :: Z) ++ led f r) → Sep f r ((x, instObj C dx) :: (dx, od) :: Z) → od.IsDictOf (strKind prog w) [] →
      codeAny (model prog w) (A.under (.builtin "type.__call__" ⟨.ref C :: pos, kw⟩)) (.call (.ref fI) ⟨.ref x :: pos, kw⟩) (InitBack x fun r s' => match r with | .ok (.ret v) => Q v s' | .ok _ => False | .error e => E e s') ⟨h', gS, dS, tS, oS⟩) :
    wpAny (model prog w) A (call (.ref C) pos kw) Q E ⟨hS, gS, dS, tS, oS⟩ := by
  refine call_cls F X₀ N hm hi hf fun x dx h' F' N' l1 l2 => h x dx _ h' F' N' ((nd.push l1).push fun p hp => ?_) empty_is
  rcases List.mem_cons.mp hp with rfl | hp
  · exact l2
  · exact Nat.lt_trans (l1 p hp) l2
theorem msetZ {Q : Unit → Shared → Prop} (F : Fr h₀ L hS m) (X₀ : K.In h₀) (N : News h₀ L hS ((pre ++ (dx, od) :: Z₂) ++ led f r)) (nd : Sep f r (pre ++ (dx, od) :: Z₂)) (hx : (x, instObj C dx) ∈ (pre ++ (dx, od) :: Z₂) ++ led f r) (hk : od.IsDictOf (strKind prog w) kvs)
    (hs : findIn K (.ref C) "__setattr__" = some (some (.builtin "object.__setattr__"))) (hp : plainOver K C = true) (ht : takerIn K C name = some none) (hh : hasDictIn K C = true)
    (hz : kvs.length ≤ 900) {kvs' : List (Str × Value)} (he : putK name v kvs = kvs')
    (h : ∀ h' o' tk, Fr h₀ L h' m → News h₀ L h' ((pre ++ (dx, o') :: Z₂) ++ led f r) → Sep f r (pre ++ (dx, o') :: Z₂) → o'.IsDictOf (strKind prog w) kvs' → Q () ⟨h', gS, dS, tk, oS⟩) :
    wpAny (model prog w) A (setAttr (.ref x) name v) Q E ⟨hS, gS, dS, tS, oS⟩ := by
  subst he
  refine hide ?_
  intro GG hGG
  obtain ⟨es, n, es', n', rfl, e, hl, hz', hi⟩ := put_is (name := name) (v := v) hk (tS + 1)
  refine hGG ?_
  clear hGG GG
  have hd : (dx, dictOf es n) ∈ (pre ++ (dx, dictOf es n) :: Z₂) ++ led f r := by simp
  have U : Upd dx (dictOf es n) (dictOf es' n') ((pre ++ (dx, dictOf es n) :: Z₂) ++ led f r) ((pre ++ (dx, dictOf es' n') :: Z₂) ++ led f r) := by
    unfold Sep at nd
    simp only [List.append_assoc, List.cons_append] at nd ⊢
    exact upd_mid nd
  refine set_dict F X₀ N (InstAt.of_news N hx hd) rfl hs hp ht hh hl e U (by (first | k_extra "z k_ar" | omega)) fun h' F' N' => h h' _ _ F' N' ?_ hi
  unfold Sep at nd ⊢
  rw [upd_fst U]; exact nd
theorem msetZ1 {q1 : Addr × Obj} {Q : Unit → Shared → Prop} (F : Fr h₀ L hS m) (X₀ : K.In h₀) (N : News h₀ L hS ((q1 :: (dx, od) :: Z₂) ++ led f r)) (nd : Sep f r (q1 :: (dx, od) :: Z₂)) (hx : (x, instObj C dx) ∈ (q1 :: (dx, od) :: Z₂) ++ led f r) (hk : od.IsDictOf (strKind prog w) kvs)
    (hs : findIn K (.ref C) "__setattr__" = some (some (.builtin "object.__setattr__"))) (hp : plainOver K C = true) (ht : takerIn K C name = some none) (hh : hasDictIn K C = true)
    (hz : kvs.length ≤ 900) {kvs' : List (Str × Value)} (he : putK name v kvs = kvs')
    (h : ∀ h' o' tk, Fr h₀ L h' m → News h₀ L h' ((q1 :: (dx, o') :: Z₂) ++ led f r) → Sep f r (q1 :: (dx, o') :: Z₂) → o'.IsDictOf (strKind prog w) kvs' → Q () ⟨h', gS, dS, tk, oS⟩) :
    wpAny (model prog w) A (setAttr (.ref x) name v) Q E ⟨hS, gS, dS, tS, oS⟩ := msetZ (pre := [q1]) F X₀ N nd hx hk hs hp ht hh hz he h
theorem msetZ2 {q1 q2 : Addr × Obj} {Q : Unit → Shared → Prop} (F : Fr h₀ L hS m) (X₀ : K.In h₀) (N : News h₀ L hS ((q1 :: q2 :: (dx, od) :: Z₂) ++ led f r)) (nd : Sep f r (q1 :: q2 :: (dx, od) :: Z₂)) (hx : (x, instObj C dx) ∈ (q1 :: q2 :: (dx, od) :: Z₂) ++ led f r) (hk : od.IsDictOf (strKind prog w) kvs)
    (hs : findIn K (.ref C) "__setattr__" = some (some (.builtin "object.__setattr__"))) (hp : plainOver K C = true) (ht : takerIn K C name = some none) (hh : hasDictIn K C = true)
    (hz : kvs.length ≤ 900) {kvs' : List (Str × Value)} (he : putK name v kvs = kvs')
    (h : ∀ h' o' tk, Fr h₀ L h' m → News h₀ L h' ((q1 :: q2 :: (dx, o') :: Z₂) ++ led f r) → Sep f r (q1 :: q2 :: (dx, o') :: Z₂) → o'.IsDictOf (strKind prog w) kvs' → Q () ⟨h', gS, dS, tk, oS⟩) :
    wpAny (model prog w) A (setAttr (.ref x) name v) Q E ⟨hS, gS, dS, tS, oS⟩ := msetZ (pre := [q1, q2]) F X₀ N nd hx hk hs hp ht hh hz he h
theorem msetZ3 {q1 q2 q3 : Addr × Obj} {Q : Unit → Shared → Prop} (F : Fr h₀ L hS m) (X₀ : K.In h₀) (N : News h₀ L hS ((q1 :: q2 :: q3 :: (dx, od) :: Z₂) ++ led f r)) (nd : Sep f r (q1 :: q2 :: q3 :: (dx, od) :: Z₂)) (hx : (x, instObj C dx) ∈ (q1 :: q2 :: q3 :: (dx, od) :: Z₂) ++ led f r) (hk : od.IsDictOf (strKind prog w) kvs)
    (hs : findIn K (.ref C) "__setattr__" = some (some (.builtin "object.__setattr__"))) (hp : plainOver K C = true) (ht : takerIn K C name = some none) (hh : hasDictIn K C = true)
    (hz : kvs.length ≤ 900) {kvs' : List (Str × Value)} (he : putK name v kvs = kvs')
    (h : ∀ h' o' tk, Fr h₀ L h' m → News h₀ L h' ((q1 :: q2 :: q3 :: (dx, o') :: Z₂) ++ led f r) → Sep f r (q1 :: q2 :: q3 :: (dx, o') :: Z₂) → o'.IsDictOf (strKind prog w) kvs' → Q () ⟨h', gS, dS, tk, oS⟩) :
    wpAny (model prog w) A (setAttr (.ref x) name v) Q E ⟨hS, gS, dS, tS, oS⟩ := msetZ (pre := [q1, q2, q3]) F X₀ N nd hx hk hs hp ht hh hz he h
end
section
variable {w : World} {p : Program} {loose : List Str} {mean : ExcName → Option Value} {mg mb : Str → Option Value}
    {dp un : Nat} {gd : Option (List Code)} {cn : Str} {cs : Scope} {a : Addr} {ccd : Value} {cl : List (Str × Addr)} {outer : List Env} {A₀ : Around} {base h₀ : Heap} {L : Addr} {m : Str → Option Value} {s : Shared} {hS : Heap} {gS : Array GenState} {dS : Drawn} {tS : Nat} {oS : OsState}
    {Q E : Value → Shared → Prop} {f : Fix} {r : Raw} {Z : List (Addr × Obj)} {G : Gst}
theorem lines16 : True := by
  k_with "z setAttr ref" => ((k_here; k_dflt (first | refine msetZ1 (by k_asm) (by k_asm) (by k_asm) (by assumption) (by k_mem) (by assumption) (by k_is) (by k_is) (by k_is) (by k_is) (by exact Nat.le_of_ble_eq_true rfl) rfl ?_ | refine msetZ2 (by k_asm) (by k_asm) (by k_asm) (by assumption) (by k_mem) (by assumption) (by k_is) (by k_is) (by k_is) (by k_is) (by exact Nat.le_of_ble_eq_true rfl) rfl ?_ | refine msetZ3 (by k_asm) (by k_asm) (by k_asm) (by assumption) (by k_mem) (by assumption) (by k_is) (by k_is) (by k_is) (by k_is) (by exact Nat.le_of_ble_eq_true rfl) rfl ?_ | refine msetZ4 (by k_asm) (by k_asm) (by k_asm) (by assumption) (by k_mem) (by assumption) (by k_is) (by k_is) (by k_is) (by k_is) (by exact Nat.le_of_ble_eq_true rfl) rfl ?_ | refine msetZ5 (by k_asm) (by k_asm) (by k_asm) (by assumption) (by k_mem) (by assumption) (by k_is) (by k_is) (by k_is) (by k_is) (by exact Nat.le_of_ble_eq_true rfl) rfl ?_); intro zqh' zqo' zqtk zqF' zqN' zqnd' zqhk'; (try k_sweep)))
  k_with "z call ref" => ((k_here; k_dflt ((fail_if_success (fail_if_success (refine' call_clsZ ?_ ?_ ?_ ?_ ?_ ?_ ?_ ?_))); refine call_clsZ (by k_asm) (by k_asm) (by k_asm) (by assumption) (by k_is) (by k_is) (by k_is) ?_; intro zqx' zqdx' zqod' zqh' zqF' zqN' zqnd' zqhk'; k_extra "z enterF")))
  trivial
theorem new_fn_ok {up : Int} {t1 t2 t3 : Tok}
    (C : Cx w p loose mean mg mb cs outer A₀ base h₀ L m hS (Z ++ led f r)) (nd : Sep f r Z) (O : Ok w f r G) (hz : 1 ≤ r.fns.size ∧ r.fns.size ≤ 90) (hdp : dp + 12 < recursionLimit) (hu : un + 80 < cLine)
    (ret : ∀ t x r' h' tk', Ok w f r' G → FnOk w r'.imm r'.lidL r'.fns G.bv.length (.ref x) r.fns.size up → r'.fns = r.fns.push (.ref x) → (∀ p ∈ r.imm, p ∈ r'.imm) → Fr h₀ L h' m → News h₀ L h' (Z ++ led f r') → Sep f r' Z → Q (.int r.fns.size t) ⟨h', gS, dS, tk', oS⟩) :
    wpAny (model PR w) (ktrTop dp un gd cn cs L a ccd cl outer) (call (.ref 408) [.ref f.aunit, .int 0 t1, .int up t2, .int 0 t3]) Q E ⟨hS, gS, dS, tS, oS⟩ := by
 k_with "b" =>
  have S := O.sta
  refine hide ?_
  intro GG hGG
  obtain ⟨B, F, X, N, T, hk⟩ := C
  have hun := S.unit
  obtain ⟨ou, ua, ub, uc, ud, ue, hud, hU⟩ := S.unitd
  refine hGG ?_
  clear hGG GG
  k_dflt k_extra "z enterF"
  k_steps
  · refine hide ?_
    intro GG hGG
    obtain ⟨N5, nd5⟩ := to_imm (f := f) (Z := _ :: _ :: _ :: Z) (by k_asm) (by assumption)
    obtain ⟨N6, nd6⟩ := to_lid (f := f) (Z := _ :: _ :: Z) N5 nd5
    obtain ⟨N7, nd7⟩ := to_imm (f := f) (Z := _ :: Z) N6 nd6
    obtain ⟨N8, nd8⟩ := to_imm (f := f) (Z := Z) N7 nd7
    refine hGG ?_
    clear hGG GG
    exact ret _ _ _ _ _ ((O.fnpush).imm fun _ h => .tail _ (.tail _ (.tail _ h))) (.fn (.tail _ (.head _)) (.head _) (by assumption) (.head _) (Nat.zero_le _) (by show (r.fns.push _)[((r.fns.size : Nat) : Int).toNat]? = _; simp) ⟨by (first | k_extra "z k_ar" | omega), by (first | k_extra "z k_ar" | omega)⟩) rfl (fun _ h => .tail _ (.tail _ (.tail _ h))) (by k_asm) N8 nd8
 refine no_implicit_lambda% (qo ?_)
 simp (disch := k_dflt k_extra "b") only [↓qs]
end
section
variable {w : World} {p : Program} {loose : List Str} {mean : ExcName → Option Value} {mg mb : Str → Option Value}
    {dp un : Nat} {gd : Option (List Code)} {cn : Str} {cs : Scope} {a : Addr} {ccd : Value} {cl : List (Str × Addr)} {outer : List Env} {A₀ : Around} {base h₀ : Heap} {L : Addr} {m : Str → Option Value} {s : Shared} {hS : Heap} {gS : Array GenState} {dS : Drawn} {tS : Nat} {oS : OsState}
    {Q E : Value → Shared → Prop} {f : Fix} {r : Raw} {Z : List (Addr × Obj)} {G : Gst}
theorem lines17 : True := by
  k_with "z setItem ref int" => ((k_here; k_dflt ((fail_if_success (fail_if_success (refine' dset (knd := PySem.intKind _ _) ?_ ?_ ?_ ?_ ?_ (intKind_is _ _ _ _) _ ?_ ?_ rfl ?_))); refine dset (knd := PySem.intKind _ _) (by k_asm) (by k_asm) (by assumption) (by k_mem) (by assumption) (intKind_is _ _ _ _) _ (by k_updF) (by first | assumption | (first | k_extra "z k_ar" | omega)) rfl ?_); intro zqh' zqo' zqtk zqF' zqN' zqnd' zqhk'; (try k_sweep)))
  k_with "z call builtin:list.append" => ((k_here; (with_reducible show wpAny _ _ (call (Value.builtin _) [Value.ref _, _]) _ _ _); k_dflt ((fail_if_success (fail_if_success (refine' appN ?_ ?_ ?_ ?_ ?_ ?_))); refine appN (by k_asm) (by k_asm) (by assumption) (by k_upd) (by first | exact Nat.le_trans (m := 900) (by assumption) (by decide) | assumption | (simp; done) | (first | k_extra "z k_ar" | omega)) ?_); intro zqh' zqF' zqN' zqnd'; (try k_sweep)))
  k_with "z k_mem" => ((with_reducible exact mem_Z (List.mem_cons_of_mem _ (List.mem_cons_self ..))))
  trivial
theorem leaf_ok {k at_ : Int} {x : Str} {t1 t2 t3 : Tok}
    (C : Cx w p loose mean mg mb cs outer A₀ base h₀ L m hS (Z ++ led f r)) (nd : Sep f r Z) (hdp : dp + 12 < recursionLimit) (hu : un + 80 < cLine)
    (ret : ∀ x dx o l h' tk', NodeAt w ((x, instObj 285 dx) :: (dx, o) :: (l, listOf #[] 0) :: Z) x at_ → Fr h₀ L h' m → News h₀ L h' (((x, instObj 285 dx) :: (dx, o) :: (l, listOf #[] 0) :: Z) ++ led f r) → Sep f r ((x, instObj 285 dx) :: (dx, o) :: (l, listOf #[] 0) :: Z) → Q (.ref x) ⟨h', gS, dS, tk', oS⟩) :
    wpAny (model PR w) (ktrTop dp un gd cn cs L a ccd cl outer) (call (.ref 338) [.int k t1, .str x t2, .int at_ t3]) Q E ⟨hS, gS, dS, tS, oS⟩ := by
 k_with "b" =>
  refine hide ?_
  intro GG hGG
  obtain ⟨B, F, X, N, T, hk⟩ := C
  refine hGG ?_
  clear hGG GG
  k_dflt k_extra "z enterF"
  k_steps
  · exact ret _ _ _ _ _ _ ⟨_, _, _, _, _, _, _, _, .head _, .tail _ (.head _), by assumption⟩ (by k_asm) (by k_asm) (by assumption)
 refine no_implicit_lambda% (qo ?_)
 simp (disch := k_dflt k_extra "b") only [↓qs]
theorem push_ok
    (C : Cx w p loose mean mg mb cs outer A₀ base h₀ L m hS (Z ++ led f r)) (nd : Sep f r Z) (O : Ok w f r G) (hb : G.bl.length < 3) (hdp : dp + 12 < recursionLimit) (hu : un + 80 < cLine)
    (ret : ∀ b t r' h' tk', Ok w f r' { G with bl := G.bl ++ [[]] } → EmptyAt w r'.oclosed r'.cdL (G.bl.length + 1) → r'.fns = r.fns → (∀ p ∈ r.imm, p ∈ r'.imm) → Fr h₀ L h' m → News h₀ L h' (Z ++ led f r') → Sep f r' Z → Q (.int b t) ⟨h', gS, dS, tk', oS⟩) :
    wpAny (model PR w) (ktrTop dp un gd cn cs L a ccd cl outer) (call (.ref 756) [.ref f.acx]) Q E ⟨hS, gS, dS, tS, oS⟩ := by
 k_with "b" =>
  have S := O.sta
  refine hide ?_
  intro GG hGG
  obtain ⟨owner, static, init, b, tb, cat, hC⟩ := O.cx
  obtain ⟨clv, hCl⟩ := O.cl
  have hcl := hCl.is
  have hclz := hCl.small
  have hz1 : r.cxsc.size ≤ 900 := by have := O.sdz; (first | k_extra "z k_ar" | omega)
  have hz2 : r.cxrows.size ≤ 900 := by have := O.rwz; (first | k_extra "z k_ar" | omega)
  have hcz : clv.length ≤ 1000 := by (first | k_extra "z k_ar" | omega)
  obtain ⟨B, F, X, N, T, hk⟩ := C
  refine hGG ?_
  clear hGG GG
  have hcx := S.cx
  k_dflt k_extra "z enterF"
  k_steps
  · rename Sep _ _ _ => nd5
    rename Obj.IsDictOf _ _ (stored _ _ _) => hk5
    rename (_ == sysModules) = false => lo1
    rename Obj.IsDictOf _ _ [] => hs01
    revert lo1 hs01
    rename (_ == sysModules) = false => lo2
    rename Obj.IsDictOf _ _ [] => hs02
    rename Obj.IsDictOf _ _ (cxK f G.fv _ _ _ (Value.int (b + 1) _) _) => hcx2
    intro lo1 hs01
    refine hide ?_
    intro GG hGG
    obtain ⟨N6, nd6⟩ := to_cd (f := f) (Z := _ :: Z) (by k_asm) nd5
    obtain ⟨N7, nd7⟩ := to_sd (f := f) (Z := Z) N6 nd6
    refine hGG ?_
    clear hGG GG
    generalize hsz : ((Array.size _ : Nat) : Int) = kk at hk5
    have hkk : kk = (G.bl.length : Int) + 1 := by rw [← hsz]; show ((r.cxsc.push _).size : Int) = _; rw [Array.size_push, O.sdz]; rfl
    subst hkk
    clear hsz
    have hs1 := nd5.ne
    have hs2 := nd6.ne
    have hP := hCl.put hk5 ⟨by (first | k_extra "z k_ar" | omega), by (first | k_extra "z k_ar" | omega)⟩ (.inr ⟨Nat.le_refl _, rfl⟩) (fun p hp => hs1 p (mem_cd hp)) hs01 lo1
    exact ret _ _ _ _ _ (O.opened (fun p hp => hs2 p (mem_sd hp)) lo2 hs02 ⟨_, _, _, _, _, _, hcx2⟩ hP) ⟨_, _, _, hk5, by rw [valueAt_stored, if_pos rfl], .head _, hs01, lo1⟩ rfl (fun _ h => h) (by k_asm) N7 nd7
 refine no_implicit_lambda% (qo ?_)
 simp (disch := k_dflt k_extra "b") only [↓qs]
end
section
variable {prog : Program} {w : World} {A : Around} {E : Value → Shared → Prop} {s : Shared} {hS : Heap} {gS : Array GenState} {dS : Drawn} {tS : Nat} {oS : OsState} {h₀ : Heap} {L d : Addr} {m : Str → Option Value} {f : Fix} {r r' : Raw} {Z news : List (Addr × Obj)}
theorem itemLneg {value slice : PySem.Expr} {l : Addr} {its : Array Value} {n : Nat} {u : Tok} {v : Value} {Q : Value → Shared → Prop} (N : News h₀ L hS news) (hp : (l, listOf its n) ∈ news)
    (h1 : 1 ≤ its.size) (hx : its[its.size - 1]? = some v) (h : Q v ⟨hS, gS, dS, tS, oS⟩)
    (hs : subscripted slice false (.ref l) (.int (-1) u) = operate [.ref l, .int (-1) u] (getItem (.ref l) (.int (-1) u)) := by with_unfolding_all rfl) :
    wpAny (model prog w) A (subscriptTail value slice (.ref l) (.int (-1) u)) Q E ⟨hS, gS, dS, tS, oS⟩ :=
  tail_any (isListN N hp).typeIs slot_list_getitem.lookup (wpAny_getItem_list_neg (isListN N hp) (by decide) (by (first | k_extra "z k_ar" | omega)) (by decide) (by rw [show ((-1 : Int) + its.size).toNat = its.size - 1 by (first | k_extra "z k_ar" | omega)]; exact hx) h) hs
theorem sliceZ {value slice : PySem.Expr} {l : Addr} {its : Array Value} {n : Nat} {vl vu : Value} {lo hi : Option Int} {Q : Value → Shared → Prop} (F : Fr h₀ L hS m) (N : News h₀ L hS (Z ++ led f r)) (nd : Sep f r Z) (hp : (l, listOf its n) ∈ Z ++ led f r) (pl : IsPart vl lo) (pu : IsPart vu hi) (hz : its.size ≤ 1000)
    (h : ∀ D h', let Z' := (D, listOf (kms_pick its.toList lo hi).toArray 0) :: Z; Fr h₀ L h' m → News h₀ L h' (Z' ++ led f r) → Sep f r Z' → Q (.ref D) ⟨h', gS, dS, tS, oS⟩)
    (hs : subscripted slice false (.ref l) (.ref hS.objs.size) = operate [.ref hS.objs.size, .ref l] (getItem (.ref l) (.ref hS.objs.size)) := by with_unfolding_all rfl) (ht : ∀ r, letTemporaryGo value (.ref l) r = pure () := by intro _; with_unfolding_all rfl) :
    wpAny (model prog w) A (subscriptTail value slice (.ref l) (.ref hS.objs.size)) Q E ⟨hS.push { cls := .type "slice", data := .fields #[vl, vu, .none] }, gS, dS, tS, oS⟩ :=
  kms_slice_lit (s := ⟨hS, gS, dS, tS, oS⟩) F N (isListN N hp) pl pu rfl (fun D h' F' N' l => h D h' F' N' (nd.push l)) hs ht (by rw [sizeLine_eq]; (first | k_extra "z k_ar" | omega))
theorem pick_init (l : List Value) : kms_pick l none (some (-1)) = l.dropLast := by
  unfold kms_pick kms_lo kms_hi
  simp [List.dropLast_eq_take]
theorem pick_tail (l : List Value) : kms_pick l (some 1) none = l.drop 1 := by
  unfold kms_pick kms_lo kms_hi
  cases l with
  | nil => rfl
  | cons a l => simp
end
section
variable {prog : Program} {w : World} {K : Type} [DecidableEq K] {knd : KeyKind prog w K} {A : Around} {E : Value → Shared → Prop} {hS : Heap} {gS : Array GenState} {dS : Drawn} {tS : Nat} {oS : OsState} {h₀ : Heap} {L d : Addr} {news : List (Addr × Obj)} {o : Obj} {kvs : List (K × Value)} {k : K} {key : Value} {Q : Value → Shared → Prop}
theorem lines18 : True := by
  k_with "z subscriptTail" => ((k_here; (with_reducible show wpAny _ _ (subscriptTail _ _ (Value.ref _) (Value.ref _)) _ _ _); k_dflt (refine sliceZ (by k_asm) (by k_asm) (by assumption) (by k_mem) (by kmk_part) (by kmk_part) (by first | assumption | (first | k_extra "z k_ar" | omega)) ?_); intro zqD' zqh' zqZ' zqF' zqN' zqnd'; (try k_sweep)))
  trivial
theorem inN (N : News h₀ L hS news) (hp : (d, o) ∈ news) (hd : o.IsDictOf knd kvs) (lo : (d == sysModules) = false) (hkey : knd.is k key = true) (H : ∀ tk', Q (.bool (valueAt kvs k).isSome) ⟨hS, gS, dS, tk', oS⟩) : wpAny (model prog w) A (compareOp .In key (.ref d)) Q E ⟨hS, gS, dS, tS, oS⟩ := kda_in N hp hd lo hkey _ rfl (H _)
theorem notinN (N : News h₀ L hS news) (hp : (d, o) ∈ news) (hd : o.IsDictOf knd kvs) (lo : (d == sysModules) = false) (hkey : knd.is k key = true) (H : ∀ tk', Q (.bool !(valueAt kvs k).isSome) ⟨hS, gS, dS, tk', oS⟩) : wpAny (model prog w) A (compareOp .NotIn key (.ref d)) Q E ⟨hS, gS, dS, tS, oS⟩ := kdg_notin N hp hd lo hkey _ rfl (H _)
end
theorem lines19 : True := by
  k_with "z compareOp In str ref" => ((k_here; k_dflt (refine inN (knd := PySem.strKind _ _) (by k_asm) (by k_mem) (by assumption) (by assumption) (strKind_is _ _ _ _) ?_); intro zqtk))
  k_with "z compareOp NotIn str ref" => ((k_here; k_dflt (refine notinN (knd := PySem.strKind _ _) (by k_asm) (by k_mem) (by assumption) (by assumption) (strKind_is _ _ _ _) ?_); intro zqtk))
  trivial
noncomputable def takenB (x : Str) (lv : List (List (Str × Int))) : Bool := lv.any fun es => (lookE x es).isSome
theorem KvsAre.some {kvs : List (Str × Value)} {es : List (Str × Int)} (h : KvsAre kvs es) (x : Str) : (valueAt kvs x).isSome = (lookE x es).isSome := by
  rcases h.at x with ⟨h1, h2⟩ | ⟨k, t, h1, h2⟩ <;> rw [h1, h2] <;> rfl
section
variable {w : World} {p : Program} {loose : List Str} {mean : ExcName → Option Value} {mg mb : Str → Option Value}
    {dp un : Nat} {gd : Option (List Code)} {cn : Str} {cs : Scope} {a : Addr} {ccd : Value} {cl : List (Str × Addr)} {outer : List Env} {A₀ : Around} {base h₀ : Heap} {L : Addr} {m : Str → Option Value} {s : Shared} {hS : Heap} {gS : Array GenState} {dS : Drawn} {tS : Nat} {oS : OsState}
    {Q E : Value → Shared → Prop} {f : Fix} {r : Raw} {Z : List (Addr × Obj)} {G : Gst}
theorem taken_spec {fn owner static init blocks cat : Value} {x : Str} {tx : Tok} {das : List Addr} {lv : List (List (Str × Int))}
    (C : Cx w p loose mean mg mb cs outer A₀ base h₀ L m hS (Z ++ led f r)) (nd : Sep f r Z) (hC : r.ocx.IsDictOf (strKind PR w) (cxK f fn owner static init blocks cat)) (S : Sta w f r.imm) (D : SdAre w r das lv) (hz : lv.length ≤ 10) (hE : EmptyAt w r.oclosed r.cdL lv.length) (lo3 : (f.aclosed == sysModules) = false)
    (hdp : dp + 12 < recursionLimit) (hu : un + 80 < cLine)
    (ret : ∀ h' tk', Fr h₀ L h' m → News h₀ L h' (Z ++ led f r) → Sep f r Z → Q (.bool (takenB x lv.dropLast)) ⟨h', gS, dS, tk', oS⟩) :
    wpAny (model PR w) (ktrTop dp un gd cn cs L a ccd cl outer) (call (.ref 824) [.ref f.acx, .str x tx]) Q E ⟨hS, gS, dS, tS, oS⟩ := by
 k_with "b" =>
  refine hide ?_
  intro GG hGG
  obtain ⟨B, F, X, N, T, hk⟩ := C
  have hcx := S.cx
  have hsz : r.cxsc.size = lv.length := by rw [← D.len, ← Array.length_toList, D.refs, List.length_map]
  have hsz9 : r.cxsc.size ≤ 1000 := by (first | k_extra "z k_ar" | omega)
  obtain ⟨clv, ca, co, hcl, hcv, hcm, hce, hclo⟩ := hE
  refine hGG ?_
  clear hGG GG
  rw [show (lv.length : Int) = (r.cxsc.size : Int) by rw [hsz]] at hcv
  k_dflt k_extra "z enterF"
  k_steps
  refine unhold ?_
  rename Fr _ _ _ _ => lF'
  with_unfolding_all refine For_invVF lF' rfl rfl ?_
  k_steps
  refine unhold ?_
  rename Fr _ _ _ _ => lF'
  rename News _ _ _ _ => lN'
  rename Sep _ _ _ => nd1
  rename Addr => dD
  have hpk : kms_pick r.cxsc.toList none (some (-1)) = das.dropLast.map Value.ref := by rw [pick_init, D.refs, List.map_dropLast]
  replace nd1 : Sep f r ((dD, listOf (kms_pick r.cxsc.toList none (some (-1))).toArray 0) :: Z) := nd1
  rw [hpk] at nd1
  have lN2 : News _ _ _ (((dD, listOf (kms_pick r.cxsc.toList none (some (-1))).toArray 0) :: Z) ++ led f r) := lN'
  clear lN'
  rename News _ _ _ _ => lN'
  rw [hpk] at lN'
  have hdl : das.dropLast.length = lv.dropLast.length := by rw [List.length_dropLast, List.length_dropLast, D.len]
  refine iterL (fun i m₁ n₁ => ∃ u, m₁ = bind1 "names" u (fun y => List.lookup y [(("name" : Str), Value.str x tx), ("cx", .ref f.acx)]) ∧ n₁ = ((dD, listOf (das.dropLast.map Value.ref).toArray 0) :: Z) ++ led f r ∧ takenB x (lv.dropLast.take i) = false)
    rfl lF' lN' (.head _) ?_ ?_ ?_
  · exact ⟨none, (mapIf rfl).symm, rfl, rfl⟩
  · rintro i v m₁ n₁ I io h tk hv ⟨u, rfl, rfl, hJ⟩ hm hI F1 N1
    have nd2 := Sep.cons' (q := (I, io)) nd1 hI
    replace N1 : News _ _ h (((I, io) :: (dD, listOf (das.dropLast.map Value.ref).toArray 0) :: Z) ++ led f r) := N1
    clear hm hI lN' lF' nd1
    rw [List.getElem?_toArray, List.getElem?_map] at hv
    refine hide ?_
    intro GG hGG
    obtain ⟨da, hda, rfl⟩ := Option.map_eq_some_iff.mp hv
    have hi := (List.getElem?_eq_some_iff.mp hda).1
    have hil : i < lv.dropLast.length := by (first | k_extra "z k_ar" | omega)
    have e1 : das[i]? = some da := by rw [List.getElem?_dropLast] at hda; split at hda; exact hda; cases hda
    have e2 : lv[i]? = some lv.dropLast[i] := by
      have := List.getElem?_eq_getElem hil
      rw [List.getElem?_dropLast] at this; split at this; exact this; cases this
    obtain ⟨o, kvs, hsd, hO, hK, hlo⟩ := D.row i da _ e1 e2
    refine hGG ?_
    clear hGG GG
    have hS := hK.some x
    k_steps
    · rename (valueAt kvs x).isSome = true => hb
      rw [hS] at hb
      have : takenB x lv.dropLast = true := by unfold takenB; rw [List.any_eq_true]; exact ⟨_, List.getElem_mem hil, hb⟩
      rw [this] at ret
      exact ret _ _ (by k_asm) (dropZ (dropZ (by k_asm))) nd
    · rename (valueAt kvs x).isSome = false => hb
      rw [hS] at hb
      refine' turn_next (((dD, listOf (das.dropLast.map Value.ref).toArray 0) :: Z) ++ led f r) (by assumption) (by assumption) ?_ nd2.ne ⟨some (.ref da), bind_twice, rfl, ?_⟩ rfl
      · intro p hp; rw [List.mem_singleton.mp hp]; exact .head _
      · unfold takenB at hJ ⊢
        rw [List.take_add_one, List.getElem?_eq_getElem hil, List.any_append, hJ]
        simp only [Option.toList_some, List.any_cons, List.any_nil, hb, Bool.or_false]
  · rintro m₁ n₁ h tk ⟨u, rfl, rfl, hJ⟩ F1 N1
    rw [List.size_toArray, List.length_map, hdl, List.take_length] at hJ
    rw [hJ] at ret
    dsimp only
    k_steps
    exact ret _ _ (by k_asm) (dropZ (dropZ (by k_asm))) nd
 refine no_implicit_lambda% (qo ?_)
 simp (disch := k_dflt k_extra "b") only [↓qs]
end
noncomputable def MarkIf : Prop := True
inductive MidS (h₀ : Heap) (L : Addr) (m : Str → Option Value) (gS : Array GenState) (dS : Drawn) (oS : OsState) (f : Fix) (Z : List (Addr × Obj)) (P : Raw → Prop) (fl : Flow) (s' : Shared) : Prop
  | mk (e : fl = .next) (h' : Heap) (tk' : Nat) (r' : Raw) : s' = ⟨h', gS, dS, tk', oS⟩ → Fr h₀ L h' m → News h₀ L h' (Z ++ led f r') → Sep f r' Z → P r' → MidS h₀ L m gS dS oS f Z P fl s'
theorem MidS.intro {h₀ : Heap} {L : Addr} {m : Str → Option Value} {gS : Array GenState} {dS : Drawn} {oS : OsState} {f : Fix} {Z : List (Addr × Obj)} {P : Raw → Prop} {h' : Heap} {tk' : Nat} {r' : Raw} (F : Fr h₀ L h' m) (N : News h₀ L h' (Z ++ led f r')) (nd : Sep f r' Z) (p : P r') : MidS h₀ L m gS dS oS f Z P .next ⟨h', gS, dS, tk', oS⟩ := ⟨rfl, _, _, _, rfl, F, N, nd, p⟩
theorem mid_if {w : World} {prog : Program} {A : Around} {E : Value → Shared → Prop} {t : Sem Flow} {Q' : Flow → Shared → Prop} {gS : Array GenState} {dS : Drawn} {oS : OsState} {hA : Heap} {tA : Nat} {h₀ h : Heap} {L : Addr} {m : Str → Option Value} {f : Fix} {r : Raw} {Z : List (Addr × Obj)} (F : Fr h₀ L h m) (nd : Sep f r Z) (P : Raw → Raw → Prop)
    (h1 : wpAny (model prog w) A t (MidS h₀ L m gS dS oS f Z (P r)) E ⟨hA, gS, dS, tA, oS⟩) (h2 : ∀ h' tk' r', Fr h₀ L h' m → News h₀ L h' (Z ++ led f r') → Sep f r' Z → P r r' → Q' .next ⟨h', gS, dS, tk', oS⟩) : wpAny (model prog w) A t Q' E ⟨hA, gS, dS, tA, oS⟩ :=
  wpAny_mono h1 (fun fl s' hm => by obtain ⟨rfl, h', tk', r', rfl, a, b, c, d⟩ := hm; exact h2 h' tk' r' a b c d) fun _ _ e => e
theorem lines20 : True := by
  k_with "z exec If" => ((k_here; (with_reducible rename MarkIf => zqmkX); clear zqmkX; refine hold ?_))
  trivial
inductive MidF (h₀ : Heap) (L : Addr) (m : Str → Option Value) (gS : Array GenState) (dS : Drawn) (oS : OsState) (Y : List (Addr × Obj)) (x : Str) (P : Value → Prop) (fl : Flow) (s' : Shared) : Prop
  | mk (e : fl = .next) (h' : Heap) (tk' : Nat) (v : Value) : s' = ⟨h', gS, dS, tk', oS⟩ → Fr h₀ L h' (bind1 x (some v) m) → News h₀ L h' Y → P v → MidF h₀ L m gS dS oS Y x P fl s'
theorem MidF.intro {h₀ : Heap} {L : Addr} {m m' : Str → Option Value} {gS : Array GenState} {dS : Drawn} {oS : OsState} {Y : List (Addr × Obj)} {x : Str} {P : Value → Prop} {h' : Heap} {tk' : Nat} (v : Value) (F : Fr h₀ L h' m') (e : m' = bind1 x (some v) m) (N : News h₀ L h' Y) (p : P v) : MidF h₀ L m gS dS oS Y x P .next ⟨h', gS, dS, tk', oS⟩ := ⟨rfl, _, _, v, rfl, e ▸ F, N, p⟩
theorem mid_f {w : World} {prog : Program} {A : Around} {E : Value → Shared → Prop} {t : Sem Flow} {Q' : Flow → Shared → Prop} {gS : Array GenState} {dS : Drawn} {oS : OsState} {hA : Heap} {tA : Nat} {h₀ h : Heap} {L : Addr} {m : Str → Option Value} {v0 : Value} {Y : List (Addr × Obj)} {x : Str} (F : Fr h₀ L h (fun y => if y = x then some v0 else m y)) (N : News h₀ L h Y) (P : Value → Prop)
    (h1 : wpAny (model prog w) A t (MidF h₀ L m gS dS oS Y x P) E ⟨hA, gS, dS, tA, oS⟩) (h2 : ∀ h' tk' v, Fr h₀ L h' (bind1 x (some v) m) → News h₀ L h' Y → P v → Q' .next ⟨h', gS, dS, tk', oS⟩) : wpAny (model prog w) A t Q' E ⟨hA, gS, dS, tA, oS⟩ :=
  wpAny_mono h1 (fun fl s' hm => by obtain ⟨rfl, h', tk', v, rfl, a, b, c⟩ := hm; exact h2 h' tk' v a b c) fun _ _ e => e
theorem lines21 : True := by
  k_with "z k_mem" => (((with_reducible refine mem_imm ?_); exact List.mem_cons_of_mem _ (by assumption)))
  k_with "z setItem ref str" => ((k_here; k_dflt ((fail_if_success (fail_if_success (refine' dset (knd := PySem.strKind _ _) ?_ ?_ ?_ ?_ ?_ (strKind_is _ _ _ _) _ ?_ ?_ rfl ?_))); refine dset (knd := PySem.strKind _ _) (by k_asm) (by k_asm) (by assumption) (by k_mem) (by assumption) (strKind_is _ _ _ _) _ (by k_updF) (by first | assumption | (first | k_extra "z k_ar" | lia | omega)) rfl ?_); intro zqh' zqo' zqtk zqF' zqN' zqnd' zqhk'; (try k_sweep)))
  k_with "z call ref" => ((k_here; (with_reducible show wpAny _ _ (call (Value.ref 728) [_, _, Value.none, _]) _ _ _); k_dflt (refine fault_none_spec ⟨by k_asm, by k_asm, by k_asm, by k_asm, by k_asm, by first | exact rfl | assumption⟩ (by assumption) (by assumption) (by assumption) (by first | assumption | (first | k_extra "z k_ar" | lia | omega)) (by k_extra "z ev_room") (by k_extra "z ev_room") ?_); intro zqt' zqh' zqtk zqF' zqN' zqnd'; (try k_sweep)))
  k_with "z call ref" => ((k_here; (with_reducible show wpAny _ _ (call (Value.ref 824) [_, Value.str _ _]) _ _ _); k_dflt (refine taken_spec ⟨by k_asm, by k_asm, by k_asm, by k_asm, by k_asm, by first | exact rfl | assumption⟩ (by assumption) (by assumption) (by assumption) (by assumption) (by first | assumption | (first | k_extra "z k_ar" | lia | omega)) (by assumption) (by assumption) (by k_extra "z ev_room") (by k_extra "z ev_room") ?_); intro zqh' zqtk zqF' zqN' zqnd'; (try k_sweep)))
  k_with "z call ref" => ((k_here; (with_reducible show wpAny _ _ (call (Value.ref 415) [_, _, _, _, _]) _ _ _); refine hold ?_))
  trivial
noncomputable def declB (G : Gst) (es : List (Str × Int)) (x : Str) (kind flags own cat : Int) : Gst :=
  { G with dr := if (lookE x es).isSome = true then G.dr ++ [faultD 128 cat [.str x]] else if takenB x G.bl.dropLast = true then G.dr ++ [faultD 136 cat [.str x]] else G.dr
           bv := G.bv ++ [⟨x, kind, flags, own⟩]
           bl := if (lookE x es).isSome = true then G.bl else G.bl.dropLast ++ [es ++ [(x, (G.bv.length : Int) + 1)]] }
theorem last_set {α : Type} (l : List α) (e : α) (h : 1 ≤ l.length) : (l.dropLast ++ [e])[l.length - 1]? = some e := by
  rw [List.getElem?_append_right (by simp)]; simp
theorem last_other {α : Type} (l : List α) (e : α) {j : Nat} (h : j < l.length) (hj : j ≠ l.length - 1) : (l.dropLast ++ [e])[j]? = l[j]? := by
  rw [List.getElem?_append_left (by simp; (first | k_extra "z k_ar" | lia | omega)), List.getElem?_dropLast, if_pos (by (first | k_extra "z k_ar" | lia | omega))]
theorem KvsAre.snoc {kvs : List (Str × Value)} {es : List (Str × Int)} (h : KvsAre kvs es) (x : Str) (i : Int) (t : Tok) : KvsAre (kvs ++ [(x, .int i t)]) (es ++ [(x, i)]) := by
  induction h with
  | nil => exact .cons .nil
  | cons _ ih => exact .cons ih
section
variable {w : World} {p : Program} {loose : List Str} {mean : ExcName → Option Value} {mg mb : Str → Option Value}
    {dp un : Nat} {gd : Option (List Code)} {cn : Str} {cs : Scope} {a : Addr} {ccd : Value} {cl : List (Str × Addr)} {outer : List Env} {A₀ : Around} {base h₀ : Heap} {L : Addr} {m : Str → Option Value} {s : Shared} {hS : Heap} {gS : Array GenState} {dS : Drawn} {tS : Nat} {oS : OsState}
    {Q E : Value → Shared → Prop} {f : Fix} {r : Raw} {Z : List (Addr × Obj)} {G : Gst}
theorem new_var_ok {t1 tx tk tf : Tok} {x : Str} {kind flags fnid up n : Int}
    (C : Cx w p loose mean mg mb cs outer A₀ base h₀ L m hS (Z ++ led f r)) (nd : Sep f r Z) (O : Ok w f r G) (hfv : (G.fv, fnid, up) ∈ G.fs) (hnn : n = (G.bv.length : Int) + 1) (hb10 : G.bv.length ≤ 10)
    (hdp : dp + 12 < recursionLimit) (hu : un + 80 < cLine)
    (ret : ∀ t r' h' tk', Fr h₀ L h' m → News h₀ L h' (Z ++ led f r') → Sep f r' Z → Ok w f r' { G with bv := G.bv ++ [⟨x, kind, flags, fnid⟩] } → Gr r r' → r'.cxsc = r.cxsc → r'.ocx = r.ocx → Q (.int n t) ⟨h', gS, dS, tk', oS⟩) :
    wpAny (model PR w) (ktrTop dp un gd cn cs L a ccd cl outer) (call (.ref 415) [.ref f.aunit, .int fnid t1, .str x tx, .int kind tk, .int flags tf]) Q E ⟨hS, gS, dS, tS, oS⟩ := by
 k_with "b" =>
  have S := O.sta
  have hun := S.unit
  refine hide ?_
  intro GG hGG
  obtain ⟨ou, ua, ub, uc, ud, ue, hud, hU⟩ := S.unitd
  have hz2 : r.vs.size ≤ 900 := by have := O.vdz; (first | k_extra "z k_ar" | lia | omega)
  have hFn : FnOk w r.imm r.lidL r.fns G.bv.length G.fv fnid up := O.fn _ hfv
  obtain ⟨B, F, X, N, T, hk⟩ := C
  refine hGG ?_
  clear hGG GG
  generalize hfve : G.fv = fv at hFn
  have hvs : (r.vs.size : Int) = n := by have := O.vdz; (first | k_extra "z k_ar" | lia | omega)
  cases hFn with
  | none =>
    k_dflt k_extra "z enterF"
    k_steps
    · refine hide ?_
      intro GG hGG
      obtain ⟨N6, nd6⟩ := to_imm (f := f) (Z := _ :: Z) (by k_asm) (by assumption)
      obtain ⟨N7, nd7⟩ := to_vd (f := f) (Z := Z) N6 nd6
      refine hGG ?_
      clear hGG GG
      have hs2 := nd6.ne
      rw [hvs]
      exact ret _ _ _ _ (by k_asm) N7 nd7 (Ok.varpush (v := ⟨x, kind, flags, 0⟩) (O.imm fun _ h => .tail _ h) (.head _) (fun p hp => hs2 p (mem_vd hp)) ⟨_, _, _, _, _, _, _, by assumption⟩) ⟨fun _ h => .tail _ h, rfl, rfl, rfl, rfl⟩ rfl rfl
  | fn h1 h2 h3 h4 h5 h6 h7 =>
    k_dflt k_extra "z enterF"
    k_steps
    · refine unhold ?_
      refine itemL (by k_asm) mem_afns (by (first | k_extra "z k_ar" | lia | omega)) (by (first | k_extra "z k_ar" | lia | omega)) (by exact h6) ?_
      k_steps
      · refine hide ?_
        intro GG hGG
        obtain ⟨N6, nd6⟩ := to_imm (f := f) (Z := _ :: Z) (by k_asm) (by assumption)
        obtain ⟨N7, nd7⟩ := to_vd (f := f) (Z := Z) N6 nd6
        refine hGG ?_
        clear hGG GG
        have hs2 := nd6.ne
        rw [hvs]
        exact ret _ _ _ _ (by k_asm) N7 nd7 (Ok.lids (Ok.varpush (v := ⟨x, kind, flags, fnid⟩) (O.imm fun _ h => .tail _ h) (.head _) (fun p hp => hs2 p (mem_vd hp)) ⟨_, _, _, _, _, _, _, by assumption⟩) h4 (by simpa using h5)) ⟨fun _ h => .tail _ h, rfl, rfl, rfl, rfl⟩ rfl rfl
    · exfalso; (first | k_extra "z k_ar" | lia | omega)
 refine no_implicit_lambda% (qo ?_)
 simp (disch := k_dflt k_extra "b") only [↓qs]
noncomputable def declD (G : Gst) (es : List (Str × Int)) (x : Str) (cat : Int) : List PyData := if (lookE x es).isSome = true then G.dr ++ [faultD 128 cat [.str x]] else if takenB x G.bl.dropLast = true then G.dr ++ [faultD 136 cat [.str x]] else G.dr
inductive DeI (w : World) (f : Fix) (G' : Gst) (r r' : Raw) : Prop
  | mk : Ok w f r' G' → Gr r r' → r'.cxsc = r.cxsc → r'.ocx = r.ocx → DeI w f G' r r'
theorem declare_ok {owner static init blocks : Value} {cat : Int} {tc tx tk tf : Tok} {x : Str} {kind flags fnid up : Int} {es : List (Str × Int)}
    (C : Cx w p loose mean mg mb cs outer A₀ base h₀ L m hS (Z ++ led f r)) (nd : Sep f r Z) (O : Ok w f r G) (hC : r.ocx.IsDictOf (strKind PR w) (cxK f G.fv owner static init blocks (.int cat tc))) (hb : 1 ≤ G.bl.length ∧ G.bl.length ≤ 3) (hE : EmptyAt w r.oclosed r.cdL G.bl.length) (hfv : (G.fv, fnid, up) ∈ G.fs)
    (hes : G.bl[G.bl.length - 1]? = some es) (hel : es.length ≤ 10) (hc : (PyData.str x).canLay0 = true)
    (hz : G.dr.length ≤ 900) (hb10 : G.bv.length ≤ 10)
    (hdp : dp + 26 < recursionLimit) (hu : un + 160 < cLine)
    (ret : ∀ t r' h' tk', Fr h₀ L h' m → News h₀ L h' (Z ++ led f r') → Sep f r' Z → Ok w f r' (declB G es x kind flags fnid cat) → Gr r r' → Q (.int (G.bv.length + 1) t) ⟨h', gS, dS, tk', oS⟩) :
    wpAny (model PR w) (ktrTop dp un gd cn cs L a ccd cl outer) (call (.ref 742) [.ref f.acx, .str x tx, .int kind tk, .int flags tf]) Q E ⟨hS, gS, dS, tS, oS⟩ := by
 k_with "b" =>
  have S := O.sta
  have hcx := S.cx
  have hun := S.unit
  refine hide ?_
  intro GG hGG
  obtain ⟨ou, ua, ub, uc, ud, ue, hud, hU⟩ := S.unitd
  obtain ⟨das, D⟩ := O.sdAre
  have lo3 := O.sets.lo3
  have hz1 : r.rows.size ≤ 900 := by have := O.rowsz; (first | k_extra "z k_ar" | lia | omega)
  have hzb : G.bl.length ≤ 10 := by (first | k_extra "z k_ar" | lia | omega)
  obtain ⟨a, o, hsd, ⟨hca, lo, es', kvs, hes', hO, hK⟩, updS⟩ := O.sd.at (i := G.bl.length - 1) (by (first | k_extra "z k_ar" | lia | omega))
  obtain rfl : es' = es := Option.some.inj (hes'.symm.trans hes)
  have hFn : FnOk w r.imm r.lidL r.fns G.bv.length G.fv fnid up := O.fn _ hfv
  have hsz : r.cxsc.size = G.bl.length := O.sdz
  have hca' : r.cxsc[r.cxsc.size - 1]? = some (.ref a) := by rw [hsz]; exact hca
  have hsz1 : 1 ≤ r.cxsc.size := by (first | k_extra "z k_ar" | lia | omega)
  obtain ⟨B, F, X, N, T, hk⟩ := C
  refine hGG ?_
  clear hGG GG
  k_dflt k_extra "z enterF"
  k_steps
  refine unhold ?_
  have mk : MarkIf := trivial
  refine itemLneg (by k_asm) mem_acxsc hsz1 hca' ?_
  k_steps
  refine unhold ?_
  rename Fr _ _ _ _ => F3
  refine mid_if F3 nd (DeI w f { G with dr := declD G es' x cat }) ?_ ?_
  · k_steps
    · rename (valueAt kvs x).isSome = true => hb1
      rw [hK.some x] at hb1
      obtain ⟨N5, nd5⟩ := to_imm (f := f) (Z := Z) (by k_asm) (by assumption)
      rw [show declD G es' x cat = G.dr ++ [faultD 128 cat [.str x]] by unfold declD; simp only [hb1, if_true]]
      exact MidS.intro (by k_asm) N5 nd5 ⟨O.fault (fun _ h => .tail _ (.tail _ h)) (fault_dat (.tail _ (.head _)) (.head _) (.str hc .nil)), ⟨fun _ h => .tail _ (.tail _ h), rfl, rfl, rfl, rfl⟩, rfl, rfl⟩
    · rename (valueAt kvs x).isSome = false => hb1
      rename takenB x G.bl.dropLast = true => hb2
      rw [hK.some x] at hb1
      obtain ⟨N5, nd5⟩ := to_imm (f := f) (Z := Z) (by k_asm) (by assumption)
      rw [show declD G es' x cat = G.dr ++ [faultD 136 cat [.str x]] by unfold declD; simp only [hb1, hb2, if_true, Bool.false_eq_true, if_false]]
      exact MidS.intro (by k_asm) N5 nd5 ⟨O.fault (fun _ h => .tail _ (.tail _ h)) (fault_dat (.tail _ (.head _)) (.head _) (.str hc .nil)), ⟨fun _ h => .tail _ (.tail _ h), rfl, rfl, rfl, rfl⟩, rfl, rfl⟩
    · rename (valueAt kvs x).isSome = false => hb1
      rename takenB x G.bl.dropLast = false => hb2
      rw [hK.some x] at hb1
      rw [show declD G es' x cat = G.dr by unfold declD; simp only [hb1, hb2, Bool.false_eq_true, if_false]]
      exact MidS.intro (by k_asm) (by k_asm) nd ⟨O, ⟨fun _ h => h, rfl, rfl, rfl, rfl⟩, rfl, rfl⟩
  intro h4 tk4 r4 F4 N4 nd4 hD
  clear F3 hud hU hFn
  obtain ⟨O4, gr4, hx4, hc4⟩ := hD
  have hFn : FnOk w r4.imm r4.lidL r4.fns G.bv.length G.fv fnid up := O4.fn _ hfv
  have hcx4 := O4.sta.cx
  have hun4 := O4.sta.unit
  rw [← hc4] at hC
  obtain ⟨ou4, ua4, ub4, uc4, ud4, ue4, hud4, hU4⟩ := O4.sta.unitd
  have mk : MarkIf := trivial
  k_steps
  refine unhold ?_
  rename Fr _ _ _ _ => F5
  rename News _ _ _ _ => N5
  refine mid_f F5 N5 (fun v => ∃ t, v = .int fnid t) ?_ ?_
  · generalize G.fv = fv at hFn hC
    cases hFn with
    | none =>
      k_steps
      exact MidF.intro _ F5 rfl (by k_asm) ⟨_, rfl⟩
    | fn h1 h2 h3 h4' h5 h6 h7 =>
      k_steps
      exact MidF.intro _ (by k_asm) bind_twice (by k_asm) ⟨_, rfl⟩
  intro h6 tk6 v F6 N6 hv
  clear F5 N5
  obtain ⟨tv, rfl⟩ := hv
  k_steps
  refine unhold ?_
  refine new_var_ok (G := { G with dr := declD G es' x cat }) (n := (G.bv.length : Int) + 1) (fnid := fnid) (up := up) ⟨by k_asm, by k_asm, by k_asm, by k_asm, by k_asm, by first | exact rfl | assumption⟩ nd4 O4 hfv rfl hb10 (by k_extra "z ev_room") (by k_extra "z ev_room") ?_
  intro t2 r2 h2 tk2 F2 N2 nd2 O2 gr2 hx2 hc2
  have S2 := O2.sta
  have hcx2 := S2.cx
  have hun2 := S2.unit
  refine hide ?_
  intro GG hGG
  obtain ⟨ou2, ua2, ub2, uc2, ud2, ue2, hud2, hU2⟩ := S2.unitd
  have hC2 := hC
  rw [show r4.ocx = r2.ocx from hc2.symm] at hC2
  obtain ⟨vd, vo, hvd, ⟨va, v', vl, varg, vblock, tn', tk'', tf', to', e1, e2, e3, e4⟩, updV⟩ := O2.vd.at (i := G.bv.length) (by simp)
  obtain ⟨a2, o2, hsd2, ⟨hca2, lo2, es2, kvs2, hes2, hO2, hK2⟩, updS2⟩ := O2.sd.at (i := G.bl.length - 1) (by show G.bl.length - 1 < G.bl.length; (first | k_extra "z k_ar" | lia | omega))
  obtain rfl : a2 = a := by rw [hx2, hx4] at hca2; exact Value.ref.inj (Option.some.inj (hca2.symm.trans hca))
  obtain rfl : es2 = es' := Option.some.inj (hes2.symm.trans hes)
  have hrw : 1 ≤ r2.cxrows.size := by rw [O2.rwz]; exact hb.1
  obtain ⟨rv, hrv⟩ : ∃ rv, r2.cxrows[r2.cxrows.size - 1]? = some rv := ⟨_, Array.getElem?_eq_getElem (by (first | k_extra "z k_ar" | lia | omega))⟩
  refine hGG ?_
  clear hGG GG
  have e1' : r2.vs[((G.bv.length : Int) + 1).toNat]? = some (.ref va) := by rw [show ((G.bv.length : Int) + 1).toNat = G.bv.length + 1 by (first | k_extra "z k_ar" | lia | omega)]; exact e1
  have hkz : kvs2.length ≤ 1000 := by have := hK2.length; (first | k_extra "z k_ar" | lia | omega)
  have hv2 := hK2.some x
  clear hud4 hU4 N6 F6
  k_steps
  refine unhold ?_
  refine itemLneg (by k_asm) mem_acxrows hrw hrv ?_
  k_steps
  refine unhold ?_
  refine itemL (by k_asm) mem_avs (by (first | k_extra "z k_ar" | lia | omega)) (by (first | k_extra "z k_ar" | lia | omega)) (by exact e1') ?_
  have hgr : Gr r r2 := ⟨fun p hp => gr2.imm p (gr4.imm p hp), gr2.cl.trans gr4.cl, gr2.cd.trans gr4.cd, gr2.fns.trans gr4.fns, gr2.ocx.trans gr4.ocx⟩
  k_steps
  · rename (valueAt kvs2 x).isSome = true => hb1
    rw [hv2] at hb1
    have hG : declB G es2 x kind flags fnid cat = { G with dr := declD G es2 x cat, bv := G.bv ++ [⟨x, kind, flags, fnid⟩] } := by unfold declB declD; simp only [hb1, if_true]
    rw [hG] at ret
    exact ret _ _ _ _ (by k_asm) (by k_asm) (by assumption) (O2.s_vd0 (updV _ _ ⟨va, v', vl, varg, _, tn', tk'', tf', to', e1, e2, e3, by assumption⟩ (fun _ _ _ _ _ h => h))) ⟨hgr.imm, hgr.cl, hgr.cd, hgr.fns, hgr.ocx⟩
  · rename (valueAt kvs2 x).isSome = false => hb1
    rename Obj.IsDictOf _ _ (stored kvs2 x _) => hk4
    rw [stored_absent (by simpa using hb1)] at hk4
    rw [hv2] at hb1
    have hG : declB G es2 x kind flags fnid cat = { G with dr := declD G es2 x cat, bv := G.bv ++ [⟨x, kind, flags, fnid⟩], bl := G.bl.dropLast ++ [es2 ++ [(x, (G.bv.length : Int) + 1)]] } := by unfold declB declD; simp only [hb1, Bool.false_eq_true, if_false]
    rw [hG] at ret
    exact ret _ _ _ _ (by k_asm) (by k_asm) (by assumption) ((O2.s_vd0 (updV _ _ ⟨va, v', vl, varg, _, tn', tk'', tf', to', e1, e2, e3, by assumption⟩ (fun _ _ _ _ _ h => h))).s_sd (bl := G.bl.dropLast ++ [es2 ++ [(x, (G.bv.length : Int) + 1)]]) (by show (G.bl.dropLast ++ [_]).length = G.bl.length; simp; (first | k_extra "z k_ar" | lia | omega)) (updS2 _ _ ⟨hca2, lo2, _, _, last_set _ _ hb.1, hk4, hK2.snoc _ _ _⟩ (fun j b q hj hji h => let ⟨h1, h2, e, k, h3, h4, h5⟩ := h; ⟨h1, h2, e, k, by rw [last_other _ _ hj hji]; exact h3, h4, h5⟩))) ⟨hgr.imm, hgr.cl, hgr.cd, hgr.fns, hgr.ocx⟩
 refine no_implicit_lambda% (qo ?_)
 simp (disch := k_dflt k_extra "b") only [↓qs]
end
theorem lookDn_any (x : Str) : ∀ l : List (List (Str × Int)), (∀ es ∈ l, ∀ e ∈ es, 1 ≤ e.2) → (lookDn x l ≠ 0 ↔ (l.any fun es => (lookE x es).isSome) = true)
  | [], _ => by simp [lookDn]
  | es :: l, h => by
    have ih := lookDn_any x l fun e he => h e (.tail _ he)
    cases hx : lookE x es with
    | none => rw [lookDn_skip (.inl hx), List.any_cons, hx]; simpa using ih
    | some i =>
      have := h es (.head _) _ (lookE_mem hx)
      simp only at this
      rw [lookDn_hit hx (by (first | k_extra "z k_ar" | omega)), List.any_cons, hx]
      simp; (first | k_extra "z k_ar" | omega)
structure DeclRel (G G' : Gst) : Prop where
  dl : G'.lv.dropLast = G.lv.dropLast
  len : G'.lv.length = G.lv.length
  fs : G'.fs = G.fs
  fv : G'.fv = G.fv
  none : G'.none = G.none
  made : G'.made = G.made + 1
  stands : G'.stands = G.stands
  bv : G'.bv.length = G.bv.length + 1
  dr : G'.dr.length ≤ G.dr.length + 1
  cn : G'.cn ≤ G.cn + 1
  its : G'.its = G.its
  kits : G'.kits = G.kits
  xs : G'.xs = G.xs
noncomputable def declG (G : Gst) (es : List (Str × Int)) (x : Str) (kind flags own : Int) (cd : Int → Option PyData) (cn : Nat) : Gst :=
  declB { G with made := G.made + 1, dt := if (lookE x es).isSome = true then G.dt ++ [faultD 128 (40 + G.made) [.str x]] else if (findUp x 0 G.lv (0, 0)).1 ≠ 0 then G.dt ++ [faultD 136 (40 + G.made) [.str x]] else G.dt, lw := G.lw ++ [⟨x, kind, flags⟩], lv := if (lookE x es).isSome = true then G.lv else G.lv.dropLast ++ [es ++ [(x, (G.bv.length : Int) + 1)]], cd := cd, cn := cn } es x kind flags own (40 + G.made)
theorem decl_pure {G : Gst} {es : List (Str × Int)} {x : Str} {kind flags fnid up : Int} {fv : Value} {cd : Int → Option PyData} {cn : Nat} (W : Wf G) (R : Rest G) (hb : 1 ≤ G.lv.length) (hes : G.lv[G.lv.length - 1]? = some es) (hfv : G.fs[G.lv.length - 1]? = some (fv, fnid, up)) (hx : x ∈ nameL) (hbv : G.bv.length ≤ 9) (hcn : cn ≤ G.cn + 1) :
    Wf (declG G es x kind flags fnid cd cn) ∧ Rest (declG G es x kind flags fnid cd cn) ∧ DeclRel G (declG G es x kind flags fnid cd cn) := by
  have hke := W.keys
  have hlast : G.lv = G.lv.dropLast ++ [es] := by
    apply List.ext_getElem?
    intro i
    by_cases hi : i < G.lv.length
    · by_cases hii : i = G.lv.length - 1
      · subst hii; rw [last_set _ _ hb]; exact hes
      · rw [last_other _ _ hi hii]
    · rw [List.getElem?_eq_none (by (first | k_extra "z k_ar" | omega)), List.getElem?_eq_none (by simp; (first | k_extra "z k_ar" | omega))]
  have hfs := find_same x G.lv hke
  have htk : lookE x es = none → (takenB x G.lv.dropLast = true ↔ (findUp x 0 G.lv (0, 0)).1 ≠ 0) := fun hn => by
    rw [hfs.1]
    conv => rhs; rw [hlast]
    rw [List.reverse_append, List.reverse_cons, List.reverse_nil, List.nil_append, List.cons_append, List.nil_append, lookDn_skip (.inl hn), lookDn_any x _ fun e he => (hke e ((List.dropLast_sublist _).mem (List.mem_reverse.mp he))).2]
    unfold takenB
    rw [List.any_reverse]
  have hold : ∀ (i : Nat) es', G.lv[i]? = some es' → (es'.map (·.1)).Nodup ∧ ∀ e ∈ es', e.1 ∈ nameL ∧ 1 ≤ e.2 ∧ ∃ v q, (G.bv ++ [⟨x, kind, flags, fnid⟩])[(e.2 - 1).toNat]? = some v ∧ v.name = e.1 ∧ G.fs[i]? = some q ∧ v.own = q.2.1 := fun i es' he => by
    obtain ⟨h1, h2⟩ := W.ent i es' he
    refine ⟨h1, fun e hm => ?_⟩
    obtain ⟨a, b, v, q, c, d⟩ := h2 e hm
    exact ⟨a, b, v, q, by rw [List.getElem?_append_left (List.getElem?_eq_some_iff.mp c).1]; exact c, d⟩
  have hnam : ∀ v ∈ G.bv ++ [⟨x, kind, flags, fnid⟩], v.name ∈ nameL := fun v hv => by
    rcases List.mem_append.mp hv with h | h
    · exact W.nam v h
    · rw [List.mem_singleton.mp h]; exact hx
  cases hl : lookE x es with
  | some i =>
    have hG : declG G es x kind flags fnid cd cn = { G with made := G.made + 1, dt := G.dt ++ [faultD 128 (40 + G.made) [.str x]], lw := G.lw ++ [⟨x, kind, flags⟩], cd := cd, cn := cn, dr := G.dr ++ [faultD 128 (40 + G.made) [.str x]], bv := G.bv ++ [⟨x, kind, flags, fnid⟩] } := by
      unfold declG declB; simp only [hl, Option.isSome_some, if_true]
    rw [hG]
    refine ⟨⟨W.len, hold, W.nod, W.non, hnam, W.l3, by simp; (first | k_extra "z k_ar" | omega)⟩, ⟨R.bl, by simp [R.lw, VR.row], by simp [R.dr]⟩, ⟨rfl, rfl, rfl, rfl, rfl, rfl, rfl, by simp, by simp, hcn, rfl, rfl, rfl⟩⟩
  | none =>
    have hG : declG G es x kind flags fnid cd cn = { G with made := G.made + 1, dt := if takenB x G.lv.dropLast = true then G.dt ++ [faultD 136 (40 + G.made) [.str x]] else G.dt, lw := G.lw ++ [⟨x, kind, flags⟩], lv := G.lv.dropLast ++ [es ++ [(x, (G.bv.length : Int) + 1)]], cd := cd, cn := cn, dr := if takenB x G.lv.dropLast = true then G.dr ++ [faultD 136 (40 + G.made) [.str x]] else G.dr, bv := G.bv ++ [⟨x, kind, flags, fnid⟩], bl := G.lv.dropLast ++ [es ++ [(x, (G.bv.length : Int) + 1)]] } := by
      unfold declG declB
      simp only [hl, Option.isSome_none, Bool.false_eq_true, if_false, R.bl]
      congr 1
      by_cases ht : takenB x G.lv.dropLast = true
      · rw [if_pos ht, if_pos ((htk hl).mp ht)]
      · rw [if_neg ht, if_neg fun h => ht ((htk hl).mpr h)]
    rw [hG]
    have hlen : (G.lv.dropLast ++ [es ++ [(x, (G.bv.length : Int) + 1)]]).length = G.lv.length := by simp; (first | k_extra "z k_ar" | omega)
    refine ⟨⟨by rw [hlen]; exact W.len, fun i es' he => ?_, W.nod, W.non, hnam, by rw [hlen]; exact W.l3, by simp; (first | k_extra "z k_ar" | omega)⟩, ⟨rfl, by simp [R.lw, VR.row], by simp only [R.dr]⟩, ⟨by simp, hlen, rfl, rfl, rfl, rfl, rfl, by simp, by simp only; split <;> simp, hcn, rfl, rfl, rfl⟩⟩
    have hi := (List.getElem?_eq_some_iff.mp he).1
    rw [hlen] at hi
    by_cases hii : i = G.lv.length - 1
    · subst hii
      rw [last_set _ _ hb] at he
      cases he
      obtain ⟨h1, h2⟩ := hold _ _ hes
      refine ⟨?_, fun e hm => ?_⟩
      · rw [List.map_append, List.nodup_append]
        refine ⟨h1, by simp, fun a ha b hb' e => ?_⟩
        simp at hb'
        subst hb'; subst e
        obtain ⟨j, hj⟩ := lookE_some ha
        rw [hl] at hj; cases hj
      · rcases List.mem_append.mp hm with hm | hm
        · exact h2 e hm
        · rw [List.mem_singleton.mp hm]
          refine ⟨hx, by simp only; (first | k_extra "z k_ar" | omega), ⟨x, kind, flags, fnid⟩, _, ?_, rfl, hfv, rfl⟩
          show (G.bv ++ [_])[((G.bv.length : Int) + 1 - 1).toNat]? = _
          rw [show ((G.bv.length : Int) + 1 - 1).toNat = G.bv.length by (first | k_extra "z k_ar" | omega), List.getElem?_append_right (Nat.le_refl _)]; simp
    · rw [last_other _ _ hi hii] at he
      exact hold i es' he
section
variable {prog : Program} {w : World} {A : Around} {E : Value → Shared → Prop} {hS : Heap} {gS : Array GenState} {dS : Drawn} {tS : Nat} {oS : OsState} {h₀ : Heap} {L : Addr} {m : Str → Option Value} {env : Env} {f : Fix} {r : Raw} {Z : List (Addr × Obj)}
inductive EltEnd (h₀ : Heap) (L : Addr) (m : Str → Option Value) (gS : Array GenState) (dS : Drawn) (oS : OsState) (l : List (Addr × Obj)) (P : Value → Prop) (y : Value) (s₂ : Shared) : Prop
  | mk (h' : Heap) (tk' : Nat) : s₂ = ⟨h', gS, dS, tk', oS⟩ → Fr h₀ L h' m → News h₀ L h' l → P y → EltEnd h₀ L m gS dS oS l P y s₂
theorem news_cons {h : Heap} {q : Addr × Obj} (nd : Sep f r (q :: Z)) (N : News h₀ L h (q :: (Z ++ led f r))) : News h₀ L h ((q :: Z) ++ led f r) := N
/- a list comprehension over a list of the ledger whose elements are only read -/
theorem compSrcZ {elt : PySem.Expr} {x : Str} {scope : Scope} {cl : List (Str × Addr)} {Fin : Shared → List Value → List (Addr × Obj) → Prop} {ax : Addr} {its : Array Value} {k : Nat} {P : Nat → Value → Prop}
    (hh : A.handled = none) (F : Fr h₀ L hS m) (N : News h₀ L hS (Z ++ led f r)) (nd : Sep f r Z) (hm : (ax, listOf its k) ∈ Z ++ led f r) (hsz : its.size ≤ 1000)
    (helt : ∀ (i : Nat) v I oI C oC D ys m₂ h tk (E' : Value → Shared → Prop), its[i]? = some v → LCg.NsObj oC m₂ → m₂ x = some v → Fr h₀ L h m → News h₀ L h (((I, oI) :: (C, oC) :: (D, LCg.lst ys) :: Z) ++ led f r) →
      wpAny (model prog w) A (eval elt (compEnvC scope cl C env)) (EltEnd h₀ L m gS dS oS (((I, oI) :: (C, oC) :: (D, LCg.lst ys) :: Z) ++ led f r) (P i)) E' ⟨h, gS, dS, tk, oS⟩)
    (fin : ∀ g ys, ys.length = its.size → (∀ i y, ys[i]? = some y → P i y) → Fin ⟨g, gS, dS, tS, oS⟩ ys (Z ++ led f r)) :
    LCg.CompSrc prog w A h₀ L m env elt x scope cl Fin (.ref ax) ⟨hS, gS, dS, tS, oS⟩ := by
  refine LCg.CompSrc.ledger hh F N hm (by rw [sizeLine_eq]; (first | k_extra "z k_ar" | lia | omega)) fun g => ?_
  have key : ∀ (k i : Nat) (ys : List Value), i + k = its.size → ys.length = i → (∀ j y, ys[j]? = some y → P j y) →
      LCg.CompRest prog w A h₀ L m env elt x scope cl ⟨g, gS, dS, tS, oS⟩ (LCg.SrcAt h₀ ax its) (fun i v => its[i]? = some v) (Fin ⟨g, gS, dS, tS, oS⟩) k i ys (Z ++ led f r) := by
    intro k
    induction k with
    | zero =>
      intro i ys h1 h2 h3
      exact LCg.CompRest.zero (fin g ys (by (first | k_extra "z k_ar" | lia | omega)) h3)
    | succ k ih =>
      intro i ys h1 h2 h3
      refine LCg.CompRest.succ ?_
      intro v I oI C oC D m₂ h tk E' hv hC hx F' N' off ne
      refine wpAny_mono (helt i v I oI C oC D ys m₂ h tk E' hv hC hx F' N') (fun y s₂ hy => ?_) fun _ _ e => e
      refine hide ?_
      intro GG hGG
      obtain ⟨h', tk', rfl, F2, N2, hp⟩ := hy
      refine hGG ?_
      try clear hGG GG
      refine LCg.CompEnd.intro F2 N2 (Z ++ led f r) (fun p hp => hp) off (.inr ⟨_, hm, rfl, _, rfl⟩) (ih (i + 1) (ys ++ [y]) (by (first | k_extra "z k_ar" | lia | omega)) (by simp [h2]) fun j z hz => ?_)
      rcases Nat.lt_trichotomy j ys.length with hj | hj | hj
      · rw [List.getElem?_append_left hj] at hz; exact h3 j z hz
      · subst hj
        rw [List.getElem?_append_right (Nat.le_refl _)] at hz
        simp at hz; subst hz; rw [h2]; exact hp
      · rw [List.getElem?_append_right (by (first | k_extra "z k_ar" | lia | omega))] at hz
        have := (List.getElem?_eq_some_iff.mp hz).1
        simp at this; (first | k_extra "z k_ar" | lia | omega)
  exact key its.size 0 [] (by (first | k_extra "z k_ar" | lia | omega)) rfl (fun j y h => by simp at h)
theorem sep_off {D : Addr} {o : Obj} (nd : Sep f r Z) (o1 : LCg.Off1 D (Z ++ led f r)) : Sep f r ((D, o) :: Z) := by
  refine nd.cons' fun p hp e => ?_
  have : ∀ l : List (Addr × Obj), LCg.Off1 D l → ∀ p ∈ l, p.1 ≠ D := by
    intro l
    induction l with
    | nil => intro _ p hp; exact nomatch hp
    | cons q l ih =>
      intro h p hp
      rcases List.mem_cons.mp hp with rfl | hp
      · exact h.1
      · exact ih h.2 p hp
  exact this _ o1 p hp e
theorem strs_of {ys : List Value} {ws : List Str} (hl : ys.length = ws.length) (h : ∀ (i : Nat) y, ys[i]? = some y → ∃ x t, ws[i]? = some x ∧ y = .str x t) : StrsAre ys ws := by
  induction ys generalizing ws with
  | nil => cases ws with | nil => exact .nil | cons _ _ => simp at hl
  | cons y ys ih =>
    cases ws with
    | nil => simp at hl
    | cons x ws =>
      refine hide ?_
      intro GG hGG
      obtain ⟨x', t, e1, rfl⟩ := h 0 y rfl
      refine hGG ?_
      try clear hGG GG
      simp at e1; subst e1
      exact .cons _ _ (ih (by simpa using hl) fun i y hy => by simpa using h (i + 1) y (by simpa using hy))
theorem Gr.empty {r r' : Raw} {d : Int} (g : Gr r r') (h : EmptyAt w r.oclosed r.cdL d) : EmptyAt w r'.oclosed r'.cdL d := by rw [g.cl, g.cd]; exact h
end
theorem itemInt {value slice : PySem.Expr} {prog : Program} {w : World} {hS : Heap} {gS : Array GenState} {dS : Drawn} {tS : Nat} {oS : OsState} {E : Value → Shared → Prop} {h₀ : Heap} {L : Addr} {A : Around} {news : List (Addr × Obj)} {l : Addr} {vs : List Value} {ls : List Int} {k : Int} {u : Tok} {Q : Value → Shared → Prop} (N : News h₀ L hS news) (hp : (l, tupOf vs) ∈ news) (hi : IntsAre vs ls)
    (h0 : 0 ≤ k) (h1 : k < ls.length) (hz : ls.length < 1000) (h : ∀ v t, Q (.int v t) ⟨hS, gS, dS, tS, oS⟩)
    (hs : subscripted slice false (.ref l) (.int k u) = operate [.ref l, .int k u] (getItem (.ref l) (.int k u)) := by with_unfolding_all rfl) :
    wpAny (model prog w) A (subscriptTail value slice (.ref l) (.int k u)) Q E ⟨hS, gS, dS, tS, oS⟩ := itemTI N hp hi h0 h1 hz rfl (h _) hs
theorem any_look (x : Str) : ∀ es : List (Str × Int), ((es.map (·.1)).any fun y => y == x) = (lookE x es).isSome
  | [] => rfl
  | (y, i) :: es => by
    rw [List.map_cons, List.any_cons, any_look x es, lookE_cons]
    by_cases h : y = x
    · simp [h]
    · simp [h]
theorem Wf.congr {G G' : Gst} (W : Wf G) (h1 : G'.fs = G.fs) (h2 : G'.lv = G.lv) (h3 : G'.bv = G.bv) : Wf G' where
  len := by rw [h1, h2]; exact W.len
  ent := by rw [h1, h2, h3]; exact W.ent
  nod := by rw [h1]; exact W.nod
  non := by rw [h1]; exact W.non
  nam := by rw [h3]; exact W.nam
  l3 := by rw [h2]; exact W.l3
  b10 := by rw [h3]; exact W.b10
theorem fmod_in (x n : Int) (h : 0 < n) : 0 ≤ x.fmod n ∧ x.fmod n < n := by
  rw [Int.fmod_eq_emod_of_nonneg _ (by (first | k_extra "z k_ar" | lia | omega))]
  exact ⟨Int.emod_nonneg _ (by (first | k_extra "z k_ar" | lia | omega)), Int.emod_lt_of_pos _ h⟩
theorem names_at {k : Int} {t1 t2 t3 t4 : Tok} (h : 0 ≤ k ∧ k < 4) : ∃ x t, [Value.str (Str.ofString "a") t1, Value.str (Str.ofString "b") t2, Value.str (Str.ofString "c") t3, Value.str (Str.ofString "d") t4][k.toNat]? = some (.str x t) ∧ x ∈ nameL := by
  refine hide ?_
  intro GG hGG
  obtain ⟨n, hn, rfl⟩ : ∃ n : Nat, n < 4 ∧ k = (n : Int) := ⟨k.toNat, by (first | k_extra "z k_ar" | lia | omega), by (first | k_extra "z k_ar" | lia | omega)⟩
  refine hGG ?_
  try clear hGG GG
  match n, hn with
  | 0, _ => exact ⟨_, _, rfl, by simp [nameL]⟩
  | 1, _ => exact ⟨_, _, rfl, by simp [nameL]⟩
  | 2, _ => exact ⟨_, _, rfl, by simp [nameL]⟩
  | 3, _ => exact ⟨_, _, rfl, by simp [nameL]⟩
theorem lines22 : True := by
  k_with "z exec Assign cons ListComp" => ((k_here; refine hold ?_))
  k_with "z eval ListComp" => ((k_here; refine hold ?_))
  k_with "z compareOp In str ref" => ((k_here; k_dflt (refine in_list_strs (isListN (by k_asm) (by k_mem)) (by assumption) ?_)))
  k_with "z call ref" => ((k_here; (with_reducible show wpAny _ _ (call (Value.ref 950) [Value.ref _, Value.str _ _]) _ _ _); refine hold ?_))
  k_with "z call ref" => ((k_here; (with_reducible show wpAny _ _ (call (Value.ref 742) [_, _, _, _]) _ _ _); refine hold ?_))
  k_with "z compareOp NotIn str ref" => ((k_here; k_dflt (refine notin_list_strs (isListN (by k_asm) (by k_mem)) (by assumption) ?_)))
  k_with "z setItem ref ref" => ((k_here; refine hold ?_))
  k_with "z CompSrc" => ((k_here; refine hold ?_))
  k_with "z call ref" => ((k_here; (with_reducible show wpAny _ _ (call (Value.ref 936) [Value.ref _, Value.int _ _]) _ _ _); first | (k_dflt (refine take_ok ⟨by k_asm, by k_asm, by k_asm, by k_asm, by k_asm, by first | exact rfl | assumption⟩ (by assumption) (by assumption) (by decide) (by k_extra "z ev_room") (by k_extra "z ev_room") ?_); intro zqg' zqtg' zqr' zqh' zqtk' zqO' zqgr' zqF' zqN' zqnd' zqhg'; (have zqhE' := zqgr'.empty (by assumption)); obtain ⟨zqat', zqtat', zqleft', zqtl', zqtm', zqts', zqhW', zqhat', zqhlf'⟩ := zqO'.wo; obtain ⟨zqow', zqst', zqin', zqb', zqtb', zqcat', zqhC'⟩ := zqO'.cx; (have zqS' := zqO'.sta); (have zqhcx' := zqS'.cx); (try k_sweep)) | refine hold ?_))
  trivial
theorem da_pick {f : Fix} {r : Raw} {Z : List (Addr × Obj)} {a1 a2 : Addr} {i1 i2 i3 i4 i5 : Int} {t1 t2 t3 t4 t5 t6 : Tok} {x : Str} {v : Value} (nd : Sep f r Z) (h1 : (a1, tupOf [.int i1 t1, .int i2 t2, .int i3 t3]) ∈ r.imm) (h2 : (a2, tupOf [.int i4 t4, .int i5 t5, .str x t6]) ∈ r.imm) (hc : (PyData.str x).canLay0 = true) (hv : v = .ref a1 ∨ v = .ref a2) : ∃ d, Da r.imm v d := by
  rcases hv with rfl | rfl
  · exact ⟨_, .tup h1 (.int (.int (.int .nil))) .nil⟩
  · exact ⟨_, .tup h2 (.int (.int (.str hc .nil))) .nil⟩
theorem dict_eq {a b : Obj} {K : Type} [DecidableEq K] {prog : Program} {w : World} {knd : KeyKind prog w K} {kvs : List (K × Value)} (h : a = b) (hd : b.IsDictOf knd kvs) : a.IsDictOf knd kvs := h ▸ hd
theorem ditem' {prog : Program} {w : World} {hS : Heap} {gS : Array GenState} {dS : Drawn} {tS : Nat} {oS : OsState} {E : Value → Shared → Prop} {h₀ : Heap} {L d : Addr} {A : Around} {news : List (Addr × Obj)} {o : Obj} {K : Type} [DecidableEq K] {knd : KeyKind prog w K} {kvs : List (K × Value)} {k : K} {key v : Value} {value slice : PySem.Expr} {Q : Value → Shared → Prop} (N : News h₀ L hS news) (hp : (d, o) ∈ news) (hd : o.IsDictOf knd kvs) (hkey : knd.is k key = true) (hl : valueAt kvs k = some v) (h : ∀ tk, Q v ⟨hS, gS, dS, tk, oS⟩)
    (hs : subscripted slice false (.ref d) key = operate [.ref d, key] (getItem (.ref d) key) := by with_unfolding_all rfl) :
    wpAny (model prog w) A (subscriptTail value slice (.ref d) key) Q E ⟨hS, gS, dS, tS, oS⟩ :=
  have hD := kda_dict N hp hd
  tail_any hD.typeIs slot_dict_getitem.lookup (wpAny_getItem_of hkey hD.mapOf hl (h _)) hs
theorem EntsAre.snoc {imm : List (Addr × Obj)} {vs : List Value} {es : List (Str × Int)} (h : EntsAre imm vs es) {a : Addr} {x : Str} {i : Int} {t1 t2 : Tok} (ha : (a, tupOf [.str x t1, .int i t2]) ∈ imm) : EntsAre imm (vs ++ [.ref a]) (es ++ [(x, i)]) := by
  induction h with
  | nil => exact .cons ha .nil
  | cons h _ ih => exact .cons h ih
theorem pick2 {k : Int} {a b : Value} (h : 0 ≤ k ∧ k < 2) : ∃ v, [a, b][k.toNat]? = some v ∧ (v = a ∨ v = b) := by
  refine hide ?_
  intro GG hGG
  obtain ⟨n, hn, rfl⟩ : ∃ n : Nat, n < 2 ∧ k = (n : Int) := ⟨k.toNat, by (first | k_extra "z k_ar" | lia | omega), by (first | k_extra "z k_ar" | lia | omega)⟩
  refine hGG ?_
  try clear hGG GG
  match n, hn with
  | 0, _ => exact ⟨_, rfl, .inl rfl⟩
  | 1, _ => exact ⟨_, rfl, .inr rfl⟩
section
variable {w : World} {p : Program} {loose : List Str} {mean : ExcName → Option Value} {mg mb : Str → Option Value}
    {dp un : Nat} {gd : Option (List Code)} {cn : Str} {cs : Scope} {a : Addr} {ccd : Value} {cl : List (Str × Addr)} {outer : List Env} {A₀ : Around} {base h₀ : Heap} {L : Addr} {m : Str → Option Value} {s : Shared} {hS : Heap} {gS : Array GenState} {dS : Drawn} {tS : Nat} {oS : OsState}
    {Q E : Value → Shared → Prop} {f : Fix} {r : Raw} {Z : List (Addr × Obj)} {G : Gst}
inductive RwS (w : World) (h₀ : Heap) (L : Addr) (h : Heap) (f : Fix) (r : Raw) (Z : List (Addr × Obj)) (G : Gst) (v : LR) (ra : Addr) : Prop
  | mk (r' : Raw) : News h₀ L h (Z ++ led f r') → Sep f r' Z → Ok w f r' { G with lw := G.lw ++ [v] } → Gr r r' → r'.ocx = r.ocx → r'.vars = r.vars.push (.ref ra) → r'.ow = r.ow → RwS w h₀ L h f r Z G v ra
theorem row_step {h : Heap} {ra : Addr} {v : LR} {tn tk tf : Tok} {k n : Nat} (N : News h₀ L h (((ra, listOf #[.str v.name tn, .int v.kind tk, .int v.flags tf] k) :: Z) ++ led f (r.s_vars (r.vars.push (.ref ra)) n))) (nd : Sep f (r.s_vars (r.vars.push (.ref ra)) n) ((ra, listOf #[.str v.name tn, .int v.kind tk, .int v.flags tf] k) :: Z)) (O : Ok w f r G) :
    RwS w h₀ L h f r Z G v ra := by
  obtain ⟨N7, nd7⟩ := to_row N nd
  exact ⟨_, N7, nd7, O.rowpush fun p hp => nd.ne p (mem_row hp), ⟨fun _ h => h, rfl, rfl, rfl, rfl⟩, rfl, rfl, rfl⟩
inductive SlS (w : World) (h₀ : Heap) (L : Addr) (h : Heap) (f : Fix) (r : Raw) (Z : List (Addr × Obj)) (G : Gst) (es : List (Str × Int)) : Prop
  | mk (r' : Raw) : News h₀ L h (Z ++ led f r') → Sep f r' Z → Ok w f r' { G with lv := G.lv.dropLast ++ [es] } → Gr r r' → r'.ocx = r.ocx → SlS w h₀ L h f r Z G es
theorem sl_step {h : Heap} {t sa : Addr} {vs : List Value} {k : Nat} {x : Str} {tx tl : Tok} {lid : Int} {es : List (Str × Int)} (N : News h₀ L h (((t, tupOf [.str x tx, .int lid tl]) :: Z) ++ led f (r.s_slL (updL sa (listOf (vs.toArray.push (.ref t)) k) r.slL)))) (nd : Sep f (r.s_slL (updL sa (listOf (vs.toArray.push (.ref t)) k) r.slL)) ((t, tupOf [.str x tx, .int lid tl]) :: Z)) (O : Ok w f r G)
    (hb : 1 ≤ G.lv.length) (hsa : r.scopes[G.lv.length - 1]? = some (.ref sa)) (hE : EntsAre r.imm vs es)
    (upd : ∀ (o' : Obj) (P' : Nat → Addr → Obj → Prop), P' (G.lv.length - 1) sa o' → (∀ j b q, j < G.lv.length → j ≠ G.lv.length - 1 → SlP r G.lv j b q → P' j b q) → TabAre (updL sa o' r.slL) G.lv.length P') :
    SlS w h₀ L h f r Z G (es ++ [(x, lid)]) := by
  obtain ⟨N7, nd7⟩ := to_imm N nd
  refine ⟨_, N7, nd7, (O.imm fun _ h => .tail _ h).s_sl (by simp; (first | k_extra "z k_ar" | lia | omega)) (upd _ _ ⟨hsa, vs ++ [.ref t], k, es ++ [(x, lid)], by rw [List.push_toArray], last_set _ _ hb, (hE.mono' fun _ h => .tail _ h).snoc (.head _)⟩ fun j b q hj hji hP => ?_), ⟨fun _ h => .tail _ h, rfl, rfl, rfl, rfl⟩, rfl⟩
  obtain ⟨h1, vs, n, es, h2, h3, h4⟩ := hP
  exact ⟨h1, vs, n, es, h2, by rw [last_other _ _ hj hji]; exact h3, h4.mono' fun _ h => .tail _ h⟩
theorem law_declare_ok {es : List (Str × Int)} {fnid up : Int}
    (C : Cx w p loose mean mg mb cs outer A₀ base h₀ L m hS (Z ++ led f r)) (nd : Sep f r Z) (O : Ok w f r G) (W : Wf G) (R : Rest G) (hb : 1 ≤ G.lv.length) (hes : G.lv[G.lv.length - 1]? = some es) (hE : EmptyAt w r.oclosed r.cdL G.lv.length) (hfv : G.fs[G.lv.length - 1]? = some (G.fv, fnid, up))
    (hm : 0 ≤ G.made ∧ G.made ≤ 9) (hbv : G.bv.length ≤ 9)
    (hcn : G.cn ≤ 99) (hz : G.dr.length ≤ 899) (hdp : dp + 40 < recursionLimit) (hu : un + 260 < cLine)
    (ret : ∀ r' G' h' tk', Fr h₀ L h' m → News h₀ L h' (Z ++ led f r') → Sep f r' Z → Ok w f r' G' → Wf G' → Rest G' → DeclRel G G' → Gw r r' → Q (.bool true) ⟨h', gS, dS, tk', oS⟩) :
    wpAny (model PR w) (ktrTop dp un gd cn cs L a ccd cl outer) (call (.ref 955) [.ref f.aw, .ref f.acx]) Q E ⟨hS, gS, dS, tS, oS⟩ := by
 k_with "b" =>
  refine hide ?_
  intro GG hGG
  obtain ⟨at_, tat, left, tl, tm, ts, hW, hat, hlf⟩ := O.wo
  have S := O.sta
  obtain ⟨B, F, X, N, T, hk⟩ := C
  refine hGG ?_
  try clear hGG GG
  k_dflt k_extra "z enterF"
  k_steps
  refine unhold ?_
  rename Obj.IsDictOf _ _ (wK f _ _ _ _ _) => hW1
  refine take_ok ⟨by k_asm, by k_asm, by k_asm, by k_asm, by k_asm, by first | exact rfl | assumption⟩ (by assumption) (O.s_ow (a := G.made + 1) (b := G.stands) ⟨_, _, _, _, _, _, hW1, hat, hlf⟩) (by decide) (by k_extra "z ev_room") (by k_extra "z ev_room") ?_
  intro g1 tg1 r1 h1 tk1 O1 gr1 F1 N1 nd1 hg1
  have hE1 := gr1.empty (d := G.lv.length) hE
  refine hide ?_
  intro GG hGG
  obtain ⟨at1, tat1, left1, tl1, tm1, ts1, hW1', hat1, hlf1⟩ := O1.wo
  obtain ⟨ow1, st1, in1, b1, tb1, cat1, hC1⟩ := O1.cx
  refine hGG ?_
  try clear hGG GG
  have S1 := O1.sta
  have hcx1 := S1.cx
  k_steps
  refine unhold ?_
  refine hide ?_
  intro GG hGG
  obtain ⟨x, tx, hx, hxn⟩ := names_at (k := (g1 + G.made).fmod 4) (fmod_in _ _ (by decide))
  refine hGG ?_
  try clear hGG GG
  refine itemT (by k_asm) (by k_mem) (fmod_in _ _ (by decide)).1 (by have := fmod_in (g1 + G.made) 4 (by decide); (first | k_extra "z k_ar" | lia | omega)) hx ?_
  k_steps
  refine unhold ?_
  refine itemInt (by k_asm) (by k_mem) (.cons _ _ (.cons _ _ (.cons _ _ (.cons _ _ (.cons _ _ (.cons _ _ (.cons _ _ (.cons _ _ (.cons _ _ .nil))))))))) (fmod_in _ 9 (by decide)).1 (fmod_in _ 9 (by decide)).2 (by decide) ?_
  intro flags tf
  k_steps
  refine unhold ?_
  rename Ok _ _ _ _ => O2
  rename Raw => r2
  rename Gr r1 r2 => g12
  obtain ⟨trs, ra, tid, tk, tb, tt1, tt2, hty, htr, hra, _, _⟩ := O2.sets.spot (spot := 3) (by decide)
  refine itemT (by k_asm) (by k_mem) (by decide) (by decide) htr ?_
  k_steps
  refine unhold ?_
  refine itemInt (by k_asm) (by k_mem) (.cons _ _ (.cons _ _ (.cons _ _ (.cons _ _ (.cons _ _ .nil))))) (fmod_in _ 5 (by decide)).1 (fmod_in _ 5 (by decide)).2 (by show 5 < 1000; decide) ?_
  intro kind tkd
  k_steps
  refine unhold ?_
  k_dflt (refine LCg.Assign_ListComp_U (F₀ := by k_asm) (by rfl) (by with_unfolding_all rfl) (by rfl) (by decide) (by rfl) (by decide) (by rfl) (by rfl) (by rfl) ?_)
  rename Ok _ _ _ _ => O3
  rename Raw => r3
  rename Gr _ r3 => g34
  rename Gr r2 _ => g23
  refine hide ?_
  intro GG hGG
  obtain ⟨sa, so, hsl, ⟨hsa, vs, n, es', rfl, hes', hEnt⟩, updL⟩ := O3.sl.at (i := G.lv.length - 1) (by show G.lv.length - 1 < G.lv.length; (first | k_extra "z k_ar" | lia | omega))
  obtain rfl : es' = es := Option.some.inj (hes'.symm.trans hes)
  refine hGG ?_
  try clear hGG GG
  have hssz := O3.slz
  k_steps
  refine unhold ?_
  refine itemLneg (by k_asm) mem_ascopes (by rw [hssz]; exact hb) (by rw [hssz]; exact hsa) ?_
  k_steps
  refine unhold ?_
  rename Fr _ _ _ _ => F4
  rename News _ _ _ _ => N4
  rename Sep _ _ _ => nd4
  have hvsz := hEnt.length
  have hsm := W.small es' (List.mem_of_getElem? hes)
  refine compSrcZ (P := fun i y => ∃ x i' t, es'[i]? = some (x, i') ∧ y = .str x t) rfl F4 N4 nd4 (mem_sl hsl) (by simp; (first | k_extra "z k_ar" | lia | omega)) ?_ ?_
  · intro i v I oI C oC D ys m₂ h tk E' hv hC hx F' N'
    refine hide ?_
    intro GG hGG
    obtain ⟨a2, x2, k2, v1, v2, rfl, hes2, himm⟩ := hEnt.get (by simpa using hv)
    refine hGG ?_
    try clear hGG GG
    clear F4 N4
    k_steps
    exact ⟨_, _, rfl, by k_asm, by k_asm, _, _, _, hes2, rfl⟩
  · intro g ys hyl hyp
    unfold LCg.FinA
    intro D h tk F5 N5 o1
    have nd5 := sep_off (o := LCg.lst ys) nd4 o1
    replace N5 := news_cons nd5 N5
    have hst : StrsAre ys (es'.map (·.1)) := strs_of (by simp at hyl; simp; (first | k_extra "z k_ar" | lia | omega)) fun i y hy => by
      refine hide ?_
      intro GG hGG
      obtain ⟨x, i', t, h1, h2⟩ := hyp i y hy
      refine hGG ?_
      try clear hGG GG
      exact ⟨x, t, by rw [List.getElem?_map, h1]; rfl, h2⟩
    clear F4 N4 nd4 o1 hyp
    rename Obj.IsDictOf _ _ (cxK f _ _ _ _ _ _) => hC4
    have O4 := O3.s_ocx (v := G.fv) ⟨_, _, _, _, _, _, hC4⟩
    have htz := Nat.le_trans (Nat.le_of_eq O4.toldsz) (show G.dt.length ≤ 900 by rw [← R.dr]; (first | k_extra "z k_ar" | lia | omega))
    have hcan := can_name hxn
    have mk : MarkIf := trivial
    k_steps
    refine unhold ?_
    refine mid_if F5 nd5 (fun r r' => Ok w f r' { G with made := G.made + 1, dt := if (lookE x es').isSome = true then G.dt ++ [faultD 128 (40 + G.made) [.str x]] else if (findUp x 0 G.lv (0, 0)).1 ≠ 0 then G.dt ++ [faultD 136 (40 + G.made) [.str x]] else G.dt } ∧ Gr r r' ∧ r'.ocx = r.ocx) ?_ ?_
    · have hal := any_look x es'
      have hdt : ∀ X, (lookE x es').isSome = true → (if (lookE x es').isSome = true then G.dt ++ [faultD 128 (40 + G.made) [.str x]] else X) = G.dt ++ [faultD 128 (40 + G.made) [.str x]] := fun X h => if_pos h
      have hdt2 : ∀ X, (lookE x es').isSome = false → (if (lookE x es').isSome = true then G.dt ++ [faultD 128 (40 + G.made) [.str x]] else X) = X := fun X h => if_neg (by rw [h]; decide)
      k_steps
      · rename List.any _ _ = true => hb1
        rw [hal] at hb1
        refine hide ?_
        intro GG hGG
        obtain ⟨N6, nd6⟩ := to_imm (f := f) (Z := _ :: (D, LCg.lst ys) :: _) (by k_asm) (by assumption)
        obtain ⟨N7, nd7⟩ := to_imm (f := f) (Z := (D, LCg.lst ys) :: _) N6 nd6
        refine hGG ?_
        try clear hGG GG
        refine MidS.intro (by k_asm) N7 nd7 ⟨?_, ⟨fun _ h => .tail _ (.tail _ h), rfl, rfl, rfl, rfl⟩, rfl⟩
        rw [hdt _ hb1]
        exact O4.telled (fun _ h => .tail _ (.tail _ h)) (fault_dat (.tail _ (.head _)) (.head _) (.str hcan .nil))
      · rename List.any _ _ = false => hb1
        rw [hal] at hb1
        refine unhold ?_
        refine find_ok ⟨by k_asm, by k_asm, by k_asm, by k_asm, by k_asm, by first | exact rfl | assumption⟩ (by assumption) O4 (W.congr rfl rfl rfl) (by k_extra "z ev_room") (by k_extra "z ev_room") ?_
        intro t6 t61 t62 h6 tk6 F6 N6 nd6
        k_steps
        · refine hide ?_
          intro GG hGG
          obtain ⟨N7, nd7⟩ := to_imm (f := f) (Z := _ :: _ :: (D, LCg.lst ys) :: _) (by k_asm) (by assumption)
          obtain ⟨N8, nd8⟩ := to_imm (f := f) (Z := _ :: (D, LCg.lst ys) :: _) N7 nd7
          refine hGG ?_
          try clear hGG GG
          refine MidS.intro (by k_asm) (dropZ N8) nd8.drop ⟨?_, ⟨fun _ h => .tail _ (.tail _ h), rfl, rfl, rfl, rfl⟩, rfl⟩
          rw [hdt2 _ hb1, if_pos (by assumption)]
          exact O4.telled (fun _ h => .tail _ (.tail _ h)) (fault_dat (.tail _ (.head _)) (.head _) (.str hcan .nil))
        · refine MidS.intro (by k_asm) (dropZ (by k_asm)) (Sep.drop (by assumption)) ⟨?_, Gr.refl _, rfl⟩
          rw [hdt2 _ hb1, if_neg (by simp only [ne_eq, Decidable.not_not]; assumption)]
          exact O4
    · intro h5 tk5 r5 F5' N5' nd5' hP5
      refine hide ?_
      intro GG hGG
      obtain ⟨O5, gr5, hx5⟩ := hP5
      obtain ⟨ya, yb, yc, yd, ye, yf, hW5, _⟩ := O5.wo
      refine hGG ?_
      try clear hGG GG
      have S5 := O5.sta
      have hlw : G.lw.length = G.bv.length := by rw [R.lw, List.length_map]
      have hvz : r5.vars.size ≤ 900 := by have : r5.vars.size = G.lw.length := O5.rlz; (first | k_extra "z k_ar" | lia | omega)
      clear hsl updL hEnt hsa O4
      have mk : MarkIf := trivial
      k_steps
      refine unhold ?_
      rename Fr _ _ _ _ => F6
      rename News _ _ _ _ => N6
      rename Sep _ _ _ => nd6
      have hRS := row_step (v := ⟨x, kind, flags⟩) (r := r5) (G := { G with made := G.made + 1, dt := _ }) N6 nd6 O5
      dsimp +zetaDelta only at F6
      generalize hL : ((Array.size _ : Nat) : Int) = lid at F6
      have hlid' : ∀ q, ((r5.vars.push q).size : Int) = (G.bv.length : Int) + 1 := fun q => by rw [Array.size_push, show r5.vars.size = G.lw.length from O5.rlz, hlw]; rfl
      have hlid : lid = (G.bv.length : Int) + 1 := by rw [← hL]; exact hlid' _
      clear hL hlid'
      subst hlid
      refine hide ?_
      intro GG hGG
      obtain ⟨r7, N7, nd7, O7, gr7, hx7, hv7, hw7⟩ := hRS
      refine hGG ?_
      try clear hGG GG
      clear N6 nd6 O5
      refine mid_if F6 nd7 (fun r r' => Ok w f r' { G with made := G.made + 1, dt := if (lookE x es').isSome = true then G.dt ++ [faultD 128 (40 + G.made) [.str x]] else if (findUp x 0 G.lv (0, 0)).1 ≠ 0 then G.dt ++ [faultD 136 (40 + G.made) [.str x]] else G.dt, lw := G.lw ++ [⟨x, kind, flags⟩], lv := if (lookE x es').isSome = true then G.lv else G.lv.dropLast ++ [es' ++ [(x, (G.bv.length : Int) + 1)]] } ∧ Gr r r' ∧ r'.ocx = r.ocx) ?_ ?_
      · have hal := any_look x es'
        refine hide ?_
        intro GG hGG
        obtain ⟨ya, yb, yc, yd, ye, yf, hW7, _⟩ := O7.wo
        obtain ⟨sa7, so7, hsl7, ⟨hsa7, vs7, n7, es7, rfl, hes7, hEnt7⟩, updL7⟩ := O7.sl.at (i := G.lv.length - 1) (by show G.lv.length - 1 < G.lv.length; (first | k_extra "z k_ar" | lia | omega))
        obtain rfl : es7 = es' := Option.some.inj (hes7.symm.trans hes)
        refine hGG ?_
        try clear hGG GG
        have hssz7 : r7.scopes.size = G.lv.length := O7.slz
        have hvz7 : vs7.toArray.size ≤ 900 := by have := hEnt7.length; simp; (first | k_extra "z k_ar" | lia | omega)
        k_steps
        · rename List.any _ _ = true => hb1
          rw [hal] at hb1
          refine MidS.intro (by k_asm) (by k_asm) (by assumption) ⟨?_, Gr.refl _, rfl⟩
          rw [if_pos hb1]
          exact O7
        · rename List.any _ _ = false => hb1
          rw [hal] at hb1
          refine unhold ?_
          refine itemLneg (by k_asm) mem_ascopes (by rw [hssz7]; exact hb) (by rw [hssz7]; exact hsa7) ?_
          k_steps
          rename News _ _ _ _ => N8
          rename Sep _ _ _ => nd8
          refine hide ?_
          intro GG hGG
          obtain ⟨r9, N9, nd9, O9, gr9, hx9⟩ := sl_step (r := r7) N8 nd8 O7 hb hsa7 hEnt7 updL7
          refine hGG ?_
          try clear hGG GG
          refine MidS.intro (by k_asm) N9 nd9 ⟨?_, gr9, hx9⟩
          rw [if_neg (by rw [hb1]; decide)]
          exact O9
      · intro h8 tk8 r8 F8 N8 nd8 hP8
        refine hide ?_
        intro GG hGG
        obtain ⟨O8, gr8, hx8⟩ := hP8
        have hC8 := dict_eq (hx8.trans (hx7.trans hx5)) hC4
        obtain ⟨ya, yb, yc, yd, ye, yf, hW8, _⟩ := O8.wo
        have S8 := O8.sta
        have hcx8 := S8.cx
        obtain ⟨xs, ckv, hno, hco, hxz, hcz, hcoa⟩ := O8.co
        refine hGG ?_
        try clear hGG GG
        have hcz8 : ckv.length ≤ 1000 := by have : ckv.length ≤ G.cn := hcz; (first | k_extra "z k_ar" | lia | omega)
        have mk : MarkIf := trivial
        k_steps
        refine unhold ?_
        refine mid_if F8 nd8 (fun r r' => ∃ cd cn, cn ≤ G.cn + 1 ∧ Ok w f r' { G with made := G.made + 1, dt := if (lookE x es').isSome = true then G.dt ++ [faultD 128 (40 + G.made) [.str x]] else if (findUp x 0 G.lv (0, 0)).1 ≠ 0 then G.dt ++ [faultD 136 (40 + G.made) [.str x]] else G.dt, lw := G.lw ++ [⟨x, kind, flags⟩], lv := if (lookE x es').isSome = true then G.lv else G.lv.dropLast ++ [es' ++ [(x, (G.bv.length : Int) + 1)]], cd := cd, cn := cn } ∧ Gr r r' ∧ r'.ocx = r.ocx) ?_ ?_
        · k_steps
          · rename Int.fmod _ _ < 2 => hn2
            refine unhold ?_
            refine hide ?_
            intro GG hGG
            obtain ⟨v, hv, hvv⟩ := pick2 ⟨(fmod_in _ 3 (by decide)).1, hn2⟩
            refine hGG ?_
            try clear hGG GG
            refine itemT (by k_asm) (by k_mem) (fmod_in _ 3 (by decide)).1 (by (first | k_extra "z k_ar" | lia | omega)) hv ?_
            k_steps
            refine unhold ?_
            refine ditem' (knd := PySem.intKind _ _) (by k_asm) mem_aconsts (by assumption) (intKind_is _ _ _ _) (by rw [valueAt_stored, if_pos rfl]) ?_
            intro tk9
            k_steps
            refine unhold ?_
            rename Obj.IsDictOf _ _ (stored _ _ _) => hk8
            rename Fr _ _ _ _ => FA
            rename News _ _ _ _ => NA
            rename Sep _ _ _ => ndA
            refine hide ?_
            intro GG hGG
            obtain ⟨NB, ndB⟩ := to_imm (f := f) (Z := _ :: _ :: _ :: (D, LCg.lst ys) :: _) NA ndA
            replace NB := dropZ NB
            replace ndB := ndB.drop
            obtain ⟨NC, ndC⟩ := to_imm (f := f) (Z := _ :: (D, LCg.lst ys) :: _) NB ndB
            obtain ⟨ND, ndD⟩ := to_imm (f := f) (Z := (D, LCg.lst ys) :: _) NC ndC
            obtain ⟨d, hd⟩ := da_pick ndD (.head _) (.tail _ (.head _)) hcan hvv
            refine hGG ?_
            try clear hGG GG
            refine edset (imm := Raw.imm _) (by k_extra "z ev_room") FA ND ndD (fun p hp => mem_imm hp) mem_anotes (hno.mono fun _ h => .tail _ (.tail _ (.tail _ h))) ⟨_, .tail _ (.tail _ (.head _)), .cons (.s (by decide +kernel)) (.cons .i .nil)⟩ _ (updF_anotes ndD) (by have : xs.length ≤ G.cn := hxz; (first | k_extra "z k_ar" | lia | omega)) ?_
            intro h11 o11 tk11 F11 N11 nd11 hE11
            k_steps
            exact MidS.intro (by k_asm) N11 nd11 ⟨_, _, Nat.le_refl _, (O8.imm fun _ h => .tail _ (.tail _ (.tail _ h))).s_co ⟨_, _, hE11, hk8, Nat.le_trans (storedH_len ..) (Nat.add_le_add_right hxz 1), Nat.le_trans (stored_length_le ..) (Nat.add_le_add_right hcz 1), co_put (fun l => (hcoa l).mono fun _ h => .tail _ (.tail _ (.tail _ h))) hd⟩, ⟨fun _ h => .tail _ (.tail _ (.tail _ h)), rfl, rfl, rfl, rfl⟩, rfl⟩
          · exact MidS.intro (by k_asm) (by k_asm) (by assumption) ⟨_, _, Nat.le_add_right _ _, O8, Gr.refl _, rfl⟩
          · exact MidS.intro (by k_asm) (by k_asm) (by assumption) ⟨_, _, Nat.le_add_right _ _, O8, Gr.refl _, rfl⟩
        · intro h9 tk9 r9 F9 N9 nd9 hP9
          refine hide ?_
          intro GG hGG
          obtain ⟨cd, cn, hcn9, O9, gr9, hx9⟩ := hP9
          rename EmptyAt _ _ _ _ => hE3
          have hE9 : EmptyAt w r9.oclosed r9.cdL G.bl.length := by
            rw [R.bl]
            exact ((((gr5.trans gr7).trans gr8).trans gr9).empty (d := G.lv.length) hE3)
          have hC9 := dict_eq (hx9.trans (hx8.trans (hx7.trans hx5))) hC4
          obtain ⟨P1, P2, P3⟩ := decl_pure (cd := cd) (cn := cn) (kind := kind) (flags := flags) W R hb hes hfv hxn hbv hcn9
          refine hGG ?_
          try clear hGG GG
          have hbl := R.bl
          have hcx9 := O9.sta.cx
          k_steps
          refine unhold ?_
          refine declare_ok ⟨by k_asm, by k_asm, by k_asm, by k_asm, by k_asm, by first | exact rfl | assumption⟩ (by assumption) O9 hC9 (by show 1 ≤ G.bl.length ∧ G.bl.length ≤ 3; rw [hbl]; exact ⟨hb, W.l3⟩) hE9 (List.mem_of_getElem? hfv) (by show G.bl[G.bl.length - 1]? = _; rw [hbl]; exact hes) (by (first | k_extra "z k_ar" | lia | omega)) hcan (by show G.dr.length ≤ 900; (first | k_extra "z k_ar" | lia | omega)) (by show G.bv.length ≤ 10; (first | k_extra "z k_ar" | lia | omega)) (by k_extra "z ev_room") (by k_extra "z ev_room") ?_
          intro t10 r10 h10 tk10 F10 N10 nd10 O10 gr10
          k_steps
          have e : ((G.bv.length : Int) + 1 == (G.bv.length : Int) + 1) = true := by simp
          rw [e]
          have g01 : Gw r r1 := ⟨gr1.imm, gr1.cl, gr1.cd, gr1.fns⟩
          have g35 : Gw r3 r5 := ⟨gr5.imm, gr5.cl, gr5.cd, gr5.fns⟩
          exact ret _ _ _ _ (by k_asm) (dropZ (dropZ (dropZ (dropZ (by k_asm))))) nd10.drop.drop.drop.drop O10 P1 P2 P3 (g01.trans (g12.w.trans (g23.w.trans (g34.w.trans (g35.trans (gr7.trans (gr8.trans (gr9.trans gr10))).w)))))
 refine no_implicit_lambda% (qo ?_)
 simp (disch := k_dflt k_extra "b") only [↓qs]
end
section
variable {prog : Program} {w : World} {A : Around} {E : Value → Shared → Prop} {s : Shared} {hS : Heap} {gS : Array GenState} {dS : Drawn} {tS : Nat} {oS : OsState} {env : Env} {h₀ : Heap} {x : Str} {body : List Stmt} {Q : Flow → Shared → Prop} {K : Type} [DecidableEq K] {knd : KeyKind prog w K}
theorem iterD {LL : Addr} {d : Addr} {o : Obj} {kvs : List (K × Value)} {m₀ : Str → Option Value} {news : List (Addr × Obj)} (J : Nat → (Str → Option Value) → List (Addr × Obj) → Prop)
    (hh : A.handled = none) (F : Fr h₀ LL hS m₀) (N : News h₀ LL hS news) (hp : (d, o) ∈ news) (hd : o.IsDictOf knd kvs) (lo : (d == sysModules) = false) (hj : J 0 m₀ news)
    (turn : ∀ i k y v m₁ news₁ I io h tk, kvs[i]? = some (k, y) → knd.is k v = true → J i m₁ news₁ → (d, o) ∈ news₁ → (∀ p ∈ news₁, p.1 ≠ I) → Fr h₀ LL h (fun y => if y = x then some v else m₁ y) → News h₀ LL h ((I, io) :: news₁) →
      wpAny (model prog w) A (execs body env) (TurnE h₀ LL I io (J (i + 1)) [(d, o)] gS dS oS Q) E ⟨h, gS, dS, tk, oS⟩)
    (done : ∀ m₁ news₁ h tk, J kvs.length m₁ news₁ → Fr h₀ LL h m₁ → News h₀ LL h news₁ → Q .next ⟨h, gS, dS, tk, oS⟩)
    (hL : env.locals = LL := by rfl) :
    wpAny (model prog w) A (pyIter (.ref d)) (fun it s₂ => LoopAtV prog w A h₀ env x body Q E it s₂) E ⟨hS, gS, dS, tS, oS⟩ := by
  subst hL
  have hl : hS.get? d = some o := (N _ hp).1
  obtain ⟨ep, hat⟩ := (kda_dict (s := ⟨hS, gS, dS, tS, oS⟩) N hp hd).dictAt
  have hlL : d ≠ env.locals := (N _ hp).2.1
  have hne : d ≠ hS.objs.size := Nat.ne_of_lt (Heap.lt_size hl)
  refine wpAny_pyIter_dict lo hat ?_
  have W := Walks.dictKeys (knd := knd) hh hS.objs.size d hne kvs ep
  refine ⟨_, _, _, kvs.length, _, _, m₀, news, fun i m₁ news₁ => J i m₁ news₁ ∧ ∀ p ∈ [(d, o)], p ∈ news₁, rfl, W, ?_, ?_, ?_, ⟨⟨_, Heap.get?_push_size _ rfl, rfl, rfl⟩, hat.push _⟩, F.push _, (fun p hp => ⟨Heap.get?_push_of_some _ (N p hp).1, (N p hp).2⟩), ⟨hj, fun p hm => by rw [List.mem_singleton.mp hm]; exact hp⟩, ?_, ?_⟩
  · intro hm
    rcases List.mem_cons.mp hm with e | hm
    · exact absurd F.ns.lt (e ▸ Nat.lt_irrefl _)
    · exact hlL (List.mem_singleton.mp hm).symm
  · intro b hb
    rw [List.mem_singleton.mp hb]
    exact next_is_new F
  · intro p hp hI
    exact absurd (Heap.lt_size (N p hp).1) ((List.mem_singleton.mp hI) ▸ Nat.lt_irrefl _)
  · rintro i v m₁ news₁ s₁ own ⟨hh', tk', rfl⟩ hin ⟨k, y, hky, hkv⟩ ⟨hJ, hneed⟩ hoff hsub hget hall hst F₁ N₁
    refine hide ?_
    intro GG hGG
    obtain ⟨io, hio, _⟩ := hst.1
    refine hGG ?_
    try clear hGG GG
    have hIo : (hS.objs.size, io) ∈ own := hall _ (.head _) (next_is_new F) _ hio
    have hl1 : (d, o) ∈ news₁ := hneed _ (.head _)
    have N2 : News h₀ env.locals hh' ((hS.objs.size, io) :: news₁) := fun p hp => by
      rcases List.mem_cons.mp hp with rfl | hp
      · exact N₁ _ (List.mem_append_left _ hIo)
      · exact N₁ _ (List.mem_append_right _ hp)
    refine wpAny_mono (turn i k y v m₁ news₁ _ io hh' tk' hky hkv hJ hl1 (fun p hp e => hoff p hp (by rw [e]; exact .head _)) F₁ N2) (fun f s₂ e => ?_) fun _ _ e => e
    refine turn_end (fp := [hS.objs.size, d]) ⟨_, _, rfl⟩ (fun p hp => ?_) (fun m n hj hn => ⟨hj, hn⟩) e
    have hg := hget p hp
    rcases List.mem_cons.mp (hsub p hp) with e1 | e1
    · left
      rw [e1, hio] at hg
      cases p; cases hg; cases e1; rfl
    · right
      have e1 := List.mem_singleton.mp e1
      rw [e1, (N2 _ (.tail _ hl1)).1] at hg
      cases p; cases hg; cases e1; exact .head _
  · rintro h' tk m' news' F' N' _ ⟨hJ, _⟩
    exact done m' news' h' tk hJ F' N'
end
theorem popZ {prog : Program} {w : World} {hS : Heap} {gS : Array GenState} {dS : Drawn} {tS : Nat} {oS : OsState} {E : Value → Shared → Prop} {h₀ : Heap} {L D : Addr} {A : Around} {m : Str → Option Value} {f : Fix} {r r' : Raw} {Z : List (Addr × Obj)} {its : Array Value} {n : Nat} {p : List Value} {y : Value} {Q : Value → Shared → Prop} (F : Fr h₀ L hS m) (N : News h₀ L hS (Z ++ led f r)) (nd : Sep f r Z) (e : its.toList = p ++ [y]) (hz : its.size ≤ 1000)
    (U : Upd D (listOf its n) (listOf p.toArray (n + 1)) (Z ++ led f r) (Z ++ led f r')) (h : ∀ h', Fr h₀ L h' m → News h₀ L h' (Z ++ led f r') → Sep f r' Z → Q y ⟨h', gS, dS, tS, oS⟩) : wpAny (model prog w) A (call (.builtin "list.pop") [.ref D]) Q E ⟨hS, gS, dS, tS, oS⟩ :=
  kl_pop F N (by rw [e]; exact kpa_last y p) U (by rw [sizeLine_eq, Array.length_toList]; (first | k_extra "z k_ar" | omega)) fun h' F' N' => h h' F' N' (nd.upd U)
/- what the two loops over names do to the dict of the closed names -/
inductive UpK (w : World) (cdL : List (Addr × Obj)) (ua : Addr) (cdL' : List (Addr × Obj)) : Prop
  | mk (uo : Obj) (kvs : List (Str × Value)) : (ua, uo) ∈ cdL' → uo.IsDictOf (strKind PR w) kvs → (∀ q ∈ kvs, q.1 ∈ nameL) → (∀ b q, b ≠ ua → (b, q) ∈ cdL → (b, q) ∈ cdL') → UpK w cdL ua cdL'
theorem UpK.small {w : World} {o : Obj} {kvs : List (Str × Value)} (h : o.IsDictOf (strKind PR w) kvs) (hk : ∀ q ∈ kvs, q.1 ∈ nameL) : kvs.length ≤ 4 := by
  have := nodup_le nameL (kvs.map (·.1)) (dict_nodup h) fun x hx => by
    refine hide ?_
    intro GG hGG
    obtain ⟨e, he, rfl⟩ := List.mem_map.mp hx
    refine hGG ?_
    try clear hGG GG
    exact hk e he
  simpa [nameL] using this
theorem stored_keys {kvs : List (Str × Value)} {k : Str} {v : Value} (hk : ∀ q ∈ kvs, q.1 ∈ nameL) (h : k ∈ nameL) : ∀ q ∈ stored kvs k v, q.1 ∈ nameL := fun q hq => by
  rcases mem_stored hq with ⟨hq, _⟩ | rfl
  · exact hk q hq
  · exact h
theorem UpK.refl {w : World} {cdL : List (Addr × Obj)} {ua : Addr} {uo : Obj} {kvs : List (Str × Value)} (h : (ua, uo) ∈ cdL) (hd : uo.IsDictOf (strKind PR w) kvs) (hk : ∀ q ∈ kvs, q.1 ∈ nameL) : UpK w cdL ua cdL := ⟨uo, kvs, h, hd, hk, fun _ _ _ h => h⟩
theorem UpK.again {w : World} {cdL cdL' : List (Addr × Obj)} {ua : Addr} (h : UpK w cdL ua cdL') : UpK w cdL' ua cdL' := let ⟨uo, kvs, a, b, c, _⟩ := h; ⟨uo, kvs, a, b, c, fun _ _ _ h => h⟩
theorem UpK.trans {w : World} {a b c : List (Addr × Obj)} {ua : Addr} (h : UpK w a ua b) (h2 : UpK w b ua c) : UpK w a ua c := let ⟨uo, kvs, x, y, z, u⟩ := h2; let ⟨_, _, _, _, _, v⟩ := h; ⟨uo, kvs, x, y, z, fun p q hn hm => u p q hn (v p q hn hm)⟩
inductive UpEnd (w : World) (h₀ : Heap) (L : Addr) (gS : Array GenState) (dS : Drawn) (oS : OsState) (f : Fix) (R : Raw) (ua : Addr) (Z : List (Addr × Obj)) (m : Str → Option Value) (fl : Flow) (s₂ : Shared) : Prop
  | mk (e : fl = .next) (h' : Heap) (tk' : Nat) (cdL' : List (Addr × Obj)) : s₂ = ⟨h', gS, dS, tk', oS⟩ → Fr h₀ L h' m → News h₀ L h' (Z ++ led f (R.s_cdL cdL')) → Sep f (R.s_cdL cdL') Z → UpK w R.cdL ua cdL' → UpEnd w h₀ L gS dS oS f R ua Z m fl s₂
inductive UpJ (w : World) (f : Fix) (R : Raw) (ua : Addr) (Z : List (Addr × Obj)) (x : Str) (m₀ : Str → Option Value) (m₁ : Str → Option Value) (n₁ : List (Addr × Obj)) : Prop
  | mk (u : Option Value) (cdL' : List (Addr × Obj)) : m₁ = bind1 x u m₀ → n₁ = Z ++ led f (R.s_cdL cdL') → Sep f (R.s_cdL cdL') Z → UpK w R.cdL ua cdL' → UpJ w f R ua Z x m₀ m₁ n₁
theorem loop_up {LL : Addr} {w : World} {A : Around} {E : Value → Shared → Prop} {hS : Heap} {gS : Array GenState} {dS : Drawn} {tS : Nat} {oS : OsState} {env : Env} {h₀ : Heap} {x : Str} {body : List Stmt} {Q : Flow → Shared → Prop} {f : Fix} {R : Raw} {Z : List (Addr × Obj)} {m₀ : Str → Option Value} {d ua : Addr} {o : Obj} {kvs : List (Str × Value)}
    (hh : A.handled = none) (F : Fr h₀ LL hS m₀) (N : News h₀ LL hS (Z ++ led f R)) (nd : Sep f R Z) (hp : ∀ cdL', UpK w R.cdL ua cdL' → (d, o) ∈ Z ++ led f (R.s_cdL cdL')) (hd : o.IsDictOf (strKind PR w) kvs) (hk : ∀ q ∈ kvs, q.1 ∈ nameL) (lo : (d == sysModules) = false) (h0 : UpK w R.cdL ua R.cdL)
    (turn : ∀ u cdL' k t I io h tk, k ∈ nameL → UpK w R.cdL ua cdL' → Sep f (R.s_cdL cdL') ((I, io) :: Z) → Fr h₀ LL h (fun y => if y = x then some (.str k t) else bind1 x u m₀ y) → News h₀ LL h (((I, io) :: Z) ++ led f (R.s_cdL cdL')) →
      wpAny (model PR w) A (execs body env) (UpEnd w h₀ LL gS dS oS f R ua ((I, io) :: Z) (bind1 x (some (.str k t)) (bind1 x u m₀))) E ⟨h, gS, dS, tk, oS⟩)
    (done : ∀ u cdL' h tk, UpK w R.cdL ua cdL' → Fr h₀ LL h (bind1 x u m₀) → News h₀ LL h (Z ++ led f (R.s_cdL cdL')) → Sep f (R.s_cdL cdL') Z → Q .next ⟨h, gS, dS, tk, oS⟩)
    (hL : env.locals = LL := by rfl) :
    wpAny (model PR w) A (pyIter (.ref d)) (fun it s₂ => LoopAtV PR w A h₀ env x body Q E it s₂) E ⟨hS, gS, dS, tS, oS⟩ := by
  subst hL
  refine iterD (knd := strKind PR w) (kvs := kvs) (fun _ => UpJ w f R ua Z x m₀) hh F N (hp R.cdL h0) hd lo ⟨m₀ x, R.cdL, (mapIf rfl).symm, rfl, nd, h0⟩ ?_ ?_
  · rintro i k y v m₁ n₁ I io h tk hky hkv ⟨u, cdL', rfl, rfl, nd1, hU⟩ hm hI F1 N1
    obtain ⟨t, rfl⟩ := Value.isStrOf_shape hkv
    refine wpAny_mono (turn u cdL' k t I io h tk (hk _ (List.mem_of_getElem? hky)) hU (Sep.cons' (q := (I, io)) nd1 hI) F1 N1) (fun fl s₂ e => ?_) fun _ _ e => e
    refine hide ?_
    intro GG hGG
    obtain ⟨rfl, h', tk', cdL'', rfl, F2, N2, nd2, hU2⟩ := e
    refine hGG ?_
    try clear hGG GG
    refine turn_next (Z ++ led f (R.s_cdL cdL'')) F2 N2 (fun p hq => ?_) nd2.ne ⟨some (.str k t), cdL'', bind_twice, rfl, nd2.drop, hU2⟩ rfl
    rw [List.mem_singleton.mp hq]; exact hp _ hU2
  · rintro m₁ n₁ h tk ⟨u, cdL', rfl, rfl, nd1, hU⟩ F1 N1
    exact done u cdL' h tk hU F1 N1 nd1
section
variable {w : World} {p : Program} {loose : List Str} {mean : ExcName → Option Value} {mg mb : Str → Option Value}
    {dp un : Nat} {gd : Option (List Code)} {cn : Str} {cs : Scope} {a : Addr} {ccd : Value} {cl : List (Str × Addr)} {outer : List Env} {A₀ : Around} {base h₀ : Heap} {L : Addr} {m : Str → Option Value} {s : Shared} {hS : Heap} {gS : Array GenState} {dS : Drawn} {tS : Nat} {oS : OsState}
    {Q E : Value → Shared → Prop} {f : Fix} {r : Raw} {Z : List (Addr × Obj)} {G : Gst}
theorem lines23 : True := by
  k_with "z call builtin:list.pop" => ((k_here; refine hold ?_))
  trivial
theorem pop_ok
    (C : Cx w p loose mean mg mb cs outer A₀ base h₀ L m hS (Z ++ led f r)) (nd : Sep f r Z) (O : Ok w f r G) (hb : 1 ≤ G.bl.length ∧ G.bl.length ≤ 3) (hk : ∀ es ∈ G.bl, ∀ e ∈ es, e.1 ∈ nameL) (hdp : dp + 12 < recursionLimit) (hu : un + 80 < cLine)
    (ret : ∀ r' h' tk', Fr h₀ L h' m → News h₀ L h' (Z ++ led f r') → Sep f r' Z → Ok w f r' { G with bl := G.bl.dropLast } → (∀ p ∈ r.imm, p ∈ r'.imm) → r'.fns = r.fns → Q .none ⟨h', gS, dS, tk', oS⟩) :
    wpAny (model PR w) (ktrTop dp un gd cn cs L a ccd cl outer) (call (.ref 763) [.ref f.acx]) Q E ⟨hS, gS, dS, tS, oS⟩ := by
 k_with "b" =>
  have S := O.sta
  have hcx := S.cx
  refine hide ?_
  intro GG hGG
  obtain ⟨owner, static, init, b, tb, cat, hC⟩ := O.cx
  obtain ⟨clv, hCl⟩ := O.cl
  have hcl := hCl.is
  have hclz := hCl.small
  have hcz : clv.length ≤ 1000 := by (first | k_extra "z k_ar" | omega)
  have lo3 := O.sets.lo3
  have hz1 : r.cxsc.size = G.bl.length := O.sdz
  have hz2 : r.cxrows.size = G.bl.length := O.rwz
  obtain ⟨na, no, hsd, ⟨hca, nlo, es, nkv, hes, hO, hK⟩, _⟩ := O.sd.at (i := G.bl.length - 1) (by (first | k_extra "z k_ar" | omega))
  have hnk : ∀ q ∈ nkv, q.1 ∈ nameL := fun q hq => by
    have : q.1 ∈ es.map (·.1) := by rw [← hK.keys]; exact List.mem_map_of_mem hq
    obtain ⟨e, he, e2⟩ := List.mem_map.mp this
    rw [← e2]; exact hk es (List.mem_of_getElem? hes) e he
  have e1 : r.cxsc.toList = r.cxsc.toList.dropLast ++ [.ref na] := last_split (by rw [Array.length_toList, hz1, Array.getElem?_toList]; exact hca)
  obtain ⟨rv, hrv⟩ : ∃ rv, r.cxrows.toList[r.cxrows.toList.length - 1]? = some rv := ⟨_, List.getElem?_eq_getElem (by rw [Array.length_toList]; (first | k_extra "z k_ar" | omega))⟩
  have e2 : r.cxrows.toList = r.cxrows.toList.dropLast ++ [rv] := last_split hrv
  obtain ⟨gv, hgv⟩ := hCl.full r.cxsc.size (by (first | k_extra "z k_ar" | omega)) (by (first | k_extra "z k_ar" | omega))
  obtain ⟨ga, go, gkv, rfl, hgm, hgd, hgk, hglo⟩ := hCl.dict _ (valueAt_mem hgv)
  obtain ⟨B, F, X, N, T, hkk⟩ := C
  refine hGG ?_
  try clear hGG GG
  by_cases h1 : G.bl.length = 1
  · have huv : valueAt clv ((r.cxsc.size : Int) - 1) = none := valueAt_none fun p hp e => by have := hCl.keys p hp; (first | k_extra "z k_ar" | omega)
    k_dflt k_extra "z enterF"
    k_steps
    refine unhold ?_
    refine popZ (by k_asm) (by k_asm) (by assumption) e1 (by (first | k_extra "z k_ar" | omega)) (upd_acxsc (by assumption)) ?_
    intro h5 F5 N5 nd5
    k_steps
    refine unhold ?_
    refine popZ (p := r.cxrows.toList.dropLast) (y := rv) (by k_asm) (by k_asm) (by assumption) (by exact e2) (by show r.cxrows.size ≤ 1000; (first | k_extra "z k_ar" | omega)) (upd_acxrows (by assumption)) ?_
    intro h6 F6 N6 nd6
    k_steps
    · rename Obj.IsDictOf _ _ (stored _ _ _) => hk7
      rename News _ _ _ _ => N7
      rename Sep _ _ _ => nd7
      rename Obj.IsDictOf _ _ [] => ho7
      rename (_ == sysModules) = false => lo7
      obtain ⟨N8, nd8⟩ := to_cd (f := f) (Z := _ :: Z) N7 nd7
      have hs7 := nd7.ne
      exact ret _ _ _ (by k_asm) (dropZ N8) nd8.drop (O.popped e1 e2 (hCl.put hk7 ⟨by (first | k_extra "z k_ar" | omega), by (first | k_extra "z k_ar" | omega)⟩ (.inl (by (first | k_extra "z k_ar" | omega))) (fun p hp => hs7 p (mem_cd hp)) ho7 lo7)) (fun _ h => h) rfl
  · refine hide ?_
    intro GG hGG
    obtain ⟨uv, huv⟩ := hCl.full ((r.cxsc.size : Int) - 1) (by (first | k_extra "z k_ar" | omega)) (by (first | k_extra "z k_ar" | omega))
    obtain ⟨ua, uo, ukv, rfl, hum, hud, huk, hulo⟩ := hCl.dict _ (valueAt_mem huv)
    refine hGG ?_
    try clear hGG GG
    have hug : ga ≠ ua := fun e => by
      have := hCl.inj _ (valueAt_mem hgv) _ (valueAt_mem huv) (by simp only; rw [e])
      simp only at this; (first | k_extra "z k_ar" | omega)
    k_dflt k_extra "z enterF"
    k_steps
    refine unhold ?_
    refine popZ (by k_asm) (by k_asm) (by assumption) e1 (by (first | k_extra "z k_ar" | omega)) (upd_acxsc (by assumption)) ?_
    intro h5 F5 N5 nd5
    k_steps
    refine unhold ?_
    refine popZ (p := r.cxrows.toList.dropLast) (y := rv) (by k_asm) (by k_asm) (by assumption) (by exact e2) (by show r.cxrows.size ≤ 1000; (first | k_extra "z k_ar" | omega)) (upd_acxrows (by assumption)) ?_
    intro h6 F6 N6 nd6
    k_steps
    refine unhold ?_
    rename Fr _ _ _ _ => lF1
    with_unfolding_all refine For_invVF lF1 rfl rfl ?_
    k_steps
    refine unhold ?_
    rename Fr _ _ _ _ => lG1
    rename News _ _ _ _ => lN1
    rename Sep _ _ _ => lnd1
    refine loop_up rfl lG1 lN1 lnd1 (fun cdL' h => mem_sd hsd) hO hnk nlo (UpK.refl hum hud huk) ?_ ?_
    · intro u cdL' k t I io h tk hkn hU nd2 F2 N2
      clear lG1 lN1 lnd1
      refine hide ?_
      intro GG hGG
      obtain ⟨uo', ukv', hum', hud', huk', hur'⟩ := hU
      refine hGG ?_
      try clear hGG GG
      have husz := UpK.small hud' huk'
      have husz' : ukv'.length ≤ 1000 := by (first | k_extra "z k_ar" | omega)
      k_steps
      rename Obj.IsDictOf _ _ (stored _ _ _) => hk7
      exact ⟨rfl, _, _, _, rfl, by k_asm, by k_asm, by assumption, _, _, mem_updL_self hum', hk7, stored_keys huk' hkn, fun b q hb hm => mem_updL_ne (hur' b q hb hm) hb⟩
    intro u1 cd1 h7 tk7 hU1 F7 N7 nd7
    k_steps
    refine unhold ?_
    rename Fr _ _ _ _ => lF2
    with_unfolding_all refine For_invVF lF2 rfl rfl ?_
    k_steps
    refine unhold ?_
    rename Fr _ _ _ _ => lG2
    rename News _ _ _ _ => lN2
    rename Sep _ _ _ => lnd2
    refine loop_up rfl lG2 lN2 lnd2 (fun cdL' h => mem_cd (let ⟨_, _, _, _, _, v⟩ := h; let ⟨_, _, _, _, _, v1⟩ := hU1; v ga go hug (v1 ga go hug hgm))) hgd hgk hglo hU1.again ?_ ?_
    · intro u cdL' k t I io h tk hkn hU nd2 F2 N2
      clear lG2 lN2 lnd2
      refine hide ?_
      intro GG hGG
      obtain ⟨uo', ukv', hum', hud', huk', hur'⟩ := hU
      refine hGG ?_
      try clear hGG GG
      have husz := UpK.small hud' huk'
      have husz' : ukv'.length ≤ 1000 := by (first | k_extra "z k_ar" | omega)
      k_steps
      rename Obj.IsDictOf _ _ (stored _ _ _) => hk7
      exact ⟨rfl, _, _, _, rfl, by k_asm, by k_asm, by assumption, _, _, mem_updL_self hum', hk7, stored_keys huk' hkn, fun b q hb hm => mem_updL_ne (hur' b q hb hm) hb⟩
    intro u2 cd2 h8 tk8 hU2 F8 N8 nd8
    k_steps
    rename Obj.IsDictOf _ _ (stored _ _ _) => hk9
    rename News _ _ _ _ => N9
    rename Sep _ _ _ => nd9
    rename Obj.IsDictOf _ _ [] => ho9
    rename (_ == sysModules) = false => lo9
    refine hide ?_
    intro GG hGG
    obtain ⟨N10, nd10⟩ := to_cd (f := f) (Z := _ :: Z) N9 nd9
    have hs9 := nd9.ne
    have hUU : UpK w r.cdL ua cd2 := UpK.trans (b := cd1) hU1 hU2
    obtain ⟨uo3, ukv3, a1, a2, a3, a4⟩ := hUU
    refine hGG ?_
    try clear hGG GG
    have hT := hCl.turn (n' := G.bl.length) (cdL' := cd2) (Nat.le_refl _) fun a o kvs h1 h2 h3 => by
      by_cases hau : a = ua
      · subst hau; exact ⟨uo3, ukv3, a1, a2, a3⟩
      · exact ⟨o, kvs, a4 a o hau h1, h2, h3⟩
    exact ret _ _ _ (by k_asm) (dropZ N10) nd10.drop (O.popped e1 e2 (hT.put hk9 ⟨by (first | k_extra "z k_ar" | omega), by (first | k_extra "z k_ar" | omega)⟩ (.inl (by (first | k_extra "z k_ar" | omega))) (fun p hp => hs9 p (mem_cd hp)) ho9 lo9)) (fun _ h => h) rfl
 refine no_implicit_lambda% (qo ?_)
 simp (disch := k_dflt k_extra "b") only [↓qs]
end
structure Same (G G' : Gst) (k : Nat) : Prop where
  lv : G'.lv = G.lv
  fs : G'.fs = G.fs
  fv : G'.fv = G.fv
  none : G'.none = G.none
  made : G'.made = G.made
  stands : G'.stands = G.stands
  cn : G'.cn = G.cn
  its : G'.its = G.its
  kits : G'.kits = G.kits
  xs : G'.xs = G.xs
  bv : G'.bv.length = G.bv.length
  dr : G'.dr.length ≤ G.dr.length + k
theorem Same.refl (G : Gst) : Same G G 0 := ⟨rfl, rfl, rfl, rfl, rfl, rfl, rfl, rfl, rfl, rfl, rfl, Nat.le_refl _⟩
theorem Same.trans {A B C : Gst} {i j : Nat} (x : Same A B i) (y : Same B C j) : Same A C (i + j) :=
  ⟨y.lv.trans x.lv, y.fs.trans x.fs, y.fv.trans x.fv, y.none.trans x.none, y.made.trans x.made, y.stands.trans x.stands, y.cn.trans x.cn, y.its.trans x.its, y.kits.trans x.kits, y.xs.trans x.xs, y.bv.trans x.bv, by have := x.dr; have := y.dr; (first | k_extra "z k_ar" | omega)⟩
theorem Same.more {A B : Gst} {i j : Nat} (x : Same A B i) (h : i ≤ j) : Same A B j := ⟨x.lv, x.fs, x.fv, x.none, x.made, x.stands, x.cn, x.its, x.kits, x.xs, x.bv, by have := x.dr; (first | k_extra "z k_ar" | omega)⟩
theorem Wf.congr0 {G G' : Gst} (W : Wf G) (h1 : G'.fs = G.fs) (h2 : G'.lv = G.lv) (h3 : G'.bv = G.bv) : Wf G' where
  len := by rw [h1, h2]; exact W.len
  ent := by rw [h1, h2, h3]; exact W.ent
  nod := by rw [h1]; exact W.nod
  non := by rw [h1]; exact W.non
  nam := by rw [h3]; exact W.nam
  l3 := by rw [h2]; exact W.l3
  b10 := by rw [h3]; exact W.b10
theorem tell_pure {G : Gst} {c at_ : Int} {us : List PyData} (R : Rest G) (W : Wf G) : Rest (tellT (tellR G c at_ us) c at_ us) ∧ Wf (tellT (tellR G c at_ us) c at_ us) ∧ Same G (tellT (tellR G c at_ us) c at_ us) 1 := by
  unfold tellT tellR
  by_cases h : c = 0
  · simp only [h, if_true]
    exact ⟨R, W, (Same.refl G).more (by (first | k_extra "z k_ar" | omega))⟩
  · simp only [h, if_false]
    exact ⟨⟨R.bl, R.lw, by simp [R.dr]⟩, W.congr0 rfl rfl rfl, ⟨rfl, rfl, rfl, rfl, rfl, rfl, rfl, rfl, rfl, rfl, rfl, by simp⟩⟩
theorem need_pure {G : Gst} {st : Bool} {how at_ c k : Int} {name : Str} {d : PyData} (R : Rest G) (W : Wf G) :
    (needR tellT (needR tellR G st how name at_ c k d).2 st how name at_ c k d).1 = (needR tellR G st how name at_ c k d).1 ∧ Rest (needR tellT (needR tellR G st how name at_ c k d).2 st how name at_ c k d).2 ∧ Wf (needR tellT (needR tellR G st how name at_ c k d).2 st how name at_ c k d).2 ∧ Same G (needR tellT (needR tellR G st how name at_ c k d).2 st how name at_ c k d).2 1 := by
  cases st with
  | true =>
    by_cases h2 : how = 3 ∨ how = 4
    · have e : ∀ tell G', needR tell G' true how name at_ c k d = (badD, tell G' 176 at_ [.str name]) := fun tell G' => by unfold needR; rw [if_pos rfl, if_pos h2]
      rw [e, e]; dsimp only; exact ⟨rfl, tell_pure R W⟩
    · have e : ∀ tell G', needR tell G' true how name at_ c k d = (.none, G') := fun tell G' => by unfold needR; rw [if_pos rfl, if_neg h2]
      rw [e, e]; exact ⟨rfl, R, W, (Same.refl G).more (by (first | k_extra "z k_ar" | omega))⟩
  | false =>
    by_cases h2 : how = 2
    · have e : ∀ tell G', needR tell G' false how name at_ c k d = (badD, tell G' 120 at_ [.str name]) := fun tell G' => by unfold needR; rw [if_neg (by decide), if_pos h2]
      rw [e, e]; dsimp only; exact ⟨rfl, tell_pure R W⟩
    · by_cases h3 : how = 1
      · have e : ∀ tell G', needR tell G' false how name at_ c k d = (thisD c k, tell G' c at_ []) := fun tell G' => by unfold needR; rw [if_neg (by decide), if_neg h2, if_pos h3]
        rw [e, e]; dsimp only; exact ⟨rfl, tell_pure R W⟩
      · have e : ∀ tell G', needR tell G' false how name at_ c k d = (d, G') := fun tell G' => by unfold needR; rw [if_neg (by decide), if_neg h2, if_neg h3]
        rw [e, e]; exact ⟨rfl, R, W, (Same.refl G).more (by (first | k_extra "z k_ar" | omega))⟩
theorem this_same {number place static init up : Int} {lam b : Bool} (hn : number = 26 ∨ number = 120) (hp : 0 ≤ place ∧ place < 4) (hs : static = if place = 1 then 1 else 0) (hi : init = [0, 0, 1, 2].getD place.toNat 0) (hu : up ≠ 0 ↔ lam = true) :
    thisB number static init up b = thisL number place lam b := by
  obtain ⟨n, hn4, rfl⟩ : ∃ n : Nat, n < 4 ∧ place = (n : Int) := ⟨place.toNat, by (first | k_extra "z k_ar" | omega), by (first | k_extra "z k_ar" | omega)⟩
  have hu' : (up ≠ 0 ∧ b = true) ↔ (lam = true ∧ b = true) := by rw [hu]
  subst hs hi
  match n, hn4 with
  | 0, _ =>
    have h1 : thisCode number 0 = 0 := by rcases hn with rfl | rfl <;> rfl
    show (if ((if (0 : Int) = 1 then (1 : Int) else 0) ≠ 0) then number else if (0 : Int) ≠ 0 then _ else if up ≠ 0 ∧ b = true then 1673 else 0) = thisL number 0 lam b
    unfold thisL
    rw [h1]
    simp only [show ¬((0 : Int) = 1) by decide, if_false, ne_eq, not_true_eq_false]
    by_cases h : up ≠ 0 ∧ b = true
    · rw [if_pos h, if_pos (hu'.mp h)]
    · rw [if_neg h, if_neg (fun q => h (hu'.mpr q))]
  | 1, _ => rcases hn with rfl | rfl <;> rfl
  | 2, _ => rcases hn with rfl | rfl <;> rfl
  | 3, _ => rcases hn with rfl | rfl <;> rfl
theorem wf_set {G : Gst} {i : Nat} {v : VR} {fl : Int} (W : Wf G) (hv : G.bv[i]? = some v) {G' : Gst} (h1 : G'.fs = G.fs) (h2 : G'.lv = G.lv) (h3 : G'.bv = G.bv.set i { v with flags := fl }) : Wf G' where
  len := by rw [h1, h2]; exact W.len
  ent := by
    rw [h1, h2, h3]
    intro j es he
    obtain ⟨a, b⟩ := W.ent j es he
    refine ⟨a, fun e hm => ?_⟩
    obtain ⟨c, d, u, q, x1, x2, x3, x4⟩ := b e hm
    refine ⟨c, d, ?_⟩
    by_cases hi : i = (e.2 - 1).toNat
    · rw [← hi] at x1 ⊢
      rw [hv] at x1; cases x1
      exact ⟨_, q, List.getElem?_set_self (List.getElem?_eq_some_iff.mp hv).1, x2, x3, x4⟩
    · exact ⟨u, q, by rw [List.getElem?_set_ne hi]; exact x1, x2, x3, x4⟩
  nod := by rw [h1]; exact W.nod
  non := by rw [h1]; exact W.non
  nam := by
    rw [h3]
    intro u hu
    rcases List.mem_or_eq_of_mem_set hu with h | h
    · exact W.nam u h
    · rw [h]; exact W.nam v (List.mem_of_getElem? hv)
  l3 := by rw [h2]; exact W.l3
  b10 := by rw [h3, List.length_set]; exact W.b10
theorem use_pure {G : Gst} {lid at_ : Int} {v : VR} {oB oL : Prop} [Decidable oB] [Decidable oL] (R : Rest G) (W : Wf G) (hv : G.bv[(lid - 1).toNat]? = some v) (ho : oB ↔ oL) :
    (useB G lid v at_ oB).2.lw[(lid - 1).toNat]? = some v.row ∧ (useB G lid v at_ oB).2.dt = G.dt ∧ (useL (useB G lid v at_ oB).2 lid v.row at_ oL).1 = (useB G lid v at_ oB).1 ∧
      Rest (useL (useB G lid v at_ oB).2 lid v.row at_ oL).2 ∧ Wf (useL (useB G lid v at_ oB).2 lid v.row at_ oL).2 ∧ Same G (useL (useB G lid v at_ oB).2 lid v.row at_ oL).2 1 := by
  have hlw : G.lw[(lid - 1).toNat]? = some v.row := by rw [R.lw, List.getElem?_map, hv]; rfl
  by_cases h1 : Builtin.bitAnd v.flags 16 ≠ 0
  · have e1 : useB G lid v at_ oB = ((G.cd lid).getD badD, G) := if_pos h1
    have e2 : useL G lid v.row at_ oL = ((G.cd lid).getD badD, G) := if_pos (show Builtin.bitAnd v.row.flags 16 ≠ 0 from h1)
    rw [e1]; dsimp only; rw [e2]
    exact ⟨hlw, rfl, rfl, R, W, (Same.refl G).more (by (first | k_extra "z k_ar" | omega))⟩
  · by_cases h2 : oB
    · have h2' : oL := ho.mp h2
      by_cases h3 : Builtin.bitAnd v.flags (Builtin.bitOr 2 4) ≠ 0
      · have e1 : useB G lid v at_ oB = (badD, { G with dr := G.dr ++ [faultD 1628 at_ [.str v.name]] }) := by unfold useB; rw [if_neg h1, if_pos h2, if_pos h3]
        have e2 : ∀ G' : Gst, useL G' lid v.row at_ oL = (badD, { G' with dt := G'.dt ++ [faultD 1628 at_ [.str v.row.name]] }) := fun G' => by unfold useL; rw [if_neg (show ¬ Builtin.bitAnd v.row.flags 16 ≠ 0 from h1), if_pos h2', if_pos (show Builtin.bitAnd v.row.flags (Builtin.bitOr 2 4) ≠ 0 from h3)]
        rw [e1]; dsimp only; rw [e2]
        exact ⟨hlw, rfl, rfl, ⟨R.bl, R.lw, by simp [R.dr, VR.row]⟩, W.congr0 rfl rfl rfl, ⟨rfl, rfl, rfl, rfl, rfl, rfl, rfl, rfl, rfl, rfl, rfl, by simp⟩⟩
      · have e1 : useB G lid v at_ oB = (locD v.kind lid, { G with bv := G.bv.set (lid - 1).toNat { v with flags := Builtin.bitOr v.flags 8 } }) := by unfold useB; rw [if_neg h1, if_pos h2, if_neg h3]
        have e2 : ∀ G' : Gst, useL G' lid v.row at_ oL = (locD v.row.kind lid, { G' with lw := G'.lw.set (lid - 1).toNat { v.row with flags := Builtin.bitOr v.row.flags 8 } }) := fun G' => by unfold useL; rw [if_neg (show ¬ Builtin.bitAnd v.row.flags 16 ≠ 0 from h1), if_pos h2', if_neg (show ¬ Builtin.bitAnd v.row.flags (Builtin.bitOr 2 4) ≠ 0 from h3)]
        rw [e1]; dsimp only; rw [e2]
        refine ⟨hlw, rfl, rfl, ⟨R.bl, ?_, R.dr⟩, wf_set W hv rfl rfl rfl, ⟨rfl, rfl, rfl, rfl, rfl, rfl, rfl, rfl, rfl, rfl, by simp, by simp⟩⟩
        simp only [R.lw, List.map_set]; rfl
    · have h2' : ¬ oL := fun h => h2 (ho.mpr h)
      have e1 : useB G lid v at_ oB = (locD v.kind lid, G) := by unfold useB; rw [if_neg h1, if_neg h2]
      have e2 : useL G lid v.row at_ oL = (locD v.row.kind lid, G) := by unfold useL; rw [if_neg (show ¬ Builtin.bitAnd v.row.flags 16 ≠ 0 from h1), if_neg h2']
      rw [e1]; dsimp only; rw [e2]
      exact ⟨hlw, rfl, rfl, R, W, (Same.refl G).more (by (first | k_extra "z k_ar" | omega))⟩
/- what a name's search finds -/
theorem find_pure {G : Gst} {x : Str} {fnid up : Int} (W : Wf G) (R : Rest G) (hb : 1 ≤ G.lv.length) (hfv : G.fs[G.lv.length - 1]? = some (G.fv, fnid, up)) :
    lookDn x G.bl.reverse = (findUp x 0 G.lv (0, 0)).1 ∧ ((findUp x 0 G.lv (0, 0)).1 ≠ 0 → ∃ v, 1 ≤ (findUp x 0 G.lv (0, 0)).1 ∧ (findUp x 0 G.lv (0, 0)).1 < 100 ∧ G.bv[((findUp x 0 G.lv (0, 0)).1 - 1).toNat]? = some v ∧ (v.own ≠ fnid ↔ (findUp x 0 G.lv (0, 0)).2 ≠ (G.lv.length : Int) - 1) ∧ (G.fv = .none → v.own = fnid)) := by
  have h := find_same x G.lv W.keys
  refine ⟨by rw [R.bl]; exact h.1.symm, fun hn => ?_⟩
  obtain ⟨i, es, e1, e2, e3⟩ := h.2 hn
  obtain ⟨_, hent⟩ := W.ent i es e2
  obtain ⟨_, h1, v, q, hv, hnm, hq, hown⟩ := hent _ e3
  simp only at h1 hv hnm
  have hlt := (List.getElem?_eq_some_iff.mp hv).1
  have hb10 := W.b10
  have hi := (List.getElem?_eq_some_iff.mp e2).1
  have hiff : v.own ≠ fnid ↔ (i : Int) ≠ (G.lv.length : Int) - 1 := by
    rw [hown]
    by_cases hii : i = G.lv.length - 1
    · subst hii
      rw [hq] at hfv; cases hfv
      simp; (first | k_extra "z k_ar" | omega)
    · have : q.2.1 ≠ fnid := fun e => hii (by
        have a : (G.fs.map (·.2.1))[i]? = some q.2.1 := by rw [List.getElem?_map, hq]; rfl
        have b : (G.fs.map (·.2.1))[G.lv.length - 1]? = some fnid := by rw [List.getElem?_map, hfv]; rfl
        rw [e, ← b] at a
        exact (List.getElem?_inj (by rw [List.length_map, W.len]; exact hi) W.nod).mp a)
      constructor
      · intro _; (first | k_extra "z k_ar" | omega)
      · intro _; exact this
  refine ⟨v, h1, by (first | k_extra "z k_ar" | omega), hv, by rw [e1]; exact hiff, fun hnone => ?_⟩
  have := W.non _ (List.mem_of_getElem? hfv) hnone
  rw [W.len] at this
  by_cases hq2 : v.own = fnid
  · exact hq2
  · exact absurd (hiff.mp hq2) (by (first | k_extra "z k_ar" | omega))
/- what a run of declarations and asks inside one level leaves -/
structure Mid (G G' : Gst) (d a : Nat) : Prop where
  dl : G'.lv.dropLast = G.lv.dropLast
  len : G'.lv.length = G.lv.length
  fs : G'.fs = G.fs
  fv : G'.fv = G.fv
  none : G'.none = G.none
  its : G'.its = G.its
  kits : G'.kits = G.kits
  xs : G'.xs = G.xs
  made : G.made ≤ G'.made ∧ G'.made ≤ G.made + d
  stands : G.stands ≤ G'.stands ∧ G'.stands ≤ G.stands + a
  bv : G'.bv.length ≤ G.bv.length + d
  dr : G'.dr.length ≤ G.dr.length + d + 7 * a
  cn : G'.cn ≤ G.cn + d
theorem Mid.refl (G : Gst) : Mid G G 0 0 := ⟨rfl, rfl, rfl, rfl, rfl, rfl, rfl, rfl, by (first | k_extra "z k_ar" | omega), by (first | k_extra "z k_ar" | omega), by (first | k_extra "z k_ar" | omega), by (first | k_extra "z k_ar" | omega), by (first | k_extra "z k_ar" | omega)⟩
theorem Mid.trans {A B C : Gst} {i j k l : Nat} (x : Mid A B i j) (y : Mid B C k l) : Mid A C (i + k) (j + l) :=
  ⟨y.dl.trans x.dl, y.len.trans x.len, y.fs.trans x.fs, y.fv.trans x.fv, y.none.trans x.none, y.its.trans x.its, y.kits.trans x.kits, y.xs.trans x.xs, by have := x.made; have := y.made; (first | k_extra "z k_ar" | omega), by have := x.stands; have := y.stands; (first | k_extra "z k_ar" | omega), by have := x.bv; have := y.bv; (first | k_extra "z k_ar" | omega), by have := x.dr; have := y.dr; (first | k_extra "z k_ar" | omega), by have := x.cn; have := y.cn; (first | k_extra "z k_ar" | omega)⟩
theorem Mid.more {A B : Gst} {i j k l : Nat} (x : Mid A B i j) (h1 : i ≤ k) (h2 : j ≤ l) : Mid A B k l :=
  ⟨x.dl, x.len, x.fs, x.fv, x.none, x.its, x.kits, x.xs, by have := x.made; (first | k_extra "z k_ar" | omega), by have := x.stands; (first | k_extra "z k_ar" | omega), by have := x.bv; (first | k_extra "z k_ar" | omega), by have := x.dr; (first | k_extra "z k_ar" | omega), by have := x.cn; (first | k_extra "z k_ar" | omega)⟩
theorem Mid.decl {G G' : Gst} (x : DeclRel G G') : Mid G G' 1 0 :=
  ⟨x.dl, x.len, x.fs, x.fv, x.none, x.its, x.kits, x.xs, by have := x.made; (first | k_extra "z k_ar" | omega), by have := x.stands; (first | k_extra "z k_ar" | omega), by have := x.bv; (first | k_extra "z k_ar" | omega), by have := x.dr; (first | k_extra "z k_ar" | omega), by have := x.cn; (first | k_extra "z k_ar" | omega)⟩
theorem Mid.ask {G G' : Gst} (x : Same { G with stands := G.stands + 1 } G' 7) : Mid G G' 0 1 :=
  ⟨by rw [x.lv], by rw [x.lv], x.fs, x.fv, x.none, x.its, x.kits, x.xs, by have := x.made; dsimp only at this; (first | k_extra "z k_ar" | omega), by have := x.stands; dsimp only at this; (first | k_extra "z k_ar" | omega), by have := x.bv; dsimp only at this; (first | k_extra "z k_ar" | omega), by have := x.dr; dsimp only at this; (first | k_extra "z k_ar" | omega), by have := x.cn; dsimp only at this; (first | k_extra "z k_ar" | omega)⟩
structure Lev (G G' : Gst) (d a : Nat) : Prop where
  mid : Mid G G' d a
  lv : G'.lv = G.lv
noncomputable def openG (G : Gst) (v : Value) (fnid up : Int) : Gst := { G with fv := v, fs := G.fs ++ [(v, fnid, up)], bl := G.bl ++ [[]], lv := G.lv ++ [[]] }
noncomputable def closeG (G : Gst) (v : Value) : Gst := { G with bl := G.bl.dropLast, lv := G.lv.dropLast, fs := G.fs.dropLast, fv := v }
theorem open_wf {G : Gst} {v : Value} {fnid up : Int} (W : Wf G) (R : Rest G) (hl : G.lv.length ≤ 2) (hn : ∀ q ∈ G.fs, q.1 ≠ .none) (hv : v = .none → G.fs = []) (hf : ∀ q ∈ G.fs, q.2.1 ≠ fnid) : Wf (openG G v fnid up) ∧ Rest (openG G v fnid up) := by
  refine ⟨?_, ?_⟩
  · refine { len := ?_, ent := ?_, nod := ?_, non := ?_, nam := W.nam, l3 := ?_, b10 := W.b10 }
    · show (G.fs ++ [_]).length = (G.lv ++ [_]).length
      rw [List.length_append, List.length_append, W.len]; rfl
    · intro i es he
      replace he : (G.lv ++ [[]])[i]? = some es := he
      by_cases hi : i < G.lv.length
      · rw [List.getElem?_append_left hi] at he
        obtain ⟨a, b⟩ := W.ent i es he
        refine ⟨a, fun e hm => ?_⟩
        obtain ⟨c, d, u, q, x1, x2, x3, x4⟩ := b e hm
        refine ⟨c, d, u, q, x1, x2, ?_, x4⟩
        show (G.fs ++ [_])[i]? = _
        rw [List.getElem?_append_left (by rw [W.len]; exact hi)]; exact x3
      · have hlt := (List.getElem?_eq_some_iff.mp he).1
        simp at hlt
        have : i = G.lv.length := by (first | k_extra "z k_ar" | omega)
        subst this
        rw [List.getElem?_append_right (Nat.le_refl _)] at he
        simp at he
        subst he
        exact ⟨by simp, fun e hm => by simp at hm⟩
    · show ((G.fs ++ [(v, fnid, up)]).map (·.2.1)).Nodup
      rw [List.map_append]
      refine List.nodup_append.mpr ⟨W.nod, by simp, ?_⟩
      intro a ha b hb hab
      obtain ⟨q, hq, rfl⟩ := List.mem_map.mp ha
      simp at hb
      exact hf q hq (hab.trans hb)
    · intro q hq hqn
      show (G.fs ++ [(v, fnid, up)]).length = 1
      rcases List.mem_append.mp hq with h | h
      · exact absurd hqn (hn q h)
      · rw [List.mem_singleton.mp h] at hqn
        rw [hv hqn]; rfl
    · show (G.lv ++ [[]]).length ≤ 3
      rw [List.length_append]; simp; (first | k_extra "z k_ar" | omega)
  · exact ⟨by show G.bl ++ [[]] = G.lv ++ [[]]; rw [R.bl], R.lw, R.dr⟩
theorem close_wf {G G' : Gst} {v : Value} {fnid up : Int} {d a : Nat} (W' : Wf G') (R' : Rest G') (M : Mid (openG G v fnid up) G' d a) (hlen : G.fs.length = G.lv.length) : Wf (closeG G' G.fv) ∧ Rest (closeG G' G.fv) ∧ Lev G (closeG G' G.fv) d a := by
  have hfs : G'.fs.dropLast = G.fs := by rw [M.fs]; show (G.fs ++ [_]).dropLast = G.fs; simp
  have hlv : G'.lv.dropLast = G.lv := by rw [M.dl]; show (G.lv ++ [_]).dropLast = G.lv; simp
  have hfl : G'.fs = G.fs ++ [(v, fnid, up)] := M.fs
  refine ⟨?_, ?_, ?_⟩
  · refine { len := ?_, ent := ?_, nod := ?_, non := ?_, nam := W'.nam, l3 := ?_, b10 := W'.b10 }
    · show G'.fs.dropLast.length = G'.lv.dropLast.length
      rw [hfs, hlv]; exact hlen
    · intro i es he
      replace he : G'.lv.dropLast[i]? = some es := he
      have hi : i < G.lv.length := by rw [hlv] at he; exact (List.getElem?_eq_some_iff.mp he).1
      have h2 : G'.lv[i]? = some es := by
        rw [List.getElem?_dropLast] at he
        split at he
        · exact he
        · cases he
      obtain ⟨x, y⟩ := W'.ent i es h2
      refine ⟨x, fun e hm => ?_⟩
      obtain ⟨c, d, u, q, x1, x2, x3, x4⟩ := y e hm
      refine ⟨c, d, u, q, x1, x2, ?_, x4⟩
      show G'.fs.dropLast[i]? = _
      rw [hfl, List.getElem?_append_left (by rw [hlen]; exact hi)] at x3
      rw [hfs]; exact x3
    · show (G'.fs.dropLast.map (·.2.1)).Nodup
      rw [hfs]
      have := W'.nod
      rw [hfl, List.map_append] at this
      exact (List.nodup_append.mp this).1
    · intro q hq hqn
      exfalso
      replace hq : q ∈ G'.fs.dropLast := hq
      rw [hfs] at hq
      have h1 := W'.non q (by rw [hfl]; exact List.mem_append_left _ hq) hqn
      rw [hfl, List.length_append] at h1
      have h2 : 1 ≤ G.fs.length := List.length_pos_of_mem hq
      simp only [List.length_cons, List.length_nil] at h1
      (first | k_extra "z k_ar" | omega)
    · show G'.lv.dropLast.length ≤ 3
      have := W'.l3
      rw [List.length_dropLast]; (first | k_extra "z k_ar" | omega)
  · exact ⟨by show G'.bl.dropLast = G'.lv.dropLast; rw [R'.bl], R'.lw, R'.dr⟩
  · exact ⟨⟨by show G'.lv.dropLast.dropLast = _; rw [hlv], by show G'.lv.dropLast.length = _; rw [hlv], hfs, rfl, M.none, M.its, M.kits, M.xs, M.made, M.stands, M.bv, M.dr, M.cn⟩, hlv⟩
theorem Mid.lv1 {G G' : Gst} {v : Value} {fnid up : Int} {d a n : Nat} (M : Mid (openG G v fnid up) G' d a) (h : G.lv.length = n) : G'.lv.length = n + 1 := by
  rw [M.len]; show (G.lv ++ [[]]).length = _; rw [List.length_append, h]; rfl
theorem Mid.fs1 {G G' : Gst} {v : Value} {fnid up : Int} {d a n : Nat} (M : Mid (openG G v fnid up) G' d a) (h : G.lv.length = n) (h2 : G.fs.length = G.lv.length) : G'.fs[G'.lv.length - 1]? = some (G'.fv, fnid, up) := by
  rw [M.lv1 h, M.fs, M.fv]
  show (G.fs ++ [(v, fnid, up)])[n + 1 - 1]? = some (v, fnid, up)
  rw [Nat.add_sub_cancel, List.getElem?_append_right (by (first | k_extra "z k_ar" | omega)), h2, h, Nat.sub_self]; rfl
section
variable {w : World} {f : Fix} {r : Raw} {G : Gst}
theorem Ok.s_fs (O : Ok w f r G) {fs : List (Value × Int × Int)} (h : ∀ q ∈ fs, FnOk w r.imm r.lidL r.fns G.bv.length q.1 q.2.1 q.2.2) : Ok w f r { G with fs := fs } :=
  ⟨O.sta, O.sets, O.wo, O.cx, O.slz, O.sl, O.sdz, O.sd, O.rwz, O.cl, O.vdz, O.vd, O.rlz, O.rl, O.tr, O.tt, O.co, h⟩
theorem FnOk.low {w : World} {imm lidL : List (Addr × Obj)} {fns : Array Value} {K : Nat} {v : Value} {x y : Int} (q : FnOk w imm lidL fns K v x y) (h : 1 ≤ fns.size) : x < fns.size := by
  cases q with
  | none => (first | k_extra "z k_ar" | omega)
  | fn a b c d e g i => have := (Array.getElem?_eq_some_iff.mp g).1; (first | k_extra "z k_ar" | omega)
end
theorem lines24 : True := by
  k_with "z call ref" => ((k_here; (with_reducible show wpAny _ _ (call (Value.ref 936) [Value.ref _, Value.int _ _]) _ _ _); first | (k_dflt (refine take_ok ⟨by k_asm, by k_asm, by k_asm, by k_asm, by k_asm, by first | exact rfl | assumption⟩ (by assumption) (by assumption) (by decide) (by k_extra "z ev_room") (by k_extra "z ev_room") ?_); intro zqg' zqtg' zqr' zqh' zqtk' zqO' zqgr' zqF' zqN' zqnd' zqhg'; (have zqhoc' := Eq.trans zqgr'.ocx (by assumption)); (have zqgw' := Gw.trans (by assumption) zqgr'.w); obtain ⟨zqat', zqtat', zqleft', zqtl', zqtm', zqts', zqhW', zqhat', zqhlf'⟩ := zqO'.wo; (have zqS' := zqO'.sta); (have zqhcx' := zqS'.cx); (try k_sweep); (try dsimp only)) | refine hold ?_))
  k_with "z call ref" => ((k_here; (with_reducible show wpAny _ _ (call (Value.ref 338) _) _ _ _); refine hold ?_))
  k_with "z call ref" => ((k_here; (with_reducible show wpAny _ _ (call (Value.ref 749) _) _ _ _); refine hold ?_))
  k_with "z call ref" => ((k_here; (with_reducible show wpAny _ _ (call (Value.ref 859) _) _ _ _); refine hold ?_))
  k_with "z call ref" => ((k_here; (with_reducible show wpAny _ _ (call (Value.ref 962) _) _ _ _); refine hold ?_))
  k_with "z call ref" => ((k_here; (with_reducible show wpAny _ _ (call (Value.ref 866) _) _ _ _); refine hold ?_))
  k_with "z call ref" => ((k_here; (with_reducible show wpAny _ _ (call (Value.ref 976) _) _ _ _); refine hold ?_))
  k_with "z eval IfExp" => ((k_here; (with_reducible rename MarkIf => zqmkX); clear zqmkX; refine hold ?_))
  k_with "z compareOp NotEq ref ref" => ((k_here; refine hold ?_))
  k_with "z compareOp Eq ref ref" => ((k_here; refine hold ?_))
  k_with "z subscriptTail" => ((k_here; (with_reducible show wpAny _ _ (subscriptTail (PySem.Expr.Attribute (PySem.Expr.Attribute _ _ _) _ _) (PySem.Expr.Slice _ _ _ _) (Value.ref _) (Value.ref _)) _ _ _); k_dflt (refine kba_turn (value' := PySem.Expr.Name (PySem.Str.ofString "_") ⟨0, 0, 0, 0⟩) (fun _ => rfl) ?_); k_dflt (refine sliceZ (by k_asm) (by k_asm) (by assumption) mem_avs (by kmk_part) (by kmk_part) (by assumption) ?_); intro zqD' zqh' zqZ' zqF' zqN' zqnd'; (try k_sweep)))
  trivial
inductive MidV (h : Heap) (gS : Array GenState) (dS : Drawn) (oS : OsState) (P : Int → Prop) (v : Value) (s' : Shared) : Prop
  | mk (x : Int) (t : Tok) (tk : Nat) : P x → v = .int x t → s' = ⟨h, gS, dS, tk, oS⟩ → MidV h gS dS oS P v s'
theorem mid_v {w : World} {prog : Program} {A : Around} {E : Value → Shared → Prop} {t : Sem Value} {Q' : Value → Shared → Prop} {gS : Array GenState} {dS : Drawn} {oS : OsState} {hA : Heap} {tA : Nat} {h₀ h : Heap} {L : Addr} {m : Str → Option Value} (F : Fr h₀ L h m) (P : Int → Prop)
    (h1 : wpAny (model prog w) A t (MidV h gS dS oS P) E ⟨hA, gS, dS, tA, oS⟩) (h2 : ∀ x t tk, P x → Q' (.int x t) ⟨h, gS, dS, tk, oS⟩) : wpAny (model prog w) A t Q' E ⟨hA, gS, dS, tA, oS⟩ :=
  wpAny_mono h1 (fun v s' hm => by obtain ⟨x, t, tk, a, rfl, rfl⟩ := hm; exact h2 x t tk a) fun _ _ e => e
theorem types_item {prog : Program} {w : World} {A : Around} {E : Value → Shared → Prop} {hS : Heap} {gS : Array GenState} {dS : Drawn} {tS : Nat} {oS : OsState} {h₀ : Heap} {L : Addr} {f : Fix} {r : Raw} {Z : List (Addr × Obj)} {its kits : Array Value} {xs : List (List EK × Addr × Value)} {k : Int} {u : Tok} {value slice : PySem.Expr} {Q : Value → Shared → Prop} (S : Sets w f r.imm its kits xs) (N : News h₀ L hS (Z ++ led f r)) (hk : 0 ≤ k ∧ k < 9)
    (h : ∀ trs ra tid kk b t1 t2, (f.atypes, tupOf trs) ∈ r.imm → trs[k.toNat]? = some (.ref ra) → (ra, tupOf [.int tid t1, .int kk t2, .bool b]) ∈ r.imm → Own w r.imm its xs tid kk → ValIs r.imm kits kk b → Q (.ref ra) ⟨hS, gS, dS, tS, oS⟩)
    (hs : subscripted slice false (.ref f.atypes) (.int k u) = operate [.ref f.atypes, .int k u] (getItem (.ref f.atypes) (.int k u)) := by with_unfolding_all rfl) :
    wpAny (model prog w) A (subscriptTail value slice (.ref f.atypes) (.int k u)) Q E ⟨hS, gS, dS, tS, oS⟩ := by
  obtain ⟨trs, ra, tid, kk, b, t1, t2, h1, h2, h3, h4, h5⟩ := S.spot hk
  exact itemT N (mem_imm h1) hk.1 (by (first | k_extra "z k_ar" | lia | omega)) h2 (h _ _ _ _ _ _ _ h1 h2 h3 h4 h5) hs
theorem fmod_big (x n : Int) (h : 0 < n ∧ n < 100) : x.fmod n < 2 ^ 62 := by have := fmod_in x n h.1; (first | k_extra "z k_ar" | lia | omega)
theorem tellR_dt (G : Gst) (c at_ : Int) (us : List PyData) : (tellR G c at_ us).dt = G.dt := by unfold tellR; split <;> rfl
theorem pick4 {k : Int} {a b c d : Value} (h : 0 ≤ k ∧ k < 4) : ∃ v, [a, b, c, d][k.toNat]? = some v ∧ (v = a ∨ v = b ∨ v = c ∨ v = d) := by
  refine hide ?_
  intro GG hGG
  obtain ⟨n, hn, rfl⟩ : ∃ n : Nat, n < 4 ∧ k = (n : Int) := ⟨k.toNat, by (first | k_extra "z k_ar" | lia | omega), by (first | k_extra "z k_ar" | lia | omega)⟩
  refine hGG ?_
  try clear hGG GG
  match n, hn with
  | 0, _ => exact ⟨_, rfl, .inl rfl⟩
  | 1, _ => exact ⟨_, rfl, .inr (.inl rfl)⟩
  | 2, _ => exact ⟨_, rfl, .inr (.inr (.inl rfl))⟩
  | 3, _ => exact ⟨_, rfl, .inr (.inr (.inr rfl))⟩
theorem pick4_item {prog : Program} {w : World} {A : Around} {E : Value → Shared → Prop} {hS : Heap} {gS : Array GenState} {dS : Drawn} {tS : Nat} {oS : OsState} {h₀ : Heap} {L l : Addr} {f : Fix} {r : Raw} {Z : List (Addr × Obj)} {k : Int} {u : Tok} {a b c d : Value} {value slice : PySem.Expr} {Q : Value → Shared → Prop} (N : News h₀ L hS (Z ++ led f r)) (hp : (l, tupOf [a, b, c, d]) ∈ Z ++ led f r) (hk : 0 ≤ k ∧ k < 4)
    (h : ∀ v, (v = a ∨ v = b ∨ v = c ∨ v = d) → Q v ⟨hS, gS, dS, tS, oS⟩)
    (hs : subscripted slice false (.ref l) (.int k u) = operate [.ref l, .int k u] (getItem (.ref l) (.int k u)) := by with_unfolding_all rfl) :
    wpAny (model prog w) A (subscriptTail value slice (.ref l) (.int k u)) Q E ⟨hS, gS, dS, tS, oS⟩ := by
  refine hide ?_
  intro GG hGG
  obtain ⟨v, hv, hvv⟩ := pick4 (a := a) (b := b) (c := c) (d := d) hk
  refine hGG ?_
  try clear hGG GG
  exact itemT N hp hk.1 (by (first | k_extra "z k_ar" | lia | omega)) hv (h v hvv) hs
theorem obj_da {f : Fix} {r : Raw} {Z : List (Addr × Obj)} {a1 a2 a3 a4 ai e1 e2 : Addr} {i1 i2 i3 i4 i5 i6 i7 i8 i9 j1 j2 j3 j4 : Int} {t1 t2 t3 t4 t5 t6 t7 t8 t9 u1 u2 u3 u4 : Tok} {v : Value} (nd : Sep f r Z)
    (h1 : (a1, tupOf [.int i1 t1, .int i2 t2, .int i3 t3]) ∈ r.imm) (h2 : (a2, tupOf [.int i4 t4, .int i5 t5]) ∈ r.imm) (h3 : (a3, tupOf [.int i6 t6, .int i7 t7, .int i8 t8]) ∈ r.imm)
    (h4 : (a4, tupOf [.int i9 t9, .int j1 u1, .none, .ref ai, .ref e2, .int j2 u2]) ∈ r.imm) (hi : (ai, tupOf [.int j3 u3, .int j4 u4, .ref e1]) ∈ r.imm) (he1 : (e1, tupOf []) ∈ r.imm) (he2 : (e2, tupOf []) ∈ r.imm)
    (hv : v = .ref a1 ∨ v = .ref a2 ∨ v = .ref a3 ∨ v = .ref a4) : ∃ d, Da r.imm v d := by
  rcases hv with rfl | rfl | rfl | rfl
  · exact ⟨_, .tup h1 (.int (.int (.int .nil))) .nil⟩
  · exact ⟨_, .tup h2 (.int (.int .nil)) .nil⟩
  · exact ⟨_, .tup h3 (.int (.int (.int .nil))) .nil⟩
  · exact ⟨_, .tup h4 (.int (.int (.none (.tup hi (.int (.int (.tup he1 .nil .nil))) (.tup he2 .nil (.int .nil)))))) .nil⟩
theorem to_imm8 {h₀ h : Heap} {L : Addr} {f : Fix} {r : Raw} {Z : List (Addr × Obj)} {q1 q2 q3 q4 q5 q6 q7 q8 : Addr × Obj} (N : News h₀ L h ((q1 :: q2 :: q3 :: q4 :: q5 :: q6 :: q7 :: q8 :: Z) ++ led f r)) (nd : Sep f r (q1 :: q2 :: q3 :: q4 :: q5 :: q6 :: q7 :: q8 :: Z)) : NS h₀ L h f (r.s_imm (q8 :: q7 :: q6 :: q5 :: q4 :: q3 :: q2 :: q1 :: r.imm)) Z := by
  refine hide ?_
  intro GG hGG
  obtain ⟨N0, nd0⟩ := to_imm N nd
  obtain ⟨N1, nd1⟩ := to_imm N0 nd0
  obtain ⟨N2, nd2⟩ := to_imm N1 nd1
  obtain ⟨N3, nd3⟩ := to_imm N2 nd2
  obtain ⟨N4, nd4⟩ := to_imm N3 nd3
  obtain ⟨N5, nd5⟩ := to_imm N4 nd4
  obtain ⟨N6, nd6⟩ := to_imm N5 nd5
  obtain ⟨N7, nd7⟩ := to_imm N6 nd6
  refine hGG ?_
  try clear hGG GG
  exact ⟨N7, nd7⟩
inductive Da8 (h₀ : Heap) (L : Addr) (h : Heap) (f : Fix) (r : Raw) (Z : List (Addr × Obj)) (a1 a2 a3 a4 : Addr) : Prop
  | mk (imm' : List (Addr × Obj)) : (∀ p ∈ r.imm, p ∈ imm') → News h₀ L h (Z ++ led f (r.s_imm imm')) → Sep f (r.s_imm imm') Z → (∀ v, (v = .ref a1 ∨ v = .ref a2 ∨ v = .ref a3 ∨ v = .ref a4) → ∃ d, Da imm' v d) → Da8 h₀ L h f r Z a1 a2 a3 a4
theorem obj_da8 {h₀ h : Heap} {L : Addr} {f : Fix} {r : Raw} {Z : List (Addr × Obj)} {l a1 a2 a3 a4 ai e1 e2 : Addr} {i1 i2 i3 i4 i5 i6 i7 i8 i9 j1 j2 j3 j4 : Int} {t1 t2 t3 t4 t5 t6 t7 t8 t9 u1 u2 u3 u4 : Tok} {vs : List Value}
    (N : News h₀ L h (((l, tupOf vs) :: (a4, tupOf [.int i9 t9, .int j1 u1, .none, .ref ai, .ref e2, .int j2 u2]) :: (e2, tupOf []) :: (ai, tupOf [.int j3 u3, .int j4 u4, .ref e1]) :: (e1, tupOf []) :: (a3, tupOf [.int i6 t6, .int i7 t7, .int i8 t8]) :: (a2, tupOf [.int i4 t4, .int i5 t5]) :: (a1, tupOf [.int i1 t1, .int i2 t2, .int i3 t3]) :: Z) ++ led f r))
    (nd : Sep f r ((l, tupOf vs) :: (a4, tupOf [.int i9 t9, .int j1 u1, .none, .ref ai, .ref e2, .int j2 u2]) :: (e2, tupOf []) :: (ai, tupOf [.int j3 u3, .int j4 u4, .ref e1]) :: (e1, tupOf []) :: (a3, tupOf [.int i6 t6, .int i7 t7, .int i8 t8]) :: (a2, tupOf [.int i4 t4, .int i5 t5]) :: (a1, tupOf [.int i1 t1, .int i2 t2, .int i3 t3]) :: Z)) :
    Da8 h₀ L h f r Z a1 a2 a3 a4 := by
  obtain ⟨N7, nd7⟩ := to_imm8 N nd
  refine ⟨_, fun _ h => ?_, N7, nd7, fun v hv => ?_⟩
  · exact .tail _ (.tail _ (.tail _ (.tail _ (.tail _ (.tail _ (.tail _ (.tail _ h)))))))
  · exact obj_da (r := r.s_imm _) nd7 (.head _) (.tail _ (.head _)) (.tail _ (.tail _ (.head _))) (.tail _ (.tail _ (.tail _ (.tail _ (.tail _ (.tail _ (.head _))))))) (.tail _ (.tail _ (.tail _ (.tail _ (.head _))))) (.tail _ (.tail _ (.tail _ (.head _)))) (.tail _ (.tail _ (.tail _ (.tail _ (.tail _ (.head _)))))) hv
theorem need_dt (G : Gst) (st : Bool) (how : Int) (name : Str) (at_ c k : Int) (d : PyData) : (needR tellR G st how name at_ c k d).2.dt = G.dt := by
  unfold needR
  split
  · split
    · exact tellR_dt ..
    · rfl
  · split
    · exact tellR_dt ..
    · split
      · exact tellR_dt ..
      · rfl
theorem need_da {imm : List (Addr × Obj)} {x : Value} {G : Gst} {st : Bool} {how at_ c k : Int} {name : Str} {d : PyData} (hD : Da imm x (needR tellT (needR tellR G st how name at_ c k d).2 st how name at_ c k d).1) (R : Rest G) (W : Wf G) :
    Da imm x (needR tellR G st how name at_ c k d).1 ∧ Rest (needR tellT (needR tellR G st how name at_ c k d).2 st how name at_ c k d).2 ∧ Wf (needR tellT (needR tellR G st how name at_ c k d).2 st how name at_ c k d).2 ∧ Same G (needR tellT (needR tellR G st how name at_ c k d).2 st how name at_ c k d).2 1 := by
  refine hide ?_
  intro GG hGG
  obtain ⟨a, b, c, d⟩ := need_pure (st := st) (how := how) (at_ := at_) (c := c) (k := k) (name := name) (d := d) R W
  refine hGG ?_
  try clear hGG GG
  exact ⟨a ▸ hD, b, c, d⟩
theorem ints_dat {α : Type} {g : α → Int} {imm : List (Addr × Obj)} {n : Nat} : ∀ {ys : List Value} {l : List α}, ys.length = l.length → (∀ (i : Nat) y, ys[i]? = some y → ∃ v t, l[i]? = some v ∧ y = .int (g v) t) → Dat imm n ys (l.map fun v => .int (g v))
  | [], [], _, _ => .nil
  | [], _ :: _, h, _ => by simp at h
  | _ :: _, [], h, _ => by simp at h
  | y :: ys, v :: l, h, hy => by
    refine hide ?_
    intro GG hGG
    obtain ⟨u, t, e1, rfl⟩ := hy 0 y rfl
    refine hGG ?_
    try clear hGG GG
    simp at e1; subst e1
    exact .int (ints_dat (by simpa using h) fun i z hz => by simpa using hy (i + 1) z (by simpa using hz))
theorem can_m (i : Nat) (h : i < 2) : (PyData.str (Str.ofString "m" ++ Str.ofString (toString (0 + (i : Int) * 1)))).canLay0 = true := by
  match i, h with
  | 0, _ => decide +kernel
  | 1, _ => decide +kernel
theorem nums_at {k : Int} {t1 t2 : Tok} (h : 0 ≤ k ∧ k < 2) : ∃ x t, [Value.int 26 t1, Value.int 120 t2][k.toNat]? = some (.int x t) ∧ (x = 26 ∨ x = 120) := by
  refine hide ?_
  intro GG hGG
  obtain ⟨n, hn, rfl⟩ : ∃ n : Nat, n < 2 ∧ k = (n : Int) := ⟨k.toNat, by (first | k_extra "z k_ar" | lia | omega), by (first | k_extra "z k_ar" | lia | omega)⟩
  refine hGG ?_
  try clear hGG GG
  match n, hn with
  | 0, _ => exact ⟨_, _, rfl, .inl rfl⟩
  | 1, _ => exact ⟨_, _, rfl, .inr rfl⟩
theorem names_get {i : Nat} {v : Value} {t1 t2 t3 t4 : Tok} (h : [Value.str (Str.ofString "a") t1, Value.str (Str.ofString "b") t2, Value.str (Str.ofString "c") t3, Value.str (Str.ofString "d") t4][i]? = some v) : ∃ x t, v = .str x t ∧ x ∈ nameL := by
  have hi := (List.getElem?_eq_some_iff.mp h).1
  refine hide ?_
  intro GG hGG
  obtain ⟨x, t, hx, hn⟩ := names_at (k := (i : Int)) (t1 := t1) (t2 := t2) (t3 := t3) (t4 := t4) ⟨by (first | k_extra "z k_ar" | lia | omega), by simp at hi; (first | k_extra "z k_ar" | lia | omega)⟩
  refine hGG ?_
  try clear hGG GG
  exact ⟨x, t, Option.some.inj (h.symm.trans hx), hn⟩
theorem over3 {a b c : Str} {m m₀ : Str → Option Value} (h : ∀ y, y ∉ [a, b, c] → m y = m₀ y) : ∃ u1 u2 u3, m = bind1 a u1 (bind1 b u2 (bind1 c u3 m₀)) := by
  refine ⟨m a, m b, m c, ?_⟩
  funext y
  unfold bind1
  by_cases e1 : y = a
  · subst e1; simp
  by_cases e2 : y = b
  · subst e2; simp [e1]
  by_cases e3 : y = c
  · subst e3; simp [e1, e2]
  simp only [e1, e2, e3, if_false]
  exact h y (by simp [e1, e2, e3])
inductive StEndN (h₀ : Heap) (L : Addr) (gS : Array GenState) (dS : Drawn) (oS : OsState) (f : Fix) (Z : List (Addr × Obj)) (m₀ : Str → Option Value) (ns : List Str) (P : Raw → Prop) (s₂ : Shared) : Prop
  | mk (h' : Heap) (tk' : Nat) (r' : Raw) (m' : Str → Option Value) : s₂ = ⟨h', gS, dS, tk', oS⟩ → Fr h₀ L h' m' → (∀ y, y ∉ ns → m' y = m₀ y) → News h₀ L h' (Z ++ led f r') → Sep f r' Z → P r' → StEndN h₀ L gS dS oS f Z m₀ ns P s₂
inductive StJ (f : Fix) (Z : List (Addr × Obj)) (m₀ : Str → Option Value) (ns : List Str) (P : Nat → Raw → Prop) (i : Nat) (m₁ : Str → Option Value) (n₁ : List (Addr × Obj)) : Prop
  | mk (r' : Raw) : n₁ = Z ++ led f r' → Sep f r' Z → P i r' → (∀ y, y ∉ ns → m₁ y = m₀ y) → StJ f Z m₀ ns P i m₁ n₁
inductive AsI (w : World) (f : Fix) (G : Gst) (oc : Obj) (r2 : Raw) (k : Nat) (r' : Raw) : Prop
  | mk (G' : Gst) : Ok w f r' G' → Wf G' → Rest G' → Same { G with stands := G.stands + 1 } G' k → r'.ocx = oc → Gw r2 r' → AsI w f G oc r2 k r'
noncomputable def StEnd (h₀ : Heap) (L : Addr) (gS : Array GenState) (dS : Drawn) (oS : OsState) (f : Fix) (Z : List (Addr × Obj)) (m₀ : Str → Option Value) (ns : List Str) (P : Raw → Prop) (Q : Flow → Shared → Prop) (fl : Flow) (s₂ : Shared) : Prop :=
  match fl with
  | .ret v => Q (.ret v) s₂
  | .brk => False
  | _ => StEndN h₀ L gS dS oS f Z m₀ ns P s₂
theorem StEnd.intro {h₀ : Heap} {L : Addr} {gS : Array GenState} {dS : Drawn} {oS : OsState} {f : Fix} {Z : List (Addr × Obj)} {m₀ m' : Str → Option Value} {ns : List Str} {P : Raw → Prop} {Q : Flow → Shared → Prop} {h' : Heap} {tk' : Nat} {r' : Raw}
    (F : Fr h₀ L h' m') (hm : ∀ y, y ∉ ns → m' y = m₀ y) (N : News h₀ L h' (Z ++ led f r')) (nd : Sep f r' Z) (hp : P r') : StEnd h₀ L gS dS oS f Z m₀ ns P Q .next ⟨h', gS, dS, tk', oS⟩ := ⟨_, _, _, _, rfl, F, hm, N, nd, hp⟩
theorem loop_st {LL : Addr} {prog : Program} {w : World} {A : Around} {E : Value → Shared → Prop} {hS : Heap} {gS : Array GenState} {dS : Drawn} {tS : Nat} {oS : OsState} {env : Env} {h₀ : Heap} {x : Str} {body : List Stmt} {Q : Flow → Shared → Prop} {f : Fix} {R : Raw} {Z : List (Addr × Obj)} {m₀ : Str → Option Value} {l : Addr} {vs : List Value} (ns : List Str) (P : Nat → Raw → Prop)
    (hh : A.handled = none) (F : Fr h₀ LL hS m₀) (N : News h₀ LL hS (Z ++ led f R)) (nd : Sep f R Z) (hp : (l, tupOf vs) ∈ Z) (h0 : P 0 R)
    (turn : ∀ (i : Nat) (v : Value) (r' : Raw) (m₁ : Str → Option Value) (I : Addr) (io : Obj) (h : Heap) (tk : Nat), vs[i]? = some v → P i r' → (∀ y, y ∉ ns → m₁ y = m₀ y) → Sep f r' ((I, io) :: Z) → Fr h₀ LL h (fun y => if y = x then some v else m₁ y) → News h₀ LL h (((I, io) :: Z) ++ led f r') →
      wpAny (model prog w) A (execs body env) (StEnd h₀ LL gS dS oS f ((I, io) :: Z) m₀ ns (P (i + 1)) Q) E ⟨h, gS, dS, tk, oS⟩)
    (done : ∀ (r' : Raw) (m₁ : Str → Option Value) (h : Heap) (tk : Nat), P vs.length r' → (∀ y, y ∉ ns → m₁ y = m₀ y) → Fr h₀ LL h m₁ → News h₀ LL h (Z ++ led f r') → Sep f r' Z → Q .next ⟨h, gS, dS, tk, oS⟩)
    (hL : env.locals = LL := by rfl) :
    wpAny (model prog w) A (pyIter (.ref l)) (fun it s₂ => LoopAtV prog w A h₀ env x body Q E it s₂) E ⟨hS, gS, dS, tS, oS⟩ := by
  subst hL
  refine iterT (vs := vs) (StJ f Z m₀ ns P) hh F N (mem_Z hp) ⟨R, rfl, nd, h0, fun _ _ => rfl⟩ ?_ ?_
  · rintro i v m₁ n₁ I io h tk hv ⟨r', rfl, nd1, hP, hm⟩ _ hI F1 N1
    refine wpAny_mono (turn i v r' m₁ I io h tk hv hP hm (Sep.cons' (q := (I, io)) nd1 hI) F1 N1) (fun fl s₂ e => ?_) fun _ _ e => e
    cases fl with
    | ret v => exact e
    | brk => exact e.elim
    | next =>
      refine hide ?_
      intro GG hGG
      obtain ⟨h', tk', r'', m', rfl, F2, hm2, N2, nd2, hp2⟩ := e
      refine hGG ?_
      try clear hGG GG
      exact turn_next (Z ++ led f r'') F2 N2 (fun p hq => by rw [List.mem_singleton.mp hq]; exact mem_Z hp) nd2.ne ⟨r'', rfl, nd2.drop, hp2, hm2⟩ rfl
    | cont =>
      refine hide ?_
      intro GG hGG
      obtain ⟨h', tk', r'', m', rfl, F2, hm2, N2, nd2, hp2⟩ := e
      refine hGG ?_
      try clear hGG GG
      exact ⟨h', tk', m', Z ++ led f r'', rfl, F2, N2, fun p hq => by rw [List.mem_singleton.mp hq]; exact mem_Z hp, nd2.ne, r'', rfl, nd2.drop, hp2, hm2⟩
  · rintro m₁ n₁ h tk ⟨r', rfl, nd1, hP, hm⟩ F1 N1
    exact done r' m₁ h tk hP hm F1 N1 nd1
theorem over7 {a b c d e f g : Str} {m m₀ : Str → Option Value} (h : ∀ y, y ∉ [a, b, c, d, e, f, g] → m y = m₀ y) : ∃ u1 u2 u3 u4 u5 u6 u7, m = bind1 a u1 (bind1 b u2 (bind1 c u3 (bind1 d u4 (bind1 e u5 (bind1 f u6 (bind1 g u7 m₀)))))) := by
  refine ⟨m a, m b, m c, m d, m e, m f, m g, ?_⟩
  funext y
  unfold bind1
  by_cases e1 : y = a
  · subst e1; simp
  by_cases e2 : y = b
  · subst e2; simp [e1]
  by_cases e3 : y = c
  · subst e3; simp [e1, e2]
  by_cases e4 : y = d
  · subst e4; simp [e1, e2, e3]
  by_cases e5 : y = e
  · subst e5; simp [e1, e2, e3, e4]
  by_cases e6 : y = f
  · subst e6; simp [e1, e2, e3, e4, e5]
  by_cases e7 : y = g
  · subst e7; simp [e1, e2, e3, e4, e5, e6]
  simp only [e1, e2, e3, e4, e5, e6, e7, if_false]
  exact h y (by simp [e1, e2, e3, e4, e5, e6, e7])
theorem loop_rg {LL : Addr} {prog : Program} {w : World} {A : Around} {E : Value → Shared → Prop} {hS : Heap} {gS : Array GenState} {dS : Drawn} {tS : Nat} {oS : OsState} {env : Env} {h₀ : Heap} {x : Str} {body : List Stmt} {Q : Flow → Shared → Prop} {f : Fix} {R : Raw} {Z : List (Addr × Obj)} {m₀ : Str → Option Value} {rg : Addr} {a₀ b₀ c₀ : Int} {t₀ u₀ v₀ : Tok} {n : Nat} (ns : List Str) (P : Nat → Raw → Prop)
    (hh : A.handled = none) (hr : IsRange hS rg a₀ b₀ c₀ t₀ u₀ v₀) (hsmall : Builtin.Range.small a₀ b₀ c₀ = true) (hn : Builtin.Range.rangeSize a₀ b₀ c₀ = (n : Int)) (F : Fr h₀ LL hS m₀) (N : News h₀ LL hS (Z ++ led f R)) (nd : Sep f R Z) (h0 : P 0 R)
    (turn : ∀ (i : Nat) (t : Tok) (r' : Raw) (m₁ : Str → Option Value) (I : Addr) (io : Obj) (h : Heap) (tk : Nat), i < n → P i r' → (∀ y, y ∉ ns → m₁ y = m₀ y) → Sep f r' ((I, io) :: Z) → Fr h₀ LL h (fun y => if y = x then some (.int (a₀ + (i : Nat) * c₀) t) else m₁ y) → News h₀ LL h (((I, io) :: Z) ++ led f r') →
      wpAny (model prog w) A (execs body env) (StEnd h₀ LL gS dS oS f ((I, io) :: Z) m₀ ns (P (i + 1)) Q) E ⟨h, gS, dS, tk, oS⟩)
    (done : ∀ (r' : Raw) (m₁ : Str → Option Value) (h : Heap) (tk : Nat), P n r' → (∀ y, y ∉ ns → m₁ y = m₀ y) → Fr h₀ LL h m₁ → News h₀ LL h (Z ++ led f r') → Sep f r' Z → Q .next ⟨h, gS, dS, tk, oS⟩)
    (hL : env.locals = LL := by rfl) :
    wpAny (model prog w) A (pyIter (.ref rg)) (fun it s₂ => LoopAtV prog w A h₀ env x body Q E it s₂) E ⟨hS, gS, dS, tS, oS⟩ := by
  subst hL
  refine iterR (StJ f Z m₀ ns P) hh hr hsmall hn F N ⟨R, rfl, nd, h0, fun _ _ => rfl⟩ ?_ ?_
  · rintro i t m₁ n₁ I io h tk hi ⟨r', rfl, nd1, hP, hm⟩ hI F1 N1
    refine wpAny_mono (turn i t r' m₁ I io h tk hi hP hm (Sep.cons' (q := (I, io)) nd1 hI) F1 N1) (fun fl s₂ e => ?_) fun _ _ e => e
    cases fl with
    | ret v => exact e
    | brk => exact e.elim
    | next =>
      refine hide ?_
      intro GG hGG
      obtain ⟨h', tk', r'', m', rfl, F2, hm2, N2, nd2, hp2⟩ := e
      refine hGG ?_
      try clear hGG GG
      exact turn_next (Z ++ led f r'') F2 N2 (fun _ h => nomatch h) nd2.ne ⟨r'', rfl, nd2.drop, hp2, hm2⟩ rfl
    | cont =>
      refine hide ?_
      intro GG hGG
      obtain ⟨h', tk', r'', m', rfl, F2, hm2, N2, nd2, hp2⟩ := e
      refine hGG ?_
      try clear hGG GG
      exact ⟨h', tk', m', Z ++ led f r'', rfl, F2, N2, (fun _ h => nomatch h), nd2.ne, r'', rfl, nd2.drop, hp2, hm2⟩
  · rintro m₁ n₁ h tk ⟨r', rfl, nd1, hP, hm⟩ F1 N1
    exact done r' m₁ h tk hP hm F1 N1 nd1
theorem stend_ret {h₀ : Heap} {L : Addr} {gS : Array GenState} {dS : Drawn} {oS : OsState} {s₂ : Shared} {f : Fix} {Z : List (Addr × Obj)} {m₀ : Str → Option Value} {ns : List Str} {P : Raw → Prop} {Q : Flow → Shared → Prop} {v : Value} (h : Q (.ret v) s₂) : StEnd h₀ L gS dS oS f Z m₀ ns P Q (.ret v) s₂ := h
section
variable {w : World} {p : Program} {loose : List Str} {mean : ExcName → Option Value} {mg mb : Str → Option Value}
    {dp un : Nat} {gd : Option (List Code)} {cn : Str} {cs : Scope} {a : Addr} {ccd : Value} {cl : List (Str × Addr)} {outer : List Env} {A₀ : Around} {base h₀ : Heap} {L : Addr} {m : Str → Option Value} {s : Shared} {hS : Heap} {gS : Array GenState} {dS : Drawn} {tS : Nat} {oS : OsState}
    {Q E : Value → Shared → Prop} {f : Fix} {r : Raw} {Z : List (Addr × Obj)} {G : Gst}
theorem lines25 : True := by
  k_with "z StEnd" => ((with_reducible refine stend_ret ?_; try dsimp only))
  trivial
theorem asks_ok {deep fnid up : Int} {td : Tok}
    (C : Cx w p loose mean mg mb cs outer A₀ base h₀ L m hS (Z ++ led f r)) (nd : Sep f r Z) (O : Ok w f r G) (W : Wf G) (R : Rest G) (hb : 1 ≤ G.lv.length) (hdeep : deep = (G.lv.length : Int) - 1) (hfv : G.fs[G.lv.length - 1]? = some (G.fv, fnid, up)) (hup : up ≠ 0 ↔ 0 < deep)
    (hst : 0 ≤ G.stands ∧ G.stands ≤ 8) (hz : G.dr.length ≤ 800) (hdp : dp + 60 < recursionLimit) (hu : un + 380 < cLine)
    (ret : ∀ r' G' h' tk', Fr h₀ L h' m → News h₀ L h' (Z ++ led f r') → Sep f r' Z → Ok w f r' G' → Wf G' → Rest G' → Same { G with stands := G.stands + 1 } G' 7 → Gw r r' → Q (.bool true) ⟨h', gS, dS, tk', oS⟩) :
    wpAny (model PR w) (ktrTop dp un gd cn cs L a ccd cl outer) (call (.ref 981) [.ref f.aw, .ref f.acx, .int deep td]) Q E ⟨hS, gS, dS, tS, oS⟩ := by
 k_with "b" =>
  refine hide ?_
  intro GG hGG
  obtain ⟨at_, tat, left, tl, tm, ts, hW, hat, hlf⟩ := O.wo
  obtain ⟨owner, static, init, b, tb, cat, hC⟩ := O.cx
  have S := O.sta
  have hcx := S.cx
  obtain ⟨B, F, X, N, T, hk⟩ := C
  refine hGG ?_
  try clear hGG GG
  k_dflt k_extra "z enterF"
  k_steps
  refine unhold ?_
  rename Obj.IsDictOf _ _ (wK f _ _ _ _ _) => hW1
  have hoc : r.ocx = r.ocx := rfl
  have gw : Gw r r := ⟨fun _ h => h, rfl, rfl, rfl⟩
  refine take_ok ⟨by k_asm, by k_asm, by k_asm, by k_asm, by k_asm, by first | exact rfl | assumption⟩ (by assumption) (O.s_ow (a := G.made) (b := G.stands + 1) ⟨_, _, _, _, _, _, hW1, hat, hlf⟩) (by decide) (by k_extra "z ev_room") (by k_extra "z ev_room") ?_
  intro g1 tg1 r1 h1 tk1 O1 gr1 F1 N1 nd1 hg1
  have hoc1 : r1.ocx = r.ocx := gr1.ocx
  have gw1 : Gw r r1 := ⟨gr1.imm, gr1.cl, gr1.cd, gr1.fns⟩
  clear hoc gw
  obtain ⟨at1, tat1, left1, tl1, tm1, ts1, hW1', hat1, hlf1⟩ := O1.wo
  have hcx1 := O1.sta.cx
  k_steps
  refine unhold ?_
  refine itemInt (by k_asm) (by k_mem) (.cons _ _ (.cons _ _ (.cons _ _ (.cons _ _ (.cons _ _ (.cons _ _ (.cons _ _ (.cons _ _ (.cons _ _ .nil))))))))) hst.1 (by show G.stands < 9; (first | k_extra "z k_ar" | lia | omega)) (by decide) ?_
  intro pv tpv
  k_steps
  refine unhold ?_
  rename Ok _ _ _ _ => O2
  rename Raw => r2
  rename r2.ocx = _ => hoc2
  rename Gw r r2 => gw2
  refine types_item O2.sets (by k_asm) (fmod_in _ 9 (by decide)) ?_
  intro trs ra tid kk bb t1 t2 hty htr hra hOwn hVal
  rw [← hoc2] at hC
  have mk : MarkIf := trivial
  k_steps
  refine unhold ?_
  rename Fr _ _ _ _ => F5
  refine mid_v F5 (fun x => x = if (g1 + pv).fmod 4 = 1 then 1 else 0) ?_ ?_
  · k_steps
    · exact ⟨_, _, _, by rw [if_pos (by assumption)], rfl, rfl⟩
    · exact ⟨_, _, _, by rw [if_neg (by assumption)], rfl, rfl⟩
  intro sta5 tsta5 tk5 hsta5
  try dsimp only
  k_steps
  refine unhold ?_
  refine itemTI (v := [0, 0, 1, 2].getD ((g1 + pv).fmod 4).toNat 0) (by k_asm) (by k_mem) (.cons _ _ (.cons _ _ (.cons _ _ (.cons _ _ .nil)))) (fmod_in _ 4 (by decide)).1 (fmod_in _ 4 (by decide)).2 (by decide) rfl ?_
  intro tini5
  try dsimp only
  k_steps
  refine unhold ?_
  rename Fr _ _ _ _ => F7
  rename News _ _ _ _ => N7
  rename Sep _ _ _ => nd7
  refine leaf_ok (f := f) ⟨by k_asm, F7, by k_asm, N7, by k_asm, by first | exact rfl | assumption⟩ nd7 (by k_extra "z ev_room") (by k_extra "z ev_room") ?_
  intro an adx ao al h6 tk6 hnode F6 N6 nd6
  try dsimp only
  k_steps
  refine unhold ?_
  rename Fr _ _ _ _ => lF
  with_unfolding_all refine For_invVF lF rfl rfl ?_
  k_steps
  refine unhold ?_
  rename Obj.IsDictOf _ _ (cxK f _ (Value.int tid _) (Value.int sta5 _) (Value.int _ _) _ _) => hC8
  rename Fr _ _ _ _ => F8
  rename News _ _ _ _ => N8
  rename Sep _ _ _ => nd8
  have O8 := O2.s_ocx (v := G.fv) ⟨_, _, _, _, _, _, hC8⟩
  refine loop_st (R := _) ["name", "lid", "level"] (AsI w f G _ r2) rfl F8 N8 nd8 (.head _) ⟨_, O8, W.congr0 rfl rfl rfl, ⟨R.bl, R.lw, R.dr⟩, ⟨rfl, rfl, rfl, rfl, rfl, rfl, rfl, rfl, rfl, rfl, rfl, Nat.le_refl _⟩, rfl, ⟨fun _ h => h, rfl, rfl, rfl⟩⟩ ?_ ?_
  · intro i v r' m₁ I io h tk hv hP hm nd9 F9 N9
    refine hide ?_
    intro GG hGG
    obtain ⟨G9, O9, W9, R9, S9, hoc9, gw9⟩ := hP
    obtain ⟨u1, u2, u3, rfl⟩ := over3 hm
    obtain ⟨x, tx, rfl, hxn⟩ := names_get hv
    have hC9 := dict_eq hoc9 hC8
    have hcx9 := O9.sta.cx
    obtain ⟨hfe, hfp⟩ := find_pure (x := x) W9 R9 (by rw [S9.lv]; exact hb) (by rw [S9.lv, S9.fs, S9.fv]; exact hfv)
    refine hGG ?_
    try clear hGG GG
    clear N8 F8 nd8 O8 hC8
    k_steps
    refine unhold ?_
    refine find_ok ⟨by k_asm, by k_asm, by k_asm, by k_asm, by k_asm, by first | exact rfl | assumption⟩ (by assumption) O9 W9 (by k_extra "z ev_room") (by k_extra "z ev_room") ?_
    intro ft ft1 ft2 h10 tk10 F10 N10 nd10
    try dsimp only
    k_steps
    refine unhold ?_
    refine find_name_ok ⟨by k_asm, by k_asm, by k_asm, by k_asm, by k_asm, by first | exact rfl | assumption⟩ (by assumption) O9 (by rw [R9.bl]; have := W9.l3; (first | k_extra "z k_ar" | lia | omega)) (by k_extra "z ev_room") (by k_extra "z ev_room") ?_
    intro tn h11 tk11 F11 N11 nd11
    try dsimp only
    rw [hfe]
    k_steps
    · exfalso
      rename (findUp x 0 G9.lv (0, 0)).1 ≠ _ => hne
      exact hne rfl
    · rename (findUp x 0 G9.lv (0, 0)).1 ≠ 0 => hne
      refine unhold ?_
      refine hide ?_
      intro GG hGG
      obtain ⟨v, hl1, hl2, hv9, hown, hnone⟩ := hfp hne
      have hcan := can_name (W9.nam v (List.mem_of_getElem? hv9))
      have hdr9 : G9.dr.length ≤ G.dr.length + i := S9.dr
      have hi4 : i < 4 := by have := (List.getElem?_eq_some_iff.mp hv).1; simpa using this
      have hd9 : (G9.lv.length : Int) - 1 = deep := by rw [show G9.lv = G.lv from S9.lv]; (first | k_extra "z k_ar" | lia | omega)
      obtain ⟨q1, q2, q3, q4, q5, q6⟩ := use_pure (at_ := 100 + G.stands) (oB := v.own ≠ fnid) (oL := ((findUp x 0 G9.lv (0, 0)).2 != deep) = true) R9 W9 hv9 (by rw [hown, hd9]; simp)
      refine hGG ?_
      try clear hGG GG
      have hfv9 : (G9.fv, fnid, up) ∈ G9.fs := by rw [S9.fs, S9.fv]; exact List.mem_of_getElem? hfv
      refine local_use_ok (nat := 100 + G.stands) (v := v) (fnid := fnid) (up := up) ⟨by k_asm, by k_asm, by k_asm, by k_asm, by k_asm, by first | exact rfl | assumption⟩ (by assumption) O9 (hnode.mono fun _ h => .tail _ (.tail _ (.tail _ h))) hfv9 ⟨hl1, hl2⟩ hv9 hnone hcan (by (first | k_extra "z k_ar" | lia | omega)) (by k_extra "z ev_room") (by k_extra "z ev_room") ?_
      intro x1 r11 h12 tk12 O11 gr11 hD11 F12 N12 nd12
      try dsimp only
      obtain ⟨ya, yb, yc, yd, ye, yf, hW11, _⟩ := O11.wo
      k_steps
      refine unhold ?_
      refine law_local_ok (v := v.row) (at_ := 100 + G.stands) ⟨by k_asm, by k_asm, by k_asm, by k_asm, by k_asm, by first | exact rfl | assumption⟩ (by assumption) O11 ⟨hl1, hl2⟩ q1 hcan (by rw [q2, ← R9.dr]; (first | k_extra "z k_ar" | lia | omega)) (by k_extra "z ev_room") (by k_extra "z ev_room") ?_
      intro x2 r12 h13 tk13 O12 gr12 hD12 F13 N13 nd13
      try dsimp only
      rw [q3] at hD12
      k_steps
      refine unhold ?_
      refine da_ne_same (imm := r12.imm) (hD11.mono gr12.imm) hD12 (by k_asm) (fun _ h => mem_imm h) (by k_extra "z ev_room") ?_
      k_steps
      exact StEnd.intro (by k_asm) (by k_extra "z ev_off") (dropZ (by k_asm)) (Sep.drop (by assumption)) ⟨_, O12, q5, q4, S9.trans q6, (gr12.ocx.trans gr11.ocx).trans hoc9, gw9.trans (gr11.trans gr12).w⟩
    · have S9' : Same { G with stands := G.stands + 1 } G9 (i + 1) := S9.more (by (first | k_extra "z k_ar" | lia | omega))
      exact StEnd.intro (by k_asm) (by k_extra "z ev_off") (dropZ (by k_asm)) (Sep.drop (by assumption)) ⟨G9, O9, W9, R9, S9', hoc9, gw9⟩
  · intro r9 m₁ h9 tk9 hP hm F9 N9 nd9
    try dsimp only
    refine hide ?_
    intro GG hGG
    obtain ⟨G9, O9, W9, R9, S9, hoc9, gw9⟩ := hP
    obtain ⟨u1, u2, u3, rfl⟩ := over3 hm
    have hC9 := dict_eq hoc9 hC8
    have hcx9 := O9.sta.cx
    obtain ⟨ya, yb, yc, yd, ye, yf, hW9, _⟩ := O9.wo
    refine hGG ?_
    try clear hGG GG
    clear N8 F8 nd8 O8 O2 O1
    have g02 : Gw r r2 ∧ True := ⟨gw2, trivial⟩
    clear gw2 gw1
    have hfv9 : (G9.fv, fnid, up) ∈ G9.fs := by rw [S9.fs, S9.fv]; exact List.mem_of_getElem? hfv
    have hdr9 : G9.dr.length ≤ G.dr.length + 4 := S9.dr
    rw [show G.fv = G9.fv from S9.fv.symm] at hC9 hC8
    rw [show G.its = G9.its from S9.its.symm, show G.xs = G9.xs from S9.xs.symm] at hOwn
    rw [show G.kits = G9.kits from S9.kits.symm] at hVal
    try dsimp only
    k_steps
    refine unhold ?_
    refine hide ?_
    intro GG hGG
    obtain ⟨num, tnum, hnum, hnum2⟩ := nums_at (fmod_in _ 2 (by decide))
    refine hGG ?_
    try clear hGG GG
    refine itemT (by k_asm) (by k_mem) (fmod_in _ 2 (by decide)).1 (fmod_big _ 2 (by decide)) hnum ?_
    k_steps
    refine unhold ?_
    rename Ok _ _ _ _ => O10
    rename Raw => r10
    rename r10.ocx = _ => hoc10
    rename Gw r2 r10 => gw10
    have hm := gw10.imm
    clear gw9
    refine this_ok (nat := 100 + G.stands) (fnid := fnid) (up := up) (b := bb) (k := kk) ⟨by k_asm, by k_asm, by k_asm, by k_asm, by k_asm, by first | exact rfl | assumption⟩ (by assumption) O10 (dict_eq hoc10 hC8) (hnode.mono fun _ h => .tail _ (.tail _ h)) hfv9 (hOwn.mono hm) (hVal.mono hm) (by rcases hnum2 with rfl | rfl <;> decide) (by (first | k_extra "z k_ar" | lia | omega)) (by k_extra "z ev_room") (by k_extra "z ev_room") ?_
    intro x1 r11 h12 tk12 O11 hoc11 gr11 hD11 F12 N12 nd12
    try dsimp only
    obtain ⟨za, zb, zc, zd, ze, zf, hW11, _⟩ := O11.wo
    k_steps
    refine unhold ?_
    refine law_this_ok (at_ := 100 + G.stands) (b := bb) ⟨by k_asm, by k_asm, by k_asm, by k_asm, by k_asm, by first | exact rfl | assumption⟩ (by assumption) O11 (by repeat (first | exact List.Mem.head _ | refine List.Mem.tail _ ?_)) (fmod_in _ 9 (by decide)) (fmod_in _ 4 (by decide)) (gr11.imm _ (hm _ hty)) htr (gr11.imm _ (hm _ hra)) (by rw [tellR_dt, ← R9.dr]; (first | k_extra "z k_ar" | lia | omega)) (by k_extra "z ev_room") (by k_extra "z ev_room") ?_
    intro x2 r12 h13 tk13 O12 gr12 hD12 F13 N13 nd13
    try dsimp only
    rw [← this_same hnum2 (fmod_in (g1 + pv) 4 (by decide)) hsta5 rfl (lam := decide (0 < deep)) (by simpa using hup)] at O12 hD12
    refine hide ?_
    intro GG hGG
    obtain ⟨R12, W12, S12⟩ := tell_pure (c := thisB num sta5 ([0, 0, 1, 2].getD ((g1 + pv).fmod 4).toNat 0) up bb) (at_ := 100 + G.stands) (us := []) R9 W9
    refine hGG ?_
    try clear hGG GG
    k_steps
    refine unhold ?_
    refine da_ne_same (imm := r12.imm) (hD11.mono gr12.imm) hD12 (by k_asm) (fun _ h => mem_imm h) (by k_extra "z ev_room") ?_
    clear O11 O10
    have hoc12 := (gr12.ocx.trans hoc11).trans hoc10
    have gw12 : Gw r2 r12 := gw10.trans (gr11.trans gr12).w
    clear gw10
    have S12' : Same { G with stands := G.stands + 1 } _ 5 := S9.trans S12
    k_steps
    refine unhold ?_
    rename Fr _ _ _ _ => lF2
    with_unfolding_all refine For_invVF lF2 rfl rfl ?_
    k_steps
    refine unhold ?_
    rename IsRange _ _ _ _ _ _ _ _ => rg
    rename Fr _ _ _ _ => F14
    rename News _ _ _ _ => N14
    rename Sep _ _ _ => nd14
    refine loop_rg (n := 2) ["i", "how", "static", "k", "drawn", "obj", "name"] (fun i => AsI w f G _ r2 (5 + i)) rfl rg (small_one (by decide) (by decide) (by decide) (by decide)) (by decide) F14 N14 nd14 ⟨_, O12, W12, R12, S12', hoc12, gw12⟩ ?_ ?_
    · intro i ti r15 m₂ I io h15 tk15 hi2 hP hm15 nd15 F15 N15
      refine hide ?_
      intro GG hGG
      obtain ⟨G15, O15, W15, R15, S15, hoc15, gw15⟩ := hP
      obtain ⟨u1, u2, u3, u4, u5, u6, u7, rfl⟩ := over7 hm15
      have hcx15 := O15.sta.cx
      obtain ⟨ya, yb, yc, yd, ye, yf, hW15, _⟩ := O15.wo
      refine hGG ?_
      try clear hGG GG
      clear F14 N14 nd14 O12 gw12
      k_steps
      refine unhold ?_
      refine itemInt (by k_asm) (by k_mem) (.cons _ _ (.cons _ _ (.cons _ _ (.cons _ _ (.cons _ _ .nil))))) (fmod_in _ 5 (by decide)).1 (fmod_in _ 5 (by decide)).2 (by decide) ?_
      intro how thow
      k_steps
      refine unhold ?_
      rename Ok _ _ _ _ => O16
      refine types_item O16.sets (by k_asm) (fmod_in _ 9 (by decide)) ?_
      intro trs2 ra2 tid2 kk2 bb2 t21 t22 hty2 htr2 hra2 _ _
      k_steps
      refine unhold ?_
      refine pick4_item (by k_asm) (by k_mem) (by assumption) ?_
      intro v hvv
      rename Ok _ _ _ _ => O17
      rename Raw => r17
      rename r17.ocx = _ => hoc17
      rename Gw r2 r17 => gw17
      rename News _ _ _ _ => NA
      rename Sep _ _ _ => ndA
      refine hide ?_
      intro GG hGG
      obtain ⟨imm9, him9, NB7, ndB7, hda⟩ := obj_da8 NA ndA
      clear NA ndA
      have O18 := O17.imm him9
      obtain ⟨d, hd⟩ := hda v hvv
      refine hGG ?_
      try clear hGG GG
      clear hda O17 hvv
      have hm18 : ∀ p ∈ r2.imm, p ∈ imm9 := fun p h => him9 p (gw17.imm p h)
      have hcm := can_m i hi2
      have hfv15 : (G15.fv, fnid, up) ∈ G15.fs := by rw [S15.fs, S15.fv]; exact List.mem_of_getElem? hfv
      have hdr15 : G15.dr.length ≤ G.dr.length + (5 + i) := S15.dr
      have hC18 := dict_eq (show (r17.s_imm imm9).ocx = _ from hoc17) hC8
      rw [show G9.fv = G15.fv from S9.fv.trans S15.fv.symm] at hC18
      rw [show G9.its = G15.its from S9.its.trans S15.its.symm, show G9.xs = G15.xs from S9.xs.trans S15.xs.symm] at hOwn
      rw [show G9.kits = G15.kits from S9.kits.trans S15.kits.symm] at hVal
      have gw18 : Gw r2 (r17.s_imm imm9) := ⟨hm18, gw17.cl, gw17.cd, gw17.fns⟩
      k_steps
      all_goals
        refine unhold ?_
        refine need_ok (nat := 100 + G.stands) (fnid := fnid) (up := up) (b := bb) (k := kk) ⟨by k_asm, by k_asm, by k_asm, by k_asm, by k_asm, by first | exact rfl | assumption⟩ (by assumption) O18 hC18 (hnode.mono fun _ h => by repeat (first | exact h | refine List.Mem.tail _ ?_)) hfv15 (hOwn.mono hm18) (hVal.mono hm18) hcm (by first | exact hd | exact .none .nil) (by (first | k_extra "z k_ar" | lia | omega)) (by k_extra "z ev_room") (by k_extra "z ev_room") ?_
        intro x1 r19 h19 tk19 O19 hoc19 gr19 hD19 F19 N19 nd19
        try dsimp only
        obtain ⟨za, zb, zc, zd, ze, zf, hW19, _⟩ := O19.wo
        k_steps
        refine unhold ?_
        refine object_ok (at_ := 100 + G.stands) (b := bb) ⟨by k_asm, by k_asm, by k_asm, by k_asm, by k_asm, by first | exact rfl | assumption⟩ (by assumption) O19 (by repeat (first | exact List.Mem.head _ | refine List.Mem.tail _ ?_)) (fmod_in _ 9 (by decide)) (fmod_in _ 4 (by decide)) (gr19.imm _ (hm18 _ hty)) htr (gr19.imm _ (hm18 _ hra)) hcm (by first | exact hd.mono gr19.imm | exact .none .nil) (by rw [need_dt, ← R15.dr]; (first | k_extra "z k_ar" | lia | omega)) (by k_extra "z ev_room") (by k_extra "z ev_room") ?_
        intro x2 r20 h20 tk20 O20 gr20 hD20 F20 N20 nd20
        try dsimp only
        rw [← this_same (.inr rfl) (fmod_in (g1 + pv) 4 (by decide)) hsta5 rfl (lam := decide (0 < deep)) (by simpa using hup)] at O20 hD20
        clear O19
        have hoc20 := (gr20.ocx.trans hoc19).trans (show (r17.s_imm imm9).ocx = _ from hoc17)
        have gw20 := gw18.trans (gr19.trans gr20).w
        refine hide ?_
        intro GG hGG
        obtain ⟨hD21, q2, q3, q4⟩ := need_da hD20 R15 W15
        refine hGG ?_
        try clear hGG GG
        clear hD20
        k_steps
        refine unhold ?_
        refine da_ne_same (imm := r20.imm) (hD19.mono gr20.imm) hD21 (by k_asm) (fun _ h => mem_imm h) (by k_extra "z ev_room") ?_
        k_steps
        exact StEnd.intro (by k_asm) (by k_extra "z ev_off") (dropZ (dropZ (by k_asm))) (Sep.drop (Sep.drop (by assumption))) ⟨_, O20, q3, q2, S15.trans q4, hoc20, gw20⟩
    · intro r21 m₂ h21 tk21 hP hm21 F21 N21 nd21
      try dsimp only
      refine hide ?_
      intro GG hGG
      obtain ⟨G21, O21, W21, R21, S21, hoc21, gw21⟩ := hP
      obtain ⟨u1, u2, u3, u4, u5, u6, u7, rfl⟩ := over7 hm21
      have S21s := O21.sta
      have hcx21 := S21s.cx
      have hun21 := S21s.unit
      obtain ⟨ou, ua, ub, uc, ud, ue, hud, hU⟩ := S21s.unitd
      have hdg21 := S21s.dg
      obtain ⟨og, hdgd, hDg⟩ := S21s.dgd
      obtain ⟨ya, yb, yc, yd, ye, yf, hW21, _⟩ := O21.wo
      refine hGG ?_
      try clear hGG GG
      have hC21 := dict_eq hoc21 hC8
      clear F14 N14 nd14 O12 gw12
      k_steps
      refine unhold ?_
      refine dal_ne_same O21.tr (by rw [R21.dr]; exact O21.tt) (by decide) (by k_asm) (fun _ h => mem_imm h) mem_arows mem_atold (by k_extra "z ev_room") ?_
      have hvz : r21.vs.size ≤ 1000 := by have h1 := O21.vdz; have h2 := W21.b10; (first | k_extra "z k_ar" | lia | omega)
      have hlz : r21.vars.size ≤ 1000 := by have h1 := O21.rlz; have h2 := W21.b10; rw [R21.lw, List.length_map] at h1; (first | k_extra "z k_ar" | lia | omega)
      k_steps
      refine unhold ?_
      k_dflt (refine LCg.ListComp_U (F₀ := by k_asm) (by rfl) (by decide) (by rfl) (by decide) (by rfl) ?_)
      k_steps
      refine unhold ?_
      rename Fr _ _ _ _ => F22
      rename News _ _ _ _ => N22
      rename Sep _ _ _ => nd22
      refine compSrcZ (P := fun i y => ∃ v t, G21.bv[i]? = some v ∧ y = .int v.flags t) rfl F22 N22 nd22 (mem_Z (.head _)) (by rw [pick_tail]; simp; (first | k_extra "z k_ar" | lia | omega)) ?_ ?_
      · intro i v I oI C oC D ys m₂ h tk E' hv hC hx F' N'
        have hv2 : r21.vs[i + 1]? = some v := by rw [pick_tail] at hv; simpa [Nat.add_comm] using hv
        have hi : i < G21.bv.length := by have h1 := (Array.getElem?_eq_some_iff.mp hv2).1; have h2 := O21.vdz; (first | k_extra "z k_ar" | lia | omega)
        refine hide ?_
        intro GG hGG
        obtain ⟨vd, vo, hvd, ⟨va, u, vl, varg, vblock, tn, tk1, tf, to, h1, h2, h3, h4⟩, _⟩ := O21.vd.at hi
        obtain rfl : v = .ref va := Option.some.inj (hv2.symm.trans h1)
        refine hGG ?_
        try clear hGG GG
        clear F22 N22
        k_steps
        exact ⟨_, _, rfl, by k_asm, by k_asm, _, _, h3, rfl⟩
      · intro g ys hyl hyp
        unfold LCg.FinE
        intro D h tk F23 N23 o1
        try dsimp only
        have nd23 := sep_off (o := LCg.lst ys) nd22 o1
        replace N23 := news_cons nd23 N23
        have hd1 : Dat r21.imm 8 ys (G21.bv.map fun v => .int v.flags) := ints_dat (by rw [hyl, pick_tail]; simp; have := O21.vdz; (first | k_extra "z k_ar" | lia | omega)) fun i y hy => hyp i y hy
        clear F22 N22 nd22 o1 hyp hyl
        k_steps
        refine unhold ?_
        k_dflt (refine LCg.ListComp_U (F₀ := by k_asm) (by rfl) (by decide) (by rfl) (by decide) (by rfl) ?_)
        k_steps
        refine unhold ?_
        rename Fr _ _ _ _ => F24
        rename News _ _ _ _ => N24
        rename Sep _ _ _ => nd24
        refine compSrcZ (P := fun i y => ∃ v t, G21.lw[i]? = some v ∧ y = .int v.flags t) rfl F24 N24 nd24 mem_avars hlz ?_ ?_
        · intro i v I oI C oC D ys m₂ h tk E' hv hC hx F' N'
          have hi : i < G21.lw.length := by have h1 := (Array.getElem?_eq_some_iff.mp hv).1; have h2 := O21.rlz; (first | k_extra "z k_ar" | lia | omega)
          refine hide ?_
          intro GG hGG
          obtain ⟨ra9, ro9, hrm, ⟨u, n9, tn, tk1, tf, h1, h2, rfl⟩, _⟩ := O21.rl.at hi
          obtain rfl : v = .ref ra9 := Option.some.inj (hv.symm.trans h1)
          refine hGG ?_
          try clear hGG GG
          clear F24 N24
          k_steps
          exact ⟨_, _, rfl, by k_asm, by k_asm, _, _, h2, rfl⟩
        · intro g9 ys9 hyl9 hyp9
          unfold LCg.FinE
          intro D9 h tk F25 N25 o9
          try dsimp only
          have nd25 := sep_off (o := LCg.lst ys9) nd24 o9
          replace N25 := news_cons nd25 N25
          have hd2 : Dat r21.imm 8 ys9 (G21.lw.map fun v => .int v.flags) := ints_dat (by rw [hyl9]; exact O21.rlz) fun i y hy => hyp9 i y hy
          clear F24 N24 nd24 o9 hyp9 hyl9
          rw [R21.lw, List.map_map] at hd2
          k_steps
          refine unhold ?_
          refine dal_eq_same hd1 hd2 (by decide) (by k_asm) (fun _ h => mem_imm h) (mem_Z (.tail _ (.head _))) (mem_Z (.head _)) (by k_extra "z ev_room") ?_
          k_steps
          exact ret _ _ _ _ (by k_asm) (dropZ (dropZ (dropZ (dropZ (dropZ (dropZ (dropZ (dropZ (dropZ (dropZ (dropZ (by k_asm)))))))))))) nd25.drop.drop.drop.drop.drop.drop.drop.drop.drop.drop.drop O21 W21 R21 S21 (g02.1.trans gw21)
 refine no_implicit_lambda% (qo ?_)
 simp (disch := k_dflt k_extra "b") only [↓qs]
end
theorem lvs {N i L d x D : Nat} (hD : D = N + L * d) (hll : i + 1 ≤ L) (hx : i * d = x) : N + (x + d) ≤ D := by
  rw [hD, ← hx, ← Nat.succ_mul]; exact Nat.add_le_add_left (Nat.mul_le_mul_right d hll) N
theorem gl {g g' K : Int} {n d D : Nat} (h : 0 ≤ g ∧ g + (D : Int) ≤ K) (h2 : g ≤ g' ∧ g' ≤ g + (n : Int)) (h3 : n + d ≤ D) : 0 ≤ g' ∧ g' + (d : Int) ≤ K :=
  ⟨Int.le_trans h.1 h2.1, Int.le_trans (Int.add_le_add_right h2.2 d) (by rw [Int.add_assoc, ← Int.natCast_add]; exact Int.le_trans (Int.add_le_add_left (Int.ofNat_le.mpr h3) g) h.2)⟩
theorem su {x a A : Nat} (h3 : 1 + (x + (a + 1)) ≤ A) : 1 + x + a + 1 ≤ A := by rw [Nat.add_assoc, Nat.add_assoc]; exact h3
theorem bu1 {g g' : Int} {D N x d : Nat} (h : 0 ≤ g ∧ g + (D : Int) ≤ 10) (h2 : g ≤ g' ∧ g' ≤ g + ((N + x : Nat) : Int)) (h3 : N + (x + d) ≤ D) : 0 ≤ g' ∧ g' + (d : Int) ≤ 10 := gl h h2 (by rw [Nat.add_assoc]; exact h3)
theorem bu2 {g g' : Int} {A x a : Nat} (h : 0 ≤ g ∧ g + (A : Int) ≤ 9) (h2 : g ≤ g' ∧ g' ≤ g + ((1 + x : Nat) : Int)) (h3 : 1 + (x + (a + 1)) ≤ A) : 0 ≤ g' ∧ g' + (a : Int) ≤ 9 := gl h h2 (Nat.le_of_succ_le (su h3))
theorem bu3 {b b' D N x d K : Nat} (h : b + D ≤ K) (h2 : b' ≤ b + (N + x)) (h3 : N + (x + d) ≤ D) : b' + d ≤ K := Nat.le_trans (Nat.add_le_add_right h2 d) (Nat.le_trans (by rw [Nat.add_assoc, Nat.add_assoc]; exact Nat.add_le_add_left h3 b) h)
theorem bu5 {b b' D N x d A y a : Nat} (h : b + D + 7 * A ≤ 200) (h2 : b' ≤ b + (N + x) + 7 * (1 + y)) (h3 : N + (x + d) ≤ D) (h5 : 1 + (y + (a + 1)) ≤ A) : b' + d + 7 * a ≤ 200 := by lia
theorem bu6 {z z3 z13 F x f : Nat} (h : 1 ≤ z ∧ z + F ≤ 90) (h1 : z ≤ z3) (h2 : z3 ≤ z + 1) (h3 : z3 ≤ z13) (h4 : z13 ≤ z3 + x) (h5 : 1 + (x + f) ≤ F) : 1 ≤ z13 ∧ z13 + f ≤ 90 :=
  ⟨Nat.le_trans h.1 (Nat.le_trans h1 h3), bu3 h.2 (Nat.le_trans h4 (by rw [← Nat.add_assoc]; exact Nat.add_le_add_right h2 x)) h5⟩
theorem bu7 {g g' : Int} {A x a : Nat} (h : 0 ≤ g ∧ g + (A : Int) ≤ 9) (h2 : g ≤ g' ∧ g' ≤ g + ((1 + x + a : Nat) : Int)) (h3 : 1 + (x + (a + 1)) ≤ A) : 0 ≤ g' ∧ g' ≤ 8 :=
  have q := gl (d := 1) h h2 (su h3)
  ⟨q.1, Int.le_of_lt_add_one (b := 8) q.2⟩
theorem bu8 {b b' D N x d A y a : Nat} (h : b + D + 7 * A ≤ 200) (h2 : b' ≤ b + (N + x + d) + 7 * (1 + y + a)) (h3 : N + (x + d) ≤ D) (h5 : 1 + (y + (a + 1)) ≤ A) : b' ≤ 800 := by lia
theorem lvu {un deep n : Nat} (h : un + 380 + 60 * (3 - deep) < n) (hd : deep < 2) : un + 3 + 380 + 60 * (3 - (deep + 1)) < n := by
  match deep, hd with
  | 0, _ => exact Nat.lt_of_le_of_lt (show un + 503 ≤ un + 560 from Nat.add_le_add_left (Nat.le_of_ble_eq_true rfl) un) h
  | 1, _ => exact Nat.lt_of_le_of_lt (show un + 443 ≤ un + 500 from Nat.add_le_add_left (Nat.le_of_ble_eq_true rfl) un) h
theorem lvs10 {d k n deep : Nat} (hd : deep ≤ 2) (h : d + k * (3 - deep) < n) : d + k < n := Nat.lt_of_le_of_lt (Nat.add_le_add_left (Nat.le_mul_of_pos_right k (Nat.sub_pos_of_lt (Nat.lt_succ_of_le hd))) d) h
theorem lvd {dp deep n : Nat} (h : dp + 60 + 10 * (3 - deep) < n) (hd : deep < 2) : dp + 1 + 60 + 10 * (3 - (deep + 1)) < n := by
  match deep, hd with
  | 0, _ => exact Nat.lt_of_le_of_lt (show dp + 81 ≤ dp + 90 from Nat.add_le_add_left (Nat.le_of_ble_eq_true rfl) dp) h
  | 1, _ => exact Nat.lt_of_le_of_lt (show dp + 71 ≤ dp + 80 from Nat.add_le_add_left (Nat.le_of_ble_eq_true rfl) dp) h
theorem bd4 (d : Nat) : ((d + 1 : Nat) : Int) - 1 = (d : Int) := by (first | k_extra "z k_ar" | lia | omega)
theorem lines26 : True := by
  k_with "z call ref" => ((k_here; (with_reducible show wpAny _ _ (call (Value.ref 408) _) _ _ _); refine hold ?_))
  k_with "z call ref" => ((k_here; (with_reducible show wpAny _ _ (call (Value.ref 756) _) _ _ _); refine hold ?_))
  k_with "z call ref" => ((k_here; (with_reducible show wpAny _ _ (call (Value.ref 763) _) _ _ _); refine hold ?_))
  k_with "z call ref" => ((k_here; (with_reducible show wpAny _ _ (call (Value.ref 955) _) _ _ _); refine hold ?_))
  k_with "z call ref" => ((k_here; (with_reducible show wpAny _ _ (call (Value.ref 981) _) _ _ _); refine hold ?_))
  k_with "z call ref" => ((k_here; (with_reducible show wpAny _ _ (call (Value.ref 988) _) _ _ _); refine hold ?_))
  trivial
noncomputable def lvD (n : Nat) : Nat := [10, 3, 1].getD n 0
noncomputable def lvA (n : Nat) : Nat := [9, 3, 1].getD n 0
noncomputable def lvF (n : Nat) : Nat := [5, 2, 1].getD n 0
noncomputable def lvN (n : Nat) : Nat := [4, 2, 1].getD n 0
noncomputable def lvL (n : Nat) : Nat := [2, 1, 0].getD n 0
theorem lv_eq {n : Nat} (h : n ≤ 2) : lvD n = lvN n + lvL n * lvD (n + 1) ∧ lvA n = 1 + lvL n * (lvA (n + 1) + 1) ∧ lvF n = 1 + lvL n * lvF (n + 1) ∧ (n = 2 → lvL n = 0) ∧ lvN n ≤ 4 ∧ lvL n ≤ 2 ∧ lvD n ≤ 10 ∧ lvA n ≤ 9 ∧ lvF n ≤ 5 := by
  match n, h with
  | 0, _ => decide
  | 1, _ => decide
  | 2, _ => decide
noncomputable def LevelSpec (w : World) (deep : Nat) : Prop :=
  ∀ {p : Program} {loose : List Str} {mean : ExcName → Option Value} {mg mb : Str → Option Value}
    {dp un : Nat} {gd : Option (List Code)} {cn : Str} {cs : Scope} {a : Addr} {ccd : Value} {cl : List (Str × Addr)} {outer : List Env} {A₀ : Around} {base h₀ : Heap} {L : Addr} {m : Str → Option Value} {hS : Heap} {gS : Array GenState} {dS : Drawn} {tS : Nat} {oS : OsState}
    {Q E : Value → Shared → Prop} {f : Fix} {r : Raw} {Z : List (Addr × Obj)} {G : Gst} {td : Tok}
    (C : Cx w p loose mean mg mb cs outer A₀ base h₀ L m hS (Z ++ led f r)) (nd : Sep f r Z) (O : Ok w f r G) (W : Wf G) (R : Rest G) (hb : G.lv.length = deep) (hn : ∀ q ∈ G.fs, q.1 ≠ .none) (hnone : G.none = true → deep = 0)
    (hfv : if deep = 0 then G.fv = .none else ∃ fnid up, G.fs[deep - 1]? = some (G.fv, fnid, up))
    (hmd : 0 ≤ G.made ∧ G.made + lvD deep ≤ 10) (hst : 0 ≤ G.stands ∧ G.stands + lvA deep ≤ 9) (hbv : G.bv.length + lvD deep ≤ 10) (hcn : G.cn + lvD deep ≤ 100) (hdr : G.dr.length + lvD deep + 7 * lvA deep ≤ 200)
    (hfz : 1 ≤ r.fns.size ∧ r.fns.size + lvF deep ≤ 90) (hdp : dp + 60 + 10 * (3 - deep) < recursionLimit) (hu : un + 380 + 60 * (3 - deep) < cLine)
    (ret : ∀ r' G' h' tk', Fr h₀ L h' m → News h₀ L h' (Z ++ led f r') → Sep f r' Z → Ok w f r' G' → Wf G' → Rest G' → Lev G G' (lvD deep) (lvA deep) → (∀ p ∈ r.imm, p ∈ r'.imm) → (r.fns.size ≤ r'.fns.size ∧ r'.fns.size ≤ r.fns.size + lvF deep) → Q (.bool true) ⟨h', gS, dS, tk', oS⟩),
    wpAny (model PR w) (ktrTop dp un gd cn cs L a ccd cl outer) (call (.ref 988) [.ref f.aw, .ref f.acx, .int deep td]) Q E ⟨hS, gS, dS, tS, oS⟩
inductive MidM (h₀ : Heap) (L : Addr) (gS : Array GenState) (dS : Drawn) (oS : OsState) (f : Fix) (Z : List (Addr × Obj)) (m₀ : Str → Option Value) (ns : List Str) (P : Raw → (Str → Option Value) → Prop) (fl : Flow) (s₂ : Shared) : Prop
  | mk (e : fl = .next) (h' : Heap) (tk' : Nat) (r' : Raw) (m' : Str → Option Value) : s₂ = ⟨h', gS, dS, tk', oS⟩ → Fr h₀ L h' m' → (∀ y, y ∉ ns → m' y = m₀ y) → News h₀ L h' (Z ++ led f r') → Sep f r' Z → P r' m' → MidM h₀ L gS dS oS f Z m₀ ns P fl s₂
theorem MidM.intro {h₀ : Heap} {L : Addr} {gS : Array GenState} {dS : Drawn} {oS : OsState} {f : Fix} {Z : List (Addr × Obj)} {m₀ m' : Str → Option Value} {ns : List Str} {P : Raw → (Str → Option Value) → Prop} {h' : Heap} {tk' : Nat} {r' : Raw}
    (F : Fr h₀ L h' m') (hm : ∀ y, y ∉ ns → m' y = m₀ y) (N : News h₀ L h' (Z ++ led f r')) (nd : Sep f r' Z) (hp : P r' m') : MidM h₀ L gS dS oS f Z m₀ ns P .next ⟨h', gS, dS, tk', oS⟩ := ⟨rfl, _, _, _, _, rfl, F, hm, N, nd, hp⟩
theorem mid_m {w : World} {prog : Program} {A : Around} {E : Value → Shared → Prop} {t : Sem Flow} {Q' : Flow → Shared → Prop} {gS : Array GenState} {dS : Drawn} {oS : OsState} {hA : Heap} {tA : Nat} {h₀ h : Heap} {L : Addr} {m : Str → Option Value} {f : Fix} {Z : List (Addr × Obj)} {r : Raw} (F : Fr h₀ L h m) (nd : Sep f r Z) (ns : List Str) (P : Raw → (Str → Option Value) → Prop)
    (h1 : wpAny (model prog w) A t (MidM h₀ L gS dS oS f Z m ns P) E ⟨hA, gS, dS, tA, oS⟩) (h2 : ∀ h' tk' r' m', (∀ y, y ∉ ns → m' y = m y) → Fr h₀ L h' m' → News h₀ L h' (Z ++ led f r') → Sep f r' Z → P r' m' → Q' .next ⟨h', gS, dS, tk', oS⟩) : wpAny (model prog w) A t Q' E ⟨hA, gS, dS, tA, oS⟩ :=
  wpAny_mono h1 (fun fl s' hm => by obtain ⟨rfl, h', tk', r', m', rfl, a, b, c, d, e⟩ := hm; exact h2 h' tk' r' m' b a c d e) fun _ _ e => e
theorem ints3 {a b c : Int} {t1 t2 t3 : Tok} : IntsAre [.int a t1, .int b t2, .int c t3] [a, b, c] := .cons _ _ (.cons _ _ (.cons _ _ .nil))
theorem lvL_get {n : Nat} (h : n ≤ 2) : ([2, 1, 0] : List Int).getD ((n : Int)).toNat 0 = (lvL n : Int) := by
  match n, h with
  | 0, _ => decide
  | 1, _ => decide
  | 2, _ => decide
theorem lvN_get {n : Nat} (h : n ≤ 2) : ([4, 2, 1] : List Int).getD ((n : Int)).toNat 0 = (lvN n : Int) := by
  match n, h with
  | 0, _ => decide
  | 1, _ => decide
  | 2, _ => decide
/- the function that a level runs in -/
inductive LvP (w : World) (f : Fix) (r : Raw) (G : Gst) (deep : Nat) (r' : Raw) (m' : Str → Option Value) : Prop
  | mk (lam : Nat) (t : Tok) (v : Value) (fnid up : Int) : m' (Str.ofString "lambdas") = some (.int lam t) → (lam = 0 ∨ lam = lvL deep ∧ G.none = false) → Ok w f r' { G with fv := v } → FnOk w r'.imm r'.lidL r'.fns G.bv.length v fnid up → (v = .none → G.none = true) → (∀ q ∈ G.fs, q.2.1 ≠ fnid) → (up ≠ 0 ↔ 0 < deep) →
    (∀ p ∈ r.imm, p ∈ r'.imm) → r.fns.size ≤ r'.fns.size → r'.fns.size ≤ r.fns.size + 1 → LvP w f r G deep r' m'
inductive LvI (w : World) (f : Fix) (G0 : Gst) (d a : Nat) (r' : Raw) (P : Raw → Prop) : Prop
  | mk (G' : Gst) : Ok w f r' G' → Wf G' → Rest G' → Mid G0 G' d a → P r' → LvI w f G0 d a r' P
inductive LvJ (w : World) (f : Fix) (G0 : Gst) (r r3 : Raw) (d a b : Nat) (r' : Raw) : Prop
  | mk (G' : Gst) : Ok w f r' G' → Wf G' → Rest G' → Mid G0 G' d a → (∀ p ∈ r.imm, p ∈ r'.imm) → r3.fns.size ≤ r'.fns.size → r'.fns.size ≤ r3.fns.size + b → LvJ w f G0 r r3 d a b r'
section
variable {w : World} {p : Program} {loose : List Str} {mean : ExcName → Option Value} {mg mb : Str → Option Value}
    {dp un : Nat} {gd : Option (List Code)} {cn : Str} {cs : Scope} {a : Addr} {ccd : Value} {cl : List (Str × Addr)} {outer : List Env} {A₀ : Around} {base h₀ : Heap} {L : Addr} {m : Str → Option Value} {s : Shared} {hS : Heap} {gS : Array GenState} {dS : Drawn} {tS : Nat} {oS : OsState}
    {Q E : Value → Shared → Prop} {f : Fix} {r : Raw} {Z : List (Addr × Obj)} {G : Gst}
theorem lines27 : True := by
  k_with "z k_handed" => (assumption)
  trivial
theorem sep_head {q p : Addr × Obj} (nd : Sep f r (q :: Z)) (h : p ∈ Z ++ led f r) : p.1 ≠ q.1 := by
  unfold Sep at nd
  rw [List.cons_append, List.map_cons, List.nodup_cons] at nd
  exact fun e => nd.1 (e ▸ List.mem_map_of_mem h)
inductive OpS (w : World) (h₀ : Heap) (L : Addr) (h : Heap) (f : Fix) (r : Raw) (Z : List (Addr × Obj)) (G : Gst) : Prop
  | mk (r' : Raw) : News h₀ L h (Z ++ led f r') → Sep f r' Z → Ok w f r' { G with lv := G.lv ++ [[]] } → (∀ p ∈ r.imm, p ∈ r'.imm) → r'.fns = r.fns → r'.oclosed = r.oclosed → r'.cdL = r.cdL → OpS w h₀ L h f r Z G
theorem open_step {h : Heap} {x : Addr} {n k : Nat} (N : News h₀ L h (((x, listOf #[] k) :: Z) ++ led f (r.s_scopes (r.scopes.push (.ref x)) n))) (nd : Sep f (r.s_scopes (r.scopes.push (.ref x)) n) ((x, listOf #[] k) :: Z)) (O : Ok w f r G) :
    OpS w h₀ L h f r Z G := by
  obtain ⟨N6, nd6⟩ := to_sl N nd
  exact ⟨_, N6, nd6, O.lopened fun p hp => sep_head nd (mem_sl hp), fun _ h => h, rfl, rfl, rfl⟩
theorem Gw.empty {r r' : Raw} {d : Int} (g : Gw r r') (h : EmptyAt w r.oclosed r.cdL d) : EmptyAt w r'.oclosed r'.cdL d := by rw [g.cl, g.cd]; exact h
theorem level_ok {deep : Nat} (hd2 : deep ≤ 2) (IH : deep < 2 → LevelSpec w (deep + 1)) : LevelSpec w deep := by
  intro p loose mean mg mb dp un gd cn cs a ccd cl outer A₀ base h₀ L m hS gS dS tS oS Q E f r Z G td C nd O W R hb hn hnone hfv hmd hst hbv hcn hdr hfz hdp hu ret
  refine hide ?_
  intro GG hGG
  obtain ⟨hD, hA, hF, hL2, hN4, hLm, hD10, hA9, hF5⟩ := lv_eq hd2
  have hdp0 : dp + 70 < recursionLimit := lvs10 (d := dp + 60) hd2 hdp
  have hun0 : un + 440 < cLine := lvs10 (d := un + 380) hd2 hu
  obtain ⟨at_, tat, left, tl, tm, ts, hW, hat, hlf⟩ := O.wo
  obtain ⟨owner, static, init, b, tb, cat, hC⟩ := O.cx
  have S := O.sta
  have hcx := S.cx
  have hun := S.unit
  obtain ⟨ou, ua, ub, uc, ud, ue, hud, hU⟩ := S.unitd
  have hfd : (deep = 0 ∧ G.fv = .none) ∨ (1 ≤ deep ∧ ∃ fa fnid up, G.fv = .ref fa ∧ 1 ≤ fnid ∧ FnIs w r.imm (.ref fa) fnid up) := by
    by_cases h0 : deep = 0
    · rw [if_pos h0] at hfv; exact .inl ⟨h0, hfv⟩
    · rw [if_neg h0] at hfv
      obtain ⟨fnid, up, hq⟩ := hfv
      have hm := List.mem_of_getElem? hq
      have h1 := O.fn _ hm
      have h2 := hn _ hm
      dsimp only at h1 h2
      generalize G.fv = v at h1 h2
      cases h1 with
      | none => exact absurd rfl h2
      | fn a b c d e g i => exact .inr ⟨by (first | k_extra "z k_ar" | lia | omega), _, _, _, rfl, i.1, .fn a b c⟩
  have hhi : handedIn G.fv = true := by
    rcases hfd with ⟨_, h⟩ | ⟨_, _, _, _, h, _⟩ <;> rw [h] <;> rfl
  obtain ⟨B, F, X, N, T, hk⟩ := C
  refine hGG ?_
  try clear hGG GG
  k_dflt k_extra "z enterF"
  k_steps
  refine unhold ?_
  refine itemTI (v := lvL deep) (by k_asm) (by k_mem) ints3 (by (first | k_extra "z k_ar" | lia | omega)) (by show (deep : Int) < 3; (first | k_extra "z k_ar" | lia | omega)) (by decide) (lvL_get hd2) ?_
  intro t1
  have mk : MarkIf := trivial
  k_steps
  refine unhold ?_
  rename Fr _ _ _ _ => F1
  rename Sep _ _ _ => nd1
  refine mid_m F1 nd1 ["lambdas", "up"] (LvP w f r G deep) ?_ ?_
  · k_steps
    · have h0 : deep = 0 := hnone (by assumption)
      have hv : G.fv = .none := by rcases hfd with ⟨_, h⟩ | ⟨h, _⟩; exact h; (first | k_extra "z k_ar" | lia | omega)
      have hfs : G.fs = [] := List.eq_nil_of_length_eq_zero (by rw [W.len]; (first | k_extra "z k_ar" | lia | omega))
      exact MidM.intro (by k_asm) (by first | k_extra "z ev_off" | (intro y hy; simp only [List.mem_cons, List.not_mem_nil, or_false, not_or] at hy; obtain ⟨z1, z2⟩ := hy; simp +zetaDelta only [z1, z2, if_false, hv])) (by k_asm) nd1 ⟨0, _, .none, 0, 0, rfl, .inl rfl, O.s_ocx (o := r.ocx) (v := .none) ⟨owner, static, init, b, tb, cat, by rw [← hv]; exact hC⟩, .none, fun _ => by assumption, (by rw [hfs]; intro q hq; exact nomatch hq), by (first | k_extra "z k_ar" | lia | omega), fun _ h => h, Nat.le_refl _, by (first | k_extra "z k_ar" | lia | omega)⟩
    · dsimp +zetaDelta only at F1
      rcases hfd with ⟨h0, hv⟩ | ⟨h0, fa, fnid, up, hv, hf1, hIs⟩
      all_goals rw [hv] at F1 ⊢
      · k_steps
        refine unhold ?_
        refine new_fn_ok ⟨by k_asm, by k_asm, by k_asm, by k_asm, by k_asm, by first | exact rfl | assumption⟩ (by assumption) O (by (first | k_extra "z k_ar" | lia | omega)) (by k_extra "z ev_room") (by k_extra "z ev_room") ?_
        intro t2 x r2 h2 tk2 O2 hFn2 hfns2 him2 F2 N2 nd2
        try dsimp only
        obtain ⟨owner2, static2, init2, b2, tb2, cat2, hC2⟩ := O2.cx
        have hcx2 := O2.sta.cx
        have hf2 : r2.fns.size = r.fns.size + 1 := by rw [hfns2, Array.size_push]
        k_steps
        refine unhold ?_
        refine itemL (by k_asm) mem_afns (by (first | k_extra "z k_ar" | lia | omega)) (by (first | k_extra "z k_ar" | lia | omega)) (v := .ref x) (by rw [hfns2]; simp) ?_
        k_steps
        rename Obj.IsDictOf _ _ (cxK f (Value.ref x) _ _ _ _ _) => hC3
        refine MidM.intro (by k_asm) (by first | k_extra "z ev_off" | (intro y hy; simp only [List.mem_cons, List.not_mem_nil, or_false, not_or] at hy; obtain ⟨z1, z2⟩ := hy; simp +zetaDelta only [z1, z2, if_false, hv])) (by k_asm) (by assumption) ⟨lvL deep, t1, .ref x, r.fns.size, 0, rfl, .inr ⟨rfl, by assumption⟩, O2.s_ocx (v := .ref x) ⟨_, _, _, _, _, _, hC3⟩, hFn2, (by intro h; cases h), fun q hq => Int.ne_of_lt ((O.fn q hq).low hfz.1), by (first | k_extra "z k_ar" | lia | omega), him2, by show r.fns.size ≤ r2.fns.size; (first | k_extra "z k_ar" | lia | omega), by show r2.fns.size ≤ _; (first | k_extra "z k_ar" | lia | omega)⟩
      · cases hIs with
        | fn a b c =>
        k_steps
        refine unhold ?_
        refine new_fn_ok ⟨by k_asm, by k_asm, by k_asm, by k_asm, by k_asm, by first | exact rfl | assumption⟩ (by assumption) O (by (first | k_extra "z k_ar" | lia | omega)) (by k_extra "z ev_room") (by k_extra "z ev_room") ?_
        intro t2 x r2 h2 tk2 O2 hFn2 hfns2 him2 F2 N2 nd2
        try dsimp only
        obtain ⟨owner2, static2, init2, b2, tb2, cat2, hC2⟩ := O2.cx
        have hcx2 := O2.sta.cx
        have hf2 : r2.fns.size = r.fns.size + 1 := by rw [hfns2, Array.size_push]
        k_steps
        refine unhold ?_
        refine itemL (by k_asm) mem_afns (by (first | k_extra "z k_ar" | lia | omega)) (by (first | k_extra "z k_ar" | lia | omega)) (v := .ref x) (by rw [hfns2]; simp) ?_
        k_steps
        rename Obj.IsDictOf _ _ (cxK f (Value.ref x) _ _ _ _ _) => hC3
        refine MidM.intro (by k_asm) (by first | k_extra "z ev_off" | (intro y hy; simp only [List.mem_cons, List.not_mem_nil, or_false, not_or] at hy; obtain ⟨z1, z2⟩ := hy; simp +zetaDelta only [z1, z2, if_false, hv])) (by k_asm) (by assumption) ⟨lvL deep, t1, .ref x, r.fns.size, fnid, rfl, .inr ⟨rfl, by assumption⟩, O2.s_ocx (v := .ref x) ⟨_, _, _, _, _, _, hC3⟩, hFn2, (by intro h; cases h), fun q hq => Int.ne_of_lt ((O.fn q hq).low hfz.1), by (first | k_extra "z k_ar" | lia | omega), him2, by show r.fns.size ≤ r2.fns.size; (first | k_extra "z k_ar" | lia | omega), by show r2.fns.size ≤ _; (first | k_extra "z k_ar" | lia | omega)⟩
  · intro h3 tk3 r3 m3 hm3 F3 N3 nd3 hP3
    try dsimp only
    refine hide ?_
    intro GG hGG
    obtain ⟨lam, t3, v, fnid, up, hl3, hlam, O3, hFn3, hv3, hf3, hup, him3, hs31, hs32⟩ := hP3
    obtain ⟨u1, u2, rfl⟩ := over2 hm3
    obtain rfl : u1 = some (.int lam t3) := by simpa [bind1] using hl3
    clear hl3 hm3 F1 nd1
    have hbl := R.bl
    replace O3 : Ok w f r3 { G with fv := v, fs := G.fs ++ [(v, fnid, up)] } := O3.s_fs fun q hq => by
      rcases List.mem_append.mp hq with h | h
      · exact O3.fn q h
      · rw [List.mem_singleton.mp h]; exact hFn3
    obtain ⟨W7, R7⟩ := open_wf (v := v) (fnid := fnid) (up := up) W R (by (first | k_extra "z k_ar" | lia | omega)) hn (fun h => List.eq_nil_of_length_eq_zero (by rw [W.len, hb]; exact hnone (hv3 h))) hf3
    obtain ⟨ya, yb, yc, yd, ye, yf, hW3, _⟩ := O3.wo
    have hcx3 := O3.sta.cx
    obtain ⟨ca, cb, cc, ce, cf, cg, hC3⟩ := O3.cx
    refine hGG ?_
    try clear hGG GG
    k_steps
    refine unhold ?_
    refine push_ok ⟨by k_asm, by k_asm, by k_asm, by k_asm, by k_asm, by first | exact rfl | assumption⟩ (by assumption) O3 (by show G.bl.length < 3; rw [hbl]; (first | k_extra "z k_ar" | lia | omega)) (by k_extra "z ev_room") (by k_extra "z ev_room") ?_
    intro b4 t4 r4 h4 tk4 O4 hE4 hfn4 him4 F4 N4 nd4
    try dsimp only
    obtain ⟨ya, yb, yc, yd, ye, yf, hW4, _⟩ := O4.wo
    have hsz4 : r4.scopes.size ≤ 900 := by have h : r4.scopes.size = G.lv.length := O4.slz; (first | k_extra "z k_ar" | lia | omega)
    clear hW3
    k_steps
    refine unhold ?_
    rename News _ _ _ _ => N5
    rename Sep _ _ _ => nd5
    rename Fr _ _ _ _ => lF
    refine hide ?_
    intro GG hGG
    obtain ⟨r7, N7, nd7, O7, him7, hfn7, hoc7, hcd7⟩ := open_step N5 nd5 O4
    refine hGG ?_
    try clear hGG GG
    replace O7 : Ok w f r7 (openG G v fnid up) := O7
    have hE7 : EmptyAt w r7.oclosed r7.cdL (deep + 1) := by
      rw [hoc7, hcd7]
      have h := hE4
      rw [show ((G.bl.length : Int) + 1) = (deep : Int) + 1 by rw [hbl, hb]] at h
      exact h
    clear N5 nd5 O4 hE4
    with_unfolding_all refine For_invVF lF rfl rfl ?_
    k_steps
    refine unhold ?_
    refine itemTI (v := lvN deep) (by k_asm) (by k_mem) ints3 (by (first | k_extra "z k_ar" | lia | omega)) (by show (deep : Int) < 3; (first | k_extra "z k_ar" | lia | omega)) (by decide) (lvN_get hd2) ?_
    intro t5
    k_steps
    refine unhold ?_
    rename IsRange _ _ _ _ _ _ _ _ => rg
    rename Fr _ _ _ _ => F8
    rename News _ _ _ _ => N8
    rename Sep _ _ _ => nd8
    refine loop_rg (n := lvN deep) ["i"] (fun i r' => LvI w f (openG G v fnid up) i 0 r' (Gw r7)) rfl rg (small_one (by decide) (by decide) (by (first | k_extra "z k_ar" | lia | omega)) (by (first | k_extra "z k_ar" | lia | omega))) (by rw [rangeSize_one]; split <;> (first | k_extra "z k_ar" | lia | omega)) F8 N8 nd8 ⟨_, O7, W7, R7, Mid.refl _, ⟨fun _ h => h, rfl, rfl, rfl⟩⟩ ?_ ?_
    · intro i ti r9 m9 I io h9 tk9 hi hP hm9 nd9 F9 N9
      refine hide ?_
      intro GG hGG
      obtain ⟨G9, O9, W9, R9, M9, gw9⟩ := hP
      obtain ⟨u3, rfl⟩ := over1 hm9
      clear N8 F8 nd8 O7
      have hl9 : G9.lv.length = deep + 1 := M9.lv1 hb
      have hfs9 : G9.fs[G9.lv.length - 1]? = some (G9.fv, fnid, up) := M9.fs1 hb W.len
      obtain ⟨es, hes⟩ : ∃ es, G9.lv[G9.lv.length - 1]? = some es := ⟨_, List.getElem?_eq_getElem (by (first | k_extra "z k_ar" | lia | omega))⟩
      refine hGG ?_
      try clear hGG GG
      have hma : G.made ≤ G9.made ∧ G9.made ≤ G.made + i := M9.made
      have hbv9 : G9.bv.length ≤ G.bv.length + i := M9.bv
      have hcn9 : G9.cn ≤ G.cn + i := M9.cn
      have hdr9 : G9.dr.length ≤ G.dr.length + i + 7 * 0 := M9.dr
      k_steps
      refine unhold ?_
      refine law_declare_ok ⟨by k_asm, by k_asm, by k_asm, by k_asm, by k_asm, by first | exact rfl | assumption⟩ (by assumption) O9 W9 R9 (by (first | k_extra "z k_ar" | lia | omega)) hes (by rw [hl9]; exact gw9.empty hE7) hfs9 (by (first | k_extra "z k_ar" | lia | omega)) (by (first | k_extra "z k_ar" | lia | omega)) (by (first | k_extra "z k_ar" | lia | omega)) (by (first | k_extra "z k_ar" | lia | omega)) (by k_extra "z ev_room") (by k_extra "z ev_room") ?_
      intro r10 G10 h10 tk10 F10 N10 nd10 O10 W10 R10 D10 gw10
      try dsimp only
      k_steps
      exact StEnd.intro (by k_asm) (by k_extra "z ev_off") (by k_asm) (by assumption) ⟨G10, O10, W10, R10, M9.trans (Mid.decl D10), gw9.trans gw10⟩
    · intro r9 m9 h9 tk9 hP hm9 F9 N9 nd9
      try dsimp only
      refine hide ?_
      intro GG hGG
      obtain ⟨G9, O9, W9, R9, M9, gw9⟩ := hP
      obtain ⟨u3, rfl⟩ := over1 hm9
      refine hGG ?_
      try clear hGG GG
      clear N8 F8 nd8 O7
      have hl9 : G9.lv.length = deep + 1 := M9.lv1 hb
      have hfs9 : G9.fs[G9.lv.length - 1]? = some (G9.fv, fnid, up) := M9.fs1 hb W.len
      have hsa : G.stands ≤ G9.stands ∧ G9.stands ≤ G.stands + ((0 : Nat) : Int) := M9.stands
      have hdr9 : G9.dr.length ≤ G.dr.length + lvN deep + 7 * 0 := M9.dr
      k_steps
      refine unhold ?_
      refine asks_ok (deep := (deep : Int)) (fnid := fnid) (up := up) ⟨by k_asm, by k_asm, by k_asm, by k_asm, by k_asm, by first | exact rfl | assumption⟩ (by assumption) O9 W9 R9 (by rw [hl9]; exact Nat.succ_le_succ (Nat.zero_le _)) (by rw [hl9]; exact (bd4 _).symm) hfs9 (by rw [hup]; (first | k_extra "z k_ar" | lia | omega)) (by (first | k_extra "z k_ar" | lia | omega)) (by (first | k_extra "z k_ar" | lia | omega)) (by k_extra "z ev_room") (by k_extra "z ev_room") ?_
      intro r11 G11 h11 tk11 F11 N11 nd11 O11 W11 R11 S11 gw11
      try dsimp only
      have M11 := M9.trans (Mid.ask S11)
      have gw12 := gw9.trans gw11
      clear O9 M9 hfs9
      k_steps
      refine unhold ?_
      rename Fr _ _ _ _ => lF2
      with_unfolding_all refine For_invVF lF2 rfl rfl ?_
      k_steps
      refine unhold ?_
      rename IsRange _ _ _ _ _ _ _ _ => rg2
      rename Fr _ _ _ _ => F12
      rename News _ _ _ _ => N12
      rename Sep _ _ _ => nd12
      have hrf : r3.fns = r7.fns := (hfn7.trans hfn4).symm
      have him12 : ∀ p ∈ r.imm, p ∈ r11.imm := fun p h => gw12.imm p (him7 p (him4 p (him3 p h)))
      refine loop_rg (n := lam) ["i"] (fun i r' => LvJ w f (openG G v fnid up) r r3 (lvN deep + i * lvD (deep + 1)) (1 + i * (lvA (deep + 1) + 1)) (i * lvF (deep + 1)) r') rfl rg2 (small_one (by decide) (by decide) (by (first | k_extra "z k_ar" | lia | omega)) (by (first | k_extra "z k_ar" | lia | omega))) (by rw [rangeSize_one]; split <;> (first | k_extra "z k_ar" | lia | omega)) F12 N12 nd12 ⟨_, O11, W11, R11, M11.more (by (first | k_extra "z k_ar" | lia | omega)) (by (first | k_extra "z k_ar" | lia | omega)), him12, by rw [gw12.fns, hrf]; exact Nat.le_refl _, by rw [gw12.fns, hrf]; exact Nat.le_add_right _ _⟩ ?_ ?_
      · intro i ti r13 m13 I io h13 tk13 hi hP hm13 nd13 F13 N13
        refine hide ?_
        intro GG hGG
        obtain ⟨G13, O13, W13, R13, M13, him13, hs13, hs13'⟩ := hP
        obtain ⟨u5, rfl⟩ := over1 hm13
        clear N12 F12 nd12 O11 W11 R11 M11
        have hlt : deep < 2 := by
          rcases hlam with h | ⟨h, _⟩
          · (first | k_extra "z k_ar" | lia | omega)
          · by_cases q : deep < 2
            · exact q
            · have := hL2 (by (first | k_extra "z k_ar" | lia | omega)); (first | k_extra "z k_ar" | lia | omega)
        have hnn : G.none = false := by
          rcases hlam with h | ⟨_, h⟩
          · (first | k_extra "z k_ar" | lia | omega)
          · exact h
        have hll : i + 1 ≤ lvL deep := by rcases hlam with h | ⟨h, _⟩ <;> (first | k_extra "z k_ar" | lia | omega)
        obtain ⟨xD, hxD⟩ : ∃ x, i * lvD (deep + 1) = x := ⟨_, rfl⟩
        obtain ⟨xA, hxA⟩ : ∃ x, i * (lvA (deep + 1) + 1) = x := ⟨_, rfl⟩
        obtain ⟨xF, hxF⟩ : ∃ x, i * lvF (deep + 1) = x := ⟨_, rfl⟩
        refine hGG ?_
        try clear hGG GG
        have hmD : lvN deep + (xD + lvD (deep + 1)) ≤ lvD deep := lvs hD hll hxD
        have hmA : 1 + (xA + (lvA (deep + 1) + 1)) ≤ lvA deep := lvs hA hll hxA
        have hmF : 1 + (xF + lvF (deep + 1)) ≤ lvF deep := lvs hF hll hxF
        rw [hxD, hxA] at M13
        rw [hxF] at hs13'
        clear hD hA hF
        have hl13 : G13.lv.length = deep + 1 := M13.lv1 hb
        have hfs13 : G13.fs[G13.lv.length - 1]? = some (G13.fv, fnid, up) := M13.fs1 hb W.len
        have hma : G.made ≤ G13.made ∧ G13.made ≤ G.made + ((lvN deep + xD : Nat) : Int) := M13.made
        have hsa : G.stands ≤ G13.stands ∧ G13.stands ≤ G.stands + ((1 + xA : Nat) : Int) := M13.stands
        have hbv9 : G13.bv.length ≤ G.bv.length + (lvN deep + xD) := M13.bv
        have hcn9 : G13.cn ≤ G.cn + (lvN deep + xD) := M13.cn
        have hdr9 : G13.dr.length ≤ G.dr.length + (lvN deep + xD) + 7 * (1 + xA) := M13.dr
        have hno : G13.none = false := M13.none.trans hnn
        have hfn9 : ∀ q ∈ G13.fs, q.1 ≠ .none := by
          rw [M13.fs]
          intro q hq
          rcases List.mem_append.mp hq with h | h
          · exact hn q h
          · rw [List.mem_singleton.mp h]; intro e; rw [hv3 e] at hnn; cases hnn
        k_steps
        refine unhold ?_
        rw [show ((deep : Int) + 1) = ((deep + 1 : Nat) : Int) from rfl]
        refine IH hlt ⟨by k_asm, by k_asm, by k_asm, by k_asm, by k_asm, by first | exact rfl | assumption⟩ (by assumption) O13 W13 R13 hl13 hfn9 (by rw [hno]; intro h; cases h) (by rw [if_neg (Nat.succ_ne_zero _)]; exact ⟨_, _, by rw [hl13] at hfs13; exact hfs13⟩) (bu1 hmd hma hmD) (bu2 hst hsa hmA) (bu3 hbv hbv9 hmD) (bu3 hcn hcn9 hmD) (bu5 hdr hdr9 hmD hmA) (bu6 hfz (by assumption) (by assumption) hs13 hs13' hmF) (lvd hdp hlt) (lvu hu hlt) ?_
        intro r14 G14 h14 tk14 F14 N14 nd14 O14 W14 R14 L14 him14 hs14
        try dsimp only
        have M14 := M13.trans L14.mid
        have hl14 : G14.lv.length = deep + 1 := M14.lv1 hb
        have hfs14 : G14.fs[G14.lv.length - 1]? = some (G14.fv, fnid, up) := M14.fs1 hb W.len
        have hsb : G.stands ≤ G14.stands ∧ G14.stands ≤ G.stands + ((1 + xA + lvA (deep + 1) : Nat) : Int) := M14.stands
        have hdr14 : G14.dr.length ≤ G.dr.length + (lvN deep + xD + lvD (deep + 1)) + 7 * (1 + xA + lvA (deep + 1)) := M14.dr
        clear O13
        k_steps
        refine unhold ?_
        refine asks_ok (deep := (deep : Int)) (fnid := fnid) (up := up) ⟨by k_asm, by k_asm, by k_asm, by k_asm, by k_asm, by first | exact rfl | assumption⟩ (by assumption) O14 W14 R14 (by rw [hl14]; exact Nat.succ_le_succ (Nat.zero_le _)) (by rw [hl14]; exact (bd4 _).symm) hfs14 (by rw [hup]; (first | k_extra "z k_ar" | lia | omega)) (bu7 hst hsb hmA) (bu8 hdr hdr14 hmD hmA) (by k_extra "z ev_room") (by k_extra "z ev_room") ?_
        intro r15 G15 h15 tk15 F15 N15 nd15 O15 W15 R15 S15 gw15
        try dsimp only
        have M15 := M14.trans (Mid.ask S15)
        clear O14
        k_steps
        exact StEnd.intro (by k_asm) (by k_extra "z ev_off") (by k_asm) (by assumption) ⟨G15, O15, W15, R15, M15.more (by rw [Nat.add_mul, hxD]; (first | k_extra "z k_ar" | lia | omega)) (by rw [Nat.add_mul, hxA]; (first | k_extra "z k_ar" | lia | omega)), fun p h => gw15.imm p (him14 p (him13 p h)), by rw [gw15.fns]; (first | k_extra "z k_ar" | lia | omega), by rw [gw15.fns, Nat.add_mul, hxF]; (first | k_extra "z k_ar" | lia | omega)⟩
      · intro r13 m13 h13 tk13 hP hm13 F13 N13 nd13
        try dsimp only
        refine hide ?_
        intro GG hGG
        obtain ⟨G13, O13, W13, R13, M13, him13, hs13, hs13'⟩ := hP
        obtain ⟨u5, rfl⟩ := over1 hm13
        clear N12 F12 nd12 O11 W11 R11 M11
        have hll : lam ≤ lvL deep := by rcases hlam with h | ⟨h, _⟩ <;> (first | k_extra "z k_ar" | lia | omega)
        have hmD : lvN deep + lam * lvD (deep + 1) ≤ lvD deep := by have h := Nat.mul_le_mul_right (lvD (deep + 1)) hll; (first | k_extra "z k_ar" | lia | omega)
        have hmA : 1 + lam * (lvA (deep + 1) + 1) ≤ lvA deep := by have h := Nat.mul_le_mul_right (lvA (deep + 1) + 1) hll; (first | k_extra "z k_ar" | lia | omega)
        have hmF : 1 + lam * lvF (deep + 1) ≤ lvF deep := by have h := Nat.mul_le_mul_right (lvF (deep + 1)) hll; (first | k_extra "z k_ar" | lia | omega)
        replace M13 := M13.more hmD hmA
        clear hD hA hF
        have hl13 : G13.lv.length = deep + 1 := M13.lv1 hb
        obtain ⟨P1, P2, P3⟩ := close_wf W13 R13 M13 W.len
        obtain ⟨ya, yb, yc, yd, ye, yf, hW13, _⟩ := O13.wo
        have hcx13 := O13.sta.cx
        obtain ⟨ca, cb, cc, ce, cf, cg, hC13⟩ := O13.cx
        refine hGG ?_
        try clear hGG GG
        have hbl13 : G13.bl.length = deep + 1 := by rw [R13.bl, hl13]
        k_steps
        refine unhold ?_
        refine pop_ok ⟨by k_asm, by k_asm, by k_asm, by k_asm, by k_asm, by first | exact rfl | assumption⟩ (by assumption) O13 (by (first | k_extra "z k_ar" | lia | omega)) (by rw [R13.bl]; intro es he e hm; obtain ⟨i, hi, rfl⟩ := List.mem_iff_getElem.mp he; exact ((W13.ent i _ (List.getElem?_eq_getElem hi)).2 e hm).1) (by k_extra "z ev_room") (by k_extra "z ev_room") ?_
        intro r14 h14 tk14 F14 N14 nd14 O14 him14 hfn14
        try dsimp only
        refine hide ?_
        intro GG hGG
        obtain ⟨ya, yb, yc, yd, ye, yf, hW14, _⟩ := O14.wo
        have hcx14 := O14.sta.cx
        obtain ⟨da, db, dc, de, df, dg, hC14⟩ := O14.cx
        have hsz14 : r14.scopes.size = deep + 1 := by rw [← hl13]; exact O14.slz
        obtain ⟨y, hy⟩ : ∃ y, r14.scopes.toList[r14.scopes.toList.length - 1]? = some y := ⟨_, List.getElem?_eq_getElem (by rw [Array.length_toList]; (first | k_extra "z k_ar" | lia | omega))⟩
        refine hGG ?_
        try clear hGG GG
        have e1 := last_split hy
        k_steps
        refine unhold ?_
        refine popZ (by k_asm) (by k_asm) (by assumption) e1 (by (first | k_extra "z k_ar" | lia | omega)) (upd_ascopes (by assumption)) ?_
        intro h15 F15 N15 nd15
        try dsimp only
        k_steps
        rename Sep _ _ _ => nd16
        rename Obj.IsDictOf _ _ (cxK f G.fv _ _ _ _ _) => hC16
        have O16 := ((O14.lpopped (n1 := r14.nscopes + 1) e1).s_ocx (v := G.fv) ⟨_, _, _, _, _, _, hC16⟩).s_fs (fs := G13.fs.dropLast) fun q hq => O14.fn q (List.dropLast_subset _ hq)
        exact ret _ (closeG G13 G.fv) _ _ (by k_asm) (dropZ (dropZ (by k_asm))) nd16.drop.drop O16 P1 P2 P3 (fun p h => him14 p (him13 p h)) (by rw [show (Raw.s_ocx _ _).fns = r13.fns from hfn14]; exact ⟨Nat.le_trans hs31 hs13, by (first | k_extra "z k_ar" | lia | omega)⟩)
end
theorem lines28 : True := by
  k_with_none
  k_with "z k_ar" => (first | with_reducible assumption | with_reducible exact ar0 (by assumption) (by k_dflt (exact Eq.refl true)) | with_reducible exact ar4 (by assumption) (by assumption) (by k_dflt (exact Eq.refl true)) | with_reducible exact ar1 (by assumption) (by k_dflt (exact Eq.refl true)) | with_reducible exact ar2 (by assumption) (by k_dflt (exact Eq.refl true)) | with_reducible exact ar3 (by assumption) (by k_dflt (exact Eq.refl true)) | with_reducible exact ar5 (by assumption) (by assumption) (by k_dflt (exact Eq.refl true)) | with_reducible exact ar6 (by assumption) (by assumption) (by k_dflt (exact Eq.refl true)) | with_reducible exact ar7 (by assumption) (by assumption) (by assumption) (by k_dflt (exact Eq.refl true)) | with_reducible exact ar8 (by assumption) (by assumption) (by k_dflt (exact Eq.refl true)) | with_reducible exact ar9 (by assumption) (by assumption) (by k_dflt (exact Eq.refl true)) | with_reducible exact arA (by assumption) (by assumption) (by assumption) (by k_dflt (exact Eq.refl true)) | with_reducible exact arB (by assumption) (by assumption) (by k_dflt (exact Eq.refl true)) | with_reducible exact arC (by assumption) (by assumption) (by assumption) (by k_dflt (exact Eq.refl true)) | with_reducible exact arD (by assumption) (by assumption) | with_reducible exact arE (by assumption) (by assumption) | with_reducible exact arF (by assumption) (by assumption) | with_reducible exact arG (by assumption) (by assumption) | with_reducible exact ai0 (by assumption) (by k_dflt (exact Eq.refl true)) | with_reducible exact ai1 (by assumption) (by k_dflt (exact Eq.refl true)) | with_reducible exact ai2 (by assumption) (by k_dflt (exact Eq.refl true)) | with_reducible exact ai3 (by assumption) (by k_dflt (exact Eq.refl true)) | with_reducible exact ai4 (by assumption) (by k_dflt (exact Eq.refl true)) | with_reducible exact ai5 (by assumption) (by k_dflt (exact Eq.refl true)) | with_reducible exact ai6 (by assumption) (by k_dflt (exact Eq.refl true)) | with_reducible exact ai7 (by assumption) (by k_dflt (exact Eq.refl true)) | with_reducible exact ai8 (by assumption) (by assumption) (by k_dflt (exact Eq.refl true)) | with_reducible exact ai9 (by assumption) (by assumption) (by assumption) (by k_dflt (exact Eq.refl true)) | with_reducible exact aiA (by assumption) (by k_dflt (exact Eq.refl true)) | with_reducible exact aiB (by assumption) (by k_dflt (exact Eq.refl true)) | with_reducible exact aiC (by assumption) (by assumption) (by k_dflt (exact Eq.refl true)) | with_reducible exact ak0 (by assumption) | with_reducible exact ak1 (by assumption) | with_reducible exact ak2 (by assumption) (by assumption) | with_reducible exact ak3 (by assumption) | with_reducible exact ak4 (by assumption) | with_reducible exact ak5 (by assumption) | with_reducible exact ak6 | with_reducible exact ak7 | with_reducible exact ak8 | with_reducible exact ak9 | with_reducible exact akA (by assumption) (by k_dflt (exact Eq.refl true)) | with_reducible exact akB (by assumption) | with_reducible exact akC (by assumption) (by assumption) | with_reducible exact akD (by assumption) (by assumption) | with_reducible exact akE (by assumption) | with_reducible exact akF (by assumption) | with_reducible exact akG (by assumption) (by assumption) | with_reducible exact akI (by assumption) (by assumption) | with_reducible exact akJ (by assumption) (by assumption) (by assumption) | with_reducible exact akK (by assumption) (by assumption) | with_reducible exact akL (by assumption) | with_reducible exact akM (by assumption) (by assumption) | with_reducible exact akN (by assumption))
  k_with "z execs cons" => (((with_reducible refine zSeq ?_); intro zqQ1 zqhq))
  k_with "z SeqQ next" => ((with_reducible refine zNext (by assumption) ?_))
  k_with "z SeqQ ret" => ((with_reducible refine zRet (by assumption) ?_))
  k_with "z SeqQ brk" => ((with_reducible refine zBrk (by assumption) ?_))
  k_with "z SeqQ cont" => ((with_reducible refine zCont (by assumption) ?_))
  k_with "z eval Constant int" => ((refine zInt ?_; intro zqt zqtk))
  k_with "z eval Constant str" => ((refine zStr ?_; intro zqt zqtk))
  k_with "z unaryOp USub int" => ((refine zNeg ?_; intro zqt zqtk))
  k_with "z inplaceOp Add int int" => ((refine zIadd ?_; intro zqt zqtk))
  k_with "z inplaceOp BitOr int int" => ((refine zIor ?_; intro zqt zqtk))
  k_with "z binaryOp Add int int" => ((refine zAdd ?_; intro zqt zqtk))
  k_with "z binaryOp Sub int int" => ((refine zSub ?_; intro zqt zqtk))
  k_with "z binaryOp BitOr int int" => ((refine zOr ?_; intro zqt zqtk))
  k_with "z binaryOp BitAnd int int" => ((refine zAnd ?_; intro zqt zqtk))
  k_with "z binaryOp Mod int int" => ((k_here; k_dflt ((fail_if_success (fail_if_success (refine' zMod ?_ ?_))); refine zMod (by first | decide | assumption | (first | k_extra "z k_ar" | omega)) ?_); intro zqt zqtk))
  k_with "z storeName" => ((k_here; k_dflt (refine zSto (by k_asm) (by k_asm) ?_ (by first | exact rfl | assumption) (by exact rfl)); intro zqh' zqtk zqm' zqF' zqN'; (try k_sweep)))
  k_with "z k_mem" => (first | with_reducible exact mem_aw | with_reducible exact mem_acxd | with_reducible exact mem_avars | with_reducible exact mem_ascopes | with_reducible exact mem_atold | with_reducible exact mem_aconsts | with_reducible exact mem_afns | with_reducible exact mem_avs | with_reducible exact mem_arows | with_reducible exact mem_acxsc | with_reducible exact mem_acxrows | with_reducible exact mem_aclosed | with_reducible exact mem_anotes | ((with_reducible refine mem_Z ?_); k_mem) | ((with_reducible refine mem_imm ?_); assumption) | ((with_reducible refine mem_row ?_); assumption) | ((with_reducible refine mem_vd ?_); assumption) | ((with_reducible refine mem_sl ?_); assumption) | ((with_reducible refine mem_sd ?_); assumption) | ((with_reducible refine mem_cd ?_); assumption) | ((with_reducible refine mem_lid ?_); assumption))
  k_with "z k_upd" => (first | (refine upd_aw ?_; assumption) | (refine upd_acxd ?_; assumption) | (refine upd_avars ?_; assumption) | (refine upd_ascopes ?_; assumption) | (refine upd_atold ?_; assumption) | (refine upd_aconsts ?_; assumption) | (refine upd_afns ?_; assumption) | (refine upd_avs ?_; assumption) | (refine upd_arows ?_; assumption) | (refine upd_acxsc ?_; assumption) | (refine upd_acxrows ?_; assumption) | (refine upd_aclosed ?_; assumption) | (refine upd_anotes ?_; assumption) | (refine upd_row ?_ ?_ <;> assumption) | (refine upd_vd ?_ ?_ <;> assumption) | (refine upd_sl ?_ ?_ <;> assumption) | (refine upd_sd ?_ ?_ <;> assumption) | (refine upd_cd ?_ ?_ <;> assumption) | (refine upd_lid ?_ ?_ <;> assumption))
  k_with "z k_updF" => (first | (refine updF_aw ?_; assumption) | (refine updF_acxd ?_; assumption) | (refine updF_aconsts ?_; assumption) | (refine updF_aclosed ?_; assumption) | (refine updF_anotes ?_; assumption) | (refine updF_vd ?_ ?_ <;> assumption) | (refine updF_sd ?_ ?_ <;> assumption) | (refine updF_cd ?_ ?_ <;> assumption))
  k_with "z getAttr ref" => ((k_here; k_dflt (refine mget (by k_asm) (by k_asm) (by k_asm) (by k_mem) (by k_mem) (by assumption) (by first | with_reducible exact gc_unit | with_reducible exact gc_store | with_reducible exact gc_kt | with_reducible exact gc_diags | with_reducible exact gc_scopes | with_reducible exact gc_rows | with_reducible exact gc_closed | with_reducible exact gc_fn | with_reducible exact gc_owner | with_reducible exact gc_static | with_reducible exact gc_init | with_reducible exact gc_blocks | with_reducible exact gc_at | with_reducible exact gc_notes | rfl) (by k_is) (by k_is) (by k_is) (by k_is) (by k_handed) ?_); intro zqtk))
  k_with "z getMethod ref" => ((k_here; k_dflt (refine mmeth (by k_asm) (by k_asm) (by k_asm) (by k_mem) (by k_mem) (by assumption) (by rfl) (by k_is) (by k_is) (by k_is) ?_)))
  k_with "z setAttr ref" => ((k_here; k_dflt ((fail_if_success (fail_if_success (refine' mset ?_ ?_ ?_ ?_ ?_ ?_ ?_ ?_ ?_ ?_ ?_ _ ?_ ?_ ?_ ?_))); refine mset (by k_asm) (by k_asm) (by k_asm) (by assumption) (by k_mem) (by k_mem) (by assumption) (by k_is) (by k_is) (by k_is) (by k_is) _ (by k_updF) (by exact Nat.le_of_ble_eq_true rfl) (by first | with_reducible exact sc_fn | with_reducible exact sc_owner | with_reducible exact sc_static | with_reducible exact sc_init | with_reducible exact sc_blocks | with_reducible exact sc_at | with_reducible exact sv_flags | with_reducible exact sv_block | rfl) ?_); intro zqh' zqo' zqtk zqF' zqN' zqnd' zqhk'; (try k_sweep)))
  k_with "z subscriptTail" => ((k_here; (with_reducible show wpAny _ _ (subscriptTail _ _ (Value.ref _) (Value.str _ _)) _ _ _); k_dflt (refine ditem (knd := PySem.strKind _ _) (by k_asm) (by k_mem) (by assumption) (strKind_is _ _ _ _) (by first | with_reducible exact gw_in | with_reducible exact gw_at | with_reducible exact gw_left | with_reducible exact gw_vars | with_reducible exact gw_scopes | with_reducible exact gw_told | with_reducible exact gw_consts | with_reducible exact gw_made | with_reducible exact gw_stands | with_reducible exact gw_types | with_reducible exact gw_none | rfl) ?_); intro zqtk))
  k_with "z getItem ref str" => ((k_here; k_dflt (refine dgetItem (knd := PySem.strKind _ _) (by k_asm) (by k_mem) (by assumption) (strKind_is _ _ _ _) (by first | with_reducible exact gw_in | with_reducible exact gw_at | with_reducible exact gw_left | with_reducible exact gw_vars | with_reducible exact gw_scopes | with_reducible exact gw_told | with_reducible exact gw_consts | with_reducible exact gw_made | with_reducible exact gw_stands | with_reducible exact gw_types | with_reducible exact gw_none | rfl) ?_); intro zqtk))
  k_with "z setItem ref str" => ((k_here; k_dflt ((fail_if_success (fail_if_success (refine' dset (knd := PySem.strKind _ _) ?_ ?_ ?_ ?_ ?_ (strKind_is _ _ _ _) _ ?_ ?_ ?_ ?_))); refine dset (knd := PySem.strKind _ _) (by k_asm) (by k_asm) (by assumption) (by k_mem) (by assumption) (strKind_is _ _ _ _) _ (by k_updF) (by exact Nat.le_of_ble_eq_true rfl) (by first | with_reducible exact sw_at | with_reducible exact sw_left | with_reducible exact sw_made | with_reducible exact sw_stands | with_reducible exact sw_none | rfl) ?_); intro zqh' zqo' zqtk zqF' zqN' zqnd' zqhk'; (try k_sweep)))
  k_with "z newTuple" => ((k_here; k_dflt (refine tupN (by k_asm) (by k_asm) (by assumption) (by exact Nat.le_of_ble_eq_true rfl) ?_); intro zql' zqh' zqZ' zqF' zqN' zqnd'; (try k_sweep)))
  k_with "z newList" => ((k_here; k_dflt (refine lstN (by k_asm) (by k_asm) (by assumption) (by exact Nat.le_of_ble_eq_true rfl) ?_); intro zql' zqh' zqZ' zqF' zqN' zqnd'; (try k_sweep)))
  k_with "z eval Dict nil nil" => ((k_here; k_dflt (refine dctN (by k_asm) (by k_asm) (by assumption) (Top.nolimit (by k_asm)) ?_); intro zqd' zqh' zqo' zqZ' zqF' zqN' zqnd' zqlo' zqhs'; (try k_sweep)))
  k_with "z call builtin:list.append" => ((k_here; (with_reducible show wpAny _ _ (call (Value.builtin _) [Value.ref _, _]) _ _ _); k_dflt ((fail_if_success (fail_if_success (refine' appN ?_ ?_ ?_ ?_ ?_ ?_))); refine appN (by k_asm) (by k_asm) (by assumption) (by k_upd) (by first | assumption | (simp; done) | (first | k_extra "z k_ar" | omega)) ?_); intro zqh' zqF' zqN' zqnd'; (try k_sweep)))
  k_with "z call ref" => ((k_here; k_dflt k_extra "z enterF"))
  k_with "z call builtin:len" => ((k_here; (with_reducible show wpAny _ _ (call (Value.builtin "len") [Value.ref _]) _ _ _); k_dflt (refine lenL (by k_asm) (by k_mem) (by first | assumption | (first | k_extra "z k_ar" | omega) | (simp; (first | k_extra "z k_ar" | omega))) ?_); intro zqt zqtk))
  k_with "z ev_mem" => (k_mem)
  k_with "z ev_mt" => (((fail_if_success (fail_if_success (with_reducible refine' mt_list ?_ ?_ PySem.F.slot_list_append PySem.F.type_list_append))); (with_reducible refine mt_list (by with_reducible assumption) (by k_dflt (k_extra "z ev_mem")) PySem.F.slot_list_append PySem.F.type_list_append)))
  k_with "z evl" => (first | with_reducible exact evl_nil | ((fail_if_success (fail_if_success (with_reducible refine' evl_cons ?_ ?_ ?_))); (with_reducible refine evl_cons (by k_dflt (exact Eq.refl true)) (by k_dflt (k_extra "z ev")) (by k_dflt (k_extra "z evl")))))
  k_with "z ev" => (first | with_reducible exact ev_int | with_reducible exact ev_str | with_reducible exact ev_none | ((fail_if_success (fail_if_success (with_reducible refine' ev_loc ?_ ?_ ?_ ?_))); (with_reducible refine ev_loc (by with_reducible assumption) (by with_reducible assumption) (by k_dflt (exact Eq.refl true)) (by k_dflt (first | exact Eq.refl (some _) | with_reducible assumption)))) | ((fail_if_success (fail_if_success (with_reducible refine' ev_glo ?_ ?_ ?_ ?_))); (with_reducible refine ev_glo (by with_reducible assumption) (by with_reducible assumption) (by k_dflt (exact Eq.refl true)) (by k_dflt (k_is)))) | ((fail_if_success (fail_if_success (with_reducible refine' ev_blt ?_ ?_ ?_ ?_ ?_ ?_))); (with_reducible refine ev_blt (by with_reducible assumption) (by with_reducible assumption) (by k_dflt (exact Eq.refl true)) (by k_dflt (k_is)) (by k_dflt (boot_by_name)) (by k_dflt (decide)))) | ((fail_if_success (fail_if_success (with_reducible refine' ev_neg ?_))); (with_reducible refine ev_neg (by k_dflt (k_extra "z ev")))) | ((fail_if_success (fail_if_success (with_reducible refine' ev_add ?_ ?_))); (with_reducible refine ev_add (by k_dflt (k_extra "z ev")) (by k_dflt (k_extra "z ev")))) | ((fail_if_success (fail_if_success (with_reducible refine' ev_sub ?_ ?_))); (with_reducible refine ev_sub (by k_dflt (k_extra "z ev")) (by k_dflt (k_extra "z ev")))) | ((fail_if_success (fail_if_success (with_reducible refine' ev_or ?_ ?_))); (with_reducible refine ev_or (by k_dflt (k_extra "z ev")) (by k_dflt (k_extra "z ev")))) | ((fail_if_success (fail_if_success (with_reducible refine' ev_and ?_ ?_))); (with_reducible refine ev_and (by k_dflt (k_extra "z ev")) (by k_dflt (k_extra "z ev")))) | ((fail_if_success (fail_if_success (with_reducible refine' ev_mod ?_ ?_ ?_))); (with_reducible refine ev_mod (by k_dflt (k_extra "z ev")) (by k_dflt (k_extra "z ev")) (by k_dflt (first | decide | (first | k_extra "z k_ar" | omega))))) | ((fail_if_success (fail_if_success (with_reducible refine' ev_attr ?_ ?_ ?_ ?_ ?_ ?_ ?_ ?_ ?_ ?_ ?_ ?_ ?_ ?_))); (with_reducible refine ev_attr (by with_reducible assumption) (by with_reducible assumption) (by with_reducible assumption) (by k_dflt (k_extra "z ev")) (by k_dflt (k_extra "z ev_mem")) (by k_dflt (k_extra "z ev_mem")) (by k_dflt (assumption)) (by k_dflt (first | with_reducible exact gc_unit | with_reducible exact gc_store | with_reducible exact gc_kt | with_reducible exact gc_diags | with_reducible exact gc_scopes | with_reducible exact gc_rows | with_reducible exact gc_closed | with_reducible exact gc_fn | with_reducible exact gc_owner | with_reducible exact gc_static | with_reducible exact gc_init | with_reducible exact gc_blocks | with_reducible exact gc_at | with_reducible exact gc_notes | rfl)) (by k_dflt (k_is)) (by k_dflt (k_is)) (by k_dflt (k_is)) (by k_dflt (k_is)) (by k_dflt (k_handed)) (by k_dflt (exact Eq.refl true)))) | ((fail_if_success (fail_if_success (with_reducible refine' ev_item (knd := PySem.strKind _ _) ?_ ?_ ?_ ?_ ?_ ?_ (strKind_is _ _ _ _) ?_))); (with_reducible refine ev_item (knd := PySem.strKind _ _) (by with_reducible assumption) (by k_dflt (k_extra "z ev")) (by k_dflt (k_extra "z ev")) (by k_dflt (exact Eq.refl true)) (by k_dflt (k_extra "z ev_mem")) (by k_dflt (assumption)) (strKind_is _ _ _ _) (by k_dflt (first | with_reducible exact gw_in | with_reducible exact gw_at | with_reducible exact gw_left | with_reducible exact gw_vars | with_reducible exact gw_scopes | with_reducible exact gw_told | with_reducible exact gw_consts | with_reducible exact gw_made | with_reducible exact gw_stands | with_reducible exact gw_types | with_reducible exact gw_none | rfl)))))
  k_with "z ev_off" => (first | exact off_same | assumption | (refine off_bind ?_ (Eq.refl true); k_extra "z ev_off"))
  k_with "z ev_room" => (first | exact roomA (by with_reducible assumption) | exact roomB (by with_reducible assumption) (by exact Eq.refl true) | exact roomC (by with_reducible assumption) (by exact Eq.refl true) | exact roomD (by with_reducible assumption) (by exact Eq.refl true) | exact room1 (by with_reducible assumption) (by exact Eq.refl true) | exact room2 (by with_reducible assumption) (by exact Eq.refl true) | exact rooU1 (by with_reducible assumption) (by exact Eq.refl true) | exact rooU2 (by with_reducible assumption) (by exact Eq.refl true) | exact room3 (by with_reducible assumption) (by exact Eq.refl true) | exact rooU3 (by with_reducible assumption) (by exact Eq.refl true) | exact room1 (by assumption) (by exact Eq.refl true) | exact rooU1 (by assumption) (by exact Eq.refl true) | exact room2 (by assumption) (by exact Eq.refl true) | exact rooU2 (by assumption) (by exact Eq.refl true) | exact room3 (by assumption) (by exact Eq.refl true) | exact rooU3 (by assumption) (by exact Eq.refl true) | exact roomE (by assumption) (by exact Eq.refl true) | exact roomF (by assumption) (by exact Eq.refl true) | exact rooUE (by assumption) (by exact Eq.refl true) | ((try simp +zetaDelta only [depth_under_make, depth_under_kw, depth_in1, depth_deeper, depth_caller, units_under_make, units_in1, units_deeper, Around.mark_units, units_caller]); (try dsimp only [ktrTop]); (first | lia | omega)))
  k_with "z enterF" => (first | ((fail_if_success (fail_if_success (refine' enterZ ?_ ?_ ?_ ?_ ?_ ?_ ?_ ?_ ?_ ?_ ?_ ?_ ?_ ?_))); refine enterZ (by exact rfl) (by exact Eq.refl (some _)) (by first | exact Eq.refl ScopeKind.function | assumption) (by k_asm) (by k_asm) (by k_asm) (by k_asm) (by k_asm) (by k_is) (by k_is) (by first | k_extra "z ev_room" | ktr_room) (by exact BindsTo.of_eq rfl) (by exact Eq.refl true) ?_; intro zqg' zqL' zqh' zqtk' zqQ1 zqenv' zqA' zqm0 zqF' zqN' zqB' zqX' zqT' zqbo zqhq) | ((fail_if_success (fail_if_success (refine' enterG ?_ ?_ ?_ ?_ ?_ ?_ ?_ ?_ ?_ ?_ ?_ ?_ ?_ ?_ ?_ ?_ ?_ ?_))); refine enterG (by exact rfl) (by exact rfl) (by first | exact rfl | assumption) (by k_asm) (by k_asm) (by k_asm) (by k_asm) (by k_asm) (by k_is) (by k_is) (by first | k_extra "z ev_room" | ktr_room) (by first | exact BindsTo.of_eq rfl | exact binds_K (by k_in) rfl (by k_is) rfl rfl rfl) (by exact locs rfl) ?_ (by exact rfl) (by exact rfl) (by exact rfl) (by decide); intro zqg' zqL' zqh' zqtk' zqQ1 zqenv' zqA' zqm0 zqF' zqN' zqB' zqX' zqT' zqbo zqhq) | ((fail_if_success (fail_if_success (refine' enterI ?_ ?_ ?_ ?_ ?_ ?_ ?_ ?_ ?_ ?_ ?_ ?_ ?_ ?_))); refine enterI (by exact rfl) (by exact Eq.refl (some _)) (by first | exact Eq.refl ScopeKind.function | assumption) (by k_asm) (by k_asm) (by k_asm) (by k_asm) (by k_asm) (by k_is) (by k_is) (by first | k_extra "z ev_room" | ktr_room) (by exact BindsTo.of_eq rfl) (by exact Eq.refl true) ?_; intro zqg' zqL' zqh' zqtk' zqQ1 zqenv' zqA' zqm0 zqF' zqN' zqB' zqX' zqT' zqbo zqhq) | ((fail_if_success (fail_if_success (refine' enterIG ?_ ?_ ?_ ?_ ?_ ?_ ?_ ?_ ?_ ?_ ?_ ?_ ?_ ?_ ?_ ?_ ?_ ?_))); refine enterIG (by exact rfl) (by exact rfl) (by first | exact rfl | assumption) (by k_asm) (by k_asm) (by k_asm) (by k_asm) (by k_asm) (by k_is) (by k_is) (by first | k_extra "z ev_room" | ktr_room) (by first | exact BindsTo.of_eq rfl | exact binds_K (by k_in) rfl (by k_is) rfl rfl rfl) (by exact locs rfl) ?_ (by exact rfl) (by exact rfl) (by exact rfl) (by decide); intro zqg' zqL' zqh' zqtk' zqQ1 zqenv' zqA' zqm0 zqF' zqN' zqB' zqX' zqT' zqbo zqhq))
  k_with "z eval Name" => ((k_here; k_dflt (refine evQ (by k_extra "z ev") ?_); intro zqtk'))
  k_with "z eval Attribute" => ((k_here; k_dflt (refine evQ (by k_extra "z ev") ?_); intro zqtk'))
  k_with "z eval Attribute Name" => ((k_here; k_dflt (refine evQ (by k_extra "z ev") ?_); intro zqtk'))
  k_with "z eval Attribute Attribute" => ((k_here; k_dflt (refine evQ (by k_extra "z ev") ?_); intro zqtk'))
  k_with "z eval Subscript" => ((k_here; k_dflt (refine evQ (by k_extra "z ev") ?_); intro zqtk'))
  k_with "z eval BinOp" => ((k_here; k_dflt (refine evQ (by k_extra "z ev") ?_); intro zqtk'))
  k_with "z eval UnaryOp" => ((k_here; k_dflt (refine evQ (by k_extra "z ev") ?_); intro zqtk'))
  k_with "z eval Constant int" => ((k_here; k_dflt (refine evQ (by k_extra "z ev") ?_); intro zqtk'))
  k_with "z eval Constant str" => ((k_here; k_dflt (refine evQ (by k_extra "z ev") ?_); intro zqtk'))
  k_with "z spliced" => ((k_here; k_dflt (refine evlQ (by k_extra "z evl") ?_); intro zqtk'))
  k_with "z isTrue Compare" => ((k_here; k_dflt (first | ((fail_if_success (fail_if_success (with_reducible refine' tc_eq ?_ ?_ ?_ ?_))); (with_reducible refine tc_eq (by k_dflt (exact Eq.refl false)) (by k_dflt (k_extra "z ev")) (by k_dflt (k_extra "z ev")) ?_)) | ((fail_if_success (fail_if_success (with_reducible refine' tc_ne ?_ ?_ ?_ ?_))); (with_reducible refine tc_ne (by k_dflt (exact Eq.refl false)) (by k_dflt (k_extra "z ev")) (by k_dflt (k_extra "z ev")) ?_)) | ((fail_if_success (fail_if_success (with_reducible refine' tc_lt ?_ ?_ ?_ ?_))); (with_reducible refine tc_lt (by k_dflt (exact Eq.refl false)) (by k_dflt (k_extra "z ev")) (by k_dflt (k_extra "z ev")) ?_)) | ((fail_if_success (fail_if_success (with_reducible refine' tc_le ?_ ?_ ?_ ?_))); (with_reducible refine tc_le (by k_dflt (exact Eq.refl false)) (by k_dflt (k_extra "z ev")) (by k_dflt (k_extra "z ev")) ?_)) | ((fail_if_success (fail_if_success (with_reducible refine' tc_gt ?_ ?_ ?_ ?_))); (with_reducible refine tc_gt (by k_dflt (exact Eq.refl false)) (by k_dflt (k_extra "z ev")) (by k_dflt (k_extra "z ev")) ?_)) | ((fail_if_success (fail_if_success (with_reducible refine' tc_ge ?_ ?_ ?_ ?_))); (with_reducible refine tc_ge (by k_dflt (exact Eq.refl false)) (by k_dflt (k_extra "z ev")) (by k_dflt (k_extra "z ev")) ?_)) | ((fail_if_success (fail_if_success (with_reducible refine' tc_any ?_ ?_ ?_ ?_))); (with_reducible refine tc_any (by k_dflt (exact Eq.refl false)) (by k_dflt (k_extra "z ev")) (by k_dflt (k_extra "z ev")) ?_))); intro zqtk'))
  k_with "z execs cons" => ((k_here; k_dflt ((fail_if_success (fail_if_success (with_reducible refine' sAsg ?_ ?_ ?_ ?_ ?_ ?_ ?_))); (with_reducible refine sAsg (by with_reducible assumption) (by with_reducible assumption) (by with_reducible assumption) (by k_dflt (exact Eq.refl true)) (by k_dflt (exact Eq.refl true)) (by k_dflt (k_extra "z ev")) ?_)); intro zqh' zqtk' zqm' zqF' zqN'; (try k_sweep)))
  k_with "z execs cons" => ((k_here; k_dflt ((fail_if_success (fail_if_success (with_reducible refine' sRet ?_ ?_))); (with_reducible refine sRet (by k_dflt (k_extra "z ev")) ?_)); intro zqtk'))
  k_with "z AsgW" => ((k_here; k_dflt ((fail_if_success (fail_if_success (with_reducible refine' zAsgW ?_ ?_ ?_ ?_ ?_ ?_))); (with_reducible refine zAsgW (by with_reducible assumption) (by with_reducible assumption) (by with_reducible assumption) (by with_reducible assumption) (by k_dflt (exact Eq.refl true)) ?_)); intro zqh' zqtk' zqm' zqF' zqN'; (try k_sweep)))
  k_with "z FunQ ret" => ((k_here; k_dflt ((fail_if_success (fail_if_success (refine' zFunRet ?_ ?_ ?_ ?_))); refine zFunRet (by with_reducible assumption) (by with_reducible assumption) (by with_reducible assumption) ?_); intro zqkF zqkN; (try k_sweep)))
  k_with "z FunQ next" => ((k_here; k_dflt ((fail_if_success (fail_if_success (refine' zFunNext ?_ ?_ ?_ ?_))); refine zFunNext (by with_reducible assumption) (by with_reducible assumption) (by with_reducible assumption) ?_); intro zqkF zqkN; (try k_sweep)))
  k_with "z eval Call" => ((k_here; k_dflt ((fail_if_success (fail_if_success (with_reducible refine' callG0 ?_ ?_ ?_ ?_ ?_ ?_))); (with_reducible refine callG0 (by with_reducible assumption) (by with_reducible assumption) (by k_dflt (exact Eq.refl true)) (by k_dflt (k_is)) (by k_dflt (k_is)) ?_))))
  k_with "z call builtin:list.append" => ((k_here; dsimp only [List.cons_append, List.nil_append]))
  k_with "z eval Call" => ((k_here; k_dflt ((fail_if_success (fail_if_success (with_reducible refine' callW ?_ ?_ ?_ ?_ ?_ ?_ ?_))); (with_reducible refine callW (by with_reducible assumption) (by with_reducible assumption) (by k_dflt (exact Eq.refl true)) (by k_dflt (k_is)) (by k_dflt (k_is)) (by k_dflt (exact Eq.refl true)) ?_)); intro zqQ1 zqhq))
  k_with "z eval Call Attribute" => ((k_here; k_dflt ((fail_if_success (fail_if_success (with_reducible refine' methW ?_ ?_ ?_ ?_ ?_ ?_ ?_ ?_ ?_ ?_ ?_ ?_ ?_ ?_ ?_))); (with_reducible refine methW (by with_reducible assumption) (by with_reducible assumption) (by with_reducible assumption) (by k_dflt (k_extra "z ev")) (by k_dflt (k_extra "z ev_mem")) (by k_dflt (k_extra "z ev_mem")) (by k_dflt (assumption)) (by k_dflt (rfl)) (by k_dflt (k_is)) (by k_dflt (k_is)) (by k_dflt (k_is)) (by k_dflt (k_is)) (by k_dflt (exact rfl)) (by k_dflt (exact Eq.refl true)) ?_)); intro zqtk' zqQ1 zqhq))
  k_with "z eval Call Attribute" => ((k_here; k_dflt ((fail_if_success (fail_if_success (with_reducible refine' methBW ?_ ?_ ?_ ?_ ?_))); (with_reducible refine methBW (by k_dflt (k_extra "z ev")) (by k_dflt (k_extra "z ev_mt")) (by k_dflt (exact rfl)) (by k_dflt (exact Eq.refl true)) ?_)); intro zqtk'))
  k_with "z ArgW" => ((k_here; first | ((fail_if_success (fail_if_success (with_reducible refine' zArg ?_ ?_ ?_ ?_))); (with_reducible refine zArg (by with_reducible assumption) (by with_reducible assumption) (by with_reducible assumption) ?_)) | ((fail_if_success (fail_if_success (with_reducible refine' zArg1 ?_ ?_ ?_ ?_))); (with_reducible refine zArg1 (by with_reducible assumption) (by with_reducible assumption) (by with_reducible assumption) ?_))))
  k_with "z eval Call" => ((k_here; k_dflt ((fail_if_success (fail_if_success (with_reducible refine' callG ?_ ?_ ?_ ?_ ?_ ?_ ?_ ?_))); (with_reducible refine callG (by with_reducible assumption) (by with_reducible assumption) (by k_dflt (exact Eq.refl true)) (by k_dflt (k_is)) (by k_dflt (k_is)) (by k_dflt (exact Eq.refl true)) (by k_dflt (k_extra "z evl")) ?_)); intro zqtk'))
  k_with "z eval Tuple" => ((k_here; k_dflt ((fail_if_success (fail_if_success (with_reducible refine' tupG ?_ ?_ ?_))); (with_reducible refine tupG (by k_dflt (exact Eq.refl true)) (by k_dflt (k_extra "z evl")) ?_)); intro zqtk'))
  k_with "z eval List" => ((k_here; k_dflt ((fail_if_success (fail_if_success (with_reducible refine' lstG ?_ ?_ ?_))); (with_reducible refine lstG (by k_dflt (exact Eq.refl true)) (by k_dflt (k_extra "z evl")) ?_)); intro zqtk'))
  k_with "z ev" => (((fail_if_success (fail_if_success (with_reducible refine' ev_len ?_ ?_ ?_ ?_ ?_ ?_ ?_ ?_ ?_))); (with_reducible refine ev_len (by with_reducible assumption) (by with_reducible assumption) (by with_reducible assumption) (by k_dflt (exact Eq.refl true)) (by k_dflt (k_is)) (by k_dflt (exact Eq.refl true)) (by k_dflt (k_extra "z ev")) (by k_dflt (k_extra "z ev_mem")) (by k_dflt (first | assumption | (first | k_extra "z k_ar" | omega) | (simp; (first | k_extra "z k_ar" | omega)))))))
  k_with "z eval Call" => ((k_here; k_dflt ((fail_if_success (fail_if_success (with_reducible refine' callB ?_ ?_ ?_ ?_ ?_ ?_ ?_ ?_ ?_))); (with_reducible refine callB (by with_reducible assumption) (by with_reducible assumption) (by k_dflt (exact Eq.refl true)) (by k_dflt (k_is)) (by k_dflt (boot_by_name)) (by k_dflt (decide)) (by k_dflt (exact Eq.refl true)) (by k_dflt (k_extra "z evl")) ?_)); intro zqtk'))
  k_with "z eval Call" => ((k_here; k_dflt ((fail_if_success (fail_if_success (with_reducible refine' callT ?_ ?_ ?_ ?_ ?_ ?_ ?_ ?_ ?_))); (with_reducible refine callT (by with_reducible assumption) (by with_reducible assumption) (by k_dflt (exact Eq.refl true)) (by k_dflt (k_is)) (by k_dflt (boot_by_name)) (by k_dflt (decide)) (by k_dflt (exact Eq.refl true)) (by k_dflt (k_extra "z evl")) ?_)); intro zqtk'))
  k_with "z eval Call Attribute" => ((k_here; k_dflt ((fail_if_success (fail_if_success (with_reducible refine' methG ?_ ?_ ?_ ?_ ?_ ?_ ?_ ?_ ?_ ?_ ?_ ?_ ?_ ?_ ?_ ?_))); (with_reducible refine methG (by with_reducible assumption) (by with_reducible assumption) (by with_reducible assumption) (by k_dflt (k_extra "z ev")) (by k_dflt (k_extra "z ev_mem")) (by k_dflt (k_extra "z ev_mem")) (by k_dflt (assumption)) (by k_dflt (rfl)) (by k_dflt (k_is)) (by k_dflt (k_is)) (by k_dflt (k_is)) (by k_dflt (k_is)) (by k_dflt (exact rfl)) (by k_dflt (exact Eq.refl true)) (by k_dflt (k_extra "z evl")) ?_)); intro zqtk'))
  k_with "z eval Call Attribute" => ((k_here; k_dflt ((fail_if_success (fail_if_success (with_reducible refine' methB ?_ ?_ ?_ ?_ ?_ ?_))); (with_reducible refine methB (by k_dflt (k_extra "z ev")) (by k_dflt (k_extra "z ev_mt")) (by k_dflt (exact rfl)) (by k_dflt (exact Eq.refl true)) (by k_dflt (k_extra "z evl")) ?_)); intro zqtk'))
  k_with "z execs cons" => ((k_here; ((fail_if_success (fail_if_success (with_reducible refine' sExp ?_ ?_ ?_))); (with_reducible refine sExp (by with_reducible assumption) (by k_dflt (k_dflt (exact Eq.refl true))) ?_); intro zqQ1 zqhq)))
  k_with "z InitQ" => ((with_reducible refine initQ ?_))
  k_with "z ExpW" => ((with_reducible refine zExp (by assumption) ?_))
  k_with "z execs cons" => ((k_here; k_dflt ((fail_if_success (fail_if_success (with_reducible refine' sSet ?_ ?_ ?_ ?_))); (with_reducible refine sSet (by k_dflt (exact Eq.refl true)) (by k_dflt (k_extra "z ev")) (by k_dflt (k_extra "z ev")) ?_)); intro zqtk'))
  k_with "z execs cons" => ((k_here; k_dflt ((fail_if_success (fail_if_success (with_reducible refine' sItm ?_ ?_ ?_ ?_ ?_))); (with_reducible refine sItm (by k_dflt (exact Eq.refl true)) (by k_dflt (k_extra "z ev")) (by k_dflt (k_extra "z ev")) (by k_dflt (k_extra "z ev")) ?_)); intro zqtk'))
  k_with "z call ref" => ((k_here; (with_reducible show wpAny _ _ (call (Value.ref 728) [_, _, Value.ref _, _]) _ _ _); k_dflt (refine fault_node_spec ⟨by k_asm, by k_asm, by k_asm, by k_asm, by k_asm, by first | exact rfl | assumption⟩ (by assumption) (by assumption) (by assumption) (by first | assumption | exact NodeAt.mono (by assumption) (fun _ h => .tail _ h)) (by first | assumption | (simp; (first | k_extra "z k_ar" | omega))) (by k_extra "z ev_room") (by k_extra "z ev_room") ?_); intro zqt' zqtn' zqh' zqtk zqF' zqN' zqnd'; (try k_sweep)))
  k_with "z exec For Name Call cons nil" => ((k_here; refine hold ?_))
  k_with "z exec For Name Name cons nil" => ((k_here; refine hold ?_))
  k_with "z exec For Name Subscript cons nil" => ((k_here; refine hold ?_))
  k_with "z exec For Name Tuple cons nil" => ((k_here; refine hold ?_))
  k_with "z exec For Name Attribute cons nil" => ((k_here; refine hold ?_))
  k_with "z pyIter ref" => ((k_here; refine hold ?_))
  k_with "z call type:range" => ((k_here; with_reducible (show wpAny _ _ (call _ [_]) _ _ _); refine range1_rows (by k_asm) (by k_asm) ?_; intro zqh' zqtk' t₁ u₁ v₁ R' F' N' K'))
  k_with "z subscriptTail" => ((k_here; (with_reducible show wpAny _ _ (subscriptTail _ _ (Value.ref _) (Value.int _ _)) _ _ _); first | k_dflt (refine itemT (by k_asm) (by k_mem) (by decide) (by decide) (by rfl) ?_) | k_dflt (refine itemL (by k_asm) (by k_mem) (by decide) (by decide) (by rfl) ?_) | refine hold ?_))
  k_with "z getMethod ref" => ((k_here; (with_reducible show wpAny _ _ (getMethod (Value.ref _) (Str.ofString "get") _) _ _ _); k_dflt (first | refine kdg_method (knd := PySem.strKind _ _) (by k_asm) (by k_mem) (by assumption) ?_ | refine kdg_method (knd := PySem.intKind _ _) (by k_asm) (by k_mem) (by assumption) ?_)))
  k_with "z call builtin:dict.get" => ((k_here; k_dflt (first | (refine dget2 (knd := PySem.strKind _ _) (by k_asm) (by k_mem) (by assumption) (by assumption) (strKind_is _ _ _ _) (by assumption) ?_; intro zqtk; try dsimp only [Option.getD]) | (refine dget2 (knd := PySem.intKind _ _) (by k_asm) (by k_mem) (by assumption) (by assumption) (intKind_is _ _ _ _) (by assumption) ?_; intro zqtk; try dsimp only [Option.getD]) | (refine dget1 (knd := PySem.strKind _ _) (by k_asm) (by k_mem) (by assumption) (by assumption) (strKind_is _ _ _ _) (by assumption) ?_; intro zqtk; try dsimp only [Option.getD]) | (refine dget1 (knd := PySem.intKind _ _) (by k_asm) (by k_mem) (by assumption) (by assumption) (intKind_is _ _ _ _) (by assumption) ?_; intro zqtk; try dsimp only [Option.getD]))))
  k_with "z TurnE" => ((with_reducible refine turn_ret ?_; try dsimp only))
  k_with "z call type:range" => ((k_here; with_reducible (show wpAny _ _ (call _ [_, _, _]) _ _ _); refine range3_rows (by k_asm) (by k_asm) (by decide) ?_; intro zqh' zqtk' t₁ u₁ v₁ R' F' N' K'))
  trivial
noncomputable def HoldS (P : Prop) : Prop := P
theorem unholdS {P : Prop} (h : P) : HoldS P := h
theorem holdS {P : Prop} (h : HoldS P) : P := h
/- a plain ledger, all of whose addresses are apart -/
noncomputable def Ne (Z : List (Addr × Obj)) : Prop := (Z.map (·.1)).Nodup
inductive UpdG (d : Addr) (o : Obj) : List (Addr × Obj) → (Obj → List (Addr × Obj)) → Prop
  | head {T : List (Addr × Obj)} : UpdG d o ((d, o) :: T) (fun o' => (d, o') :: T)
  | tail {q : Addr × Obj} {T : List (Addr × Obj)} {g : Obj → List (Addr × Obj)} : UpdG d o T g → UpdG d o (q :: T) (fun o' => q :: g o')
inductive UpS (d : Addr) (o o' : Obj) : List (Addr × Obj) → List (Addr × Obj) → Prop
  | head {T : List (Addr × Obj)} : UpS d o o' ((d, o) :: T) ((d, o') :: T)
  | tail {q : Addr × Obj} {T T' : List (Addr × Obj)} : UpS d o o' T T' → UpS d o o' (q :: T) (q :: T')
section
variable {d : Addr} {o o' : Obj} {Z Z' : List (Addr × Obj)} {g : Obj → List (Addr × Obj)}
theorem UpS.split (U : UpS d o o' Z Z') : ∃ pre post, Z = pre ++ (d, o) :: post ∧ Z' = pre ++ (d, o') :: post := by
  induction U with
  | head => exact ⟨[], _, rfl, rfl⟩
  | tail _ ih => obtain ⟨pre, post, rfl, rfl⟩ := ih; exact ⟨_ :: pre, post, rfl, rfl⟩
theorem UpS.upd (U : UpS d o o' Z Z') (nd : Ne Z) : Upd d o o' Z Z' := by
  obtain ⟨pre, post, rfl, rfl⟩ := U.split
  exact upd_mid nd
theorem UpS.ne (U : UpS d o o' Z Z') (nd : Ne Z) : Ne Z' := by
  obtain ⟨pre, post, rfl, rfl⟩ := U.split
  unfold Ne at nd ⊢; simpa using nd
theorem UpS.mem (U : UpS d o o' Z Z') : (d, o) ∈ Z := by
  obtain ⟨pre, post, rfl, rfl⟩ := U.split
  simp
theorem Ne.push {x : Addr} (nd : Ne Z) (h : ∀ p ∈ Z, p.1 < x) : Ne ((x, o) :: Z) := by
  unfold Ne at nd ⊢
  rw [List.map_cons, List.nodup_cons]
  refine ⟨fun hm => ?_, nd⟩
  obtain ⟨p, hp, e⟩ := List.mem_map.mp hm
  exact Nat.lt_irrefl _ (e ▸ h p hp)
theorem UpdG.split (U : UpdG d o Z g) : ∃ pre post, Z = pre ++ (d, o) :: post ∧ ∀ o', g o' = pre ++ (d, o') :: post := by
  induction U with
  | head => exact ⟨[], _, rfl, fun _ => rfl⟩
  | tail _ ih => obtain ⟨pre, post, rfl, h⟩ := ih; exact ⟨_ :: pre, post, rfl, fun o' => by show _ :: _ = _; rw [h o']; rfl⟩
theorem UpdG.upd (U : UpdG d o Z g) (nd : Ne Z) (o' : Obj) : Upd d o o' Z (g o') := by
  obtain ⟨pre, post, rfl, h⟩ := U.split
  rw [h]; exact upd_mid nd
theorem UpdG.mem (U : UpdG d o Z g) : (d, o) ∈ Z := by
  obtain ⟨pre, post, rfl, h⟩ := U.split
  simp
theorem UpdG.ne (U : UpdG d o Z g) (nd : Ne Z) (o' : Obj) : Ne (g o') := by
  obtain ⟨pre, post, rfl, h⟩ := U.split
  rw [h]; unfold Ne at nd ⊢; simpa using nd
end
section
variable {prog : Program} {w : World} {A A₀ : Around} {E : Value → Shared → Prop} {s : Shared} {hS : Heap} {gS : Array GenState} {dS : Drawn} {tS : Nat} {oS : OsState} {h₀ base : Heap} {L : Addr} {m : Str → Option Value} {Z imm : List (Addr × Obj)} {K : Frag} {g : Obj → List (Addr × Obj)}
  {x C d dx : Addr} {o od : Obj} {kvs : List (Str × Value)} {name : Str} {v : Value} {attr : Option Value} {M : Model}
theorem tupP {vs : List Value} {Q : Value → Shared → Prop} (F : Fr h₀ L hS m) (N : News h₀ L hS Z) (nd : Ne Z) (hz : vs.length ≤ 1000)
    (h : ∀ a h', Fr h₀ L h' m → News h₀ L h' ((a, tupOf vs) :: Z) → Ne ((a, tupOf vs) :: Z) → Q (.ref a) ⟨h', gS, dS, tS, oS⟩) : wpAny M A (newTuple vs) Q E ⟨hS, gS, dS, tS, oS⟩ :=
  newTuple_N F N (fun h' F' N' => h _ h' F' N' (nd.push fun p hp => Heap.lt_size (N p hp).1)) (by rw [sizeLine_eq]; (first | k_extra "z k_ar" | omega))
theorem lstP {vs : List Value} {Q : Value → Shared → Prop} (F : Fr h₀ L hS m) (N : News h₀ L hS Z) (nd : Ne Z) (hz : vs.length ≤ 1000)
    (h : ∀ a h', Fr h₀ L h' m → News h₀ L h' ((a, listOf vs.toArray 0) :: Z) → Ne ((a, listOf vs.toArray 0) :: Z) → Q (.ref a) ⟨h', gS, dS, tS, oS⟩) : wpAny M A (newList vs) Q E ⟨hS, gS, dS, tS, oS⟩ :=
  newList_N F N (fun h' F' N' => h _ h' F' N' (nd.push fun p hp => Heap.lt_size (N p hp).1)) (by rw [sizeLine_eq]; (first | k_extra "z k_ar" | omega))
theorem dctP {env : Env} {pos : Pos} {Q : Value → Shared → Prop} (F : Fr h₀ L hS m) (N : News h₀ L hS Z) (nd : Ne Z) (hbig : h₀.NoLimit)
    (h : ∀ d h' o, Fr h₀ L h' m → News h₀ L h' ((d, o) :: Z) → Ne ((d, o) :: Z) → (d == sysModules) = false → o.IsDictOf (strKind prog w) [] → o.IsDictOf (intKind prog w) [] → Q (.ref d) ⟨h', gS, dS, tS, oS⟩) :
    wpAny (model prog w) A (eval (.Dict [] [] pos) env) Q E ⟨hS, gS, dS, tS, oS⟩ :=
  newDict_K F N hbig fun d h' o F' N' l lo hs _ hi _ => h d h' o F' N' (nd.push l) lo hs hi
theorem edict_empty (h : o.IsDictOf (strKind prog w) []) : EDictIs prog w imm o [] := by
  obtain ⟨es, ep, h1, h4, h5, h6, h7⟩ := h
  refine ⟨es, ep, h1, h4, ?_, fun x hx => by simp at hx, by simp⟩
  cases he : es.toList with
  | nil => rfl
  | cons a l => rw [he] at h6; cases h6
theorem appP {D : Addr} {its : Array Value} {n : Nat} {y : Value} {Z' : List (Addr × Obj)} {Q : Value → Shared → Prop} (F : Fr h₀ L hS m) (N : News h₀ L hS Z) (nd : Ne Z)
    (U : UpS D (listOf its n) (listOf (its.push y) (n + 1)) Z Z') (hz : its.size ≤ 1000)
    (h : ∀ h', Fr h₀ L h' m → News h₀ L h' Z' → Ne Z' → Q .none ⟨h', gS, dS, tS, oS⟩) : wpAny (model prog w) A (call (.builtin "list.append") [.ref D, y]) Q E ⟨hS, gS, dS, tS, oS⟩ :=
  append_K F N (U.upd nd) (fun h' F' N' => h h' F' N' (U.ne nd)) (by rw [sizeLine_eq]; (first | k_extra "z k_ar" | omega))
theorem msetP {Q : Unit → Shared → Prop} (F : Fr h₀ L hS m) (X₀ : K.In h₀) (N : News h₀ L hS Z) (nd : Ne Z) (hx : (x, instObj C dx) ∈ Z) (U : UpdG dx od Z g) (hk : od.IsDictOf (strKind prog w) kvs)
    (hs : findIn K (.ref C) "__setattr__" = some (some (.builtin "object.__setattr__"))) (hp : plainOver K C = true) (ht : takerIn K C name = some none) (hh : hasDictIn K C = true)
    (hz : kvs.length ≤ 900) {kvs' : List (Str × Value)} (he : putK name v kvs = kvs')
    (h : ∀ h' o' tk, Fr h₀ L h' m → News h₀ L h' (g o') → Ne (g o') → o'.IsDictOf (strKind prog w) kvs' → Q () ⟨h', gS, dS, tk, oS⟩) :
    wpAny (model prog w) A (setAttr (.ref x) name v) Q E ⟨hS, gS, dS, tS, oS⟩ := by
  subst he
  obtain ⟨es, n, es', n', rfl, e, hl, hz', hi⟩ := put_is (name := name) (v := v) hk (tS + 1)
  exact set_dict F X₀ N (InstAt.of_news N hx U.mem) rfl hs hp ht hh hl e (U.upd nd _) (by (first | k_extra "z k_ar" | omega)) fun h' F' N' => h h' _ _ F' N' (U.ne nd _) hi
theorem call_clsP {pos : List Value} {kw : List (Str × Value)} {fI : Addr} {Q : Value → Shared → Prop} (F : Fr h₀ L hS m) (X₀ : K.In h₀) (N : News h₀ L hS Z) (nd : Ne Z) (hm : makesIn K C = true) (hi : findIn K (.ref C) "__init__" = some (some (.ref fI))) (hf : isFn K (.ref fI) = true)
    (h : ∀ x dx od h', Fr h₀ L h' m → News h₀ L h' ((x, instObj C dx) :: (dx, od) :: Z) → Ne ((x, instObj C dx) :: (dx, od) :: Z) → od.IsDictOf (strKind prog w) [] →
      codeAny (model prog w) (A.under (.builtin "type.__call__" ⟨.ref C :: pos, kw⟩)) (.call (.ref fI) ⟨.ref x :: pos, kw⟩) (InitBack x fun r s' => match r with | .ok (.ret v) => Q v s' | .ok _ => False | .error e => E e s') ⟨h', gS, dS, tS, oS⟩) :
    wpAny (model prog w) A (call (.ref C) pos kw) Q E ⟨hS, gS, dS, tS, oS⟩ := by
  refine call_cls F X₀ N hm hi hf fun x dx h' F' N' l1 l2 => h x dx _ h' F' N' ((nd.push l1).push fun p hp => ?_) empty_is
  rcases List.mem_cons.mp hp with rfl | hp
  · exact l2
  · exact Nat.lt_trans (l1 p hp) l2
theorem dsetP {T : Type} [DecidableEq T] {knd : KeyKind prog w T} {kvs kvs' : List (T × Value)} {k : T} {key : Value} {Q : Unit → Shared → Prop} (F : Fr h₀ L hS m) (N : News h₀ L hS Z) (nd : Ne Z) (hd : o.IsDictOf knd kvs) (hkey : knd.is k key = true)
    (U : UpdG d o Z g) (hsz : kvs.length ≤ 1000) (he : stored kvs k v = kvs')
    (h : ∀ h' o' tk, Fr h₀ L h' m → News h₀ L h' (g o') → Ne (g o') → o'.IsDictOf knd kvs' → Q () ⟨h', gS, dS, tk, oS⟩) : wpAny (model prog w) A (setItem (.ref d) key v) Q E ⟨hS, gS, dS, tS, oS⟩ := by
  subst he
  have hm := N _ U.mem
  refine wpAny_setItem_pairs (hsz := by rw [sizeLine_eq]; (first | k_extra "z k_ar" | omega)) hkey (Heap.dictOf_iff.mpr ⟨o, hm.1, hd⟩) fun h' hmm hs => ?_
  obtain ⟨o', ho', hd'⟩ := Heap.dictOf_iff.mp hmm
  exact h h' o' _ (F.change hs hm.2.1 hm.2.2) (news_upd' N (U.upd nd o') hs ho') (U.ne nd o') hd'
theorem edsetP {xs : List (List EK × Addr × Value)} {a : Addr} {k : List EK} {Q : Unit → Shared → Prop} (hu : A.units + 11 < cLine) (F : Fr h₀ L hS m) (N : News h₀ L hS Z) (nd : Ne Z) (hs : ∀ p ∈ imm, p ∈ Z) (hd : EDictIs prog w imm o xs)
    (hk : KeyIn imm k a) (U : UpdG d o Z g) (hsz : xs.length ≤ 1000)
    (h : ∀ h' o' tk, Fr h₀ L h' m → News h₀ L h' (g o') → Ne (g o') → EDictIs prog w imm o' (storedH xs k a v) → Q () ⟨h', gS, dS, tk, oS⟩) : wpAny (model prog w) A (setItem (.ref d) (.ref a) v) Q E ⟨hS, gS, dS, tS, oS⟩ := by
  have hD := hd.heap N hs U.mem
  have hm := N _ U.mem
  refine wpAny_setItem_heap (hsz := by rw [sizeLine_eq]; (first | k_extra "z k_ar" | omega)) (show A.units + 1 + 10 < cLine by (first | k_extra "z k_ar" | omega)) (hk.heap N hs) hD fun h' hmm hss => ?_
  obtain ⟨o', ho'⟩ : ∃ o', h'.get? d = some o' := dictH_get hmm
  refine h h' o' _ (F.change hss hm.2.1 hm.2.2) (news_upd' N (U.upd nd o') hss ho') (U.ne nd o') (obj_shape ho' hmm fun x hx => ?_)
  obtain ⟨_, _, _, _, _, hks, _⟩ := hd
  rcases mem_storedH hx with ⟨y, hy, e1, e2⟩ | ⟨e1, e2⟩
  · rw [e1, e2]; exact hks y hy
  · rw [e1, e2]; exact hk
end
/- the kinds' table while the setup fills it -/
structure Kt where
  akt : Addr
  aktd : Addr
  ar : Addr
  ai : Addr
  ad : Addr
  aw : Addr
  ao : Addr
  rows : Array Value
  nr : Nat
  oidx : Obj
  deps : Array Value
  nd : Nat
  wts : Array Value
  nw : Nat
  opns : Array Value
  no : Nat
  imm : List (Addr × Obj)
noncomputable def ktL (k : Kt) : List (Addr × Obj) := (k.ao, listOf k.opns k.no) :: (k.aw, listOf k.wts k.nw) :: (k.ad, listOf k.deps k.nd) :: (k.ai, k.oidx) :: (k.ar, listOf k.rows k.nr) :: k.imm
noncomputable def KL (p : List (Addr × Obj)) (k : Kt) : List (Addr × Obj) := p ++ ktL k
section
variable {p : List (Addr × Obj)} {k : Kt} {q : Addr × Obj} {d : Addr} {o o' : Obj} {Z Z' : List (Addr × Obj)} {g : Obj → List (Addr × Obj)} {x : Array Value} {n : Nat}
theorem KL_out {h₀ h : Heap} {L : Addr} (N : News h₀ L h (KL (q :: p) k)) : News h₀ L h ([q] ++ KL p k) := N
theorem Ne_out (N : Ne (KL (q :: p) k)) : Ne ([q] ++ KL p k) := N
theorem UpdG.app (U : UpdG d o Z g) : UpdG d o (p ++ Z) (fun o' => p ++ g o') := by
  induction p with
  | nil => exact U
  | cons q p ih => exact .tail ih
theorem UpS.app (U : UpS d o o' Z Z') : UpS d o o' (p ++ Z) (p ++ Z') := by
  induction p with
  | nil => exact U
  | cons q p ih => exact .tail ih
theorem ups_ar : UpS k.ar (listOf k.rows k.nr) (listOf x n) (KL p k) (KL p { k with rows := x, nr := n }) := .app (.tail (.tail (.tail (.tail .head))))
theorem updg_ai : UpdG k.ai k.oidx (KL p k) (fun o' => KL p { k with oidx := o' }) := .app (.tail (.tail (.tail .head)))
theorem ups_ad : UpS k.ad (listOf k.deps k.nd) (listOf x n) (KL p k) (KL p { k with deps := x, nd := n }) := .app (.tail (.tail .head))
theorem ups_aw : UpS k.aw (listOf k.wts k.nw) (listOf x n) (KL p k) (KL p { k with wts := x, nw := n }) := .app (.tail .head)
theorem ups_ao : UpS k.ao (listOf k.opns k.no) (listOf x n) (KL p k) (KL p { k with opns := x, no := n }) := .app .head
theorem memk_ar : (k.ar, listOf k.rows k.nr) ∈ KL p k := (ups_ar (x := #[]) (n := 0)).mem
theorem memk_ai : (k.ai, k.oidx) ∈ KL p k := updg_ai.mem
theorem memk_ad : (k.ad, listOf k.deps k.nd) ∈ KL p k := (ups_ad (x := #[]) (n := 0)).mem
theorem memk_aw : (k.aw, listOf k.wts k.nw) ∈ KL p k := (ups_aw (x := #[]) (n := 0)).mem
theorem memk_ao : (k.ao, listOf k.opns k.no) ∈ KL p k := (ups_ao (x := #[]) (n := 0)).mem
theorem ups_ar' (hZ : Z = KL p k) (hd : d = k.ar) (ho : o = listOf k.rows k.nr) : UpS d o (listOf x n) Z (KL p { k with rows := x, nr := n }) := by subst hZ hd ho; exact ups_ar
theorem ups_ad' (hZ : Z = KL p k) (hd : d = k.ad) (ho : o = listOf k.deps k.nd) : UpS d o (listOf x n) Z (KL p { k with deps := x, nd := n }) := by subst hZ hd ho; exact ups_ad
theorem ups_aw' (hZ : Z = KL p k) (hd : d = k.aw) (ho : o = listOf k.wts k.nw) : UpS d o (listOf x n) Z (KL p { k with wts := x, nw := n }) := by subst hZ hd ho; exact ups_aw
theorem ups_ao' (hZ : Z = KL p k) (hd : d = k.ao) (ho : o = listOf k.opns k.no) : UpS d o (listOf x n) Z (KL p { k with opns := x, no := n }) := by subst hZ hd ho; exact ups_ao
theorem updg_ai' (hZ : Z = KL p k) (hd : d = k.ai) (ho : o = k.oidx) : UpdG d o Z (fun o' => KL p { k with oidx := o' }) := by subst hZ hd ho; exact updg_ai
theorem memk_ar' (hZ : Z = KL p k) (hd : d = k.ar) (ho : o = listOf k.rows k.nr) : (d, o) ∈ Z := by subst hZ hd ho; exact memk_ar
theorem memk_ad' (hZ : Z = KL p k) (hd : d = k.ad) (ho : o = listOf k.deps k.nd) : (d, o) ∈ Z := by subst hZ hd ho; exact memk_ad
theorem memk_aw' (hZ : Z = KL p k) (hd : d = k.aw) (ho : o = listOf k.wts k.nw) : (d, o) ∈ Z := by subst hZ hd ho; exact memk_aw
theorem memk_ao' (hZ : Z = KL p k) (hd : d = k.ao) (ho : o = listOf k.opns k.no) : (d, o) ∈ Z := by subst hZ hd ho; exact memk_ao
theorem memk_imm (h : q ∈ k.imm) : q ∈ KL p k := List.mem_append_right _ (.tail _ (.tail _ (.tail _ (.tail _ (.tail _ h)))))
theorem kt_form {h₀ h : Heap} {L x dx lr ai ld lw lo : Addr} {od oi : Obj} {rs ds ws os : Array Value} {n1 n2 n3 n4 : Nat} (N : News h₀ L h ((lo, listOf os n4) :: (lw, listOf ws n3) :: (ld, listOf ds n2) :: (ai, oi) :: (lr, listOf rs n1) :: (x, instObj 110 dx) :: (dx, od) :: Z)) (nd : Ne ((lo, listOf os n4) :: (lw, listOf ws n3) :: (ld, listOf ds n2) :: (ai, oi) :: (lr, listOf rs n1) :: (x, instObj 110 dx) :: (dx, od) :: Z)) :
    News h₀ L h (KL Z ⟨x, dx, lr, ai, ld, lw, lo, rs, n1, oi, ds, n2, ws, n3, os, n4, [(x, instObj 110 dx), (dx, od)]⟩) ∧ Ne (KL Z ⟨x, dx, lr, ai, ld, lw, lo, rs, n1, oi, ds, n2, ws, n3, os, n4, [(x, instObj 110 dx), (dx, od)]⟩) := by
  have hp : (KL Z ⟨x, dx, lr, ai, ld, lw, lo, rs, n1, oi, ds, n2, ws, n3, os, n4, [(x, instObj 110 dx), (dx, od)]⟩).Perm ((lo, listOf os n4) :: (lw, listOf ws n3) :: (ld, listOf ds n2) :: (ai, oi) :: (lr, listOf rs n1) :: (x, instObj 110 dx) :: (dx, od) :: Z) := List.perm_append_comm
  refine ⟨fun q hq => N q (hp.mem_iff.mp hq), ?_⟩
  unfold Ne at nd ⊢
  exact (hp.map _).nodup_iff.mpr nd
/- a temporary moves into the part that does not turn -/
theorem to_kimm {h₀ h : Heap} {L : Addr} (N : News h₀ L h (q :: KL p k)) (nd : Ne (q :: KL p k)) : News h₀ L h (KL p { k with imm := q :: k.imm }) ∧ Ne (KL p { k with imm := q :: k.imm }) := by
  have hp : (KL p { k with imm := q :: k.imm }).Perm (q :: KL p k) := by
    unfold KL ktL
    have e : ∀ Y, p ++ ((k.ao, listOf k.opns k.no) :: (k.aw, listOf k.wts k.nw) :: (k.ad, listOf k.deps k.nd) :: (k.ai, k.oidx) :: (k.ar, listOf k.rows k.nr) :: Y) = (p ++ [(k.ao, listOf k.opns k.no), (k.aw, listOf k.wts k.nw), (k.ad, listOf k.deps k.nd), (k.ai, k.oidx), (k.ar, listOf k.rows k.nr)]) ++ Y := fun Y => by simp
    show (p ++ ((k.ao, listOf k.opns k.no) :: (k.aw, listOf k.wts k.nw) :: (k.ad, listOf k.deps k.nd) :: (k.ai, k.oidx) :: (k.ar, listOf k.rows k.nr) :: q :: k.imm)).Perm _
    rw [e (q :: k.imm), e k.imm]
    exact List.perm_middle
  refine ⟨fun x hx => N x (hp.mem_iff.mp hx), ?_⟩
  unfold Ne at nd ⊢
  exact (hp.map _).nodup_iff.mpr nd
end
/- the index of the kinds' table: each row's key with its number -/
inductive IdxL : Nat → List (List EK) → List (List EK × Value) → Prop
  | nil {i : Nat} : IdxL i [] []
  | cons {i : Nat} {k : List EK} {ks : List (List EK)} {kvs : List (List EK × Value)} {t : Tok} : IdxL (i + 1) ks kvs → IdxL i (k :: ks) ((k, .int i t) :: kvs)
theorem IdxL.fst {i : Nat} {ks : List (List EK)} {kvs : List (List EK × Value)} (h : IdxL i ks kvs) : kvs.map (·.1) = ks := by
  induction h with
  | nil => rfl
  | cons _ ih => rw [List.map_cons, ih]
theorem IdxL.len {i : Nat} {ks : List (List EK)} {kvs : List (List EK × Value)} (h : IdxL i ks kvs) : kvs.length = ks.length := by rw [← h.fst, List.length_map]
theorem IdxL.snoc {i : Nat} {ks : List (List EK)} {kvs : List (List EK × Value)} (h : IdxL i ks kvs) (k : List EK) (t : Tok) : IdxL i (ks ++ [k]) (kvs ++ [(k, .int ((i + ks.length : Nat) : Int) t)]) := by
  induction h with
  | nil => exact .cons .nil
  | @cons i k' ks kvs t' _ ih =>
    rw [show i + (k' :: ks).length = i + 1 + ks.length by simp; (first | k_extra "z k_ar" | omega)]
    exact .cons ih
theorem IdxL.none {i : Nat} {ks : List (List EK)} {kvs : List (List EK × Value)} (h : IdxL i ks kvs) {k : List EK} (hk : k ∉ ks) : valueAt kvs k = none :=
  valueAt_none fun p hp e => hk (by rw [← h.fst, ← e]; exact List.mem_map_of_mem hp)
theorem IdxL.put {i : Nat} {ks : List (List EK)} {kvs : List (List EK × Value)} (h : IdxL i ks kvs) {k : List EK} (hk : k ∉ ks) (v : Value) : stored kvs k v = kvs ++ [(k, v)] := by
  unfold stored
  rw [if_neg]
  intro ha
  obtain ⟨p, hp, e⟩ := List.any_eq_true.mp ha
  exact hk (by rw [← h.fst, ← (show p.1 = k by simpa using e)]; exact List.mem_map_of_mem hp)
theorem IdxL.at {i : Nat} {ks : List (List EK)} {kvs : List (List EK × Value)} (h : IdxL i ks kvs) (hn : ks.Nodup) {j : Nat} {k : List EK} (hk : ks[j]? = some k) : ∃ t, valueAt kvs k = some (.int ((i + j : Nat) : Int) t) := by
  induction h generalizing j with
  | nil => simp at hk
  | @cons i k' ks kvs t' _ ih =>
    rw [valueAt_cons]
    cases j with
    | zero => simp at hk; subst hk; exact ⟨t', if_pos rfl⟩
    | succ j =>
      have hk2 : ks[j]? = some k := by simpa using hk
      have hne : k' ≠ k := fun e => (List.nodup_cons.mp hn).1 (e ▸ List.mem_of_getElem? hk2)
      rw [if_neg hne, show i + (j + 1) = i + 1 + j by (first | k_extra "z k_ar" | omega)]
      exact ih (List.nodup_cons.mp hn).2 hk2
noncomputable def ktKS (index a b c d : Value) : List (Str × Value) := [("rows", a), ("index", index), ("depths", b), ("weights", c), ("opens", d)]
structure KtOk (w : World) (k : Kt) (ks : List (List EK)) (ds ws os : List Int) : Prop where
  inst : (k.akt, instObj 110 k.aktd) ∈ k.imm
  dict : ∃ o, (k.aktd, o) ∈ k.imm ∧ o.IsDictOf (strKind PR w) (ktKS (.ref k.ai) (.ref k.ar) (.ref k.ad) (.ref k.aw) (.ref k.ao))
  lo : (k.ai == sysModules) = false
  rsz : k.rows.size = ks.length
  row : ∀ (i : Nat) kk, ks[i]? = some kk → ∃ a, k.rows[i]? = some (.ref a) ∧ KeyIn k.imm kk a
  idx : ∃ xs, EDictIs PR w k.imm k.oidx xs ∧ IdxL 0 ks (kvsOf xs)
  nod : ks.Nodup
  dep : IntsAre k.deps.toList ds
  wt : IntsAre k.wts.toList ws
  op : IntsAre k.opns.toList os
  dl : ds.length = ks.length
  wl : ws.length = ks.length
  ol : os.length = ks.length
theorem KtOk.push {w : World} {k : Kt} {ks : List (List EK)} {ds ws os : List Int} (K : KtOk w k ks ds ws os) {key : List EK} {a : Addr} {imm' : List (Addr × Obj)} {o' : Obj} {xs : List (List EK × Addr × Value)} {n1 n2 n3 n4 : Nat} {d e g : Int} {t t1 t2 t3 : Tok} (hm : ∀ p ∈ k.imm, p ∈ imm') (hk : key ∉ ks) (hK : KeyIn imm' key a)
    (hx : EDictIs PR w imm' o' (storedH xs key a (.int ks.length t))) (hI : IdxL 0 ks (kvsOf xs)) :
    KtOk w { k with imm := imm', rows := k.rows.push (.ref a), nr := n1, oidx := o', deps := k.deps.push (.int d t1), nd := n2, wts := k.wts.push (.int e t2), nw := n3, opns := k.opns.push (.int g t3), no := n4 } (ks ++ [key]) (ds ++ [d]) (ws ++ [e]) (os ++ [g]) where
  inst := hm _ K.inst
  dict := let ⟨o, a, b⟩ := K.dict; ⟨o, hm _ a, b⟩
  lo := K.lo
  rsz := by show (k.rows.push _).size = _; rw [Array.size_push, K.rsz, List.length_append]; rfl
  row := by
    intro i kk hi
    show ∃ b, (k.rows.push _)[i]? = some (.ref b) ∧ _
    by_cases h : i < ks.length
    · rw [List.getElem?_append_left h] at hi
      obtain ⟨b, h1, h2⟩ := K.row i kk hi
      refine ⟨b, ?_, h2.mono hm⟩
      rw [Array.getElem?_push, if_neg (by rw [K.rsz]; (first | k_extra "z k_ar" | omega))]; exact h1
    · have hlt := (List.getElem?_eq_some_iff.mp hi).1
      rw [List.length_append] at hlt
      have : i = ks.length := by simp at hlt; (first | k_extra "z k_ar" | omega)
      subst this
      rw [List.getElem?_append_right (Nat.le_refl _)] at hi
      simp at hi
      subst hi
      refine ⟨a, ?_, hK⟩
      rw [Array.getElem?_push, if_pos K.rsz.symm]
  idx := ⟨_, hx, by
    rw [kvsOf_storedH, hI.put hk]
    have := hI.snoc key t
    rw [Nat.zero_add] at this
    exact this⟩
  nod := by
    rw [List.nodup_append]
    exact ⟨K.nod, by simp, fun a ha b hb e => hk (by rw [List.mem_singleton.mp hb] at e; exact e ▸ ha)⟩
  dep := by show IntsAre (k.deps.push _).toList _; rw [Array.toList_push]; exact ints_snoc K.dep _ _
  wt := by show IntsAre (k.wts.push _).toList _; rw [Array.toList_push]; exact ints_snoc K.wt _ _
  op := by show IntsAre (k.opns.push _).toList _; rw [Array.toList_push]; exact ints_snoc K.op _ _
  dl := by rw [List.length_append, List.length_append, K.dl]; rfl
  wl := by rw [List.length_append, List.length_append, K.wl]; rfl
  ol := by rw [List.length_append, List.length_append, K.ol]; rfl
theorem KtOk.xlen {ks : List (List EK)} {xs : List (List EK × Addr × Value)} (h : IdxL 0 ks (kvsOf xs)) : xs.length = ks.length := by
  rw [← h.len]; unfold kvsOf; rw [List.length_map]
noncomputable def primK (n : Nat) : List (List EK) := (List.range n).map fun (i : Nat) => [EK.i 1, EK.i (i : Int)]
theorem primK_succ (n : Nat) : primK (n + 1) = primK n ++ [[.i 1, .i (n : Int)]] := by unfold primK; rw [List.range_succ, List.map_append]; rfl
theorem primK_not (n : Nat) : [EK.i 1, EK.i (n : Int)] ∉ primK n := by
  intro h
  obtain ⟨i, hi, e⟩ := List.mem_map.mp h
  have := List.mem_range.mp hi
  simp at e; (first | k_extra "z k_ar" | omega)
noncomputable def StEndS (h₀ : Heap) (L : Addr) (gS : Array GenState) (dS : Drawn) (oS : OsState) (Z Y : List (Addr × Obj)) (m₀ : Str → Option Value) (ns : List Str) (P : Kt → Prop) (Q : Flow → Shared → Prop) (fl : Flow) (s₂ : Shared) : Prop :=
  match fl with
  | .ret v => Q (.ret v) s₂
  | .brk => False
  | _ => ∃ h' tk' k' m', s₂ = ⟨h', gS, dS, tk', oS⟩ ∧ Fr h₀ L h' m' ∧ (∀ y, y ∉ ns → m' y = m₀ y) ∧ News h₀ L h' (Y ++ KL Z k') ∧ Ne (Y ++ KL Z k') ∧ P k'
theorem StEndS.intro {h₀ : Heap} {L : Addr} {gS : Array GenState} {dS : Drawn} {oS : OsState} {Z Y : List (Addr × Obj)} {m₀ m' : Str → Option Value} {ns : List Str} {P : Kt → Prop} {Q : Flow → Shared → Prop} {h' : Heap} {tk' : Nat} {k' : Kt}
    (F : Fr h₀ L h' m') (hm : ∀ y, y ∉ ns → m' y = m₀ y) (N : News h₀ L h' (Y ++ KL Z k')) (nd : Ne (Y ++ KL Z k')) (hp : P k') : StEndS h₀ L gS dS oS Z Y m₀ ns P Q .next ⟨h', gS, dS, tk', oS⟩ := ⟨_, _, _, _, rfl, F, hm, N, nd, hp⟩
theorem Ne.drop {q : Addr × Obj} {Z : List (Addr × Obj)} (nd : Ne (q :: Z)) : Ne Z := by unfold Ne at nd ⊢; rw [List.map_cons, List.nodup_cons] at nd; exact nd.2
theorem Ne.ne {q : Addr × Obj} {Z : List (Addr × Obj)} (nd : Ne (q :: Z)) : ∀ p ∈ Z, p.1 ≠ q.1 := fun p hp e => by
  unfold Ne at nd; rw [List.map_cons, List.nodup_cons] at nd; exact nd.1 (e ▸ List.mem_map_of_mem hp)
theorem Ne.cons' {q : Addr × Obj} {Z : List (Addr × Obj)} (nd : Ne Z) (h : ∀ p ∈ Z, p.1 ≠ q.1) : Ne (q :: Z) := by
  unfold Ne at nd ⊢; rw [List.map_cons, List.nodup_cons]
  refine ⟨fun hm => ?_, nd⟩
  obtain ⟨p, hp, e⟩ := List.mem_map.mp hm
  exact h p hp e
theorem loop_rgS {LL : Addr} {prog : Program} {w : World} {A : Around} {E : Value → Shared → Prop} {hS : Heap} {gS : Array GenState} {dS : Drawn} {tS : Nat} {oS : OsState} {env : Env} {h₀ : Heap} {x : Str} {body : List Stmt} {Q : Flow → Shared → Prop} {k₀ : Kt} {Z : List (Addr × Obj)} {m₀ : Str → Option Value} {rg : Addr} {a₀ b₀ c₀ : Int} {t₀ u₀ v₀ : Tok} {n : Nat} (ns : List Str) (P : Nat → Kt → Prop)
    (hh : A.handled = none) (hr : IsRange hS rg a₀ b₀ c₀ t₀ u₀ v₀) (hsmall : Builtin.Range.small a₀ b₀ c₀ = true) (hn : Builtin.Range.rangeSize a₀ b₀ c₀ = (n : Int)) (F : Fr h₀ LL hS m₀) (N : News h₀ LL hS (KL Z k₀)) (nd : Ne (KL Z k₀)) (h0 : P 0 k₀)
    (turn : ∀ (i : Nat) (t : Tok) (k : Kt) (m₁ : Str → Option Value) (I : Addr) (io : Obj) (h : Heap) (tk : Nat), i < n → P i k → (∀ y, y ∉ ns → m₁ y = m₀ y) → Ne ((I, io) :: KL Z k) → Fr h₀ LL h (fun y => if y = x then some (.int (a₀ + (i : Nat) * c₀) t) else m₁ y) → News h₀ LL h ((I, io) :: KL Z k) →
      wpAny (model prog w) A (execs body env) (StEndS h₀ LL gS dS oS Z [(I, io)] m₀ ns (P (i + 1)) Q) E ⟨h, gS, dS, tk, oS⟩)
    (done : ∀ (k : Kt) (m₁ : Str → Option Value) (h : Heap) (tk : Nat), P n k → (∀ y, y ∉ ns → m₁ y = m₀ y) → Fr h₀ LL h m₁ → News h₀ LL h (KL Z k) → Ne (KL Z k) → Q .next ⟨h, gS, dS, tk, oS⟩)
    (hL : env.locals = LL := by rfl) :
    wpAny (model prog w) A (pyIter (.ref rg)) (fun it s₂ => LoopAtV prog w A h₀ env x body Q E it s₂) E ⟨hS, gS, dS, tS, oS⟩ := by
  subst hL
  refine iterR (fun i m₁ n₁ => ∃ k, n₁ = KL Z k ∧ Ne (KL Z k) ∧ P i k ∧ ∀ y, y ∉ ns → m₁ y = m₀ y) hh hr hsmall hn F N ⟨k₀, rfl, nd, h0, fun _ _ => rfl⟩ ?_ ?_
  · rintro i t m₁ n₁ I io h tk hi ⟨k, rfl, nd1, hP, hm⟩ hI F1 N1
    refine wpAny_mono (turn i t k m₁ I io h tk hi hP hm (nd1.cons' hI) F1 N1) (fun fl s₂ e => ?_) fun _ _ e => e
    cases fl with
    | ret v => exact e
    | brk => exact e.elim
    | next =>
      obtain ⟨h', tk', k', m', rfl, F2, hm2, N2, nd2, hp2⟩ := e
      exact turn_next (KL Z k') F2 N2 (fun _ h => nomatch h) nd2.ne ⟨k', rfl, nd2.drop, hp2, hm2⟩ rfl
    | cont =>
      obtain ⟨h', tk', k', m', rfl, F2, hm2, N2, nd2, hp2⟩ := e
      exact ⟨h', tk', m', KL Z k', rfl, F2, N2, (fun _ h => nomatch h), nd2.ne, k', rfl, nd2.drop, hp2, hm2⟩
  · rintro m₁ n₁ h tk ⟨k, rfl, nd1, hP, hm⟩ F1 N1
    exact done k m₁ h tk hP hm F1 N1 nd1
theorem kt_start {w : World} {h₀ h : Heap} {L x dx lr ai ld lw lo : Addr} {od oi : Obj} {Z : List (Addr × Obj)} {n1 n2 n3 n4 : Nat} (N : News h₀ L h ((lo, listOf #[] n4) :: (lw, listOf #[] n3) :: (ld, listOf #[] n2) :: (ai, oi) :: (lr, listOf #[] n1) :: (x, instObj 110 dx) :: (dx, od) :: Z)) (nd : Ne ((lo, listOf #[] n4) :: (lw, listOf #[] n3) :: (ld, listOf #[] n2) :: (ai, oi) :: (lr, listOf #[] n1) :: (x, instObj 110 dx) :: (dx, od) :: Z))
    (h1 : od.IsDictOf (strKind PR w) (ktKS (.ref ai) (.ref lr) (.ref ld) (.ref lw) (.ref lo))) (h2 : oi.IsDictOf (strKind PR w) []) (h3 : (ai == sysModules) = false) :
    ∃ k, k.akt = x ∧ News h₀ L h (KL Z k) ∧ Ne (KL Z k) ∧ KtOk w k (primK 0) (List.replicate 0 1) (List.replicate 0 1) (List.replicate 0 0) := by
  obtain ⟨N2, nd2⟩ := kt_form N nd
  refine ⟨_, rfl, N2, nd2, ?_⟩
  exact ⟨.head _, ⟨_, .tail _ (.head _), h1⟩, h3, rfl, (fun i kk h => by simp [primK] at h), ⟨[], edict_empty h2, .nil⟩, by simp [primK], .nil, .nil, .nil, rfl, rfl, rfl⟩
section
variable {w : World} {p : Program} {loose : List Str} {mean : ExcName → Option Value} {mg mb : Str → Option Value}
    {dp un : Nat} {gd : Option (List Code)} {cn : Str} {cs : Scope} {a : Addr} {ccd : Value} {cl : List (Str × Addr)} {outer : List Env} {A₀ : Around} {base h₀ : Heap} {L : Addr} {m : Str → Option Value} {s : Shared} {hS : Heap} {gS : Array GenState} {dS : Drawn} {tS : Nat} {oS : OsState}
    {Q E : Value → Shared → Prop} {Z : List (Addr × Obj)}
theorem lines29 : True := by
  k_with "z ev_mem" => (k_extra "z k_memS")
  k_with "z k_memS" => (first | with_reducible exact List.mem_cons_self .. | (with_reducible refine List.mem_cons_of_mem _ ?_; k_extra "z k_memS") | with_reducible exact memk_ar' rfl rfl rfl | with_reducible exact memk_ad' rfl rfl rfl | with_reducible exact memk_aw' rfl rfl rfl | with_reducible exact memk_ao' rfl rfl rfl | with_reducible exact memk_ai' rfl rfl rfl | ((with_reducible refine memk_imm ?_); first | assumption | (refine List.mem_cons_of_mem _ ?_; assumption)) | with_reducible assumption)
  k_with "z k_upS" => (first | exact UpS.head | with_reducible exact ups_ar' rfl rfl rfl | with_reducible exact ups_ad' rfl rfl rfl | with_reducible exact ups_aw' rfl rfl rfl | with_reducible exact ups_ao' rfl rfl rfl | ((fail_if_success (fail_if_success (refine' UpS.tail ?_))); refine UpS.tail (by k_extra "z k_upS")))
  k_with "z k_upG" => (first | exact UpdG.head | with_reducible exact updg_ai' rfl rfl rfl | ((fail_if_success (fail_if_success (refine' UpdG.tail ?_))); refine UpdG.tail (by k_extra "z k_upG")))
  k_with "z k_mem" => (k_extra "z k_memS")
  k_with "z exec For Name Call cons nil" => ((k_here; refine holdS ?_))
  k_with "z exec For Name Name cons nil" => ((k_here; refine holdS ?_))
  k_with "z exec For Name Attribute cons nil" => ((k_here; refine holdS ?_))
  k_with "z pyIter ref" => ((k_here; refine holdS ?_))
  k_with "z call type:range" => ((k_here; with_reducible (show wpAny _ _ (call _ [_]) _ _ _); refine range1_rows (by k_asm) (by k_asm) ?_; intro zqh' zqtk' t₁ u₁ v₁ R' F' N' K'))
  k_with "z setItem ref ref" => ((k_here; refine holdS ?_))
  k_with "z newTuple" => ((k_here; k_dflt (refine tupP (by k_asm) (by k_asm) (by assumption) (by exact Nat.le_of_ble_eq_true rfl) ?_); intro zql' zqh' zqF' zqN' zqnd'; (try k_sweep)))
  k_with "z newList" => ((k_here; k_dflt (refine lstP (by k_asm) (by k_asm) (by assumption) (by exact Nat.le_of_ble_eq_true rfl) ?_); intro zql' zqh' zqF' zqN' zqnd'; (try k_sweep)))
  k_with "z eval Dict nil nil" => ((k_here; k_dflt (refine dctP (by k_asm) (by k_asm) (by assumption) (Top.nolimit (by k_asm)) ?_); intro zqd' zqh' zqo' zqF' zqN' zqnd' zqlo' zqhs' zqhi'; (try k_sweep)))
  k_with "z call builtin:list.append" => ((k_here; (with_reducible show wpAny _ _ (call (Value.builtin _) [Value.ref _, _]) _ _ _); k_dflt ((fail_if_success (fail_if_success (refine' appP ?_ ?_ ?_ ?_ ?_ ?_))); refine appP (by k_asm) (by k_asm) (by assumption) (by k_extra "z k_upS") (by first | assumption | (dsimp only; (first | k_extra "z k_ar" | omega)) | (simp; done) | (first | k_extra "z k_ar" | omega)) ?_); intro zqh' zqF' zqN' zqnd'; (try k_sweep)))
  k_with "z getAttr ref" => ((k_here; k_dflt (refine mget (by k_asm) (by k_asm) (by k_asm) (by k_extra "z k_memS") (by k_extra "z k_memS") (by assumption) (by rfl) (by k_is) (by k_is) (by k_is) (by k_is) (by k_handed) ?_); intro zqtk))
  k_with "z getMethod ref" => ((k_here; k_dflt (refine mmeth (by k_asm) (by k_asm) (by k_asm) (by k_extra "z k_memS") (by k_extra "z k_memS") (by assumption) (by rfl) (by k_is) (by k_is) (by k_is) ?_)))
  k_with "z setAttr ref" => ((k_here; k_dflt ((fail_if_success (fail_if_success (refine' msetP ?_ ?_ ?_ ?_ ?_ ?_ ?_ ?_ ?_ ?_ ?_ ?_ ?_ ?_))); refine msetP (by k_asm) (by k_asm) (by k_asm) (by assumption) (by k_extra "z k_memS") (by k_extra "z k_upG") (by assumption) (by k_is) (by k_is) (by k_is) (by k_is) (by exact Nat.le_of_ble_eq_true rfl) (by rfl) ?_); intro zqh' zqo' zqtk zqF' zqN' zqnd' zqhk'; (try dsimp only at zqN' zqnd'); (try k_sweep)))
  k_with "z call ref" => ((k_here; k_dflt ((fail_if_success (fail_if_success (refine' call_clsP ?_ ?_ ?_ ?_ ?_ ?_ ?_ ?_))); refine call_clsP (by k_asm) (by k_asm) (by k_asm) (by assumption) (by k_is) (by k_is) (by k_is) ?_; intro zqx' zqdx' zqod' zqh' zqF' zqN' zqnd' zqhk'; k_extra "z enterF")))
  trivial
theorem ints_lenS {vs : List Value} {l : List Int} (h : IntsAre vs l) : vs.length = l.length := by
  induction h with
  | nil => rfl
  | cons _ _ _ ih => simp [ih]
theorem KtOk.sizes {k : Kt} {ks : List (List EK)} {ds ws os : List Int} (K : KtOk w k ks ds ws os) : k.rows.size = ks.length ∧ k.deps.size = ks.length ∧ k.wts.size = ks.length ∧ k.opns.size = ks.length := by
  have h1 := ints_lenS K.dep
  have h2 := ints_lenS K.wt
  have h3 := ints_lenS K.op
  rw [Array.length_toList] at h1 h2 h3
  exact ⟨K.rsz, h1.trans K.dl, h2.trans K.wl, h3.trans K.ol⟩
theorem kt_init (B : Below A₀ base outer h₀) (F : Fr h₀ L hS m) (X : (KF w.params).In h₀) (N : News h₀ L hS Z) (T : Top p loose mean mg mb h₀) (hk : cs.kind = .function) (nd : Ne Z)
    (hdp : dp + 20 < recursionLimit) (hu : un + 120 < cLine)
    (ret : ∀ k h' tk', Fr h₀ L h' m → News h₀ L h' (KL Z k) → Ne (KL Z k) → KtOk w k (primK 16) (List.replicate 16 1) (List.replicate 16 1) (List.replicate 16 0) → Q (.ref k.akt) ⟨h', gS, dS, tk', oS⟩) :
    wpAny (model PR w) (ktrTop dp un gd cn cs L a ccd cl outer) (call (.ref 110) []) Q E ⟨hS, gS, dS, tS, oS⟩ := by
 k_with "b" =>
  k_steps
  refine unholdS ?_
  rename News _ _ _ _ => N1
  rename Ne _ => nd1
  rename Fr _ _ _ _ => lF
  rename Obj.IsDictOf _ _ (putK _ _ _) => hk1
  rename Obj.IsDictOf (PySem.strKind PR w) _ [] => hi1
  rename (_ == sysModules) = false => hlo
  rename (KF w.params).In _ => X1
  obtain ⟨k0, hx0, N2, nd2, K0⟩ := kt_start N1 nd1 hk1 hi1 hlo
  clear N1 nd1
  with_unfolding_all refine For_invVF lF rfl rfl ?_
  k_steps
  refine unholdS ?_
  rename IsRange _ _ _ _ _ _ _ _ => rg
  rename Fr _ _ _ _ => F8
  rename News _ _ _ _ => N8
  refine loop_rgS (n := 16) ["number", "row"] (fun i k => k.akt = k0.akt ∧ KtOk w k (primK i) (List.replicate i 1) (List.replicate i 1) (List.replicate i 0)) rfl rg (small_one (by decide) (by decide) (by decide) (by decide)) rfl F8 N8 nd2 ⟨rfl, K0⟩ ?_ ?_
  · intro i ti k m₁ I io h3 tk3 hi hP hm nd3 F3 N3
    obtain ⟨hx, K⟩ := hP
    obtain ⟨u1, u2, rfl⟩ := over2 hm
    obtain ⟨okt, hkt, hktd⟩ := K.dict
    have hinst := K.inst
    have hlk := K.lo
    rw [hx, hx0] at hinst
    simp only [Int.zero_add, Int.mul_one] at F3
    obtain ⟨z1, z2, z3, z4⟩ := K.sizes
    have hpl : (primK i).length = i := by simp [primK]
    have y1 : k.rows.size ≤ 900 := by (first | k_extra "z k_ar" | omega)
    have y2 : k.deps.size ≤ 900 := by (first | k_extra "z k_ar" | omega)
    have y3 : k.wts.size ≤ 900 := by (first | k_extra "z k_ar" | omega)
    have y4 : k.opns.size ≤ 900 := by (first | k_extra "z k_ar" | omega)
    clear N8 F8 nd2 K0
    k_steps
    refine unholdS ?_
    rename Fr _ _ _ _ => F4
    rename News _ _ _ _ => N4
    rename Ne _ => nd4
    obtain ⟨N5, nd5⟩ := to_kimm (p := (I, io) :: Z) N4 nd4
    obtain ⟨xs, hE, hI⟩ := K.idx
    refine edsetP (imm := _ :: k.imm) (k := [.i 1, .i (i : Int)]) (by k_extra "z ev_room") F4 N5 nd5 (fun p hp => memk_imm hp) (hE.mono fun _ h => .tail _ h) ⟨_, .head _, .cons .i (.cons .i .nil)⟩ (updg_ai' rfl rfl rfl) (by rw [KtOk.xlen hI, hpl]; (first | k_extra "z k_ar" | omega)) ?_
    intro h6 o6 tk6 F6 N6 nd6 hE6
    clear N4 nd4 N5 nd5 F4
    try dsimp only
    k_steps
    rename News _ _ _ _ => N9
    rename Ne _ => nd9
    refine StEndS.intro (by k_asm) (by k_extra "z ev_off") (KL_out N9) (Ne_out nd9) ⟨hx, ?_⟩
    rw [primK_succ, List.replicate_succ', List.replicate_succ']
    exact K.push (fun _ h => .tail _ h) (primK_not i) ⟨_, .head _, .cons .i (.cons .i .nil)⟩ (by rw [hpl]; exact hE6) hI
  · intro k m₁ h3 tk3 hP hm F3 N3 nd3
    try dsimp only
    obtain ⟨hx, K⟩ := hP
    clear N8 F8 nd2 K0
    k_steps
    rw [← hx0, ← hx]
    exact ret k _ _ (by k_asm) (by k_asm) nd3 K
 refine no_implicit_lambda% (qo ?_)
 simp (disch := k_dflt k_extra "b") only [↓qs]
end
section
variable {w : World} {p : Program} {loose : List Str} {mean : ExcName → Option Value} {mg mb : Str → Option Value}
    {dp un : Nat} {gd : Option (List Code)} {cn : Str} {cs : Scope} {a : Addr} {ccd : Value} {cl : List (Str × Addr)} {outer : List Env} {A₀ : Around} {base h₀ : Heap} {L : Addr} {m : Str → Option Value} {s : Shared} {hS : Heap} {gS : Array GenState} {dS : Drawn} {tS : Nat} {oS : OsState}
    {Q E : Value → Shared → Prop} {Z Y : List (Addr × Obj)} {k : Kt} {ks : List (List EK)} {ds ws os : List Int}
theorem memk_ktl {q : Addr × Obj} (h : q ∈ ktL k) : q ∈ KL Z k := List.mem_append_right _ h
theorem ktl_ar : (k.ar, listOf k.rows k.nr) ∈ ktL k := .tail _ (.tail _ (.tail _ (.tail _ (.head _))))
theorem ktl_imm {q : Addr × Obj} (h : q ∈ k.imm) : q ∈ ktL k := .tail _ (.tail _ (.tail _ (.tail _ (.tail _ h))))
theorem row_spec {v : Int} {tv : Tok} {ra : Addr}
    (C : Cx w p loose mean mg mb cs outer A₀ base h₀ L m hS Y) (K : KtOk w k ks ds ws os) (hs : ∀ q ∈ ktL k, q ∈ Y) (hz : ks.length ≤ 900) (h0 : 0 ≤ v) (hv : k.rows[v.toNat]? = some (.ref ra))
    (hdp : dp + 3 < recursionLimit) (hu : un + 20 < cLine)
    (ret : ∀ h' tk', Fr h₀ L h' m → News h₀ L h' Y → Q (.ref ra) ⟨h', gS, dS, tk', oS⟩) :
    wpAny (model PR w) (ktrTop dp un gd cn cs L a ccd cl outer) (call (.ref 100) [.ref k.akt, .int v tv]) Q E ⟨hS, gS, dS, tS, oS⟩ := by
 k_with "b" =>
  refine hide ?_
  intro GG hGG
  obtain ⟨B, F, X, N, T, hk⟩ := C
  obtain ⟨okt, hkt, hktd⟩ := K.dict
  refine hGG ?_
  try clear hGG GG
  have m1 := hs _ (ktl_imm K.inst)
  have m2 := hs _ (ktl_imm hkt)
  have m3 := hs _ ktl_ar
  have hsz := K.rsz
  have hlt : v < k.rows.size := by have := (Array.getElem?_eq_some_iff.mp hv).1; (first | k_extra "z k_ar" | omega)
  k_dflt k_extra "z enterF"
  k_steps
  refine unhold ?_
  refine itemL (by k_asm) m3 h0 (by (first | k_extra "z k_ar" | omega)) hv ?_
  k_steps
  exact ret _ _ (by k_asm) (by k_asm)
 refine no_implicit_lambda% (qo ?_)
 simp (disch := k_dflt k_extra "b") only [↓qs]
theorem lines30 : True := by
  k_with "z call ref" => ((k_here; (with_reducible show wpAny _ _ (call (Value.ref 100) [Value.ref _, Value.int _ _]) _ _ _); refine hold ?_))
  k_with "z call ref" => ((k_here; (with_reducible show wpAny _ _ (call (Value.ref 163) [Value.ref _, Value.int _ _]) _ _ _); refine hold ?_))
  k_with "z call ref" => ((k_here; (with_reducible show wpAny _ _ (call (Value.ref 156) [Value.ref _, Value.ref _]) _ _ _); refine hold ?_))
  k_with "z call ref" => ((k_here; (with_reducible show wpAny _ _ (call (Value.ref 142) [Value.ref _, Value.ref _]) _ _ _); refine hold ?_))
  trivial
noncomputable def VarAt (ks : List (List EK)) (v : Int) : Prop := 16 ≤ v ∧ ∃ j : Int, ks[v.toNat]? = some [.i 6, .i j]
theorem VarAt.get {v : Int} (h : VarAt ks v) (K : KtOk w k ks ds ws os) : ∃ ra j t1 t2, k.rows[v.toNat]? = some (.ref ra) ∧ (ra, tupOf [.int 6 t1, .int j t2]) ∈ k.imm := by
  refine hide ?_
  intro GG hGG
  obtain ⟨_, j, hj⟩ := h
  obtain ⟨ra, h1, vs, h2, h3⟩ := K.row _ _ hj
  refine hGG ?_
  try clear hGG GG
  cases h3 with
  | cons a b =>
    cases a
    cases b with
    | cons a b =>
      cases a
      cases b
      exact ⟨ra, j, _, _, h1, h2⟩
theorem may_spec {v : Int} {tv : Tok}
    (C : Cx w p loose mean mg mb cs outer A₀ base h₀ L m hS Y) (K : KtOk w k ks ds ws os) (hs : ∀ q ∈ ktL k, q ∈ Y) (hz : ks.length ≤ 900) (hv : VarAt ks v)
    (hdp : dp + 6 < recursionLimit) (hu : un + 40 < cLine)
    (ret : ∀ h' tk', Fr h₀ L h' m → News h₀ L h' Y → Q (.bool true) ⟨h', gS, dS, tk', oS⟩) :
    wpAny (model PR w) (ktrTop dp un gd cn cs L a ccd cl outer) (call (.ref 163) [.ref k.akt, .int v tv]) Q E ⟨hS, gS, dS, tS, oS⟩ := by
 k_with "b" =>
  refine hide ?_
  intro GG hGG
  obtain ⟨ra, j, t1, t2, hr, hra⟩ := hv.get K
  have m4 := hs _ (ktl_imm hra)
  obtain ⟨okt, hkt, hktd⟩ := K.dict
  have m1 := hs _ (ktl_imm K.inst)
  have m2 := hs _ (ktl_imm hkt)
  have hv16 := hv.1
  obtain ⟨B, F, X, N, T, hk⟩ := C
  refine hGG ?_
  try clear hGG GG
  k_dflt k_extra "z enterF"
  k_steps
  all_goals first | (first | k_extra "z k_ar" | omega) | skip
  refine unhold ?_
  refine row_spec ⟨by k_asm, by k_asm, by k_asm, by k_asm, by k_asm, by first | exact rfl | assumption⟩ K hs hz (by (first | k_extra "z k_ar" | omega)) hr (by k_extra "z ev_room") (by k_extra "z ev_room") ?_
  intro h5 tk5 F5 N5
  try dsimp only
  k_steps
  all_goals exact ret _ _ (by k_asm) (by k_asm)
 refine no_implicit_lambda% (qo ?_)
 simp (disch := k_dflt k_extra "b") only [↓qs]
noncomputable def EndY (h₀ : Heap) (L : Addr) (gS : Array GenState) (dS : Drawn) (oS : OsState) (Y : List (Addr × Obj)) (m₀ : Str → Option Value) (ns : List Str) (P : (Str → Option Value) → Prop) (Q : Flow → Shared → Prop) (fl : Flow) (s₂ : Shared) : Prop :=
  match fl with
  | .ret v => Q (.ret v) s₂
  | .brk => False
  | _ => ∃ h' tk' m', s₂ = ⟨h', gS, dS, tk', oS⟩ ∧ Fr h₀ L h' m' ∧ (∀ y, y ∉ ns → m' y = m₀ y) ∧ News h₀ L h' Y ∧ P m'
theorem EndY.intro {h₀ : Heap} {L : Addr} {gS : Array GenState} {dS : Drawn} {oS : OsState} {Y : List (Addr × Obj)} {m₀ m' : Str → Option Value} {ns : List Str} {P : (Str → Option Value) → Prop} {Q : Flow → Shared → Prop} {h' : Heap} {tk' : Nat}
    (F : Fr h₀ L h' m') (hm : ∀ y, y ∉ ns → m' y = m₀ y) (N : News h₀ L h' Y) (hp : P m') : EndY h₀ L gS dS oS Y m₀ ns P Q .next ⟨h', gS, dS, tk', oS⟩ := ⟨_, _, _, rfl, F, hm, N, hp⟩
theorem loop_tY {LL : Addr} {prog : Program} {w : World} {A : Around} {E : Value → Shared → Prop} {hS : Heap} {gS : Array GenState} {dS : Drawn} {tS : Nat} {oS : OsState} {env : Env} {h₀ : Heap} {x : Str} {body : List Stmt} {Q : Flow → Shared → Prop} {Y : List (Addr × Obj)} {m₀ : Str → Option Value} {l : Addr} {vs : List Value} (ns : List Str) (P : Nat → (Str → Option Value) → Prop)
    (hh : A.handled = none) (F : Fr h₀ LL hS m₀) (N : News h₀ LL hS Y) (hp : (l, tupOf vs) ∈ Y) (h0 : P 0 m₀)
    (turn : ∀ (i : Nat) (v : Value) (m₁ : Str → Option Value) (I : Addr) (io : Obj) (h : Heap) (tk : Nat), vs[i]? = some v → P i m₁ → (∀ y, y ∉ ns → m₁ y = m₀ y) → Fr h₀ LL h (fun y => if y = x then some v else m₁ y) → News h₀ LL h ((I, io) :: Y) →
      wpAny (model prog w) A (execs body env) (EndY h₀ LL gS dS oS ((I, io) :: Y) m₀ ns (P (i + 1)) Q) E ⟨h, gS, dS, tk, oS⟩)
    (done : ∀ (m₁ : Str → Option Value) (h : Heap) (tk : Nat), P vs.length m₁ → (∀ y, y ∉ ns → m₁ y = m₀ y) → Fr h₀ LL h m₁ → News h₀ LL h Y → Q .next ⟨h, gS, dS, tk, oS⟩)
    (hL : env.locals = LL := by rfl) :
    wpAny (model prog w) A (pyIter (.ref l)) (fun it s₂ => LoopAtV prog w A h₀ env x body Q E it s₂) E ⟨hS, gS, dS, tS, oS⟩ := by
  subst hL
  refine iterT (vs := vs) (fun i m₁ n₁ => n₁ = Y ∧ P i m₁ ∧ ∀ y, y ∉ ns → m₁ y = m₀ y) hh F N hp ⟨rfl, h0, fun _ _ => rfl⟩ ?_ ?_
  · rintro i v m₁ n₁ I io h tk hv ⟨rfl, hP, hm⟩ _ hI F1 N1
    refine wpAny_mono (turn i v m₁ I io h tk hv hP hm F1 N1) (fun fl s₂ e => ?_) fun _ _ e => e
    cases fl with
    | ret v => exact e
    | brk => exact e.elim
    | next =>
      refine hide ?_
      intro GG hGG
      obtain ⟨h', tk', m', rfl, F2, hm2, N2, hp2⟩ := e
      refine hGG ?_
      try clear hGG GG
      exact turn_next n₁ F2 N2 (fun p hq => by rw [List.mem_singleton.mp hq]; exact hp) hI ⟨rfl, hp2, hm2⟩ rfl
    | cont =>
      refine hide ?_
      intro GG hGG
      obtain ⟨h', tk', m', rfl, F2, hm2, N2, hp2⟩ := e
      refine hGG ?_
      try clear hGG GG
      exact ⟨h', tk', m', n₁, rfl, F2, N2, fun p hq => by rw [List.mem_singleton.mp hq]; exact hp, hI, rfl, hp2, hm2⟩
  · rintro m₁ n₁ h tk ⟨rfl, hP, hm⟩ F1 N1
    exact done m₁ h tk hP hm F1 N1
theorem ints_atS {vs : List Value} {l : List Int} (h : IntsAre vs l) {i : Nat} {v : Value} (hv : vs[i]? = some v) : ∃ x t, v = .int x t ∧ x ∈ l ∧ l[i]? = some x := by
  induction h generalizing i with
  | nil => simp at hv
  | cons a t _ ih =>
    cases i with
    | zero => simp at hv; exact ⟨a, t, hv.symm, .head _, rfl⟩
    | succ i =>
      refine hide ?_
      intro GG hGG
      obtain ⟨x, t, e, hx, hx2⟩ := ih (by simpa using hv)
      refine hGG ?_
      try clear hGG GG
      exact ⟨x, t, e, .tail _ hx, by simpa using hx2⟩
theorem args_spec {aa : Addr} {vs : List Value} {args : List Int}
    (C : Cx w p loose mean mg mb cs outer A₀ base h₀ L m hS Y) (K : KtOk w k ks ds ws os) (hs : ∀ q ∈ ktL k, q ∈ Y) (hz : ks.length ≤ 900) (haa : (aa, tupOf vs) ∈ Y) (hi : IntsAre vs args) (hv : ∀ v ∈ args, VarAt ks v)
    (hdp : dp + 12 < recursionLimit) (hu : un + 80 < cLine)
    (ret : ∀ h' tk', Fr h₀ L h' m → News h₀ L h' Y → Q .none ⟨h', gS, dS, tk', oS⟩) :
    wpAny (model PR w) (ktrTop dp un gd cn cs L a ccd cl outer) (call (.ref 156) [.ref k.akt, .ref aa]) Q E ⟨hS, gS, dS, tS, oS⟩ := by
 k_with "b" =>
  refine hide ?_
  intro GG hGG
  obtain ⟨B, F, X, N, T, hk⟩ := C
  refine hGG ?_
  try clear hGG GG
  k_dflt k_extra "z enterF"
  k_steps
  refine unhold ?_
  rename Fr _ _ _ _ => lF
  with_unfolding_all refine For_invVF lF rfl rfl ?_
  k_steps
  refine unhold ?_
  rename Fr _ _ _ _ => F2
  rename News _ _ _ _ => N2
  refine loop_tY ["arg"] (fun _ _ => True) rfl F2 N2 haa trivial ?_ ?_
  · intro i v m₁ I io h tk hvi _ hm F3 N3
    refine hide ?_
    intro GG hGG
    obtain ⟨x, t, rfl, hx, _⟩ := ints_atS hi hvi
    obtain ⟨u, rfl⟩ := over1 hm
    refine hGG ?_
    try clear hGG GG
    clear F2 N2
    k_steps
    refine unhold ?_
    refine may_spec ⟨by k_asm, by k_asm, by k_asm, by k_asm, by k_asm, by first | exact rfl | assumption⟩ K (fun q hq => .tail _ (hs q hq)) hz (hv x hx) (by k_extra "z ev_room") (by k_extra "z ev_room") ?_
    intro h5 tk5 F5 N5
    try dsimp only
    k_steps
    exact EndY.intro (by k_asm) (by k_extra "z ev_off") (by k_asm) trivial
  · intro m₁ h tk _ hm F3 N3
    try dsimp only
    obtain ⟨u, rfl⟩ := over1 hm
    clear F2 N2
    k_steps
    exact ret _ _ (by k_asm) (by k_asm)
 refine no_implicit_lambda% (qo ?_)
 simp (disch := k_dflt k_extra "b") only [↓qs]
theorem inner_spec {b aa : Addr} {sort : Int} {t1 : Tok} {v2 : Value}
    (C : Cx w p loose mean mg mb cs outer A₀ base h₀ L m hS Y) (hb : (b, tupOf [.int sort t1, v2, .ref aa]) ∈ Y) (hsort : sort = 2 ∨ sort = 3)
    (hdp : dp + 3 < recursionLimit)
    (ret : ∀ h' tk', Fr h₀ L h' m → News h₀ L h' Y → Q (.ref aa) ⟨h', gS, dS, tk', oS⟩) :
    wpAny (model PR w) (ktrTop dp un gd cn cs L a ccd cl outer) (call (.ref 121) [.ref b]) Q E ⟨hS, gS, dS, tS, oS⟩ := by
 k_with "b" =>
  obtain ⟨B, F, X, N, T, hk⟩ := C
  k_dflt k_extra "z enterF"
  k_steps
  all_goals first | (exfalso; (first | k_extra "z k_ar" | omega)) | exact ret _ _ (by k_asm) (by k_asm)
 refine no_implicit_lambda% (qo ?_)
 simp (disch := k_dflt k_extra "b") only [↓qs]
theorem level_spec0 {sort : Int} {t1 : Tok}
    (C : Cx w p loose mean mg mb cs outer A₀ base h₀ L m hS Y) (hsort : sort = 2 ∨ sort = 3)
    (hdp : dp + 3 < recursionLimit)
    (ret : ∀ t h' tk', Fr h₀ L h' m → News h₀ L h' Y → Q (.int 1 t) ⟨h', gS, dS, tk', oS⟩) :
    wpAny (model PR w) (ktrTop dp un gd cn cs L a ccd cl outer) (call (.ref 128) [.int sort t1]) Q E ⟨hS, gS, dS, tS, oS⟩ := by
 k_with "b" =>
  obtain ⟨B, F, X, N, T, hk⟩ := C
  k_dflt k_extra "z enterF"
  k_steps
  all_goals first | (exfalso; (first | k_extra "z k_ar" | omega)) | exact ret _ _ _ (by k_asm) (by k_asm)
 refine no_implicit_lambda% (qo ?_)
 simp (disch := k_dflt k_extra "b") only [↓qs]
theorem length_spec {sort : Int} {t1 : Tok}
    (C : Cx w p loose mean mg mb cs outer A₀ base h₀ L m hS Y) (hsort : sort = 2 ∨ sort = 3)
    (hdp : dp + 3 < recursionLimit)
    (ret : ∀ t h' tk', Fr h₀ L h' m → News h₀ L h' Y → Q (.int 3 t) ⟨h', gS, dS, tk', oS⟩) :
    wpAny (model PR w) (ktrTop dp un gd cn cs L a ccd cl outer) (call (.ref 135) [.int sort t1]) Q E ⟨hS, gS, dS, tS, oS⟩ := by
 k_with "b" =>
  obtain ⟨B, F, X, N, T, hk⟩ := C
  k_dflt k_extra "z enterF"
  k_steps
  all_goals first | (exfalso; (first | k_extra "z k_ar" | omega)) | exact ret _ _ _ (by k_asm) (by k_asm)
 refine no_implicit_lambda% (qo ?_)
 simp (disch := k_dflt k_extra "b") only [↓qs]
theorem lines31 : True := by
  k_with "z call ref" => ((k_here; (with_reducible show wpAny _ _ (call (Value.ref 121) [Value.ref _]) _ _ _); k_dflt (refine inner_spec ⟨by k_asm, by k_asm, by k_asm, by k_asm, by k_asm, by first | exact rfl | assumption⟩ (by first | k_extra "z k_memS" | assumption) (by assumption) (by k_extra "z ev_room") ?_); intro zqh' zqtk zqF' zqN'; (try k_sweep)))
  k_with "z call ref" => ((k_here; (with_reducible show wpAny _ _ (call (Value.ref 128) [Value.int _ _]) _ _ _); k_dflt (refine level_spec0 ⟨by k_asm, by k_asm, by k_asm, by k_asm, by k_asm, by first | exact rfl | assumption⟩ (by assumption) (by k_extra "z ev_room") ?_); intro zqt zqh' zqtk zqF' zqN'; (try k_sweep)))
  k_with "z call ref" => ((k_here; (with_reducible show wpAny _ _ (call (Value.ref 135) [Value.int _ _]) _ _ _); k_dflt (refine length_spec ⟨by k_asm, by k_asm, by k_asm, by k_asm, by k_asm, by first | exact rfl | assumption⟩ (by assumption) (by k_extra "z ev_room") ?_); intro zqt zqh' zqtk zqF' zqN'; (try k_sweep)))
  trivial
theorem check_named_spec {b aa : Addr} {sort tid : Int} {t1 t2 : Tok} {vs : List Value} {args : List Int}
    (C : Cx w p loose mean mg mb cs outer A₀ base h₀ L m hS Y) (K : KtOk w k ks ds ws os) (hs : ∀ q ∈ ktL k, q ∈ Y) (hz : ks.length ≤ 900) (hb : (b, tupOf [.int sort t1, .int tid t2, .ref aa]) ∈ Y) (haa : (aa, tupOf vs) ∈ Y) (hi : IntsAre vs args) (hv : ∀ v ∈ args, VarAt ks v)
    (hsort : sort = 2 ∨ sort = 3) (htid : 21 ≤ tid ∧ tid ≤ 26)
    (hdp : dp + 22 < recursionLimit) (hu : un + 140 < cLine)
    (ret : ∀ h' tk', Fr h₀ L h' m → News h₀ L h' Y → Q .none ⟨h', gS, dS, tk', oS⟩) :
    wpAny (model PR w) (ktrTop dp un gd cn cs L a ccd cl outer) (call (.ref 142) [.ref k.akt, .ref b]) Q E ⟨hS, gS, dS, tS, oS⟩ := by
 k_with "b" =>
  refine hide ?_
  intro GG hGG
  obtain ⟨okt, hkt, hktd⟩ := K.dict
  have m1 := hs _ (ktl_imm K.inst)
  have m2 := hs _ (ktl_imm hkt)
  obtain ⟨B, F, X, N, T, hk⟩ := C
  refine hGG ?_
  try clear hGG GG
  k_dflt k_extra "z enterF"
  k_steps
  refine unholdS ?_
  rename Fr _ _ _ _ => lF
  with_unfolding_all refine For_invVF lF rfl rfl ?_
  k_steps
  refine unholdS ?_
  rename Fr _ _ _ _ => F2
  rename News _ _ _ _ => N2
  refine loop_tY ["inner"] (fun _ _ => True) rfl F2 N2 haa trivial ?_ ?_
  · intro i v m₁ I io h tk hvi _ hm F3 N3
    refine hide ?_
    intro GG hGG
    obtain ⟨x, t, rfl, hx, _⟩ := ints_atS hi hvi
    obtain ⟨ra, j, y1, y2, hr, hra⟩ := (hv x hx).get K
    have hx16 := (hv x hx).1
    obtain ⟨u, rfl⟩ := over1 hm
    refine hGG ?_
    try clear hGG GG
    clear F2 N2
    k_steps
    refine unhold ?_
    refine row_spec ⟨by k_asm, by k_asm, by k_asm, by k_asm, by k_asm, by first | exact rfl | assumption⟩ K (fun q hq => .tail _ (hs q hq)) hz (by (first | k_extra "z k_ar" | omega)) hr (by k_extra "z ev_room") (by k_extra "z ev_room") ?_
    intro h5 tk5 F5 N5
    try dsimp only
    k_steps
    exact EndY.intro (by k_asm) (by k_extra "z ev_off") (by k_asm) trivial
  · intro m₁ h tk _ hm F3 N3
    try dsimp only
    obtain ⟨u, rfl⟩ := over1 hm
    clear F2 N2
    k_steps
    all_goals first
      | exact (tid_no htid (by assumption)).elim
      | (exfalso; (first | k_extra "z k_ar" | omega))
      | skip
    all_goals
      refine unhold ?_
      refine args_spec ⟨by k_asm, by k_asm, by k_asm, by k_asm, by k_asm, by first | exact rfl | assumption⟩ K hs hz haa hi hv (by k_extra "z ev_room") (by k_extra "z ev_room") ?_
      intro h5 tk5 F5 N5
      k_steps
      exact ret _ _ (by k_asm) (by k_asm)
 refine no_implicit_lambda% (qo ?_)
 simp (disch := k_dflt k_extra "b") only [↓qs]
end
section
variable {w : World} {p : Program} {loose : List Str} {mean : ExcName → Option Value} {mg mb : Str → Option Value}
    {dp un : Nat} {gd : Option (List Code)} {cn : Str} {cs : Scope} {a : Addr} {ccd : Value} {cl : List (Str × Addr)} {outer : List Env} {A₀ : Around} {base h₀ : Heap} {L : Addr} {m : Str → Option Value} {s : Shared} {hS : Heap} {gS : Array GenState} {dS : Drawn} {tS : Nat} {oS : OsState}
    {Q E : Value → Shared → Prop} {Z Y : List (Addr × Obj)} {k : Kt} {ks : List (List EK)} {ds ws os : List Int}
theorem KeyIn.heapS {prog : Program} {imm : List (Addr × Obj)} {h : Heap} {ks : List EK} {b : Addr} (x : KeyIn imm ks b) (N : News h₀ L h Y) (s : ∀ q ∈ imm, q ∈ Y) : IsEKey prog w h ks b := x.heap N s
theorem over4S {a b c d : Str} {m m₀ : Str → Option Value} (h : ∀ y, y ∉ [a, b, c, d] → m y = m₀ y) : m = bind1 a (m a) (bind1 b (m b) (bind1 c (m c) (bind1 d (m d) m₀))) := by
  funext y
  unfold bind1
  by_cases e1 : y = a
  · subst e1; simp
  by_cases e2 : y = b
  · subst e2; simp [e1]
  by_cases e3 : y = c
  · subst e3; simp [e1, e2]
  by_cases e4 : y = d
  · subst e4; simp [e1, e2, e3]
  simp only [e1, e2, e3, e4, if_false]
  exact h y (by simp [e1, e2, e3, e4])
theorem ints_getS {vs : List Value} {l : List Int} (h : IntsAre vs l) {i : Nat} (hi : i < l.length) : ∃ x t, vs[i]? = some (.int x t) ∧ x ∈ l := by
  induction h generalizing i with
  | nil => exact absurd hi (Nat.not_lt_zero _)
  | cons a t _ ih =>
    cases i with
    | zero => exact ⟨a, t, rfl, .head _⟩
    | succ i =>
      refine hide ?_
      intro GG hGG
      obtain ⟨x, t, e, hx⟩ := ih (by simpa using hi)
      refine hGG ?_
      try clear hGG GG
      exact ⟨x, t, by simpa using e, .tail _ hx⟩
theorem arr_getS {vs : Array Value} {l : List Int} (h : IntsAre vs.toList l) {i : Nat} (hi : i < l.length) : ∃ x t, vs[i]? = some (.int x t) ∧ x ∈ l := by
  refine hide ?_
  intro GG hGG
  obtain ⟨x, t, e, hx⟩ := ints_getS h hi
  refine hGG ?_
  try clear hGG GG
  exact ⟨x, t, by rw [← Array.getElem?_toList]; exact e, hx⟩
noncomputable def PutP (D W : Int) (j : Nat) (m : Str → Option Value) : Prop :=
  ∃ d td e te g tg, m (Str.ofString "depth") = some (.int d td) ∧ m (Str.ofString "weight") = some (.int e te) ∧ m (Str.ofString "opened") = some (.int g tg) ∧ (0 ≤ d ∧ d ≤ D + 1) ∧ (0 ≤ e ∧ e ≤ 1 + j * W)
theorem put_named {b aa : Addr} {sort tid : Int} {t1 t2 : Tok} {vs : List Value} {args : List Int} {D W : Int}
    (C : Cx w p loose mean mg mb cs outer A₀ base h₀ L m hS (KL Z k)) (nd : Ne (KL Z k)) (K : KtOk w k ks ds ws os) (hz : ks.length ≤ 100) (hb : (b, tupOf [.int sort t1, .int tid t2, .ref aa]) ∈ k.imm) (haa : (aa, tupOf vs) ∈ k.imm) (hi : IntsAre vs args) (hv : ∀ v ∈ args, VarAt ks v)
    (hsort : sort = 2 ∨ sort = 3) (htid : 21 ≤ tid ∧ tid ≤ 26) (hnew : [.i sort, .i tid, .t args] ∉ ks) (hal : args.length ≤ 2)
    (hD : ∀ x ∈ ds, 0 ≤ x ∧ x ≤ D) (hD2 : 1 ≤ D ∧ D ≤ 20) (hW : ∀ x ∈ ws, 0 ≤ x ∧ x ≤ W) (hW2 : 1 ≤ W ∧ W ≤ 1000)
    (hdp : dp + 34 < recursionLimit) (hu : un + 220 < cLine)
    (ret : ∀ t k' d e g h' tk', Fr h₀ L h' m → News h₀ L h' (KL Z k') → Ne (KL Z k') → KtOk w k' (ks ++ [[.i sort, .i tid, .t args]]) (ds ++ [d]) (ws ++ [e]) (os ++ [g]) → k'.akt = k.akt → (∀ q ∈ k.imm, q ∈ k'.imm) → (0 ≤ d ∧ d ≤ D + 1) → (0 ≤ e ∧ e ≤ 1 + 2 * W) → Q (.int ks.length t) ⟨h', gS, dS, tk', oS⟩) :
    wpAny (model PR w) (ktrTop dp un gd cn cs L a ccd cl outer) (call (.ref 107) [.ref k.akt, .ref b]) Q E ⟨hS, gS, dS, tS, oS⟩ := by
 k_with "b" =>
  refine hide ?_
  intro GG hGG
  obtain ⟨okt, hkt, hktd⟩ := K.dict
  have hinst := K.inst
  have hlo := K.lo
  obtain ⟨xs, hE, hI⟩ := K.idx
  obtain ⟨z1, z2, z3, z4⟩ := K.sizes
  have hkey : KeyIn k.imm [.i sort, .i tid, .t args] b := ⟨_, hb, .cons .i (.cons .i (.cons (.t haa hi) .nil))⟩
  have hnone : (atKey xs [.i sort, .i tid, .t args]).map (·.2) = none := by rw [at_kvs]; exact hI.none hnew
  have hal2 := hal
  obtain ⟨B, F, X, N, T, hk⟩ := C
  refine hGG ?_
  try clear hGG GG
  have hs6 : (sort == 6) = false := by simp; (first | k_extra "z k_ar" | omega)
  have hs7 : (sort == 7) = false := by simp; (first | k_extra "z k_ar" | omega)
  k_dflt k_extra "z enterF"
  k_steps
  rename News _ _ _ _ => N1
  refine edmeth (imm := k.imm) N1 (fun _ h => memk_imm h) memk_ai hE ?_
  k_steps
  rename News _ _ _ _ => N2
  refine edget (imm := k.imm) (by k_extra "z ev_room") N2 (fun _ h => memk_imm h) memk_ai hE hlo (hkey.heapS N2 fun _ h => memk_imm h) hnone ?_
  intro tk0
  dsimp only [Option.getD]
  k_steps
  refine unhold ?_
  refine check_named_spec ⟨by k_asm, by k_asm, by k_asm, by k_asm, by k_asm, by first | exact rfl | assumption⟩ K (fun q h => memk_ktl h) (by (first | k_extra "z k_ar" | omega)) (memk_imm hb) (memk_imm haa) hi hv hsort htid (by k_extra "z ev_room") (by k_extra "z ev_room") ?_
  intro h3 tk3 F3 N3
  (try clear N1)
  (try clear N2)
  try dsimp only
  k_steps
  refine unholdS ?_
  rename Fr _ _ _ _ => lF
  with_unfolding_all refine For_invVF lF rfl rfl ?_
  k_steps
  refine unholdS ?_
  rename Fr _ _ _ _ => F4
  rename News _ _ _ _ => N4
  refine loop_tY ["inner", "depth", "weight", "opened"] (PutP D W) rfl F4 N4 (memk_imm haa) ⟨_, _, _, _, _, _, rfl, rfl, rfl, by (first | k_extra "z k_ar" | omega), by (first | k_extra "z k_ar" | omega)⟩ ?_ ?_
  · intro i v m₁ I io h tk hvi hP hm F5 N5
    refine hide ?_
    intro GG hGG
    obtain ⟨d, td, e, te, g, tg, hd, he, hg, hd2, he2⟩ := hP
    obtain ⟨x, t, rfl, hx, _⟩ := ints_atS hi hvi
    obtain ⟨hx16, j, hj⟩ := hv x hx
    have hxl := (List.getElem?_eq_some_iff.mp hj).1
    obtain ⟨dx, tdx, hdx, hdm⟩ := arr_getS K.dep (i := x.toNat) (by rw [K.dl]; exact hxl)
    obtain ⟨wx, twx, hwx, hwm⟩ := arr_getS K.wt (i := x.toNat) (by rw [K.wl]; exact hxl)
    obtain ⟨ox, tox, hox, hom⟩ := arr_getS K.op (i := x.toNat) (by rw [K.ol]; exact hxl)
    refine hGG ?_
    try clear hGG GG
    have hdb := hD dx hdm
    have hwb := hW wx hwm
    have hmm := over4S hm
    rw [hd, he, hg] at hmm
    generalize m₁ (Str.ofString "inner") = u at hmm
    subst hmm
    clear F4 N4 hd he hg
    have eW : ((i + 1 : Nat) : Int) * W = (i : Int) * W + W := by rw [show ((i + 1 : Nat) : Int) = (i : Int) + 1 from rfl, Int.add_mul, Int.one_mul]
    k_steps
    refine unhold ?_
    refine itemL (by k_asm) (.tail _ memk_ad) (by (first | k_extra "z k_ar" | omega)) (by (first | k_extra "z k_ar" | omega)) hdx ?_
    k_steps
    · refine unhold ?_
      refine itemL (by k_asm) (.tail _ memk_ad) (by (first | k_extra "z k_ar" | omega)) (by (first | k_extra "z k_ar" | omega)) hdx ?_
      k_steps
      refine unhold ?_
      refine itemL (by k_asm) (.tail _ memk_aw) (by (first | k_extra "z k_ar" | omega)) (by (first | k_extra "z k_ar" | omega)) hwx ?_
      k_steps
      refine unhold ?_
      refine itemL (by k_asm) (.tail _ memk_ao) (by (first | k_extra "z k_ar" | omega)) (by (first | k_extra "z k_ar" | omega)) hox ?_
      k_steps
      all_goals exact EndY.intro (by k_asm) (by k_extra "z ev_off") (by k_asm) ⟨_, _, _, _, _, _, rfl, rfl, rfl, by (first | k_extra "z k_ar" | omega), by rw [eW]; (first | k_extra "z k_ar" | omega)⟩
    · refine unhold ?_
      refine itemL (by k_asm) (.tail _ memk_aw) (by (first | k_extra "z k_ar" | omega)) (by (first | k_extra "z k_ar" | omega)) hwx ?_
      k_steps
      refine unhold ?_
      refine itemL (by k_asm) (.tail _ memk_ao) (by (first | k_extra "z k_ar" | omega)) (by (first | k_extra "z k_ar" | omega)) hox ?_
      k_steps
      all_goals exact EndY.intro (by k_asm) (by k_extra "z ev_off") (by k_asm) ⟨_, _, _, _, _, _, rfl, rfl, rfl, by (first | k_extra "z k_ar" | omega), by rw [eW]; (first | k_extra "z k_ar" | omega)⟩
  · intro m₁ h tk hP hm F5 N5
    try dsimp only
    obtain ⟨d, td, e, te, g, tg, hd, he, hg, hd2, he2⟩ := hP
    have hmm := over4S hm
    rw [hd, he, hg] at hmm
    generalize m₁ (Str.ofString "inner") = u at hmm
    subst hmm
    clear F4 N4 hd he hg
    have hvl : vs.length ≤ 2 := by rw [ints_lenS hi]; exact hal
    have eW : ((vs.length : Nat) : Int) * W ≤ 2 * W := Int.mul_le_mul_of_nonneg_right (by (first | k_extra "z k_ar" | omega)) (by (first | k_extra "z k_ar" | omega))
    have y1 : k.rows.size ≤ 900 := by (first | k_extra "z k_ar" | omega)
    have y2 : k.deps.size ≤ 900 := by (first | k_extra "z k_ar" | omega)
    have y3 : k.wts.size ≤ 900 := by (first | k_extra "z k_ar" | omega)
    have y4 : k.opns.size ≤ 900 := by (first | k_extra "z k_ar" | omega)
    k_steps
    refine unholdS ?_
    rename Fr _ _ _ _ => F6
    rename News _ _ _ _ => N6
    rename Ne _ => nd6
    refine edsetP (imm := k.imm) (by k_extra "z ev_room") F6 N6 nd6 (fun q h => memk_imm h) hE hkey (updg_ai' rfl rfl rfl) (by rw [KtOk.xlen hI]; (first | k_extra "z k_ar" | omega)) ?_
    intro h7 o7 tk7 F7 N7 nd7 hE7
    clear F6 N6 nd6
    try dsimp only
    k_steps
    rename News _ _ _ _ => N9
    rename Ne _ => nd9
    rw [z1] at hE7 ⊢
    exact ret _ _ _ _ _ _ _ (by k_asm) (by k_asm) nd9 (K.push (fun _ h => h) hnew hkey hE7 hI) rfl (fun _ h => h) (by (first | k_extra "z k_ar" | omega)) (by (first | k_extra "z k_ar" | omega))
 refine no_implicit_lambda% (qo ?_)
 simp (disch := k_dflt k_extra "b") only [↓qs]
end
section
variable {w : World} {p : Program} {loose : List Str} {mean : ExcName → Option Value} {mg mb : Str → Option Value}
    {dp un : Nat} {gd : Option (List Code)} {cn : Str} {cs : Scope} {a : Addr} {ccd : Value} {cl : List (Str × Addr)} {outer : List Env} {A₀ : Around} {base h₀ : Heap} {L : Addr} {m : Str → Option Value} {s : Shared} {hS : Heap} {gS : Array GenState} {dS : Drawn} {tS : Nat} {oS : OsState}
    {Q E : Value → Shared → Prop} {Z Y : List (Addr × Obj)} {k : Kt} {ks : List (List EK)} {ds ws os : List Int}
theorem dropY {q : Addr × Obj} {h : Heap} (N : News h₀ L h (q :: Y)) : News h₀ L h Y := fun p hp => N p (.tail _ hp)
theorem check_var_spec {b : Addr} {i : Int} {t1 t2 : Tok}
    (C : Cx w p loose mean mg mb cs outer A₀ base h₀ L m hS Y) (nd : Ne Y) (hb : (b, tupOf [.int 6 t1, .int i t2]) ∈ Y) (hi0 : 0 ≤ i)
    (hdp : dp + 12 < recursionLimit) (hu : un + 80 < cLine) {av : Addr}
    (ret : ∀ h' tk', Fr h₀ L h' m → News h₀ L h' Y → Q .none ⟨h', gS, dS, tk', oS⟩) :
    wpAny (model PR w) (ktrTop dp un gd cn cs L a ccd cl outer) (call (.ref 142) [.ref av, .ref b]) Q E ⟨hS, gS, dS, tS, oS⟩ := by
 k_with "b" =>
  refine hide ?_
  intro GG hGG
  obtain ⟨B, F, X, N, T, hk⟩ := C
  refine hGG ?_
  try clear hGG GG
  k_dflt k_extra "z enterF"
  k_steps
  refine unholdS ?_
  rename Fr _ _ _ _ => lF
  with_unfolding_all refine For_invVF lF rfl rfl ?_
  k_steps
  refine unholdS ?_
  rename Fr _ _ _ _ => F4
  rename News _ _ _ _ => N4
  refine loop_tY ["inner"] (fun _ _ => True) rfl F4 N4 (.head _) trivial (fun i v _ _ _ _ _ hv => by simp at hv) ?_
  intro m₁ h tk _ hm F5 N5
  try dsimp only
  obtain ⟨u, rfl⟩ := over1 hm
  replace N5 := dropY N5
  clear N4 F4
  k_steps
  all_goals first | (first | k_extra "z k_ar" | omega) | exact ret _ _ (by k_asm) (by k_asm)
 refine no_implicit_lambda% (qo ?_)
 simp (disch := k_dflt k_extra "b") only [↓qs]
theorem put_var {b : Addr} {i : Int} {t1 t2 : Tok}
    (C : Cx w p loose mean mg mb cs outer A₀ base h₀ L m hS (KL Z k)) (nd : Ne (KL Z k)) (K : KtOk w k ks ds ws os) (hz : ks.length ≤ 100) (hb : (b, tupOf [.int 6 t1, .int i t2]) ∈ k.imm) (hi0 : 0 ≤ i)
    (hnew : [.i 6, .i i] ∉ ks)
    (hdp : dp + 34 < recursionLimit) (hu : un + 220 < cLine)
    (ret : ∀ t k' h' tk', Fr h₀ L h' m → News h₀ L h' (KL Z k') → Ne (KL Z k') → KtOk w k' (ks ++ [[.i 6, .i i]]) (ds ++ [1]) (ws ++ [1]) (os ++ [1]) → k'.akt = k.akt → (∀ q ∈ k.imm, q ∈ k'.imm) → Q (.int ks.length t) ⟨h', gS, dS, tk', oS⟩) :
    wpAny (model PR w) (ktrTop dp un gd cn cs L a ccd cl outer) (call (.ref 107) [.ref k.akt, .ref b]) Q E ⟨hS, gS, dS, tS, oS⟩ := by
 k_with "b" =>
  refine hide ?_
  intro GG hGG
  obtain ⟨okt, hkt, hktd⟩ := K.dict
  have hinst := K.inst
  have hlo := K.lo
  obtain ⟨xs, hE, hI⟩ := K.idx
  obtain ⟨z1, z2, z3, z4⟩ := K.sizes
  have hkey : KeyIn k.imm [.i 6, .i i] b := ⟨_, hb, .cons .i (.cons .i .nil)⟩
  have hnone : (atKey xs [.i 6, .i i]).map (·.2) = none := by rw [at_kvs]; exact hI.none hnew
  obtain ⟨B, F, X, N, T, hk⟩ := C
  refine hGG ?_
  try clear hGG GG
  k_dflt k_extra "z enterF"
  k_steps
  rename News _ _ _ _ => N1
  refine edmeth (imm := k.imm) N1 (fun _ h => memk_imm h) memk_ai hE ?_
  k_steps
  rename News _ _ _ _ => N2
  refine edget (imm := k.imm) (by k_extra "z ev_room") N2 (fun _ h => memk_imm h) memk_ai hE hlo (hkey.heapS N2 fun _ h => memk_imm h) hnone ?_
  intro tk0
  dsimp only [Option.getD]
  k_steps
  refine unhold ?_
  refine check_var_spec ⟨by k_asm, by k_asm, by k_asm, by k_asm, by k_asm, by first | exact rfl | assumption⟩ nd (memk_imm hb) hi0 (by k_extra "z ev_room") (by k_extra "z ev_room") ?_
  intro h3 tk3 F3 N3
  (try clear N1)
  (try clear N2)
  try dsimp only
  k_steps
  refine unholdS ?_
  rename Fr _ _ _ _ => lF
  with_unfolding_all refine For_invVF lF rfl rfl ?_
  k_steps
  refine unholdS ?_
  rename Fr _ _ _ _ => F4
  rename News _ _ _ _ => N4
  rename Ne _ => nd4
  refine loop_tY ["inner"] (fun _ _ => True) rfl F4 N4 (.head _) trivial (fun i v _ _ _ _ _ hv => by simp at hv) ?_
  intro m₁ h tk _ hm F5 N5
  try dsimp only
  obtain ⟨u, rfl⟩ := over1 hm
  replace N5 := dropY N5
  replace nd4 := nd4.drop
  clear N4 F4
  have y1 : k.rows.size ≤ 900 := by (first | k_extra "z k_ar" | omega)
  have y2 : k.deps.size ≤ 900 := by (first | k_extra "z k_ar" | omega)
  have y3 : k.wts.size ≤ 900 := by (first | k_extra "z k_ar" | omega)
  have y4 : k.opns.size ≤ 900 := by (first | k_extra "z k_ar" | omega)
  k_steps
  refine unholdS ?_
  rename Fr _ _ _ _ => F6
  rename News _ _ _ _ => N6
  rename Ne _ => nd6
  refine edsetP (imm := k.imm) (by k_extra "z ev_room") F6 N6 nd6 (fun q h => memk_imm h) hE hkey (updg_ai' rfl rfl rfl) (by rw [KtOk.xlen hI]; (first | k_extra "z k_ar" | omega)) ?_
  intro h7 o7 tk7 F7 N7 nd7 hE7
  clear F6 N6 nd6
  try dsimp only
  k_steps
  rename Ne _ => nd9
  rw [z1] at hE7 ⊢
  exact ret _ _ _ _ (by k_asm) (by k_asm) nd9 (K.push (fun _ h => h) hnew hkey hE7 hI) rfl (fun _ h => h)
 refine no_implicit_lambda% (qo ?_)
 simp (disch := k_dflt k_extra "b") only [↓qs]
end
section
variable {w : World} {p : Program} {loose : List Str} {mean : ExcName → Option Value} {mg mb : Str → Option Value}
    {dp un : Nat} {gd : Option (List Code)} {cn : Str} {cs : Scope} {a : Addr} {ccd : Value} {cl : List (Str × Addr)} {outer : List Env} {A₀ : Around} {base h₀ : Heap} {L : Addr} {m : Str → Option Value} {s : Shared} {hS : Heap} {gS : Array GenState} {dS : Drawn} {tS : Nat} {oS : OsState}
    {Q E : Value → Shared → Prop} {Z Y : List (Addr × Obj)} {k : Kt} {ks : List (List EK)} {ds ws os : List Int}
theorem lines32 : True := by
  k_with "z call ref" => ((k_here; (with_reducible show wpAny _ _ (call (Value.ref 107) [Value.ref _, Value.ref _]) _ _ _); refine hold ?_))
  trivial
theorem KtOk.imm (K : KtOk w k ks ds ws os) {imm' : List (Addr × Obj)} (h : ∀ q ∈ k.imm, q ∈ imm') : KtOk w { k with imm := imm' } ks ds ws os where
  inst := h _ K.inst
  dict := let ⟨o, a, b⟩ := K.dict; ⟨o, h _ a, b⟩
  lo := K.lo
  rsz := K.rsz
  row := fun i kk hi => let ⟨a, b, c⟩ := K.row i kk hi; ⟨a, b, c.mono h⟩
  idx := let ⟨xs, a, b⟩ := K.idx; ⟨xs, a.mono h, b⟩
  nod := K.nod
  dep := K.dep
  wt := K.wt
  op := K.op
  dl := K.dl
  wl := K.wl
  ol := K.ol
inductive KmP (w : World) (h₀ : Heap) (L : Addr) (h : Heap) (Z : List (Addr × Obj)) (k : Kt) (ks : List (List EK)) (ds ws os : List Int) (X : List (Addr × Obj)) : Prop
  | mk (k2 : Kt) : News h₀ L h (KL Z k2) → Ne (KL Z k2) → KtOk w k2 ks ds ws os → (∀ x ∈ X, x ∈ k2.imm) → (∀ x ∈ k.imm, x ∈ k2.imm) → k2.akt = k.akt → KmP w h₀ L h Z k ks ds ws os X
inductive KmQ (w : World) (h₀ : Heap) (L : Addr) (h : Heap) (Z : List (Addr × Obj)) (k : Kt) (ks : List (List EK)) (ds ws os : List Int) (q : Addr × Obj) : Prop
  | mk (k2 : Kt) : News h₀ L h (KL Z k2) → Ne (KL Z k2) → KtOk w k2 ks ds ws os → q ∈ k2.imm → (∀ x ∈ k.imm, x ∈ k2.imm) → k2.akt = k.akt → KmQ w h₀ L h Z k ks ds ws os q
theorem to_kimmK {q : Addr × Obj} {h : Heap} (N : News h₀ L h (q :: KL Z k)) (nd : Ne (q :: KL Z k)) (K : KtOk w k ks ds ws os) :
    KmQ w h₀ L h Z k ks ds ws os q := by
  obtain ⟨N2, nd2⟩ := to_kimm N nd
  exact ⟨_, N2, nd2, K.imm fun _ h => .tail _ h, .head _, fun _ h => .tail _ h, rfl⟩
theorem var_kind_spec {i : Int} {t2 : Tok}
    (C : Cx w p loose mean mg mb cs outer A₀ base h₀ L m hS (KL Z k)) (nd : Ne (KL Z k)) (K : KtOk w k ks ds ws os) (hz : ks.length ≤ 100) (hi0 : 0 ≤ i) (hnew : [.i 6, .i i] ∉ ks)
    (hdp : dp + 38 < recursionLimit) (hu : un + 240 < cLine)
    (ret : ∀ t k' h' tk', Fr h₀ L h' m → News h₀ L h' (KL Z k') → Ne (KL Z k') → KtOk w k' (ks ++ [[.i 6, .i i]]) (ds ++ [1]) (ws ++ [1]) (os ++ [1]) → k'.akt = k.akt → (∀ q ∈ k.imm, q ∈ k'.imm) → Q (.int ks.length t) ⟨h', gS, dS, tk', oS⟩) :
    wpAny (model PR w) (ktrTop dp un gd cn cs L a ccd cl outer) (call (.ref 191) [.ref k.akt, .int i t2]) Q E ⟨hS, gS, dS, tS, oS⟩ := by
 k_with "b" =>
  refine hide ?_
  intro GG hGG
  obtain ⟨okt, hkt, hktd⟩ := K.dict
  have hinst := K.inst
  obtain ⟨B, F, X, N, T, hk⟩ := C
  refine hGG ?_
  try clear hGG GG
  k_dflt k_extra "z enterF"
  k_steps
  refine unhold ?_
  rename News _ _ _ _ => N1
  rename Ne _ => nd1
  refine hide ?_
  intro GG hGG
  obtain ⟨k2, N2, nd2, K2, hq2, him2, e2⟩ := to_kimmK N1 nd1 K
  refine hGG ?_
  try clear hGG GG
  clear N1
  rw [← e2]
  refine put_var ⟨by k_asm, by k_asm, by k_asm, by k_asm, by k_asm, by first | exact rfl | assumption⟩ nd2 K2 hz hq2 hi0 hnew (by k_extra "z ev_room") (by k_extra "z ev_room") ?_
  intro t k' h' tk' F' N' nd' K' e' him'
  clear N2 nd2 K2
  try dsimp only
  k_steps
  exact ret _ _ _ _ (by k_asm) (by k_asm) nd' K' (e'.trans e2) fun q h => him' q (him2 q h)
 refine no_implicit_lambda% (qo ?_)
 simp (disch := k_dflt k_extra "b") only [↓qs]
theorem named_kind_spec {fn sort tid : Int} {aa : Addr} {t2 : Tok} {vs : List Value} {args : List Int} {D W : Int}
    (C : Cx w p loose mean mg mb cs outer A₀ base h₀ L m hS (KL Z k)) (nd : Ne (KL Z k)) (K : KtOk w k ks ds ws os) (hz : ks.length ≤ 100) (haa : (aa, tupOf vs) ∈ k.imm) (hi : IntsAre vs args) (hv : ∀ v ∈ args, VarAt ks v)
    (hsort : fn = 170 ∧ sort = 2 ∨ fn = 177 ∧ sort = 3) (htid : 21 ≤ tid ∧ tid ≤ 26) (hnew : [.i sort, .i tid, .t args] ∉ ks) (hal : args.length ≤ 2)
    (hD : ∀ x ∈ ds, 0 ≤ x ∧ x ≤ D) (hD2 : 1 ≤ D ∧ D ≤ 20) (hW : ∀ x ∈ ws, 0 ≤ x ∧ x ≤ W) (hW2 : 1 ≤ W ∧ W ≤ 1000)
    (hdp : dp + 38 < recursionLimit) (hu : un + 240 < cLine)
    (ret : ∀ t k' d e g h' tk', Fr h₀ L h' m → News h₀ L h' (KL Z k') → Ne (KL Z k') → KtOk w k' (ks ++ [[.i sort, .i tid, .t args]]) (ds ++ [d]) (ws ++ [e]) (os ++ [g]) → k'.akt = k.akt → (∀ q ∈ k.imm, q ∈ k'.imm) → (0 ≤ d ∧ d ≤ D + 1) → (0 ≤ e ∧ e ≤ 1 + 2 * W) → Q (.int ks.length t) ⟨h', gS, dS, tk', oS⟩) :
    wpAny (model PR w) (ktrTop dp un gd cn cs L a ccd cl outer) (call (.ref fn.toNat) [.ref k.akt, .int tid t2, .ref aa]) Q E ⟨hS, gS, dS, tS, oS⟩ := by
 k_with "b" =>
  refine hide ?_
  intro GG hGG
  obtain ⟨okt, hkt, hktd⟩ := K.dict
  have hinst := K.inst
  obtain ⟨B, F, X, N, T, hk⟩ := C
  refine hGG ?_
  try clear hGG GG
  rcases hsort with ⟨rfl, rfl⟩ | ⟨rfl, rfl⟩
  · show wpAny _ _ (call (.ref 170) _) _ _ _
    k_dflt k_extra "z enterF"
    k_steps
    · exfalso
      exact tid_no (by assumption) (by assumption)
    refine unhold ?_
    rename News _ _ _ _ => N1
    rename Ne _ => nd1
    refine hide ?_
    intro GG hGG
    obtain ⟨k2, N2, nd2, K2, hq2, him2, e2⟩ := to_kimmK N1 nd1 K
    refine hGG ?_
    try clear hGG GG
    clear N1
    rw [← e2]
    refine put_named ⟨by k_asm, by k_asm, by k_asm, by k_asm, by k_asm, by first | exact rfl | assumption⟩ nd2 K2 hz hq2 (him2 _ haa) hi hv (.inl rfl) htid hnew hal hD hD2 hW hW2 (by k_extra "z ev_room") (by k_extra "z ev_room") ?_
    intro t k' d e g h' tk' F' N' nd' K' e' him' hd' he'
    clear N2 nd2 K2
    try dsimp only
    k_steps
    exact ret _ _ _ _ _ _ _ (by k_asm) (by k_asm) nd' K' (e'.trans e2) (fun q h => him' q (him2 q h)) hd' he'
  · show wpAny _ _ (call (.ref 177) _) _ _ _
    k_dflt k_extra "z enterF"
    k_steps
    · exfalso
      exact tid_no (by assumption) (by assumption)
    refine unhold ?_
    rename News _ _ _ _ => N1
    rename Ne _ => nd1
    refine hide ?_
    intro GG hGG
    obtain ⟨k2, N2, nd2, K2, hq2, him2, e2⟩ := to_kimmK N1 nd1 K
    refine hGG ?_
    try clear hGG GG
    clear N1
    rw [← e2]
    refine put_named ⟨by k_asm, by k_asm, by k_asm, by k_asm, by k_asm, by first | exact rfl | assumption⟩ nd2 K2 hz hq2 (him2 _ haa) hi hv (.inr rfl) htid hnew hal hD hD2 hW hW2 (by k_extra "z ev_room") (by k_extra "z ev_room") ?_
    intro t k' d e g h' tk' F' N' nd' K' e' him' hd' he'
    clear N2 nd2 K2
    try dsimp only
    k_steps
    exact ret _ _ _ _ _ _ _ (by k_asm) (by k_asm) nd' K' (e'.trans e2) (fun q h => him' q (him2 q h)) hd' he'
 refine no_implicit_lambda% (qo ?_)
 simp (disch := k_dflt k_extra "b") only [↓qs]
end
theorem lines33 : True := by
  k_with "z k_memS" => ((with_reducible refine List.mem_append_right _ ?_; k_extra "z k_memS"))
  k_with "z k_upS" => (((fail_if_success (fail_if_success (refine' UpS.app ?_))); refine UpS.app (by k_extra "z k_upS")))
  k_with "z k_upG" => (((fail_if_success (fail_if_success (refine' UpdG.app ?_))); refine UpdG.app (by k_extra "z k_upG")))
  trivial
theorem putK_app {name : Str} {v : Value} : ∀ {kvs : List (Str × Value)}, (kvs.all fun p => !decide (p.1 = name)) = true → putK name v kvs = kvs ++ [(name, v)]
  | [], _ => rfl
  | q :: t, h => by
    rw [List.all_cons, Bool.and_eq_true] at h
    unfold putK
    rw [if_neg (by simpa using h.1), putK_app h.2]; rfl
theorem msetF {prog : Program} {w : World} {A : Around} {E : Value → Shared → Prop} {hS : Heap} {gS : Array GenState} {dS : Drawn} {tS : Nat} {oS : OsState} {h₀ : Heap} {L : Addr} {m : Str → Option Value} {Z : List (Addr × Obj)} {K : Frag} {g : Obj → List (Addr × Obj)} {x C dx : Addr} {od : Obj} {kvs : List (Str × Value)} {name : Str} {v : Value} {Q : Unit → Shared → Prop} (F : Fr h₀ L hS m) (X₀ : K.In h₀) (N : News h₀ L hS Z) (nd : Ne Z) (hx : (x, instObj C dx) ∈ Z) (U : UpdG dx od Z g) (hk : od.IsDictOf (strKind prog w) kvs)
    (hs : findIn K (.ref C) "__setattr__" = some (some (.builtin "object.__setattr__"))) (hp : plainOver K C = true) (ht : takerIn K C name = some none) (hh : hasDictIn K C = true)
    (hz : kvs.length ≤ 900) (he : (kvs.all fun p => !decide (p.1 = name)) = true)
    (h : ∀ h' o' tk, Fr h₀ L h' m → News h₀ L h' (g o') → Ne (g o') → o'.IsDictOf (strKind prog w) (kvs ++ [(name, v)]) → Q () ⟨h', gS, dS, tk, oS⟩) :
    wpAny (model prog w) A (setAttr (.ref x) name v) Q E ⟨hS, gS, dS, tS, oS⟩ := msetP F X₀ N nd hx U hk hs hp ht hh hz (putK_app he) h
theorem lines34 : True := by
  k_with "z setAttr ref" => ((k_here; k_dflt ((fail_if_success (fail_if_success (refine' msetF ?_ ?_ ?_ ?_ ?_ ?_ ?_ ?_ ?_ ?_ ?_ ?_ ?_ ?_))); refine msetF (by k_asm) (by k_asm) (by k_asm) (by assumption) (by k_extra "z k_memS") (by k_extra "z k_upG") (by assumption) (by k_is) (by k_is) (by k_is) (by k_is) (by exact Nat.le_of_ble_eq_true rfl) (by rfl) ?_); intro zqh' zqo' zqtk zqF' zqN' zqnd' zqhk'; (try dsimp only at zqN' zqnd'); (try dsimp only [List.cons_append, List.nil_append] at zqhk'); (try k_sweep)))
  trivial
inductive Tl (Z : List (Addr × Obj)) : List (Addr × Obj) → List (Addr × Obj) → Prop
  | nil : Tl Z Z []
  | cons {q : Addr × Obj} {Y X : List (Addr × Obj)} : Tl Z Y X → Tl Z (q :: Y) (q :: X)
  | app {W Y X : List (Addr × Obj)} : Tl Z Y X → Tl Z (W ++ Y) (W ++ X)
theorem Tl.eq {Z Y X : List (Addr × Obj)} (h : Tl Z Y X) : Y = X ++ Z := by
  induction h with
  | nil => rfl
  | cons _ ih => rw [ih]; rfl
  | app _ ih => rw [ih, List.append_assoc]
theorem Tl.mk' {Z Y X : List (Addr × Obj)} {h₀ h : Heap} {L : Addr} (N : News h₀ L h Y) (nd : Ne Y) (t : Tl Z Y X) : News h₀ L h (X ++ Z) ∧ Ne (X ++ Z) := by
  rw [← t.eq]; exact ⟨N, nd⟩
theorem lines35 : True := by
  k_with "z k_tl" => (first | with_reducible exact Tl.nil | ((fail_if_success (fail_if_success (refine' Tl.cons ?_))); refine Tl.cons (by k_extra "z k_tl")) | ((fail_if_success (fail_if_success (refine' Tl.app ?_))); refine Tl.app (by k_extra "z k_tl")))
  trivial
noncomputable def tdKS (sort params a b c d e g i j k l m n o p q r u : Value) : List (Str × Value) := ("tid", a) :: ("name", b) :: ("sort", sort) :: ("flags", c) :: ("base", d) :: ("ifaces", e) :: ("params", params) :: ("variances", g) :: ("bounds", i) :: ("fields", j) :: ("methods", k) :: ("asm", l) :: ("cctor", m) :: ("under", n) :: ("impls", o) :: ("props", p) :: ("events", q) :: ("finaliser", r) :: ("home", u) :: []
inductive TdIn (w : World) (X : List (Addr × Obj)) (ta : Addr) (np : Nat) (sort : Int) : Prop
  | mk (td : Addr) (o : Obj) (t : Tok) (pa : Addr) (pits : Array Value) (n : Nat) (a b c d e g i j k l m n' o' p q r u : Value) : (ta, instObj 229 td) ∈ X → (td, o) ∈ X → o.IsDictOf (strKind PR w) (tdKS (.int sort t) (.ref pa) a b c d e g i j k l m n' o' p q r u) → (pa, listOf pits n) ∈ X → pits.size = np → TdIn w X ta np sort
section
variable {w : World} {p : Program} {loose : List Str} {mean : ExcName → Option Value} {mg mb : Str → Option Value}
    {dp un : Nat} {gd : Option (List Code)} {cn : Str} {cs : Scope} {a : Addr} {ccd : Value} {cl : List (Str × Addr)} {outer : List Env} {A₀ : Around} {base h₀ : Heap} {L : Addr} {m : Str → Option Value} {s : Shared} {hS : Heap} {gS : Array GenState} {dS : Drawn} {tS : Nat} {oS : OsState}
    {Q E : Value → Shared → Prop} {Z Y : List (Addr × Obj)} {k : Kt} {ks : List (List EK)} {ds ws os : List Int}
noncomputable def tdLed (W : List (Addr × Obj)) (lb lv lp : Addr) (bs vv ps : Array Value) (n1 n2 n3 : Nat) (R : List (Addr × Obj)) : List (Addr × Obj) := W ++ ((lb, listOf bs n1) :: (lv, listOf vv n2) :: (lp, listOf ps n3) :: R)
inductive EndTN (h₀ : Heap) (L : Addr) (gS : Array GenState) (dS : Drawn) (oS : OsState) (q : Addr × Obj) (lb lv lp : Addr) (R : List (Addr × Obj)) (m₀ : Str → Option Value) (ns : List Str) (i : Nat) (s₂ : Shared) : Prop
  | mk (h' : Heap) (tk' : Nat) (m' : Str → Option Value) (W : List (Addr × Obj)) (bs vv ps : Array Value) (n1 n2 n3 : Nat) : s₂ = ⟨h', gS, dS, tk', oS⟩ → Fr h₀ L h' m' → (∀ y, y ∉ ns → m' y = m₀ y) → News h₀ L h' (q :: tdLed W lb lv lp bs vv ps n1 n2 n3 R) → Ne (q :: tdLed W lb lv lp bs vv ps n1 n2 n3 R) → bs.size = i → vv.size = i → ps.size = i → EndTN h₀ L gS dS oS q lb lv lp R m₀ ns i s₂
noncomputable def EndT (h₀ : Heap) (L : Addr) (gS : Array GenState) (dS : Drawn) (oS : OsState) (q : Addr × Obj) (lb lv lp : Addr) (R : List (Addr × Obj)) (m₀ : Str → Option Value) (ns : List Str) (i : Nat) (Q : Flow → Shared → Prop) (fl : Flow) (s₂ : Shared) : Prop :=
  match fl with
  | .ret v => Q (.ret v) s₂
  | .brk => False
  | _ => EndTN h₀ L gS dS oS q lb lv lp R m₀ ns i s₂
theorem EndT.intro {h₀ : Heap} {L : Addr} {gS : Array GenState} {dS : Drawn} {oS : OsState} {q : Addr × Obj} {lb lv lp : Addr} {R : List (Addr × Obj)} {m₀ m' : Str → Option Value} {ns : List Str} {i : Nat} {Q : Flow → Shared → Prop} {h' : Heap} {tk' : Nat} {W : List (Addr × Obj)} {bs vv ps : Array Value} {n1 n2 n3 : Nat}
    (F : Fr h₀ L h' m') (hm : ∀ y, y ∉ ns → m' y = m₀ y) (N : News h₀ L h' (q :: tdLed W lb lv lp bs vv ps n1 n2 n3 R)) (nd : Ne (q :: tdLed W lb lv lp bs vv ps n1 n2 n3 R)) (h1 : bs.size = i) (h2 : vv.size = i) (h3 : ps.size = i) : EndT h₀ L gS dS oS q lb lv lp R m₀ ns i Q .next ⟨h', gS, dS, tk', oS⟩ := ⟨_, _, _, _, _, _, _, _, _, _, rfl, F, hm, N, nd, h1, h2, h3⟩
inductive TdJ (lb lv lp : Addr) (R : List (Addr × Obj)) (m₀ : Str → Option Value) (ns : List Str) (i : Nat) (m₁ : Str → Option Value) (n₁ : List (Addr × Obj)) : Prop
  | mk (W : List (Addr × Obj)) (bs vv ps : Array Value) (n1 n2 n3 : Nat) : n₁ = tdLed W lb lv lp bs vv ps n1 n2 n3 R → Ne n₁ → bs.size = i → vv.size = i → ps.size = i → (∀ y, y ∉ ns → m₁ y = m₀ y) → TdJ lb lv lp R m₀ ns i m₁ n₁
theorem loop_td {LL : Addr} {prog : Program} {w : World} {A : Around} {E : Value → Shared → Prop} {hS : Heap} {gS : Array GenState} {dS : Drawn} {tS : Nat} {oS : OsState} {env : Env} {h₀ : Heap} {x : Str} {body : List Stmt} {Q : Flow → Shared → Prop} {m₀ : Str → Option Value} {l : Addr} {vs : List Value} {lb lv lp : Addr} {R : List (Addr × Obj)} (ns : List Str)
    (hh : A.handled = none) (F : Fr h₀ LL hS m₀) (N : News h₀ LL hS ((lb, listOf #[] 0) :: (lv, listOf #[] 0) :: (lp, listOf #[] 0) :: R)) (nd : Ne ((lb, listOf #[] 0) :: (lv, listOf #[] 0) :: (lp, listOf #[] 0) :: R)) (hp : (l, tupOf vs) ∈ R)
    (turn : ∀ (i : Nat) (v : Value) (m₁ : Str → Option Value) (I : Addr) (io : Obj) (h : Heap) (tk : Nat) (W : List (Addr × Obj)) (bs vv ps : Array Value) (n1 n2 n3 : Nat), vs[i]? = some v → bs.size = i → vv.size = i → ps.size = i → (∀ y, y ∉ ns → m₁ y = m₀ y) → Fr h₀ LL h (fun y => if y = x then some v else m₁ y) → News h₀ LL h ((I, io) :: tdLed W lb lv lp bs vv ps n1 n2 n3 R) → Ne ((I, io) :: tdLed W lb lv lp bs vv ps n1 n2 n3 R) →
      wpAny (model prog w) A (execs body env) (EndT h₀ LL gS dS oS (I, io) lb lv lp R m₀ ns (i + 1) Q) E ⟨h, gS, dS, tk, oS⟩)
    (done : ∀ (m₁ : Str → Option Value) (h : Heap) (tk : Nat) (W : List (Addr × Obj)) (bs vv ps : Array Value) (n1 n2 n3 : Nat), ps.size = vs.length → (∀ y, y ∉ ns → m₁ y = m₀ y) → Fr h₀ LL h m₁ → News h₀ LL h (tdLed W lb lv lp bs vv ps n1 n2 n3 R) → Ne (tdLed W lb lv lp bs vv ps n1 n2 n3 R) → Q .next ⟨h, gS, dS, tk, oS⟩)
    (hL : env.locals = LL := by rfl) :
    wpAny (model prog w) A (pyIter (.ref l)) (fun it s₂ => LoopAtV prog w A h₀ env x body Q E it s₂) E ⟨hS, gS, dS, tS, oS⟩ := by
  subst hL
  have hmem : ∀ W bs vv ps n1 n2 n3, (l, tupOf vs) ∈ tdLed W lb lv lp bs vv ps n1 n2 n3 R := fun W bs vv ps n1 n2 n3 => List.mem_append_right _ (.tail _ (.tail _ (.tail _ hp)))
  refine iterT (vs := vs) (TdJ lb lv lp R m₀ ns) hh F N (.tail _ (.tail _ (.tail _ hp))) ⟨[], #[], #[], #[], 0, 0, 0, rfl, nd, rfl, rfl, rfl, fun _ _ => rfl⟩ ?_ ?_
  · rintro i v m₁ n₁ I io h tk hv ⟨W, bs, vv, ps, n1, n2, n3, rfl, nd1, h1, h2, h3, hm⟩ _ hI F1 N1
    refine wpAny_mono (turn i v m₁ I io h tk W bs vv ps n1 n2 n3 hv h1 h2 h3 hm F1 N1 (nd1.cons' hI)) (fun fl s₂ e => ?_) fun _ _ e => e
    cases fl with
    | ret v => exact e
    | brk => exact e.elim
    | next =>
      refine hide ?_
      intro GG hGG
      obtain ⟨h', tk', m', W', bs', vv', ps', y1, y2, y3, rfl, F2, hm2, N2, nd2, a1, a2, a3⟩ := e
      refine hGG ?_
      try clear hGG GG
      exact turn_next _ F2 N2 (fun p hq => by rw [List.mem_singleton.mp hq]; exact hmem ..) nd2.ne ⟨W', bs', vv', ps', y1, y2, y3, rfl, nd2.drop, a1, a2, a3, hm2⟩ rfl
    | cont =>
      refine hide ?_
      intro GG hGG
      obtain ⟨h', tk', m', W', bs', vv', ps', y1, y2, y3, rfl, F2, hm2, N2, nd2, a1, a2, a3⟩ := e
      refine hGG ?_
      try clear hGG GG
      exact ⟨h', tk', m', _, rfl, F2, N2, fun p hq => by rw [List.mem_singleton.mp hq]; exact hmem .., nd2.ne, W', bs', vv', ps', y1, y2, y3, rfl, nd2.drop, a1, a2, a3, hm2⟩
  · rintro m₁ n₁ h tk ⟨W, bs, vv, ps, n1, n2, n3, rfl, nd1, h1, h2, h3, hm⟩ F1 N1
    exact done m₁ h tk W bs vv ps n1 n2 n3 h3 hm F1 N1 nd1
theorem td_swap {h : Heap} {q1 q2 q3 : Addr × Obj} {W : List (Addr × Obj)} {lb lv lp : Addr} {bs vv ps : Array Value} {n1 n2 n3 : Nat} {R : List (Addr × Obj)} (N : News h₀ L h (q1 :: q2 :: q3 :: (W ++ ((lb, listOf bs n1) :: (lv, listOf vv n2) :: (lp, listOf ps n3) :: R)))) (nd : Ne (q1 :: q2 :: q3 :: (W ++ ((lb, listOf bs n1) :: (lv, listOf vv n2) :: (lp, listOf ps n3) :: R)))) :
    News h₀ L h (q3 :: tdLed (q1 :: q2 :: W) lb lv lp bs vv ps n1 n2 n3 R) ∧ Ne (q3 :: tdLed (q1 :: q2 :: W) lb lv lp bs vv ps n1 n2 n3 R) := by
  have hp : (q3 :: tdLed (q1 :: q2 :: W) lb lv lp bs vv ps n1 n2 n3 R).Perm (q1 :: q2 :: q3 :: (W ++ ((lb, listOf bs n1) :: (lv, listOf vv n2) :: (lp, listOf ps n3) :: R))) :=
    (List.Perm.swap ..).trans ((List.Perm.swap ..).cons _)
  refine ⟨fun x hx => N x (hp.mem_iff.mp hx), ?_⟩
  unfold Ne at nd ⊢
  exact (hp.map _).nodup_iff.mpr nd
theorem typedef_spec {pt : Addr} {vs : List Value} {tid sort flags bse asm : Int} {name : Str} {t1 t2 t3 t4 t5 t6 : Tok}
    (C : Cx w p loose mean mg mb cs outer A₀ base h₀ L m hS Z) (nd : Ne Z) (hpt : (pt, tupOf vs) ∈ Z) (hvs : ∀ v ∈ vs, ∃ x t, v = .str x t) (hvl : vs.length ≤ 2)
    (hdp : dp + 10 < recursionLimit) (hu : un + 60 < cLine)
    (ret : ∀ ta X h' tk', Fr h₀ L h' m → News h₀ L h' (X ++ Z) → Ne (X ++ Z) → TdIn w X ta vs.length sort → Q (.ref ta) ⟨h', gS, dS, tk', oS⟩) :
    wpAny (model PR w) (ktrTop dp un gd cn cs L a ccd cl outer) (call (.ref 229) [.int tid t1, .str name t2, .int sort t3, .int flags t4, .int bse t5, .ref pt, .int asm t6]) Q E ⟨hS, gS, dS, tS, oS⟩ := by
 k_with "b" =>
  refine hide ?_
  intro GG hGG
  obtain ⟨B, F, X, N, T, hk⟩ := C
  refine hGG ?_
  try clear hGG GG
  k_steps
  refine unholdS ?_
  rename Fr _ _ _ _ => lF
  with_unfolding_all refine For_invVF lF rfl rfl ?_
  k_steps
  refine unholdS ?_
  rename Fr _ _ _ _ => F2
  rename News _ _ _ _ => N2
  rename Ne _ => nd2
  refine loop_td ["word"] rfl F2 N2 nd2 (by k_extra "z k_memS") ?_ ?_
  · intro i v m₁ I io h tk W bs vv ps n1 n2 n3 hv h1 h2 h3 hm F3 N3 nd3
    refine hide ?_
    intro GG hGG
    obtain ⟨u, rfl⟩ := over1 hm
    obtain ⟨x, t, rfl⟩ := hvs v (List.mem_of_getElem? hv)
    refine hGG ?_
    try clear hGG GG
    have hil := (List.getElem?_eq_some_iff.mp hv).1
    have y1 : bs.size ≤ 900 := by (first | k_extra "z k_ar" | omega)
    have y2 : vv.size ≤ 900 := by (first | k_extra "z k_ar" | omega)
    have y3 : ps.size ≤ 900 := by (first | k_extra "z k_ar" | omega)
    unfold tdLed at N3 nd3
    clear F2 N2 nd2
    k_steps
    rename News _ _ _ _ => N4
    rename Ne _ => nd4
    obtain ⟨N5, nd5⟩ := td_swap N4 nd4
    exact EndT.intro (by k_asm) (by k_extra "z ev_off") N5 nd5 (by simp [h1]) (by simp [h2]) (by simp [h3])
  · intro m₁ h tk W bs vv ps n1 n2 n3 h3 hm F3 N3 nd3
    try dsimp only
    obtain ⟨u, rfl⟩ := over1 hm
    unfold tdLed at N3 nd3
    clear F2 N2 nd2
    k_steps
    rename News _ _ _ _ => N9
    rename Ne _ => nd9
    rename Obj.IsDictOf _ _ (_ :: _) => hod
    obtain ⟨Na, nda⟩ := Tl.mk' (Z := Z) N9 nd9 (by k_extra "z k_tl")
    exact ret _ _ _ _ (by k_asm) Na nda ⟨_, _, _, _, _, _, _, _, _, _, _, _, _, _, _, _, _, _, _, _, _, _, _, by k_extra "z k_memS", by k_extra "z k_memS", hod, by k_extra "z k_memS", h3⟩
 refine no_implicit_lambda% (qo ?_)
 simp (disch := k_dflt k_extra "b") only [↓qs]
end
theorem lines36 : True := by
  k_with "z call ref" => ((k_here; (with_reducible show wpAny _ _ (call (Value.ref 110) _) _ _ _); refine hold ?_))
  trivial
noncomputable def storeKS (kt types a b c d e : Value) : List (Str × Value) := [("kt", kt), ("types", types), ("fields_", a), ("methods", b), ("names", c), ("asms", d), ("entry", e)]
inductive StIn (w : World) (imm : List (Addr × Obj)) (sx akt lt : Addr) : Prop
  | mk (sd : Addr) (od : Obj) (a b c d e : Value) : (sx, instObj 250 sd) ∈ imm → (sd, od) ∈ imm → od.IsDictOf (strKind PR w) (storeKS (.ref akt) (.ref lt) a b c d e) → StIn w imm sx akt lt
section
variable {w : World} {p : Program} {loose : List Str} {mean : ExcName → Option Value} {mg mb : Str → Option Value}
    {dp un : Nat} {gd : Option (List Code)} {cn : Str} {cs : Scope} {a : Addr} {ccd : Value} {cl : List (Str × Addr)} {outer : List Env} {A₀ : Around} {base h₀ : Heap} {L : Addr} {m : Str → Option Value} {s : Shared} {hS : Heap} {gS : Array GenState} {dS : Drawn} {tS : Nat} {oS : OsState}
    {Q E : Value → Shared → Prop} {Z Y : List (Addr × Obj)} {k : Kt} {ks : List (List EK)} {ds ws os : List Int}
theorem KL_one {q : Addr × Obj} : KL (q :: Z) k = q :: KL Z k := rfl
theorem st_form {h : Heap} {q1 q2 q3 q4 t x d : Addr × Obj} (N : News h₀ L h (q1 :: q2 :: q3 :: q4 :: t :: x :: d :: KL Z k)) (nd : Ne (q1 :: q2 :: q3 :: q4 :: t :: x :: d :: KL Z k)) (K : KtOk w k ks ds ws os) :
    ∃ k', News h₀ L h (t :: KL Z k') ∧ Ne (t :: KL Z k') ∧ KtOk w k' ks ds ws os ∧ k'.akt = k.akt ∧ x ∈ k'.imm ∧ d ∈ k'.imm := by
  have hp : (q1 :: q2 :: q3 :: q4 :: x :: d :: KL (t :: Z) k).Perm (q1 :: q2 :: q3 :: q4 :: t :: x :: d :: KL Z k) := by
    refine .cons _ (.cons _ (.cons _ (.cons _ ?_)))
    exact (List.Perm.cons _ (List.Perm.swap ..)).trans (List.Perm.swap ..)
  have N1 : News h₀ L h (q1 :: q2 :: q3 :: q4 :: x :: d :: KL (t :: Z) k) := fun y hy => N y (hp.mem_iff.mp hy)
  have nd1 : Ne (q1 :: q2 :: q3 :: q4 :: x :: d :: KL (t :: Z) k) := by unfold Ne at nd ⊢; exact (hp.map _).nodup_iff.mpr nd
  refine hide ?_
  intro GG hGG
  obtain ⟨k1, N2, nd2, K1, _, _, e1⟩ := to_kimmK (Z := q2 :: q3 :: q4 :: x :: d :: t :: Z) N1 nd1 K
  obtain ⟨k2, N3, nd3, K2, _, _, e2⟩ := to_kimmK (Z := q3 :: q4 :: x :: d :: t :: Z) N2 nd2 K1
  obtain ⟨k3, N4, nd4, K3, _, _, e3⟩ := to_kimmK (Z := q4 :: x :: d :: t :: Z) N3 nd3 K2
  obtain ⟨k4, N5, nd5, K4, _, _, e4⟩ := to_kimmK (Z := x :: d :: t :: Z) N4 nd4 K3
  obtain ⟨k5, N6, nd6, K5, hx, _, e5⟩ := to_kimmK (Z := d :: t :: Z) N5 nd5 K4
  obtain ⟨k6, N7, nd7, K6, hd, i6, e6⟩ := to_kimmK (Z := t :: Z) N6 nd6 K5
  refine hGG ?_
  try clear hGG GG
  exact ⟨k6, N7, nd7, K6, by rw [e6, e5, e4, e3, e2, e1], i6 _ hx, hd⟩
theorem store_new (C : Cx w p loose mean mg mb cs outer A₀ base h₀ L m hS Z) (nd : Ne Z)
    (hdp : dp + 30 < recursionLimit) (hu : un + 200 < cLine)
    (ret : ∀ sx lt k h' tk', Fr h₀ L h' m → News h₀ L h' ((lt, listOf #[.none] 0) :: KL Z k) → Ne ((lt, listOf #[.none] 0) :: KL Z k) → KtOk w k (primK 16) (List.replicate 16 1) (List.replicate 16 1) (List.replicate 16 0) → StIn w k.imm sx k.akt lt → Q (.ref sx) ⟨h', gS, dS, tk', oS⟩) :
    wpAny (model PR w) (ktrTop dp un gd cn cs L a ccd cl outer) (call (.ref 250) []) Q E ⟨hS, gS, dS, tS, oS⟩ := by
 k_with "b" =>
  refine hide ?_
  intro GG hGG
  obtain ⟨B, F, X, N, T, hk⟩ := C
  refine hGG ?_
  try clear hGG GG
  k_steps
  refine unhold ?_
  rename Fr _ _ _ _ => F1
  rename News _ _ _ _ => N1
  rename Ne _ => nd1
  rename Below _ _ _ _ => B1
  rename (KF w.params).In _ => X1
  rename Top _ _ _ _ _ _ => T1
  refine kt_init B1 F1 X1 N1 T1 rfl nd1 (by k_extra "z ev_room") (by k_extra "z ev_room") ?_
  intro k h2 tk2 F2 N2 nd2 K
  clear N1 nd1 F1
  simp only [KL_one] at N2 nd2
  try dsimp only
  k_steps
  rename News _ _ _ _ => N9
  rename Ne _ => nd9
  rename Obj.IsDictOf _ _ (_ :: _) => hod
  refine hide ?_
  intro GG hGG
  obtain ⟨k', Na, nda, K', e', hx, hd⟩ := st_form N9 nd9 K
  refine hGG ?_
  try clear hGG GG
  exact ret _ _ k' _ _ (by k_asm) Na nda K' ⟨_, _, _, _, _, _, _, hx, hd, by rw [e']; exact hod⟩
 refine no_implicit_lambda% (qo ?_)
 simp (disch := k_dflt k_extra "b") only [↓qs]
end
theorem lines37 : True := by
  k_with "z call ref" => ((k_here; (with_reducible show wpAny _ _ (call (Value.ref 229) _) _ _ _); refine hold ?_))
  k_with "z call ref" => ((k_here; (with_reducible show wpAny _ _ (call (Value.ref 191) _) _ _ _); refine hold ?_))
  k_with "z call ref" => ((k_here; (with_reducible show wpAny _ _ (call (Value.ref 170) _) _ _ _); refine hold ?_))
  k_with "z call ref" => ((k_here; (with_reducible show wpAny _ _ (call (Value.ref 177) _) _ _ _); refine hold ?_))
  trivial
theorem setL_some : ∀ {l : List Value} {k : Nat} {v : Value}, k < l.length → ki_setL l k v = some (l.set k v)
  | [], _, _, h => absurd h (Nat.not_lt_zero _)
  | _ :: _, 0, _, _ => rfl
  | x :: r, k + 1, v, h => by
    unfold ki_setL
    rw [setL_some (Nat.lt_of_succ_lt_succ h)]; rfl
section
variable {w : World} {p : Program} {loose : List Str} {mean : ExcName → Option Value} {mg mb : Str → Option Value}
    {dp un : Nat} {gd : Option (List Code)} {cn : Str} {cs : Scope} {a : Addr} {ccd : Value} {cl : List (Str × Addr)} {outer : List Env} {A₀ : Around} {base h₀ : Heap} {L : Addr} {m : Str → Option Value} {s : Shared} {hS : Heap} {gS : Array GenState} {dS : Drawn} {tS : Nat} {oS : OsState}
    {Q E : Value → Shared → Prop} {Z Y Z' : List (Addr × Obj)} {k : Kt} {ks : List (List EK)} {ds ws os : List Int} {A : Around} {prog : Program}
theorem setP {D : Addr} {l : List Value} {n : Nat} {i : Int} {t : Tok} {v : Value} {E : Value → Shared → Prop} {Q : Unit → Shared → Prop} (F : Fr h₀ L hS m) (N : News h₀ L hS Z) (nd : Ne Z) (h0 : 0 ≤ i) (hn : i.toNat < l.length) (hf : i < 1000)
    (U : UpS D (listOf l.toArray n) (listOf (l.set i.toNat v).toArray n) Z Z')
    (h : ∀ h', Fr h₀ L h' m → News h₀ L h' Z' → Ne Z' → Q () ⟨h', gS, dS, tS, oS⟩) : wpAny (model prog w) A (setItem (.ref D) (.int i t) v) Q E ⟨hS, gS, dS, tS, oS⟩ :=
  ki_set F N h0 (by (first | k_extra "z k_ar" | omega)) (setL_some hn) (U.upd nd) fun h' F' N' => h h' F' N' (U.ne nd)
theorem extP {D b : Addr} {l l2 : List Value} {n n2 : Nat} {Q : Value → Shared → Prop} (F : Fr h₀ L hS m) (N : News h₀ L hS Z) (nd : Ne Z) (hb : (b, listOf l2.toArray n2) ∈ Z) (h1 : l2.length ≠ 0) (h2 : l.length + l2.length ≤ 100)
    (U : UpS D (listOf l.toArray n) (listOf (l ++ l2).toArray (n + 1)) Z Z')
    (h : ∀ h', Fr h₀ L h' m → News h₀ L h' Z' → Ne Z' → Q .none ⟨h', gS, dS, tS, oS⟩) : wpAny (model prog w) A (call (.builtin "list.extend") [.ref D, .ref b]) Q E ⟨hS, gS, dS, tS, oS⟩ :=
  kl_extend (its := l.toArray) (its2 := l2.toArray) F N hb rfl h1 (U.upd nd) (by have e : Builtin.List.listTooLong (l.toArray.size + l2.toArray.size) = false := by { simp [Builtin.List.listTooLong, sizeLine_eq]; (first | k_extra "z k_ar" | omega) }; rw [e]; simp) (by rw [sizeLine_eq]; simp; (first | k_extra "z k_ar" | omega)) (by rw [sizeLine_eq]; simp; (first | k_extra "z k_ar" | omega)) fun h' F' N' => h h' F' N' (U.ne nd)
theorem mulP {l : Addr} {x : Int} {u : Tok} {vs : List Value} {n : Nat} {Q : Value → Shared → Prop} (F : Fr h₀ L hS m) (N : News h₀ L hS Z) (nd : Ne Z) (hl : (l, listOf vs.toArray n) ∈ Z) (hx : 0 ≤ x ∧ x ≤ 30) (hv : vs.length ≤ 3)
    (h : ∀ D h', Fr h₀ L h' m → News h₀ L h' ((D, listOf (List.replicate x.toNat vs).flatten.toArray 0) :: Z) → Ne ((D, listOf (List.replicate x.toNat vs).flatten.toArray 0) :: Z) → Q (.ref D) ⟨h', gS, dS, tS, oS⟩) : wpAny (model prog w) A (binaryOp .Mult (.ref l) (.int x u)) Q E ⟨hS, gS, dS, tS, oS⟩ :=
  KMa.mul F N (isListN N hl) (by (first | k_extra "z k_ar" | omega)) (by (first | k_extra "z k_ar" | omega)) (Nat.le_trans (Nat.mul_le_mul hv (show x.toNat ≤ 30 by (first | k_extra "z k_ar" | omega))) (by decide)) rfl fun D h' F' N' l1 => h D h' F' N' (nd.push l1)
theorem lines38 : True := by
  k_with "z binaryOp Mult ref int" => ((k_here; k_dflt (refine mulP (by k_asm) (by k_asm) (by assumption) (by k_extra "z k_memS") (by decide) (by decide) ?_); intro zqD' zqh' zqF' zqN' zqnd'; (try k_sweep)))
  k_with "z call builtin:list.extend" => ((k_here; refine hold ?_))
  k_with "z setItem ref int" => ((k_here; refine hold ?_))
  trivial
theorem to_kimmX {h : Heap} : ∀ {X Z : List (Addr × Obj)} {k : Kt}, News h₀ L h (X ++ KL Z k) → Ne (X ++ KL Z k) → KtOk w k ks ds ws os →
    KmP w h₀ L h Z k ks ds ws os X
  | [], _, k, N, nd, K => ⟨k, N, nd, K, (fun _ h => nomatch h), fun _ h => h, rfl⟩
  | q :: X, Z, k, N, nd, K => by
    refine hide ?_
    intro GG hGG
    obtain ⟨k1, N1, nd1, K1, h1, i1, e1⟩ := to_kimmK (Z := X ++ Z) (q := q) (k := k) (by unfold KL at N ⊢; simpa using N) (by unfold KL at nd ⊢; simpa using nd) K
    obtain ⟨k2, N2, nd2, K2, h2, i2, e2⟩ := to_kimmX (X := X) (Z := Z) (k := k1) (by unfold KL at N1 ⊢; simpa using N1) (by unfold KL at nd1 ⊢; simpa using nd1) K1
    refine hGG ?_
    try clear hGG GG
    refine ⟨k2, N2, nd2, K2, fun x hx => ?_, fun x hx => i2 x (i1 x hx), e2.trans e1⟩
    rcases List.mem_cons.mp hx with rfl | hx
    · exact i2 _ h1
    · exact h2 x hx
theorem strs0 : ∀ v ∈ ([] : List Value), ∃ x t, v = .str x t := fun _ h => nomatch h
theorem strs1 {x : Str} {t : Tok} : ∀ v ∈ [Value.str x t], ∃ x t, v = .str x t := fun v h => by rw [List.mem_singleton.mp h]; exact ⟨_, _, rfl⟩
theorem strs2 {x y : Str} {t u : Tok} : ∀ v ∈ [Value.str x t, Value.str y u], ∃ x t, v = .str x t := fun v h => by
  rcases List.mem_cons.mp h with rfl | h
  · exact ⟨_, _, rfl⟩
  · rw [List.mem_singleton.mp h]; exact ⟨_, _, rfl⟩
theorem bnd_snoc {l : List Int} {D D' d : Int} (h : ∀ x ∈ l, 0 ≤ x ∧ x ≤ D) (hd : 0 ≤ d ∧ d ≤ D') (hD : D ≤ D') : ∀ x ∈ l ++ [d], 0 ≤ x ∧ x ≤ D' := fun x hx => by
  rcases List.mem_append.mp hx with hx | hx
  · have := h x hx; (first | k_extra "z k_ar" | omega)
  · rw [List.mem_singleton.mp hx]; exact hd
theorem td_move {h : Heap} {X : List (Addr × Obj)} {q t : Addr × Obj} (N : News h₀ L h (X ++ (q :: t :: KL Z k))) (nd : Ne (X ++ (q :: t :: KL Z k))) (K : KtOk w k ks ds ws os) :
    KmP w h₀ L h (t :: Z) k ks ds ws os X := by
  have e : X ++ (q :: t :: KL Z k) = (X ++ [q]) ++ KL (t :: Z) k := by rw [List.append_assoc]; rfl
  rw [e] at N nd
  refine hide ?_
  intro GG hGG
  obtain ⟨k2, N2, nd2, K2, h1, h2, h3⟩ := to_kimmX N nd K
  refine hGG ?_
  try clear hGG GG
  exact ⟨k2, N2, nd2, K2, fun x hx => h1 x (List.mem_append_left _ hx), h2, h3⟩
theorem TdIn.mono {X X' : List (Addr × Obj)} {ta : Addr} {np : Nat} {sort : Int} (x : TdIn w X ta np sort) (h : ∀ q ∈ X, q ∈ X') : TdIn w X' ta np sort := let ⟨_, _, _, _, _, _, _, _, _, _, _, _, _, _, _, _, _, _, _, _, _, _, _, a, b, c, d, e⟩ := x; ⟨_, _, _, _, _, _, _, _, _, _, _, _, _, _, _, _, _, _, _, _, _, _, _, h _ a, h _ b, c, h _ d, e⟩
noncomputable def kindsK : List (List EK) := primK 16 ++ [[.i 6, .i 0]] ++ [[.i 2, .i 21, .t []]] ++ [[.i 6, .i 1]] ++ [[.i 2, .i 22, .t [16, 18]]] ++ [[.i 3, .i 23, .t []]] ++ [[.i 3, .i 24, .t [16]]] ++ [[.i 2, .i 25, .t [16]]] ++ [[.i 3, .i 26, .t []]]
inductive RowAt (imm : List (Addr × Obj)) (v : Value) (tid k : Int) (b : Bool) : Prop
  | mk (ra : Addr) (t1 t2 : Tok) : v = .ref ra → (ra, tupOf [.int tid t1, .int k t2, .bool b]) ∈ imm → RowAt imm v tid k b
inductive LtTy (w : World) (imm : List (Addr × Obj)) (lt : Addr) : Prop
  | mk (types : List Value) (n : Nat) (h : (lt, listOf (types : List Value).toArray n) ∈ imm) (t1 t2 t3 t4 t5 t6 : Addr) : types[21]? = some (.ref t1) → TdIn w imm t1 0 1 → types[22]? = some (.ref t2) → TdIn w imm t2 2 1 → types[23]? = some (.ref t3) → TdIn w imm t3 0 2 → types[24]? = some (.ref t4) → TdIn w imm t4 1 2 → types[25]? = some (.ref t5) → TdIn w imm t5 1 3 → types[26]? = some (.ref t6) → TdIn w imm t6 0 5 → LtTy w imm lt
inductive LtRows (imm : List (Addr × Obj)) (tt : Addr) : Prop
  | mk (v1 v2 v3 v4 v5 v6 v7 v8 v9 : Value) : (tt, tupOf [v1, v2, v3, v4, v5, v6, v7, v8, v9]) ∈ imm → RowAt imm v1 21 17 false → RowAt imm v2 22 19 false → RowAt imm v3 23 20 true → RowAt imm v4 24 21 true → RowAt imm v5 15 7 true → RowAt imm v6 4 13 false → RowAt imm v7 25 22 false → RowAt imm v8 26 23 true → RowAt imm v9 1 12 false → LtRows imm tt
structure LawTypes (w : World) (k : Kt) (sx lt tt : Addr) : Prop where
  st : StIn w k.imm sx k.akt lt
  ty : LtTy w k.imm lt
  rows : LtRows k.imm tt
theorem law_types_spec {sx lt : Addr}
    (C : Cx w p loose mean mg mb cs outer A₀ base h₀ L m hS ((lt, listOf #[.none] 0) :: KL Z k)) (nd : Ne ((lt, listOf #[.none] 0) :: KL Z k)) (K : KtOk w k (primK 16) (List.replicate 16 1) (List.replicate 16 1) (List.replicate 16 0)) (S : StIn w k.imm sx k.akt lt)
    (hdp : dp + 50 < recursionLimit) (hu : un + 300 < cLine)
    (ret : ∀ tt k' ds ws os h' tk', Fr h₀ L h' m → News h₀ L h' (KL Z k') → Ne (KL Z k') → KtOk w k' kindsK ds ws os → LawTypes w k' sx lt tt → k'.akt = k.akt → Q (.ref tt) ⟨h', gS, dS, tk', oS⟩) :
    wpAny (model PR w) (ktrTop dp un gd cn cs L a ccd cl outer) (call (.ref 943) [.ref sx]) Q E ⟨hS, gS, dS, tS, oS⟩ := by
 k_with "b" =>
  refine hide ?_
  intro GG hGG
  obtain ⟨sd, od, xa, xb, xc, xd, xe, h1, h2', hsto⟩ := S
  obtain ⟨B, F, X, N, T, hk⟩ := C
  refine hGG ?_
  try clear hGG GG
  k_dflt k_extra "z enterF"
  k_steps
  refine unhold ?_
  rename Fr _ _ _ _ => F1
  rename News _ _ _ _ => N1
  rename Ne _ => nd1
  refine extP (l := [.none]) F1 N1 nd1 (.head _) (by decide) (by decide) (.tail (.tail .head)) ?_
  intro h2 F2 N2 nd2
  replace N2 := dropY (dropY N2)
  replace nd2 := nd2.drop.drop
  generalize htp : ([.none] ++ (List.replicate _ [Value.none]).flatten : List Value) = types at N2 nd2
  have htl : types.length = 27 := by rw [← htp]; rfl
  clear F1 N1 nd1 htp
  try dsimp only
  k_steps
  refine unhold ?_
  rename News _ _ _ _ => N1
  rename Ne _ => nd1
  refine typedef_spec ⟨by k_asm, by k_asm, by k_asm, by k_asm, by k_asm, by first | exact rfl | assumption⟩ nd1 (.head _) (by first | exact strs0 | exact strs1 | exact strs2) (by exact Nat.le_of_ble_eq_true rfl) (by k_extra "z ev_room") (by k_extra "z ev_room") ?_
  intro ta21 X21 h3 tk3 F3 N3 nd3 hT21
  clear N1 nd1
  refine hide ?_
  intro GG hGG
  obtain ⟨k21, N4, nd4, K21, hX, hI21, e21⟩ := td_move N3 nd3 K
  refine hGG ?_
  try clear hGG GG
  replace hT21 := hT21.mono hX
  replace h1 := hI21 _ h1
  replace h2' := hI21 _ h2'
  clear N3 nd3 hX
  try dsimp only
  k_steps
  refine unhold ?_
  rename Fr _ _ _ _ => F5
  refine setP (l := types) F5 N4 nd4 (by decide) (by simp only [List.length_set, htl]; decide) (by decide) UpS.head ?_
  intro h5 F6 N6 nd6
  clear N4 nd4 F5
  try dsimp only
  k_steps
  refine unhold ?_
  rename News _ _ _ _ => N1
  rename Ne _ => nd1
  refine typedef_spec ⟨by k_asm, by k_asm, by k_asm, by k_asm, by k_asm, by first | exact rfl | assumption⟩ nd1 (.head _) (by first | exact strs0 | exact strs1 | exact strs2) (by exact Nat.le_of_ble_eq_true rfl) (by k_extra "z ev_room") (by k_extra "z ev_room") ?_
  intro ta22 X22 h3 tk3 F3 N3 nd3 hT22
  clear N1 nd1
  refine hide ?_
  intro GG hGG
  obtain ⟨k22, N4, nd4, K22, hX, hI22, e22⟩ := td_move N3 nd3 K21
  refine hGG ?_
  try clear hGG GG
  replace hT22 := hT22.mono hX
  replace h1 := hI22 _ h1
  replace h2' := hI22 _ h2'
  replace hT21 := hT21.mono hI22
  clear N3 nd3 hX
  try dsimp only
  k_steps
  refine unhold ?_
  rename Fr _ _ _ _ => F5
  refine setP (l := _) F5 N4 nd4 (by decide) (by simp only [List.length_set, htl]; decide) (by decide) UpS.head ?_
  intro h5 F6 N6 nd6
  clear N4 nd4 F5
  try dsimp only
  k_steps
  refine unhold ?_
  rename News _ _ _ _ => N1
  rename Ne _ => nd1
  refine typedef_spec ⟨by k_asm, by k_asm, by k_asm, by k_asm, by k_asm, by first | exact rfl | assumption⟩ nd1 (.head _) (by first | exact strs0 | exact strs1 | exact strs2) (by exact Nat.le_of_ble_eq_true rfl) (by k_extra "z ev_room") (by k_extra "z ev_room") ?_
  intro ta23 X23 h3 tk3 F3 N3 nd3 hT23
  clear N1 nd1
  refine hide ?_
  intro GG hGG
  obtain ⟨k23, N4, nd4, K23, hX, hI23, e23⟩ := td_move N3 nd3 K22
  refine hGG ?_
  try clear hGG GG
  replace hT23 := hT23.mono hX
  replace h1 := hI23 _ h1
  replace h2' := hI23 _ h2'
  replace hT21 := hT21.mono hI23
  replace hT22 := hT22.mono hI23
  clear N3 nd3 hX
  try dsimp only
  k_steps
  refine unhold ?_
  rename Fr _ _ _ _ => F5
  refine setP (l := _) F5 N4 nd4 (by decide) (by simp only [List.length_set, htl]; decide) (by decide) UpS.head ?_
  intro h5 F6 N6 nd6
  clear N4 nd4 F5
  try dsimp only
  k_steps
  refine unhold ?_
  rename News _ _ _ _ => N1
  rename Ne _ => nd1
  refine typedef_spec ⟨by k_asm, by k_asm, by k_asm, by k_asm, by k_asm, by first | exact rfl | assumption⟩ nd1 (.head _) (by first | exact strs0 | exact strs1 | exact strs2) (by exact Nat.le_of_ble_eq_true rfl) (by k_extra "z ev_room") (by k_extra "z ev_room") ?_
  intro ta24 X24 h3 tk3 F3 N3 nd3 hT24
  clear N1 nd1
  refine hide ?_
  intro GG hGG
  obtain ⟨k24, N4, nd4, K24, hX, hI24, e24⟩ := td_move N3 nd3 K23
  refine hGG ?_
  try clear hGG GG
  replace hT24 := hT24.mono hX
  replace h1 := hI24 _ h1
  replace h2' := hI24 _ h2'
  replace hT21 := hT21.mono hI24
  replace hT22 := hT22.mono hI24
  replace hT23 := hT23.mono hI24
  clear N3 nd3 hX
  try dsimp only
  k_steps
  refine unhold ?_
  rename Fr _ _ _ _ => F5
  refine setP (l := _) F5 N4 nd4 (by decide) (by simp only [List.length_set, htl]; decide) (by decide) UpS.head ?_
  intro h5 F6 N6 nd6
  clear N4 nd4 F5
  try dsimp only
  k_steps
  refine unhold ?_
  rename News _ _ _ _ => N1
  rename Ne _ => nd1
  refine typedef_spec ⟨by k_asm, by k_asm, by k_asm, by k_asm, by k_asm, by first | exact rfl | assumption⟩ nd1 (.head _) (by first | exact strs0 | exact strs1 | exact strs2) (by exact Nat.le_of_ble_eq_true rfl) (by k_extra "z ev_room") (by k_extra "z ev_room") ?_
  intro ta25 X25 h3 tk3 F3 N3 nd3 hT25
  clear N1 nd1
  refine hide ?_
  intro GG hGG
  obtain ⟨k25, N4, nd4, K25, hX, hI25, e25⟩ := td_move N3 nd3 K24
  refine hGG ?_
  try clear hGG GG
  replace hT25 := hT25.mono hX
  replace h1 := hI25 _ h1
  replace h2' := hI25 _ h2'
  replace hT21 := hT21.mono hI25
  replace hT22 := hT22.mono hI25
  replace hT23 := hT23.mono hI25
  replace hT24 := hT24.mono hI25
  clear N3 nd3 hX
  try dsimp only
  k_steps
  refine unhold ?_
  rename Fr _ _ _ _ => F5
  refine setP (l := _) F5 N4 nd4 (by decide) (by simp only [List.length_set, htl]; decide) (by decide) UpS.head ?_
  intro h5 F6 N6 nd6
  clear N4 nd4 F5
  try dsimp only
  k_steps
  refine unhold ?_
  rename News _ _ _ _ => N1
  rename Ne _ => nd1
  refine typedef_spec ⟨by k_asm, by k_asm, by k_asm, by k_asm, by k_asm, by first | exact rfl | assumption⟩ nd1 (.head _) (by first | exact strs0 | exact strs1 | exact strs2) (by exact Nat.le_of_ble_eq_true rfl) (by k_extra "z ev_room") (by k_extra "z ev_room") ?_
  intro ta26 X26 h3 tk3 F3 N3 nd3 hT26
  clear N1 nd1
  refine hide ?_
  intro GG hGG
  obtain ⟨k26, N4, nd4, K26, hX, hI26, e26⟩ := td_move N3 nd3 K25
  refine hGG ?_
  try clear hGG GG
  replace hT26 := hT26.mono hX
  replace h1 := hI26 _ h1
  replace h2' := hI26 _ h2'
  replace hT21 := hT21.mono hI26
  replace hT22 := hT22.mono hI26
  replace hT23 := hT23.mono hI26
  replace hT24 := hT24.mono hI26
  replace hT25 := hT25.mono hI26
  clear N3 nd3 hX
  try dsimp only
  k_steps
  refine unhold ?_
  rename Fr _ _ _ _ => F5
  refine setP (l := _) F5 N4 nd4 (by decide) (by simp only [List.length_set, htl]; decide) (by decide) UpS.head ?_
  intro h5 F6 N6 nd6
  clear N4 nd4 F5
  try dsimp only
  k_steps
  have ek : k26.akt = k.akt := by rw [e26, e25, e24, e23, e22, e21]
  have bD : ∀ x ∈ (List.replicate 16 1 : List Int), 0 ≤ x ∧ x ≤ (1 : Int) := by decide
  have bW : ∀ x ∈ (List.replicate 16 1 : List Int), 0 ≤ x ∧ x ≤ (1 : Int) := by decide
  have hJ : ∀ x ∈ k26.imm, x ∈ k26.imm := fun _ h => h
  replace N6 : News _ _ _ (KL (_ :: Z) k26) := N6
  replace nd6 : Ne (KL (_ :: Z) k26) := nd6
  refine unhold ?_
  rename News _ _ _ _ => N1
  rename Ne _ => nd1
  rw [← ek]
  refine var_kind_spec ⟨by k_asm, by k_asm, by k_asm, by k_asm, by k_asm, by first | exact rfl | assumption⟩ nd1 K26 (by decide) (by decide) (by decide) (by k_extra "z ev_room") (by k_extra "z ev_room") ?_
  intro tv0 kk1 h7 tk7 F7 N7 nd7 Kkk1 e hI
  replace bD := bnd_snoc (d := 1) bD (D' := 1) (by decide) (by decide)
  replace bW := bnd_snoc (d := 1) bW (D' := 1) (by decide) (by decide)
  try rw [ek]
  replace hJ : ∀ x ∈ k26.imm, x ∈ kk1.imm := fun x h => hI x (hJ x h)
  replace ek := e.trans ek
  clear hI e N1 nd1
  rw [show (((_ : List (List EK)).length : Nat) : Int) = 16 from rfl]
  try dsimp only
  k_steps
  refine unhold ?_
  rename News _ _ _ _ => N1
  rename Ne _ => nd1
  refine hide ?_
  intro GG hGG
  obtain ⟨kk2, N1, nd1, Kkk2, haa, hI, e⟩ := to_kimmK (Z := _ ::  Z) N1 nd1 Kkk1
  refine hGG ?_
  try clear hGG GG
  replace hJ : ∀ x ∈ k26.imm, x ∈ kk2.imm := fun x h => hI x (hJ x h)
  replace ek := e.trans ek
  clear hI e
  rw [← ek]
  refine named_kind_spec (fn := 170) (sort := 2) (args := []) (D := 1) (W := 1) ⟨by k_asm, by k_asm, by k_asm, by k_asm, by k_asm, by first | exact rfl | assumption⟩ nd1 Kkk2 (by decide) haa .nil (fun v hv => nomatch hv) (.inl ⟨rfl, rfl⟩) (by decide) (by decide) (by decide) bD (by decide) bW (by decide) (by k_extra "z ev_room") (by k_extra "z ev_room") ?_
  intro tv1 kk3 d1 e1' g1 h7 tk7 F7 N7 nd7 Kkk3 e hI hd he
  replace bD := bnd_snoc bD (D' := 2) hd (by decide)
  replace bW := bnd_snoc bW (D' := 3) he (by decide)
  clear hd he haa
  try rw [ek]
  replace hJ : ∀ x ∈ k26.imm, x ∈ kk3.imm := fun x h => hI x (hJ x h)
  replace ek := e.trans ek
  clear hI e N1 nd1
  rw [show (((_ : List (List EK)).length : Nat) : Int) = 17 from rfl]
  try dsimp only
  k_steps
  refine unhold ?_
  rename News _ _ _ _ => N1
  rename Ne _ => nd1
  refine hide ?_
  intro GG hGG
  obtain ⟨kk4, N1, nd1, Kkk4, hr0, hI, e⟩ := to_kimmK (Z := _ ::  Z) N1 nd1 Kkk3
  refine hGG ?_
  try clear hGG GG
  replace hJ : ∀ x ∈ k26.imm, x ∈ kk4.imm := fun x h => hI x (hJ x h)
  replace ek := e.trans ek
  clear hI e
  rw [← ek]
  refine var_kind_spec ⟨by k_asm, by k_asm, by k_asm, by k_asm, by k_asm, by first | exact rfl | assumption⟩ nd1 Kkk4 (by decide) (by decide) (by decide) (by k_extra "z ev_room") (by k_extra "z ev_room") ?_
  intro tv2 kk5 h7 tk7 F7 N7 nd7 Kkk5 e hI
  replace bD := bnd_snoc (d := 1) bD (D' := 2) (by decide) (by decide)
  replace bW := bnd_snoc (d := 1) bW (D' := 3) (by decide) (by decide)
  try rw [ek]
  replace hr0 := hI _ hr0
  replace hJ : ∀ x ∈ k26.imm, x ∈ kk5.imm := fun x h => hI x (hJ x h)
  replace ek := e.trans ek
  clear hI e N1 nd1
  rw [show (((_ : List (List EK)).length : Nat) : Int) = 18 from rfl]
  try dsimp only
  k_steps
  refine unhold ?_
  rename News _ _ _ _ => N1
  rename Ne _ => nd1
  refine hide ?_
  intro GG hGG
  obtain ⟨kk6, N1, nd1, Kkk6, haa, hI, e⟩ := to_kimmK (Z := _ ::  Z) N1 nd1 Kkk5
  refine hGG ?_
  try clear hGG GG
  replace hr0 := hI _ hr0
  replace hJ : ∀ x ∈ k26.imm, x ∈ kk6.imm := fun x h => hI x (hJ x h)
  replace ek := e.trans ek
  clear hI e
  rw [← ek]
  refine named_kind_spec (fn := 170) (sort := 2) (args := [16, 18]) (D := 2) (W := 3) ⟨by k_asm, by k_asm, by k_asm, by k_asm, by k_asm, by first | exact rfl | assumption⟩ nd1 Kkk6 (by decide) haa (.cons _ _ (.cons _ _ .nil)) (fun v hv => by rcases List.mem_cons.mp hv with rfl | hv; exact ⟨by decide, 0, rfl⟩; rw [List.mem_singleton.mp hv]; exact ⟨by decide, 1, rfl⟩) (.inl ⟨rfl, rfl⟩) (by decide) (by decide) (by decide) bD (by decide) bW (by decide) (by k_extra "z ev_room") (by k_extra "z ev_room") ?_
  intro tv3 kk7 d3 e3' g3 h7 tk7 F7 N7 nd7 Kkk7 e hI hd he
  replace bD := bnd_snoc bD (D' := 3) hd (by decide)
  replace bW := bnd_snoc bW (D' := 7) he (by decide)
  clear hd he haa
  try rw [ek]
  replace hr0 := hI _ hr0
  replace hJ : ∀ x ∈ k26.imm, x ∈ kk7.imm := fun x h => hI x (hJ x h)
  replace ek := e.trans ek
  clear hI e N1 nd1
  rw [show (((_ : List (List EK)).length : Nat) : Int) = 19 from rfl]
  try dsimp only
  k_steps
  refine unhold ?_
  rename News _ _ _ _ => N1
  rename Ne _ => nd1
  refine hide ?_
  intro GG hGG
  obtain ⟨kk8, N1, nd1, Kkk8, haa, hI, e⟩ := to_kimmK (Z := _ :: _ ::  Z) N1 nd1 Kkk7
  replace hr0 := hI _ hr0
  replace hJ : ∀ x ∈ k26.imm, x ∈ kk8.imm := fun x h => hI x (hJ x h)
  replace ek := e.trans ek
  clear hI e
  obtain ⟨kk9, N1, nd1, Kkk9, hr1, hI, e⟩ := to_kimmK (Z := _ ::  Z) N1 nd1 Kkk8
  refine hGG ?_
  try clear hGG GG
  replace hr0 := hI _ hr0
  replace haa := hI _ haa
  replace hJ : ∀ x ∈ k26.imm, x ∈ kk9.imm := fun x h => hI x (hJ x h)
  replace ek := e.trans ek
  clear hI e
  rw [← ek]
  refine named_kind_spec (fn := 177) (sort := 3) (args := []) (D := 3) (W := 7) ⟨by k_asm, by k_asm, by k_asm, by k_asm, by k_asm, by first | exact rfl | assumption⟩ nd1 Kkk9 (by decide) haa .nil (fun v hv => nomatch hv) (.inr ⟨rfl, rfl⟩) (by decide) (by decide) (by decide) bD (by decide) bW (by decide) (by k_extra "z ev_room") (by k_extra "z ev_room") ?_
  intro tv4 kk10 d4 e4' g4 h7 tk7 F7 N7 nd7 Kkk10 e hI hd he
  replace bD := bnd_snoc bD (D' := 4) hd (by decide)
  replace bW := bnd_snoc bW (D' := 15) he (by decide)
  clear hd he haa
  try rw [ek]
  replace hr0 := hI _ hr0
  replace hr1 := hI _ hr1
  replace hJ : ∀ x ∈ k26.imm, x ∈ kk10.imm := fun x h => hI x (hJ x h)
  replace ek := e.trans ek
  clear hI e N1 nd1
  rw [show (((_ : List (List EK)).length : Nat) : Int) = 20 from rfl]
  try dsimp only
  k_steps
  refine unhold ?_
  rename News _ _ _ _ => N1
  rename Ne _ => nd1
  refine hide ?_
  intro GG hGG
  obtain ⟨kk11, N1, nd1, Kkk11, haa, hI, e⟩ := to_kimmK (Z := _ :: _ ::  Z) N1 nd1 Kkk10
  replace hr0 := hI _ hr0
  replace hr1 := hI _ hr1
  replace hJ : ∀ x ∈ k26.imm, x ∈ kk11.imm := fun x h => hI x (hJ x h)
  replace ek := e.trans ek
  clear hI e
  obtain ⟨kk12, N1, nd1, Kkk12, hr2, hI, e⟩ := to_kimmK (Z := _ ::  Z) N1 nd1 Kkk11
  refine hGG ?_
  try clear hGG GG
  replace hr0 := hI _ hr0
  replace hr1 := hI _ hr1
  replace haa := hI _ haa
  replace hJ : ∀ x ∈ k26.imm, x ∈ kk12.imm := fun x h => hI x (hJ x h)
  replace ek := e.trans ek
  clear hI e
  rw [← ek]
  refine named_kind_spec (fn := 177) (sort := 3) (args := [16]) (D := 4) (W := 15) ⟨by k_asm, by k_asm, by k_asm, by k_asm, by k_asm, by first | exact rfl | assumption⟩ nd1 Kkk12 (by decide) haa (.cons _ _ .nil) (fun v hv => by rw [List.mem_singleton.mp hv]; exact ⟨by decide, 0, rfl⟩) (.inr ⟨rfl, rfl⟩) (by decide) (by decide) (by decide) bD (by decide) bW (by decide) (by k_extra "z ev_room") (by k_extra "z ev_room") ?_
  intro tv5 kk13 d5 e5' g5 h7 tk7 F7 N7 nd7 Kkk13 e hI hd he
  replace bD := bnd_snoc bD (D' := 5) hd (by decide)
  replace bW := bnd_snoc bW (D' := 31) he (by decide)
  clear hd he haa
  try rw [ek]
  replace hr0 := hI _ hr0
  replace hr1 := hI _ hr1
  replace hr2 := hI _ hr2
  replace hJ : ∀ x ∈ k26.imm, x ∈ kk13.imm := fun x h => hI x (hJ x h)
  replace ek := e.trans ek
  clear hI e N1 nd1
  rw [show (((_ : List (List EK)).length : Nat) : Int) = 21 from rfl]
  try dsimp only
  k_steps
  refine unhold ?_
  rename News _ _ _ _ => N1
  rename Ne _ => nd1
  refine hide ?_
  intro GG hGG
  obtain ⟨kk14, N1, nd1, Kkk14, haa, hI, e⟩ := to_kimmK (Z := _ :: _ :: _ :: _ ::  Z) N1 nd1 Kkk13
  replace hr0 := hI _ hr0
  replace hr1 := hI _ hr1
  replace hr2 := hI _ hr2
  replace hJ : ∀ x ∈ k26.imm, x ∈ kk14.imm := fun x h => hI x (hJ x h)
  replace ek := e.trans ek
  clear hI e
  obtain ⟨kk15, N1, nd1, Kkk15, hr5, hI, e⟩ := to_kimmK (Z := _ :: _ :: _ ::  Z) N1 nd1 Kkk14
  replace hr0 := hI _ hr0
  replace hr1 := hI _ hr1
  replace hr2 := hI _ hr2
  replace haa := hI _ haa
  replace hJ : ∀ x ∈ k26.imm, x ∈ kk15.imm := fun x h => hI x (hJ x h)
  replace ek := e.trans ek
  clear hI e
  obtain ⟨kk16, N1, nd1, Kkk16, hr4, hI, e⟩ := to_kimmK (Z := _ :: _ ::  Z) N1 nd1 Kkk15
  replace hr0 := hI _ hr0
  replace hr1 := hI _ hr1
  replace hr2 := hI _ hr2
  replace haa := hI _ haa
  replace hr5 := hI _ hr5
  replace hJ : ∀ x ∈ k26.imm, x ∈ kk16.imm := fun x h => hI x (hJ x h)
  replace ek := e.trans ek
  clear hI e
  obtain ⟨kk17, N1, nd1, Kkk17, hr3, hI, e⟩ := to_kimmK (Z := _ ::  Z) N1 nd1 Kkk16
  refine hGG ?_
  try clear hGG GG
  replace hr0 := hI _ hr0
  replace hr1 := hI _ hr1
  replace hr2 := hI _ hr2
  replace haa := hI _ haa
  replace hr5 := hI _ hr5
  replace hr4 := hI _ hr4
  replace hJ : ∀ x ∈ k26.imm, x ∈ kk17.imm := fun x h => hI x (hJ x h)
  replace ek := e.trans ek
  clear hI e
  rw [← ek]
  refine named_kind_spec (fn := 170) (sort := 2) (args := [16]) (D := 5) (W := 31) ⟨by k_asm, by k_asm, by k_asm, by k_asm, by k_asm, by first | exact rfl | assumption⟩ nd1 Kkk17 (by decide) haa (.cons _ _ .nil) (fun v hv => by rw [List.mem_singleton.mp hv]; exact ⟨by decide, 0, rfl⟩) (.inl ⟨rfl, rfl⟩) (by decide) (by decide) (by decide) bD (by decide) bW (by decide) (by k_extra "z ev_room") (by k_extra "z ev_room") ?_
  intro tv6 kk18 d6 e6' g6 h7 tk7 F7 N7 nd7 Kkk18 e hI hd he
  replace bD := bnd_snoc bD (D' := 6) hd (by decide)
  replace bW := bnd_snoc bW (D' := 63) he (by decide)
  clear hd he haa
  try rw [ek]
  replace hr0 := hI _ hr0
  replace hr1 := hI _ hr1
  replace hr2 := hI _ hr2
  replace hr3 := hI _ hr3
  replace hr4 := hI _ hr4
  replace hr5 := hI _ hr5
  replace hJ : ∀ x ∈ k26.imm, x ∈ kk18.imm := fun x h => hI x (hJ x h)
  replace ek := e.trans ek
  clear hI e N1 nd1
  rw [show (((_ : List (List EK)).length : Nat) : Int) = 22 from rfl]
  try dsimp only
  k_steps
  refine unhold ?_
  rename News _ _ _ _ => N1
  rename Ne _ => nd1
  refine hide ?_
  intro GG hGG
  obtain ⟨kk19, N1, nd1, Kkk19, haa, hI, e⟩ := to_kimmK (Z := _ :: _ ::  Z) N1 nd1 Kkk18
  replace hr0 := hI _ hr0
  replace hr1 := hI _ hr1
  replace hr2 := hI _ hr2
  replace hr3 := hI _ hr3
  replace hr4 := hI _ hr4
  replace hr5 := hI _ hr5
  replace hJ : ∀ x ∈ k26.imm, x ∈ kk19.imm := fun x h => hI x (hJ x h)
  replace ek := e.trans ek
  clear hI e
  obtain ⟨kk20, N1, nd1, Kkk20, hr6, hI, e⟩ := to_kimmK (Z := _ ::  Z) N1 nd1 Kkk19
  refine hGG ?_
  try clear hGG GG
  replace hr0 := hI _ hr0
  replace hr1 := hI _ hr1
  replace hr2 := hI _ hr2
  replace hr3 := hI _ hr3
  replace hr4 := hI _ hr4
  replace hr5 := hI _ hr5
  replace haa := hI _ haa
  replace hJ : ∀ x ∈ k26.imm, x ∈ kk20.imm := fun x h => hI x (hJ x h)
  replace ek := e.trans ek
  clear hI e
  rw [← ek]
  refine named_kind_spec (fn := 177) (sort := 3) (args := []) (D := 6) (W := 63) ⟨by k_asm, by k_asm, by k_asm, by k_asm, by k_asm, by first | exact rfl | assumption⟩ nd1 Kkk20 (by decide) haa .nil (fun v hv => nomatch hv) (.inr ⟨rfl, rfl⟩) (by decide) (by decide) (by decide) bD (by decide) bW (by decide) (by k_extra "z ev_room") (by k_extra "z ev_room") ?_
  intro tv7 kk21 d7 e7' g7 h7 tk7 F7 N7 nd7 Kkk21 e hI hd he
  replace bD := bnd_snoc bD (D' := 7) hd (by decide)
  replace bW := bnd_snoc bW (D' := 127) he (by decide)
  clear hd he haa
  try rw [ek]
  replace hr0 := hI _ hr0
  replace hr1 := hI _ hr1
  replace hr2 := hI _ hr2
  replace hr3 := hI _ hr3
  replace hr4 := hI _ hr4
  replace hr5 := hI _ hr5
  replace hr6 := hI _ hr6
  replace hJ : ∀ x ∈ k26.imm, x ∈ kk21.imm := fun x h => hI x (hJ x h)
  replace ek := e.trans ek
  clear hI e N1 nd1
  rw [show (((_ : List (List EK)).length : Nat) : Int) = 23 from rfl]
  try dsimp only
  k_steps
  rename News _ _ _ _ => N1
  rename Ne _ => nd1
  refine hide ?_
  intro GG hGG
  obtain ⟨kk22, N1, nd1, Kkk22, hft, hI, e⟩ := to_kimmK (Z := _ :: _ :: _ ::  Z) N1 nd1 Kkk21
  replace hr0 := hI _ hr0
  replace hr1 := hI _ hr1
  replace hr2 := hI _ hr2
  replace hr3 := hI _ hr3
  replace hr4 := hI _ hr4
  replace hr5 := hI _ hr5
  replace hr6 := hI _ hr6
  replace hJ : ∀ x ∈ k26.imm, x ∈ kk22.imm := fun x h => hI x (hJ x h)
  replace ek := e.trans ek
  clear hI e
  obtain ⟨kk23, N1, nd1, Kkk23, hr8, hI, e⟩ := to_kimmK (Z := _ :: _ ::  Z) N1 nd1 Kkk22
  replace hr0 := hI _ hr0
  replace hr1 := hI _ hr1
  replace hr2 := hI _ hr2
  replace hr3 := hI _ hr3
  replace hr4 := hI _ hr4
  replace hr5 := hI _ hr5
  replace hr6 := hI _ hr6
  replace hft := hI _ hft
  replace hJ : ∀ x ∈ k26.imm, x ∈ kk23.imm := fun x h => hI x (hJ x h)
  replace ek := e.trans ek
  clear hI e
  obtain ⟨kk24, N1, nd1, Kkk24, hr7, hI, e⟩ := to_kimmK (Z := _ ::  Z) N1 nd1 Kkk23
  replace hr0 := hI _ hr0
  replace hr1 := hI _ hr1
  replace hr2 := hI _ hr2
  replace hr3 := hI _ hr3
  replace hr4 := hI _ hr4
  replace hr5 := hI _ hr5
  replace hr6 := hI _ hr6
  replace hft := hI _ hft
  replace hr8 := hI _ hr8
  replace hJ : ∀ x ∈ k26.imm, x ∈ kk24.imm := fun x h => hI x (hJ x h)
  replace ek := e.trans ek
  clear hI e
  obtain ⟨kk25, N1, nd1, Kkk25, hlt, hI, e⟩ := to_kimmK (Z := Z) N1 nd1 Kkk24
  refine hGG ?_
  try clear hGG GG
  replace hr0 := hI _ hr0
  replace hr1 := hI _ hr1
  replace hr2 := hI _ hr2
  replace hr3 := hI _ hr3
  replace hr4 := hI _ hr4
  replace hr5 := hI _ hr5
  replace hr6 := hI _ hr6
  replace hft := hI _ hft
  replace hr8 := hI _ hr8
  replace hr7 := hI _ hr7
  replace hJ : ∀ x ∈ k26.imm, x ∈ kk25.imm := fun x h => hI x (hJ x h)
  replace ek := e.trans ek
  refine ret _ kk25 _ _ _ _ _ (by k_asm) N1 nd1 Kkk25 ⟨⟨sd, od, xa, xb, xc, xd, xe, hJ _ h1, hJ _ h2', by rw [ek]; exact hsto⟩, ⟨_, _, hlt, ta21, ta22, ta23, ta24, ta25, ta26, ?_, hT21.mono hJ, ?_, hT22.mono hJ, ?_, hT23.mono hJ, ?_, hT24.mono hJ, ?_, hT25.mono hJ, ?_, hT26.mono hJ⟩, ⟨_, _, _, _, _, _, _, _, _, hft, ⟨_, _, _, rfl, hr0⟩, ⟨_, _, _, rfl, hr1⟩, ⟨_, _, _, rfl, hr2⟩, ⟨_, _, _, rfl, hr3⟩, ⟨_, _, _, rfl, hr4⟩, ⟨_, _, _, rfl, hr5⟩, ⟨_, _, _, rfl, hr6⟩, ⟨_, _, _, rfl, hr7⟩, ⟨_, _, _, rfl, hr8⟩⟩⟩ ek
  all_goals simp [List.getElem?_set, htl]
 refine no_implicit_lambda% (qo ?_)
 simp (disch := k_dflt k_extra "b") only [↓qs]
end
theorem lines39 : True := by
  k_with "z call ref" => ((k_here; (with_reducible show wpAny _ _ (call (Value.ref 250) _) _ _ _); refine hold ?_))
  k_with "z call ref" => ((k_here; (with_reducible show wpAny _ _ (call (Value.ref 943) _) _ _ _); refine hold ?_))
  k_with "z call ref" => ((k_here; (with_reducible show wpAny _ _ (call (Value.ref 936) _) _ _ _); refine hold ?_))
  k_with "z call ref" => ((k_here; (with_reducible show wpAny _ _ (call (Value.ref 988) _) _ _ _); refine hold ?_))
  k_with "z eval ListComp" => ((k_here; refine hold ?_))
  k_with "z CompSrc" => ((k_here; refine hold ?_))
  trivial
theorem UpdG.toF {d : Addr} {o : Obj} {Z : List (Addr × Obj)} {g : Obj → List (Addr × Obj)} (U : UpdG d o Z g) (nd : Ne Z) : UpdF d o Z g := by
  induction U with
  | head => exact .head nd.ne
  | @tail q T g U ih => exact .tail (nd.ne _ U.mem).symm (ih nd.drop)
section
variable {prog : Program} {w : World} {A : Around} {E : Value → Shared → Prop} {s : Shared} {hS : Heap} {gS : Array GenState} {dS : Drawn} {tS : Nat} {oS : OsState} {h₀ : Heap} {L : Addr} {m : Str → Option Value} {env : Env} {Z : List (Addr × Obj)}
theorem dictP {keys : List (Option PySem.Expr)} {values : List PySem.Expr} {pos : Pos} {Q : Value → Shared → Prop} (hq : strLits keys = true) (F : Fr h₀ L hS m) (N : News h₀ L hS Z) (nd : Ne Z) (hbig : h₀.NoLimit)
    (hall : keys.all (·.isSome) = true) (hl : keys.length = values.length) (h0 : keys ≠ []) (hlen : keys.length ≤ 15)
    (h : ∀ (d : Addr) h' o, Fr h₀ L h' m → News h₀ L h' ((d, o) :: Z) → Ne ((d, o) :: Z) → (d == sysModules) = false → o.IsDictOf (PySem.strKind prog w) [] →
      wpAny (model prog w) A (evalPairs (pairTrees keys values env pos)) (fun vs s₁ => KdnMade prog w (PySem.strKind prog w) d Q vs s₁) E ⟨h', gS, dS, tS, oS⟩) :
    wpAny (model prog w) A (eval (.Dict keys values pos) env) Q E ⟨hS, gS, dS, tS, oS⟩ :=
  kdn_str hq F N hbig hall hl h0 hlen fun d h' o F' N' l lo hs => h d h' o F' N' (nd.push l) lo hs
theorem dmadeP {d : Addr} {o : Obj} {g : Obj → List (Addr × Obj)} {vs : List (Value × Value)} {Q : Value → Shared → Prop} (F : Fr h₀ L hS m) (N : News h₀ L hS Z) (nd : Ne Z) (U : UpdG d o Z g) (hd : o.IsDictOf (PySem.strKind prog w) []) (hk : allStrKeys vs = true) (hn : ((strPairs vs).map (·.1)).Nodup)
    (h : ∀ h' o', Fr h₀ L h' m → News h₀ L h' (g o') → Ne (g o') → o'.IsDictOf (PySem.strKind prog w) (strPairs vs) → Q (.ref d) ⟨h', gS, dS, tS + vs.length, oS⟩) : KdnMade prog w (PySem.strKind prog w) d Q vs ⟨hS, gS, dS, tS, oS⟩ :=
  kdn_made_str F N (U.toF nd) hd hk hn fun h' o' F' N' x => h h' o' F' N' (U.ne nd _) x
noncomputable def EltEndP (h₀ : Heap) (L : Addr) (m : Str → Option Value) (gS : Array GenState) (dS : Drawn) (oS : OsState) (l : List (Addr × Obj)) (P : Value → Prop) (y : Value) (s₂ : Shared) : Prop := ∃ h' tk', s₂ = ⟨h', gS, dS, tk', oS⟩ ∧ Fr h₀ L h' m ∧ News h₀ L h' l ∧ P y
theorem compSrcP {elt : PySem.Expr} {x : Str} {scope : Scope} {cl : List (Str × Addr)} {Fin : Shared → List Value → List (Addr × Obj) → Prop} {ax : Addr} {its : Array Value} {k : Nat} {P : Nat → Value → Prop}
    (hh : A.handled = none) (F : Fr h₀ L hS m) (N : News h₀ L hS Z) (hm : (ax, listOf its k) ∈ Z) (hsz : its.size ≤ 1000)
    (helt : ∀ (i : Nat) v I oI C oC D ys m₂ h tk (E' : Value → Shared → Prop), its[i]? = some v → LCg.NsObj oC m₂ → m₂ x = some v → Fr h₀ L h m → News h₀ L h ((I, oI) :: (C, oC) :: (D, LCg.lst ys) :: Z) →
      wpAny (model prog w) A (eval elt (compEnvC scope cl C env)) (EltEndP h₀ L m gS dS oS ((I, oI) :: (C, oC) :: (D, LCg.lst ys) :: Z) (P i)) E' ⟨h, gS, dS, tk, oS⟩)
    (fin : ∀ g ys, ys.length = its.size → (∀ i y, ys[i]? = some y → P i y) → Fin ⟨g, gS, dS, tS, oS⟩ ys Z) :
    LCg.CompSrc prog w A h₀ L m env elt x scope cl Fin (.ref ax) ⟨hS, gS, dS, tS, oS⟩ := by
  refine LCg.CompSrc.ledger hh F N hm (by rw [sizeLine_eq]; (first | k_extra "z k_ar" | omega)) fun g => ?_
  have key : ∀ (k i : Nat) (ys : List Value), i + k = its.size → ys.length = i → (∀ j y, ys[j]? = some y → P j y) →
      LCg.CompRest prog w A h₀ L m env elt x scope cl ⟨g, gS, dS, tS, oS⟩ (LCg.SrcAt h₀ ax its) (fun i v => its[i]? = some v) (Fin ⟨g, gS, dS, tS, oS⟩) k i ys Z := by
    intro k
    induction k with
    | zero =>
      intro i ys h1 h2 h3
      exact LCg.CompRest.zero (fin g ys (by (first | k_extra "z k_ar" | omega)) h3)
    | succ k ih =>
      intro i ys h1 h2 h3
      refine LCg.CompRest.succ ?_
      intro v I oI C oC D m₂ h tk E' hv hC hx F' N' off ne
      refine wpAny_mono (helt i v I oI C oC D ys m₂ h tk E' hv hC hx F' N') (fun y s₂ hy => ?_) fun _ _ e => e
      obtain ⟨h', tk', rfl, F2, N2, hp⟩ := hy
      refine LCg.CompEnd.intro F2 N2 Z (fun p hp => hp) off (.inr ⟨_, hm, rfl, _, rfl⟩) (ih (i + 1) (ys ++ [y]) (by (first | k_extra "z k_ar" | omega)) (by simp [h2]) fun j z hz => ?_)
      rcases Nat.lt_trichotomy j ys.length with hj | hj | hj
      · rw [List.getElem?_append_left hj] at hz; exact h3 j z hz
      · subst hj
        rw [List.getElem?_append_right (Nat.le_refl _)] at hz
        simp at hz; subst hz; rw [h2]; exact hp
      · rw [List.getElem?_append_right (by (first | k_extra "z k_ar" | omega))] at hz
        have := (List.getElem?_eq_some_iff.mp hz).1
        simp at this; (first | k_extra "z k_ar" | omega)
  exact key its.size 0 [] (by (first | k_extra "z k_ar" | omega)) rfl (fun j y h => by simp at h)
theorem ne_off {D : Addr} {o : Obj} (nd : Ne Z) (o1 : LCg.Off1 D Z) : Ne ((D, o) :: Z) := by
  refine nd.cons' fun p hp e => ?_
  have : ∀ l : List (Addr × Obj), LCg.Off1 D l → ∀ p ∈ l, p.1 ≠ D := by
    intro l
    induction l with
    | nil => intro _ p hp; exact nomatch hp
    | cons q l ih =>
      intro h p hp
      rcases List.mem_cons.mp hp with rfl | hp
      · exact h.1
      · exact ih h.2 p hp
  exact this _ o1 p hp e
end
theorem lines40 : True := by
  k_with "z eval Dict" => ((k_here; k_dflt ((fail_if_success (fail_if_success (refine' dictP ?_ ?_ ?_ ?_ ?_ ?_ ?_ ?_ ?_ ?_))); refine dictP (by rfl) (by k_asm) (by k_asm) (by assumption) (by exact Top.nolimit (by k_asm)) (by rfl) (by rfl) (by exact List.cons_ne_nil _ _) (by exact Nat.le_of_ble_eq_true rfl) ?_); intro zqd' zqh' zqo' zqF' zqN' zqnd' zqlo' zqhd'; (try k_sweep)))
  k_with "z KdnMade" => ((k_here; refine hold ?_))
  k_with "z eval Dict nil nil" => ((k_here; k_dflt (refine dctP (by k_asm) (by k_asm) (by assumption) (Top.nolimit (by k_asm)) ?_); intro zqd' zqh' zqo' zqF' zqN' zqnd' zqlo' zqhs' zqhi'; (try k_sweep)))
  k_with "z subscriptTail" => ((k_here; (with_reducible show wpAny _ _ (subscriptTail _ (PySem.Expr.Slice _ _ _ _) (Value.ref _) (Value.ref _)) _ _ _); refine hold ?_))
  trivial
theorem ints_memS {vs : List Value} {l : List Int} (h : IntsAre vs l) {v : Value} (hv : v ∈ vs) : ∃ x t, v = .int x t := by
  obtain ⟨i, hi, rfl⟩ := List.mem_iff_getElem.mp hv
  obtain ⟨x, t, e, _⟩ := ints_atS h (List.getElem?_eq_getElem hi)
  exact ⟨x, t, e⟩
theorem ne_two {h₀ h : Heap} {L D d : Addr} {o o' : Obj} (_ : News h₀ L h [(D, o'), (d, o)]) (l : d < D) : Ne [(D, o'), (d, o)] := by
  unfold Ne
  simp
  exact Nat.ne_of_gt l
theorem lines41 : True := by
  k_with "z setItem ref str" => ((k_here; k_dflt ((fail_if_success (fail_if_success (refine' dsetQ (knd := PySem.strKind _ _) ?_ ?_ ?_ ?_ ?_ (strKind_is _ _ _ _) ?_ ?_ ?_))); refine dsetQ (knd := PySem.strKind _ _) (by k_asm) (by k_asm) (by assumption) (by k_extra "z k_upG") (by assumption) (strKind_is _ _ _ _) (by exact Nat.le_of_ble_eq_true rfl) (by rfl) ?_); intro zqh' zqo' zqtk zqF' zqN' zqnd' zqhd'; (try dsimp only at zqN' zqnd'); (try k_sweep)))
  trivial
noncomputable def w0K (ain : Addr) (at_ left a b c d e g h : Value) : List (Str × Value) := [("in", .ref ain), ("at", at_), ("left", left), ("vars", a), ("scopes", b), ("told", c), ("consts", d), ("made", e), ("stands", g), ("types", h)]
theorem UpdG.again {d : Addr} {o : Obj} {Z : List (Addr × Obj)} {g : Obj → List (Addr × Obj)} (U : UpdG d o Z g) (o' : Obj) : UpdG d o' (g o') g := by
  induction U with
  | head => exact .head
  | tail _ ih => exact .tail ih
section
variable {w : World} {p : Program} {loose : List Str} {mean : ExcName → Option Value} {mg mb : Str → Option Value}
    {dp un : Nat} {gd : Option (List Code)} {cn : Str} {cs : Scope} {a : Addr} {ccd : Value} {cl : List (Str × Addr)} {outer : List Env} {A₀ : Around} {base h₀ : Heap} {L : Addr} {m : Str → Option Value} {s : Shared} {hS : Heap} {gS : Array GenState} {dS : Drawn} {tS : Nat} {oS : OsState}
    {Q E : Value → Shared → Prop} {Z : List (Addr × Obj)} {g : Obj → List (Addr × Obj)}
theorem lines42 : True := by
  k_with "z k_upG" => (with_reducible assumption)
  k_with "z setItem ref str" => ((k_here; refine hold ?_))
  trivial
theorem take0_spec {aw ain : Addr} {ow : Obj} {ins : List Value} {ns : List Int} {n : Nat} {xa xb xc xd xe xg xh : Value} {t1 t2 tn : Tok}
    (C : Cx w p loose mean mg mb cs outer A₀ base h₀ L m hS Z) (nd : Ne Z) (U : UpdG aw ow Z g) (hW : ow.IsDictOf (strKind PR w) (w0K ain (.int 0 t1) (.int 0 t2) xa xb xc xd xe xg xh))
    (hain : (ain, listOf ins.toArray n) ∈ Z) (hain2 : ∀ o', (ain, listOf ins.toArray n) ∈ g o') (hI : IntsAre ins ns) (hlow : ∀ i ∈ ns, 0 ≤ i ∧ i < 1000003) (hlen : ns.length ≤ 20)
    (hdp : dp + 5 < recursionLimit) (hu : un + 40 < cLine)
    (ret : ∀ x tx at_ left t3 t4 o' h' tk', Fr h₀ L h' m → News h₀ L h' (g o') → Ne (g o') → o'.IsDictOf (strKind PR w) (w0K ain (.int at_ t3) (.int left t4) xa xb xc xd xe xg xh) → (0 ≤ at_ ∧ at_ ≤ 100) → (0 ≤ left ∧ left < 1000003) → Q (.int x tx) ⟨h', gS, dS, tk', oS⟩) :
    wpAny (model PR w) (ktrTop dp un gd cn cs L a ccd cl outer) (call (.ref 936) [.ref aw, .int 7 tn]) Q E ⟨hS, gS, dS, tS, oS⟩ := by
 k_with "b" =>
  have hmw := U.mem
  have hil := ints_lenS hI
  refine hide ?_
  intro GG hGG
  obtain ⟨B, F, X, N, T, hk⟩ := C
  refine hGG ?_
  try clear hGG GG
  k_dflt k_extra "z enterF"
  k_steps
  · refine unhold ?_
    rename _ < _ => hpos
    refine hide ?_
    intro GG hGG
    obtain ⟨v, tv, hv, hvm⟩ := ints_getS hI (i := 0) (by have h : (0 : Int) < ins.toArray.size := hpos; simp at h; (first | k_extra "z k_ar" | omega))
    refine hGG ?_
    try clear hGG GG
    have hvb := hlow v hvm
    refine itemL (its := ins.toArray) (by k_asm) hain (by decide) (by decide) (v := .int v tv) (by simpa using hv) ?_
    k_steps
    refine unhold ?_
    rename Fr _ _ _ _ => F9
    rename News _ _ _ _ => N9
    rename Ne _ => nd9
    rename Obj.IsDictOf _ _ (w0K _ _ _ _ _ _ _ _ _ _) => hd9
    refine dsetP (knd := PySem.strKind _ _) (kvs' := w0K ain _ _ xa xb xc xd xe xg xh) F9 N9 nd9 hd9 (strKind_is _ _ _ _) U (by exact Nat.le_of_ble_eq_true rfl) rfl ?_
    intro h9 o1 tk9 F10 N10 nd10 hd10
    have Uo1 := U.again o1
    have hmUo1 := Uo1.mem
    clear F9 N9 nd9 hd9
    try dsimp only
    k_steps
    refine unhold ?_
    rename Fr _ _ _ _ => F9
    rename News _ _ _ _ => N9
    rename Ne _ => nd9
    rename Obj.IsDictOf _ _ (w0K _ _ _ _ _ _ _ _ _ _) => hd9
    refine dsetP (knd := PySem.strKind _ _) (kvs' := w0K ain _ _ xa xb xc xd xe xg xh) F9 N9 nd9 hd9 (strKind_is _ _ _ _) Uo1 (by exact Nat.le_of_ble_eq_true rfl) rfl ?_
    intro h9 o2 tk9 F10 N10 nd10 hd10
    have Uo2 := U.again o2
    have hmUo2 := Uo2.mem
    clear F9 N9 nd9 hd9
    try dsimp only
    k_steps
    refine unhold ?_
    rename Fr _ _ _ _ => F9
    rename News _ _ _ _ => N9
    rename Ne _ => nd9
    rename Obj.IsDictOf _ _ (w0K _ _ _ _ _ _ _ _ _ _) => hd9
    refine dsetP (knd := PySem.strKind _ _) (kvs' := w0K ain _ _ xa xb xc xd xe xg xh) F9 N9 nd9 hd9 (strKind_is _ _ _ _) Uo2 (by exact Nat.le_of_ble_eq_true rfl) rfl ?_
    intro h9 o3 tk9 F10 N10 nd10 hd10
    have Uo3 := U.again o3
    have hmUo3 := Uo3.mem
    clear F9 N9 nd9 hd9
    try dsimp only
    k_steps
    exact ret _ _ _ _ _ _ _ _ _ (by k_asm) (by k_asm) (by assumption) hd10 (by decide) (by rw [Int.fdiv_eq_ediv_of_nonneg _ (by decide)]; (first | k_extra "z k_ar" | omega))
  · skip
    refine unhold ?_
    rename Fr _ _ _ _ => F9
    rename News _ _ _ _ => N9
    rename Ne _ => nd9
    rename Obj.IsDictOf _ _ (w0K _ _ _ _ _ _ _ _ _ _) => hd9
    refine dsetP (knd := PySem.strKind _ _) (kvs' := w0K ain _ _ xa xb xc xd xe xg xh) F9 N9 nd9 hd9 (strKind_is _ _ _ _) U (by exact Nat.le_of_ble_eq_true rfl) rfl ?_
    intro h9 o1 tk9 F10 N10 nd10 hd10
    have Uo1 := U.again o1
    have hmUo1 := Uo1.mem
    clear F9 N9 nd9 hd9
    try dsimp only
    k_steps
    exact ret _ _ _ _ _ _ _ _ _ (by k_asm) (by k_asm) (by assumption) hd10 (by decide) (by decide)
 refine no_implicit_lambda% (qo ?_)
 simp (disch := k_dflt k_extra "b") only [↓qs]
theorem ints_ofS {k : Nat} : ∀ {ys : List Value}, ys.length ≤ k → (∀ (i : Nat) y, ys[i]? = some y → ∃ x t, y = .int x t ∧ 0 ≤ x ∧ x < 1000003) → ∃ ns : List Int, IntsAre ys ns ∧ (∀ i ∈ ns, 0 ≤ i ∧ i < 1000003) ∧ ns.length ≤ k := fun {ys} hl h => by
  have key : ∀ ys : List Value, (∀ (i : Nat) y, ys[i]? = some y → ∃ x t, y = .int x t ∧ 0 ≤ x ∧ x < 1000003) → ∃ ns : List Int, IntsAre ys ns ∧ (∀ i ∈ ns, 0 ≤ i ∧ i < 1000003) := by
    intro ys
    induction ys with
    | nil => exact fun _ => ⟨[], .nil, fun _ h => nomatch h⟩
    | cons y ys ih =>
      intro h
      refine hide ?_
      intro GG hGG
      obtain ⟨x, t, rfl, hx⟩ := h 0 y rfl
      obtain ⟨ns, a, b⟩ := ih fun i z hz => h (i + 1) z (by simpa using hz)
      refine hGG ?_
      try clear hGG GG
      refine ⟨x :: ns, .cons _ _ a, fun i hi => ?_⟩
      rcases List.mem_cons.mp hi with rfl | hi
      · exact hx
      · exact b i hi
  refine hide ?_
  intro GG hGG
  obtain ⟨ns, a, b⟩ := key ys h
  refine hGG ?_
  try clear hGG GG
  exact ⟨ns, a, b, by rw [← ints_lenS a]; exact hl⟩
end
theorem lines43 : True := by
  k_with "z k_memS" => ((with_reducible refine List.mem_append_right _ ?_; k_extra "z k_memS"))
  trivial
inductive Pull (q : Addr × Obj) : List (Addr × Obj) → List (Addr × Obj) → Prop
  | head {T : List (Addr × Obj)} : Pull q (q :: T) T
  | tail {x : Addr × Obj} {T T' : List (Addr × Obj)} : Pull q T T' → Pull q (x :: T) (x :: T')
  | app {W T T' : List (Addr × Obj)} : Pull q T T' → Pull q (W ++ T) (W ++ T')
inductive Pulls : List (Addr × Obj) → List (Addr × Obj) → List (Addr × Obj) → Prop
  | nil {Y : List (Addr × Obj)} : Pulls [] Y Y
  | cons {q : Addr × Obj} {l Y Y1 Y2 : List (Addr × Obj)} : Pull q Y Y1 → Pulls l Y1 Y2 → Pulls (q :: l) Y Y2
theorem Pull.perm {q : Addr × Obj} {Z Z' : List (Addr × Obj)} (h : Pull q Z Z') : Z.Perm (q :: Z') := by
  induction h with
  | head => exact .refl _
  | tail _ ih => exact (ih.cons _).trans (.swap ..)
  | app _ ih => exact (ih.append_left _).trans List.perm_middle
theorem Pulls.perm {l Y Y2 : List (Addr × Obj)} (h : Pulls l Y Y2) : Y.Perm (l ++ Y2) := by
  induction h with
  | nil => exact .refl _
  | cons p _ ih => exact p.perm.trans (ih.cons _)
theorem Pulls.mk' {l Y Y2 : List (Addr × Obj)} {h₀ h : Heap} {L : Addr} (N : News h₀ L h Y) (nd : Ne Y) (t : Pulls l Y Y2) : News h₀ L h (l ++ Y2) ∧ Ne (l ++ Y2) := by
  have hp := t.perm
  refine ⟨fun x hx => N x (hp.mem_iff.mpr hx), ?_⟩
  unfold Ne at nd ⊢
  exact (hp.map _).nodup_iff.mp nd
theorem Pulls.tl {l Y Y2 X Z : List (Addr × Obj)} {h₀ h : Heap} {L : Addr} (N : News h₀ L h Y) (nd : Ne Y) (t : Pulls l Y Y2) (u : Tl Z Y2 X) : News h₀ L h (l ++ (X ++ Z)) ∧ Ne (l ++ (X ++ Z)) := by
  rw [← u.eq]; exact t.mk' N nd
theorem lines44 : True := by
  k_with "z k_pull" => (first | with_reducible exact Pull.head | ((fail_if_success (fail_if_success (refine' Pull.tail ?_))); refine Pull.tail (by k_extra "z k_pull")) | ((fail_if_success (fail_if_success (refine' Pull.app ?_))); refine Pull.app (by k_extra "z k_pull")))
  k_with "z k_pulls" => (first | with_reducible exact Pulls.nil | ((fail_if_success (fail_if_success (refine' Pulls.cons ?_ ?_))); refine Pulls.cons (by k_extra "z k_pull") (by k_extra "z k_pulls")))
  trivial
theorem call_cls0P {prog : Program} {w : World} {A : Around} {E : Value → Shared → Prop} {hS : Heap} {gS : Array GenState} {dS : Drawn} {tS : Nat} {oS : OsState} {h₀ : Heap} {L C : Addr} {m : Str → Option Value} {Z : List (Addr × Obj)} {K : Frag} {Q : Value → Shared → Prop} (F : Fr h₀ L hS m) (X₀ : K.In h₀) (N : News h₀ L hS Z) (nd : Ne Z) (hm : makesIn K C = true) (hi : findIn K (.ref C) "__init__" = some (some (.builtin "object.__init__")))
    (h : ∀ x dx od h', Fr h₀ L h' m → News h₀ L h' ((x, instObj C dx) :: (dx, od) :: Z) → Ne ((x, instObj C dx) :: (dx, od) :: Z) → Q (.ref x) ⟨h', gS, dS, tS, oS⟩) :
    wpAny (model prog w) A (call (.ref C) [] []) Q E ⟨hS, gS, dS, tS, oS⟩ := by
  refine call_cls0 F X₀ N hm hi fun x dx h' F' N' l1 l2 => h x dx _ h' F' N' ((nd.push l1).push fun p hp => ?_)
  rcases List.mem_cons.mp hp with rfl | hp
  · exact l2
  · exact Nat.lt_trans (l1 p hp) l2
theorem lines45 : True := by
  k_with "z call ref" => ((k_here; (with_reducible show wpAny _ _ (call (Value.ref _) _) _ _ _); k_dflt ((fail_if_success (fail_if_success (refine' call_cls0P ?_ ?_ ?_ ?_ ?_ ?_ ?_))); refine call_cls0P (by k_asm) (by k_asm) (by k_asm) (by assumption) (by k_is) (by k_is) ?_); intro zqx' zqdx' zqod' zqh' zqF' zqN' zqnd'; (try k_sweep)))
  trivial
noncomputable def unitS (sx afns avs adg : Addr) (a b c d e : Value) : List (Str × Value) := [("store", .ref sx), ("asm", a), ("fns", .ref afns), ("vars", .ref avs), ("of_mid", b), ("diags", .ref adg), ("inits", c), ("sinits", d), ("consts", e)]
section
variable {w : World} {p : Program} {loose : List Str} {mean : ExcName → Option Value} {mg mb : Str → Option Value}
    {dp un : Nat} {gd : Option (List Code)} {cn : Str} {cs : Scope} {a : Addr} {ccd : Value} {cl : List (Str × Addr)} {outer : List Env} {A₀ : Around} {base h₀ : Heap} {L : Addr} {m : Str → Option Value} {s : Shared} {hS : Heap} {gS : Array GenState} {dS : Drawn} {tS : Nat} {oS : OsState}
    {Q E : Value → Shared → Prop} {Z : List (Addr × Obj)}
theorem unit_form {h : Heap} {Y Y2 X : List (Addr × Obj)} {sx afns avs dg arows : Addr} {ou odg o1 o2 o3 : Obj} {xa xb xc xd xe : Value} (_ : ou.IsDictOf (strKind PR w) (unitS sx afns avs dg xa xb xc xd xe)) (_ : odg.IsDictOf (strKind PR w) [("rows", .ref arows)]) (N : News h₀ L h Y) (nd : Ne Y) (t : Pulls [(arows, o3), (avs, o2), (afns, o1)] Y Y2) (u : Tl Z Y2 X) :
    News h₀ L h ((arows, o3) :: (avs, o2) :: (afns, o1) :: (X ++ Z)) ∧ Ne ((arows, o3) :: (avs, o2) :: (afns, o1) :: (X ++ Z)) := t.tl N nd u
/- Unit(store, 0) -/
theorem unit_new {sx : Addr} {t : Tok} (C : Cx w p loose mean mg mb cs outer A₀ base h₀ L m hS Z) (nd : Ne Z)
    (hdp : dp + 30 < recursionLimit) (hu : un + 200 < cLine)
    (ret : ∀ ux uxd ou dg dgd od afns avs arows n1 n2 n3 xa xb xc xd xe X h' tk', Fr h₀ L h' m → News h₀ L h' ((arows, listOf #[] n3) :: (avs, listOf #[.none] n2) :: (afns, listOf #[.none] n1) :: (X ++ Z)) → Ne ((arows, listOf #[] n3) :: (avs, listOf #[.none] n2) :: (afns, listOf #[.none] n1) :: (X ++ Z)) →
      (ux, instObj 397 uxd) ∈ X → (uxd, ou) ∈ X → ou.IsDictOf (strKind PR w) (unitS sx afns avs dg xa xb xc xd xe) → (dg, instObj 327 dgd) ∈ X → (dgd, od) ∈ X → od.IsDictOf (strKind PR w) [("rows", .ref arows)] → Q (.ref ux) ⟨h', gS, dS, tk', oS⟩) :
    wpAny (model PR w) (ktrTop dp un gd cn cs L a ccd cl outer) (call (.ref 397) [.ref sx, .int 0 t]) Q E ⟨hS, gS, dS, tS, oS⟩ := by
 k_with "b" =>
  refine hide ?_
  intro GG hGG
  obtain ⟨B, F, X, N, T, hk⟩ := C
  refine hGG ?_
  try clear hGG GG
  k_steps
  rename News _ _ _ _ => N9
  rename Ne _ => nd9
  rename Obj.IsDictOf _ _ (_ :: _ :: _) => hod
  rename Obj.IsDictOf _ _ [_] => hor
  obtain ⟨Na, nda⟩ := unit_form (Z := Z) hod hor N9 nd9 (by k_extra "z k_pulls") (by k_extra "z k_tl")
  exact ret _ _ _ _ _ _ _ _ _ _ _ _ _ _ _ _ _ _ _ _ (by k_asm) Na nda (by k_extra "z k_memS") (by k_extra "z k_memS") hod (by k_extra "z k_memS") (by k_extra "z k_memS") hor
 refine no_implicit_lambda% (qo ?_)
 simp (disch := k_dflt k_extra "b") only [↓qs]
end
noncomputable def seatS (ux sx akt dg acxsc acxrows aclosed anotes : Addr) (ax : Nat → Value) (fn owner static init blocks cat : Value) : List (Str × Value) :=
  ("unit", .ref ux) :: ("store", .ref sx) :: ("kt", .ref akt) :: ("host", ax 0) :: ("asm", ax 1) :: ("kinds", ax 2) :: ("unmet", ax 3) :: ("told", ax 4) :: ("diags", .ref dg) :: ("exprs", ax 5) :: ("stmts", ax 6) :: ("types", ax 7) :: ("scopes", .ref acxsc) :: ("rows", .ref acxrows) :: ("closed", .ref aclosed) :: ("fn", fn) :: ("owner", owner) :: ("mid", ax 8) :: ("static", static) :: ("init", init) :: ("checked", ax 9) :: ("free", ax 10) :: ("loops", ax 11) :: ("blocks", blocks) :: ("tparams", ax 12) :: ("targets", ax 13) :: ("judge", ax 14) :: ("turner", ax 15) :: ("fitter", ax 16) :: ("keeper", ax 17) :: ("early", ax 18) :: ("deep", ax 19) :: ("at", cat) :: ("notes", .ref anotes) :: []
noncomputable def seatS0 (ux sx akt dg acxsc acxrows aclosed anotes : Addr) (fn owner static init blocks cat x0 x1 x2 x3 x4 x5 x6 x7 x8 x9 x10 x11 x12 x13 x14 x15 x16 x17 x18 x19 : Value) : List (Str × Value) :=
  ("unit", .ref ux) :: ("store", .ref sx) :: ("kt", .ref akt) :: ("host", x0) :: ("asm", x1) :: ("kinds", x2) :: ("unmet", x3) :: ("told", x4) :: ("diags", .ref dg) :: ("exprs", x5) :: ("stmts", x6) :: ("types", x7) :: ("scopes", .ref acxsc) :: ("rows", .ref acxrows) :: ("closed", .ref aclosed) :: ("fn", fn) :: ("owner", owner) :: ("mid", x8) :: ("static", static) :: ("init", init) :: ("checked", x9) :: ("free", x10) :: ("loops", x11) :: ("blocks", blocks) :: ("tparams", x12) :: ("targets", x13) :: ("judge", x14) :: ("turner", x15) :: ("fitter", x16) :: ("keeper", x17) :: ("early", x18) :: ("deep", x19) :: ("at", cat) :: ("notes", .ref anotes) :: []
section
variable {w : World} {p : Program} {loose : List Str} {mean : ExcName → Option Value} {mg mb : Str → Option Value}
    {dp un : Nat} {gd : Option (List Code)} {cn : Str} {cs : Scope} {a : Addr} {ccd : Value} {cl : List (Str × Addr)} {outer : List Env} {A₀ : Around} {base h₀ : Heap} {L : Addr} {m : Str → Option Value} {s : Shared} {hS : Heap} {gS : Array GenState} {dS : Drawn} {tS : Nat} {oS : OsState}
    {Q E : Value → Shared → Prop} {Z : List (Addr × Obj)}
theorem seat_ax {ux sx akt dg acxsc acxrows aclosed anotes : Addr} {fn owner static init blocks cat x0 x1 x2 x3 x4 x5 x6 x7 x8 x9 x10 x11 x12 x13 x14 x15 x16 x17 x18 x19 : Value} : ∃ ax, seatS0 ux sx akt dg acxsc acxrows aclosed anotes fn owner static init blocks cat x0 x1 x2 x3 x4 x5 x6 x7 x8 x9 x10 x11 x12 x13 x14 x15 x16 x17 x18 x19 = seatS ux sx akt dg acxsc acxrows aclosed anotes ax fn owner static init blocks cat :=
  ⟨fun n => [x0, x1, x2, x3, x4, x5, x6, x7, x8, x9, x10, x11, x12, x13, x14, x15, x16, x17, x18, x19].getD n .none, rfl⟩
theorem seat_form {h : Heap} {Y Y2 X : List (Addr × Obj)} {ux sx akt dg cxd acxsc acxrows aclosed anotes : Addr} {ocx o1 o2 oc on : Obj} {fn owner static init blocks cat x0 x1 x2 x3 x4 x5 x6 x7 x8 x9 x10 x11 x12 x13 x14 x15 x16 x17 x18 x19 : Value}
    (hod : ocx.IsDictOf (strKind PR w) (seatS0 ux sx akt dg acxsc acxrows aclosed anotes fn owner static init blocks cat x0 x1 x2 x3 x4 x5 x6 x7 x8 x9 x10 x11 x12 x13 x14 x15 x16 x17 x18 x19)) (N : News h₀ L h Y) (nd : Ne Y) (t : Pulls [(cxd, ocx), (acxsc, o1), (acxrows, o2), (aclosed, oc), (anotes, on)] Y Y2) (u : Tl Z Y2 X) :
    (∃ ax, ocx.IsDictOf (strKind PR w) (seatS ux sx akt dg acxsc acxrows aclosed anotes ax fn owner static init blocks cat)) ∧ News h₀ L h ((cxd, ocx) :: (acxsc, o1) :: (acxrows, o2) :: (aclosed, oc) :: (anotes, on) :: (X ++ Z)) ∧ Ne ((cxd, ocx) :: (acxsc, o1) :: (acxrows, o2) :: (aclosed, oc) :: (anotes, on) :: (X ++ Z)) := by
  obtain ⟨ax, e⟩ := seat_ax (ux := ux) (sx := sx) (akt := akt) (dg := dg) (acxsc := acxsc) (acxrows := acxrows) (aclosed := aclosed) (anotes := anotes) (fn := fn) (owner := owner) (static := static) (init := init) (blocks := blocks) (cat := cat) (x0 := x0) (x1 := x1) (x2 := x2) (x3 := x3) (x4 := x4) (x5 := x5) (x6 := x6) (x7 := x7) (x8 := x8) (x9 := x9) (x10 := x10) (x11 := x11) (x12 := x12) (x13 := x13) (x14 := x14) (x15 := x15) (x16 := x16) (x17 := x17) (x18 := x18) (x19 := x19)
  exact ⟨⟨ax, e ▸ hod⟩, t.tl N nd u⟩
/- BareHost(store.kt) -/
theorem host_new {kx : Addr} (C : Cx w p loose mean mg mb cs outer A₀ base h₀ L m hS Z) (nd : Ne Z)
    (hdp : dp + 30 < recursionLimit) (hu : un + 200 < cLine)
    (ret : ∀ hx X h' tk', Fr h₀ L h' m → News h₀ L h' (X ++ Z) → Ne (X ++ Z) → Q (.ref hx) ⟨h', gS, dS, tk', oS⟩) :
    wpAny (model PR w) (ktrTop dp un gd cn cs L a ccd cl outer) (call (.ref 925) [.ref kx]) Q E ⟨hS, gS, dS, tS, oS⟩ := by
 k_with "b" =>
  refine hide ?_
  intro GG hGG
  obtain ⟨B, F, X, N, T, hk⟩ := C
  refine hGG ?_
  try clear hGG GG
  k_steps
  rename News _ _ _ _ => N9
  rename Ne _ => nd9
  obtain ⟨Na, nda⟩ := Tl.mk' (Z := Z) N9 nd9 (by k_extra "z k_tl")
  exact ret _ _ _ _ (by k_asm) Na nda
 refine no_implicit_lambda% (qo ?_)
 simp (disch := k_dflt k_extra "b") only [↓qs]
/- Seat(unit, 0, host) -/
theorem seat_new {ux uxd sx sxd dg akt lt afns avs hx : Addr} {ou os : Obj} {xa xb xc xd xe ya yb yc yd ye : Value} {t : Tok} (C : Cx w p loose mean mg mb cs outer A₀ base h₀ L m hS Z) (nd : Ne Z)
    (hux : (ux, instObj 397 uxd) ∈ Z) (huxd : (uxd, ou) ∈ Z) (hou : ou.IsDictOf (strKind PR w) (unitS sx afns avs dg xa xb xc xd xe)) (hsx : (sx, instObj 250 sxd) ∈ Z) (hsxd : (sxd, os) ∈ Z) (hos : os.IsDictOf (strKind PR w) (storeKS (.ref akt) (.ref lt) ya yb yc yd ye))
    (hdp : dp + 40 < recursionLimit) (hu : un + 250 < cLine)
    (ret : ∀ cx cxd ocx acxsc acxrows aclosed oc anotes on n1 n2 ax t1 t2 t3 t4 cat X h' tk', Fr h₀ L h' m → News h₀ L h' ((cxd, ocx) :: (acxsc, listOf #[] n1) :: (acxrows, listOf #[] n2) :: (aclosed, oc) :: (anotes, on) :: (X ++ Z)) → Ne ((cxd, ocx) :: (acxsc, listOf #[] n1) :: (acxrows, listOf #[] n2) :: (aclosed, oc) :: (anotes, on) :: (X ++ Z)) →
      (cx, instObj 766 cxd) ∈ X → ocx.IsDictOf (strKind PR w) (seatS ux sx akt dg acxsc acxrows aclosed anotes ax .none (.int 0 t1) (.int 0 t2) (.int 0 t3) (.int 0 t4) cat) → oc.IsDictOf (intKind PR w) [] → EDictIs PR w [] on [] → (aclosed == sysModules) = false → (anotes == sysModules) = false → Q (.ref cx) ⟨h', gS, dS, tk', oS⟩) :
    wpAny (model PR w) (ktrTop dp un gd cn cs L a ccd cl outer) (call (.ref 766) [.ref ux, .int 0 t, .ref hx]) Q E ⟨hS, gS, dS, tS, oS⟩ := by
 k_with "b" =>
  refine hide ?_
  intro GG hGG
  obtain ⟨B, F, X, N, T, hk⟩ := C
  refine hGG ?_
  try clear hGG GG
  k_steps
  rename News _ _ _ _ => N9
  rename Ne _ => nd9
  rename Obj.IsDictOf _ _ (_ :: _ :: _) => hod
  refine hide ?_
  intro GG hGG
  obtain ⟨⟨ax, hax⟩, Na, nda⟩ := seat_form (Z := Z) hod N9 nd9 (by k_extra "z k_pulls") (by k_extra "z k_tl")
  refine hGG ?_
  try clear hGG GG
  exact ret _ _ _ _ _ _ _ _ _ _ _ ax _ _ _ _ _ _ _ _ (by k_asm) Na nda (by k_extra "z k_memS") hax (by assumption) (edict_empty (by assumption)) (by assumption) (by assumption)
 refine no_implicit_lambda% (qo ?_)
 simp (disch := k_dflt k_extra "b") only [↓qs]
end
/- the start state of the law -/
section
variable {w : World} {k : Kt} {ks : List (List EK)} {ds ws os : List Int} {xs : List (List EK × Addr × Value)} {imm : List (Addr × Obj)}
theorem krow_at (hI : IdxL 0 ks (kvsOf xs)) (hn : ks.Nodup) {i : Nat} {key : List EK} (h : ks[i]? = some key) : KRow xs key (i : Int) := by
  obtain ⟨t, ht⟩ := hI.at hn h
  refine ⟨t, ?_⟩
  rw [at_kvs, ht, Nat.zero_add]
theorem val_at (K : KtOk w k ks ds ws os) (him : ∀ p ∈ k.imm, p ∈ imm) {i : Nat} {sort : Int} {kt : List EK} (h : ks[i]? = some (.i sort :: kt)) : ValIs imm k.rows (i : Int) (decide (1 ≤ (i : Int) ∧ (i : Int) ≤ 11) || decide (sort = 3)) := by
  refine hide ?_
  intro GG hGG
  obtain ⟨a, h1, vs, h2, h3⟩ := K.row i _ h
  refine hGG ?_
  try clear hGG GG
  cases h3 with
  | cons x y =>
    cases x with
    | i => exact ⟨a, _, _, _, by simpa using h1, him _ h2, rfl⟩
theorem own_at {its : Array Value} {types : List Value} (hits : its = types.toArray) (hI : IdxL 0 ks (kvsOf xs)) (hn : ks.Nodup) {tid ki np : Nat} {sort : Int} {ta : Addr} (h0 : ks[16]? = some [.i 6, .i 0]) (h1 : ks[18]? = some [.i 6, .i 1])
    (htid : 21 ≤ tid ∧ tid ≤ 26) (hki : ki < 40) (hnp : np ≤ 2) (ht : types[tid]? = some (.ref ta)) (T : TdIn w imm ta np sort)
    (h2 : sort = 2 ∨ sort = 5 → ks[ki]? = some [.i 3, .i tid, .t (([16, 18] : List Int).take np)]) (h3 : ¬(sort = 2 ∨ sort = 5) → ks[ki]? = some [.i 2, .i tid, .t (([16, 18] : List Int).take np)]) :
    Own w imm its xs (tid : Int) (ki : Int) := by
  refine ⟨by (first | k_extra "z k_ar" | omega), by (first | k_extra "z k_ar" | omega), .inr (.inr (.inr ⟨by (first | k_extra "z k_ar" | omega), np, sort, [16, 18], ?_, hnp, rfl, ?_, fun h => krow_at hI hn (h2 h), fun h => krow_at hI hn (h3 h)⟩))⟩
  · refine hide ?_
    intro GG hGG
    obtain ⟨td, o, t, pa, pits, n, a, b, c, d, e, g, i, j, k, l, m, n', o', p, q, r, u, x1, x2, x3, x4, x5⟩ := T
    refine hGG ?_
    try clear hGG GG
    exact ⟨ta, td, o, t, pa, pits, n, a, b, c, d, e, g, i, j, k, l, m, n', o', p, q, r, u, by rw [hits]; simpa using ht, x1, x2, x3, x4, x5⟩
  · intro i v hv
    match i, hv with
    | 0, hv => cases hv; exact ⟨by decide, krow_at hI hn h0⟩
    | 1, hv => cases hv; exact ⟨by decide, krow_at hI hn h1⟩
theorem RowAt.at {v : Value} {tid k : Int} {b : Bool} (R : RowAt imm v tid k b) : RowAt imm v tid k b := R
theorem TdIn.mono' {imm' : List (Addr × Obj)} {ta : Addr} {np : Nat} {sort : Int} (T : TdIn w imm ta np sort) (h : ∀ p ∈ imm, p ∈ imm') : TdIn w imm' ta np sort := by
  refine hide ?_
  intro GG hGG
  obtain ⟨td, o, t, pa, pits, n, a, b, c, d, e, g, i, j, k, l, m, n', o', p, q, r, u, x1, x2, x3, x4, x5⟩ := T
  refine hGG ?_
  try clear hGG GG
  exact ⟨td, o, t, pa, pits, n, a, b, c, d, e, g, i, j, k, l, m, n', o', p, q, r, u, h _ x1, h _ x2, x3, h _ x4, x5⟩
theorem mem_ktimm {q : Addr × Obj} (h : q ∈ k.imm) : q ∈ ktL k := .tail _ (.tail _ (.tail _ (.tail _ (.tail _ h))))
theorem sets_start {f : Fix} {sx lt tt : Addr} (K : KtOk w k kindsK ds ws os) (T : LawTypes w k sx lt tt) (him : ∀ p ∈ ktL k, p ∈ imm)
    (hkt : f.akt = k.akt) (hktd : f.aktd = k.aktd) (hst : f.astore = sx) (hstd : ∃ od a b c d e, (sx, instObj 250 f.astored) ∈ imm ∧ (f.astored, od) ∈ imm ∧ od.IsDictOf (strKind PR w) (storeKS (.ref k.akt) (.ref lt) a b c d e)) (htt : f.atypes = tt)
    (lo1 : (f.anotes == sysModules) = false) (lo2 : (f.aconsts == sysModules) = false) (lo3 : (f.aclosed == sysModules) = false) : ∃ its xs, Sets w f imm its k.rows xs := by
  have hi : ∀ p ∈ k.imm, p ∈ imm := fun p hp => him p (mem_ktimm hp)
  refine hide ?_
  intro GG hGG
  obtain ⟨xs, hE, hI⟩ := K.idx
  obtain ⟨types, n, hlt, t1, t2, t3, t4, t5, t6, e1, T1, e2, T2, e3, T3, e4, T4, e5, T5, e6, T6⟩ := T.ty
  obtain ⟨od, sa, sb, sc, sd, se, hs1, hs2, hs3⟩ := hstd
  obtain ⟨o, hk1, hk2⟩ := K.dict
  refine hGG ?_
  try clear hGG GG
  have g16 : kindsK[16]? = some [.i 6, .i 0] := by rfl
  have g18 : kindsK[18]? = some [.i 6, .i 1] := by rfl
  refine ⟨types.toArray, xs, ?_⟩
  refine { kin := ?_, kit := ?_, kz := ?_, ty := ?_, lo1 := lo1, lo2 := lo2, lo3 := lo3 }
  · refine ⟨by rw [hst]; exact hs1, ⟨od, lt, sa, sb, sc, sd, se, n, hs2, ?_, hi _ hlt⟩, by rw [hkt, hktd]; exact hi _ K.inst, ⟨o, k.ai, k.oidx, _, _, _, _, by rw [hktd]; exact hi _ hk1, hk2, him _ (.tail _ (.tail _ (.tail _ (.head _)))), hE.mono hi, K.lo⟩⟩
    unfold storeK; rw [hkt]; exact hs3
  · exact ⟨by rw [hkt, hktd]; exact hi _ K.inst, o, k.ar, _, _, _, _, k.nr, by rw [hktd]; exact hi _ hk1, hk2, him _ (.tail _ (.tail _ (.tail _ (.tail _ (.head _)))))⟩
  · rw [K.rsz]; decide
  · refine hide ?_
    intro GG hGG
    obtain ⟨v1, v2, v3, v4, v5, v6, v7, v8, v9, hrows, R1, R2, R3, R4, R5, R6, R7, R8, R9⟩ := T.rows
    refine hGG ?_
    try clear hGG GG
    refine ⟨_, by rw [htt]; exact hi _ hrows, rfl, fun i hi9 => ?_⟩
    match i, hi9 with
    | 0, _ => obtain ⟨ra, x1, x2, rfl, hr⟩ := R1; exact ⟨ra, _, _, _, _, _, rfl, hi _ hr, own_at (ki := 17) (tid := 21) rfl hI K.nod g16 g18 (by decide) (by decide) (by decide) e1 (T1.mono' hi) (by decide) (fun _ => by rfl), val_at K hi (i := 17) (sort := 2) (by rfl)⟩
    | 1, _ => obtain ⟨ra, x1, x2, rfl, hr⟩ := R2; exact ⟨ra, _, _, _, _, _, rfl, hi _ hr, own_at (ki := 19) (tid := 22) rfl hI K.nod g16 g18 (by decide) (by decide) (by decide) e2 (T2.mono' hi) (by decide) (fun _ => by rfl), val_at K hi (i := 19) (sort := 2) (by rfl)⟩
    | 2, _ => obtain ⟨ra, x1, x2, rfl, hr⟩ := R3; exact ⟨ra, _, _, _, _, _, rfl, hi _ hr, own_at (ki := 20) (tid := 23) rfl hI K.nod g16 g18 (by decide) (by decide) (by decide) e3 (T3.mono' hi) (fun _ => by rfl) (by decide), val_at K hi (i := 20) (sort := 3) (by rfl)⟩
    | 3, _ => obtain ⟨ra, x1, x2, rfl, hr⟩ := R4; exact ⟨ra, _, _, _, _, _, rfl, hi _ hr, own_at (ki := 21) (tid := 24) rfl hI K.nod g16 g18 (by decide) (by decide) (by decide) e4 (T4.mono' hi) (fun _ => by rfl) (by decide), val_at K hi (i := 21) (sort := 3) (by rfl)⟩
    | 4, _ => obtain ⟨ra, x1, x2, rfl, hr⟩ := R5; exact ⟨ra, _, _, _, _, _, rfl, hi _ hr, ⟨by decide, by decide, .inl ⟨rfl, rfl⟩⟩, val_at K hi (i := 7) (sort := 1) (by rfl)⟩
    | 5, _ => obtain ⟨ra, x1, x2, rfl, hr⟩ := R6; exact ⟨ra, _, _, _, _, _, rfl, hi _ hr, ⟨by decide, by decide, .inr (.inl ⟨rfl, rfl⟩)⟩, val_at K hi (i := 13) (sort := 1) (by rfl)⟩
    | 6, _ => obtain ⟨ra, x1, x2, rfl, hr⟩ := R7; exact ⟨ra, _, _, _, _, _, rfl, hi _ hr, own_at (ki := 22) (tid := 25) rfl hI K.nod g16 g18 (by decide) (by decide) (by decide) e5 (T5.mono' hi) (by decide) (fun _ => by rfl), val_at K hi (i := 22) (sort := 2) (by rfl)⟩
    | 7, _ => obtain ⟨ra, x1, x2, rfl, hr⟩ := R8; exact ⟨ra, _, _, _, _, _, rfl, hi _ hr, own_at (ki := 23) (tid := 26) rfl hI K.nod g16 g18 (by decide) (by decide) (by decide) e6 (T6.mono' hi) (fun _ => by rfl) (by decide), val_at K hi (i := 23) (sort := 3) (by rfl)⟩
    | 8, _ => obtain ⟨ra, x1, x2, rfl, hr⟩ := R9; exact ⟨ra, _, _, _, _, _, rfl, hi _ hr, ⟨by decide, by decide, .inr (.inr (.inl ⟨rfl, rfl⟩))⟩, val_at K hi (i := 12) (sort := 1) (by rfl)⟩
end
section
variable {w : World} {p : Program} {loose : List Str} {mean : ExcName → Option Value} {mg mb : Str → Option Value}
    {dp un : Nat} {gd : Option (List Code)} {cn : Str} {cs : Scope} {a : Addr} {ccd : Value} {cl : List (Str × Addr)} {outer : List Env} {A₀ : Around} {base h₀ : Heap} {L : Addr} {m : Str → Option Value} {s : Shared} {hS : Heap} {gS : Array GenState} {dS : Drawn} {tS : Nat} {oS : OsState}
    {Q E : Value → Shared → Prop} {k : Kt} {ds ws os : List Int} {imm : List (Addr × Obj)}
theorem level_all : LevelSpec w 0 := level_ok (by decide) fun _ => level_ok (by decide) fun _ => level_ok (by decide) fun h => absurd h (by decide)
theorem Tl.sub {Z Y X : List (Addr × Obj)} (t : Tl Z Y X) : ∀ p ∈ Z, p ∈ Y := fun p hp => by rw [t.eq]; exact List.mem_append_right _ hp
theorem law_form {h : Heap} {Y Y2 : List (Addr × Obj)} {aw cxd avars ascopes atold aconsts afns avs arows acxsc acxrows aclosed anotes ain tt ux sx akt dg : Addr} {ow ocx oco oc on ou odg o1 o2 o3 o4 o5 o6 o7 o8 : Obj} {ax : Nat → Value} {at_ left c1 c2 c3 fn owner static init blocks cat xa xb xc xd xe : Value}
    (_ : ow.IsDictOf (strKind PR w) [("in", .ref ain), ("at", at_), ("left", left), ("vars", .ref avars), ("scopes", .ref ascopes), ("told", .ref atold), ("consts", .ref aconsts), ("made", c1), ("stands", c2), ("types", .ref tt), ("none", c3)])
    (_ : ocx.IsDictOf (strKind PR w) (seatS ux sx akt dg acxsc acxrows aclosed anotes ax fn owner static init blocks cat)) (_ : ou.IsDictOf (strKind PR w) (unitS sx afns avs dg xa xb xc xd xe)) (_ : odg.IsDictOf (strKind PR w) [("rows", .ref arows)])
    (N : News h₀ L h Y) (nd : Ne Y) (t : Pulls [(aw, ow), (cxd, ocx), (avars, o1), (ascopes, o2), (atold, o3), (aconsts, oco), (afns, o4), (avs, o5), (arows, o6), (acxsc, o7), (acxrows, o8), (aclosed, oc), (anotes, on)] Y Y2) :
    News h₀ L h ((aw, ow) :: (cxd, ocx) :: (avars, o1) :: (ascopes, o2) :: (atold, o3) :: (aconsts, oco) :: (afns, o4) :: (avs, o5) :: (arows, o6) :: (acxsc, o7) :: (acxrows, o8) :: (aclosed, oc) :: (anotes, on) :: Y2) ∧ Ne ((aw, ow) :: (cxd, ocx) :: (avars, o1) :: (ascopes, o2) :: (atold, o3) :: (aconsts, oco) :: (afns, o4) :: (avs, o5) :: (arows, o6) :: (acxsc, o7) :: (acxrows, o8) :: (aclosed, oc) :: (anotes, on) :: Y2) := t.mk' N nd
theorem law_end {aw cxd avars ascopes atold aconsts afns avs arows acxsc acxrows aclosed anotes : Addr} {ow ocx oco oc on ou odg : Obj} {n1 n2 n3 n4 n5 n6 n7 n8 n9 : Nat}
    {cx ux uxd dg dgd ain tt sx lt : Addr} {ys : List Value} {ns : List Int} {at_ left : Int} {t1 t2 t3 t4 t5 t6 t7 t8 td : Tok} {b : Bool} {ax : Nat → Value} {cat xa xb xc xd xe : Value}
    (C : Cx w p loose mean mg mb cs outer A₀ base h₀ L m hS ((aw, ow) :: (cxd, ocx) :: (avars, listOf #[] n1) :: (ascopes, listOf #[] n2) :: (atold, listOf #[] n3) :: (aconsts, oco) :: (afns, listOf #[.none] n4) :: (avs, listOf #[.none] n5) :: (arows, listOf #[] n6) :: (acxsc, listOf #[] n7) :: (acxrows, listOf #[] n8) :: (aclosed, oc) :: (anotes, on) :: imm))
    (nd : Ne ((aw, ow) :: (cxd, ocx) :: (avars, listOf #[] n1) :: (ascopes, listOf #[] n2) :: (atold, listOf #[] n3) :: (aconsts, oco) :: (afns, listOf #[.none] n4) :: (avs, listOf #[.none] n5) :: (arows, listOf #[] n6) :: (acxsc, listOf #[] n7) :: (acxrows, listOf #[] n8) :: (aclosed, oc) :: (anotes, on) :: imm))
    (K : KtOk w k kindsK ds ws os) (T : LawTypes w k sx lt tt) (him : ∀ p ∈ ktL k, p ∈ imm)
    (hW : ow.IsDictOf (strKind PR w) [("in", .ref ain), ("at", .int at_ t1), ("left", .int left t2), ("vars", .ref avars), ("scopes", .ref ascopes), ("told", .ref atold), ("consts", .ref aconsts), ("made", .int 0 t3), ("stands", .int 0 t4), ("types", .ref tt), ("none", .bool b)])
    (hat : 0 ≤ at_ ∧ at_ ≤ 100) (hlf : 0 ≤ left ∧ left < 1000003) (hain : (ain, listOf ys.toArray n9) ∈ imm) (hin : IntsAre ys ns) (hlow : ∀ i ∈ ns, 0 ≤ i ∧ i < 1000003) (hlen : ns.length ≤ 20)
    (hoco : oco.IsDictOf (intKind PR w) []) (loco : (aconsts == sysModules) = false)
    (hcx : (cx, instObj 766 cxd) ∈ imm) (hC : ocx.IsDictOf (strKind PR w) (seatS ux sx k.akt dg acxsc acxrows aclosed anotes ax .none (.int 0 t5) (.int 0 t6) (.int 0 t7) (.int 0 t8) cat)) (hoc : oc.IsDictOf (intKind PR w) []) (hon : EDictIs PR w [] on []) (loc : (aclosed == sysModules) = false) (lon : (anotes == sysModules) = false)
    (hux : (ux, instObj 397 uxd) ∈ imm) (huxd : (uxd, ou) ∈ imm) (hou : ou.IsDictOf (strKind PR w) (unitS sx afns avs dg xa xb xc xd xe)) (hdg : (dg, instObj 327 dgd) ∈ imm) (hdgd : (dgd, odg) ∈ imm) (hodg : odg.IsDictOf (strKind PR w) [("rows", .ref arows)])
    (hdp : dp + 100 < recursionLimit) (hu : un + 600 < cLine)
    (ret : ∀ Z' h' tk', Fr h₀ L h' m → News h₀ L h' Z' → Q (.bool true) ⟨h', gS, dS, tk', oS⟩) :
    wpAny (model PR w) (ktrTop dp un gd cn cs L a ccd cl outer) (call (.ref 988) [.ref aw, .ref cx, .int 0 td]) Q E ⟨hS, gS, dS, tS, oS⟩ := by
  refine hide ?_
  intro GG hGG
  obtain ⟨sxd, osx, ya, yb, yc, yd, ye, hs1, hs2, hs3⟩ := T.st
  refine hGG ?_
  try clear hGG GG
  have hi : ∀ p ∈ k.imm, p ∈ imm := fun p hp => him p (mem_ktimm hp)
  let f : Fix := { aw := aw, acxd := cxd, avars := avars, ascopes := ascopes, atold := atold, aconsts := aconsts, afns := afns, avs := avs, arows := arows, acxsc := acxsc, acxrows := acxrows, aclosed := aclosed, anotes := anotes, acx := cx, aunit := ux, aunitd := uxd, adiags := dg, adiagsd := dgd, ain := ain, nin := n9, ins := ys, ns := ns, atypes := tt, astore := sx, astored := sxd, akt := k.akt, aktd := k.aktd, ax := ax }
  let r : Raw := { ow := ow, ocx := ocx, vars := #[], nvars := n1, scopes := #[], nscopes := n2, told := #[], ntold := n3, oconsts := oco, fns := #[.none], nfns := n4, vs := #[.none], nvs := n5, rows := #[], nrows := n6, cxsc := #[], ncxsc := n7, cxrows := #[], ncxrows := n8, oclosed := oc, onotes := on, rowL := [], vdL := [], slL := [], sdL := [], cdL := [], lidL := [], imm := imm }
  refine hide ?_
  intro GG hGG
  obtain ⟨its, xs, S⟩ := sets_start (f := f) (imm := imm) K T him rfl rfl rfl ⟨osx, ya, yb, yc, yd, ye, hi _ hs1, hi _ hs2, hs3⟩ rfl lon loco loc
  refine hGG ?_
  try clear hGG GG
  let G : Gst := { its := its, kits := k.rows, xs := xs, none := b, made := 0, stands := 0, fv := .none, fs := [], lv := [], bl := [], bv := [], lw := [], dr := [], dt := [], cd := fun _ => none, cn := 0 }
  have O : Ok w f r G := by
    refine { sta := ?_, sets := S, wo := ⟨_, _, _, _, _, _, hW, hat, hlf⟩, cx := ⟨_, _, _, _, _, _, hC⟩, slz := rfl, sl := .nil, sdz := rfl, sd := .nil, rwz := rfl, cl := ?_, vdz := rfl, vd := .nil, rlz := rfl, rl := .nil, tr := .nil, tt := .nil, co := ?_, fn := (fun q h => nomatch h) }
    · exact { cx := hcx, unit := hux, unitd := ⟨_, _, _, _, _, _, huxd, hou⟩, dg := hdg, dgd := ⟨_, hdgd, hodg⟩, ain := hain, inx := hin, low := hlow, len := hlen }
    · exact ⟨[], { is := hoc, keys := (fun p h => nomatch h), full := fun k h1 h2 => by simp [G] at h2; (first | k_extra "z k_ar" | omega), dict := (fun p h => nomatch h), inj := (fun p h => nomatch h) }⟩
    · exact ⟨[], [], hon.mono (fun p h => nomatch h), hoco, Nat.le_refl _, Nat.le_refl _, fun lid => .no⟩
  have W : Wf G := { len := rfl, ent := fun i es h => by simp [G] at h, nod := List.nodup_nil, non := (fun q h => nomatch h), nam := (fun v h => nomatch h), l3 := Nat.zero_le _, b10 := Nat.zero_le _ }
  have R : Rest G := ⟨rfl, rfl, rfl⟩
  refine hide ?_
  intro GG hGG
  obtain ⟨B, F, X, N, T, hk⟩ := C
  refine hGG ?_
  try clear hGG GG
  refine level_all (f := f) (r := r) (Z := []) (G := G) ⟨B, F, X, N, T, hk⟩ nd O W R rfl (fun q h => nomatch h) (fun _ => rfl) (by rw [if_pos rfl]) ?_ ?_ ?_ ?_ ?_ ?_ ?_ ?_ ?_
  · show (0 : Int) ≤ 0 ∧ (0 : Int) + (lvD 0 : Nat) ≤ 10; decide
  · show (0 : Int) ≤ 0 ∧ (0 : Int) + (lvA 0 : Nat) ≤ 9; decide
  · show 0 + lvD 0 ≤ 10; decide
  · show 0 + lvD 0 ≤ 100; decide
  · show 0 + lvD 0 + 7 * lvA 0 ≤ 200; decide
  · show 1 ≤ 1 ∧ 1 + lvF 0 ≤ 90; decide
  · (first | k_extra "z k_ar" | omega)
  · (first | k_extra "z k_ar" | omega)
  · intro r' G' h' tk' F' N' _ _ _ _ _ _ _
    exact ret _ _ _ F' N'
end
theorem lines46 : True := by
  k_with "z call ref" => ((k_here; (with_reducible show wpAny _ _ (call (Value.ref 397) _) _ _ _); refine hold ?_))
  k_with "z call ref" => ((k_here; (with_reducible show wpAny _ _ (call (Value.ref 925) _) _ _ _); refine hold ?_))
  k_with "z call ref" => ((k_here; (with_reducible show wpAny _ _ (call (Value.ref 766) _) _ _ _); refine hold ?_))
  k_with "z k_memS" => ((with_reducible refine List.mem_append_left _ ?_; assumption))
  trivial
theorem law0 : PySem.Challenge.rw_tn0010_01.Holds := by
 k_with "b" =>
  refine hd (by rfl) (by rfl) (by rfl) ?_
  k_go0
  all_goals try k_fold
  have nd0 : Ne [] := List.nodup_nil
  have hrl : 900 < recursionLimit := by decide
  k_steps
  refine unhold ?_
  rename Heap.IsList _ _ _ => hL
  rename IntsAre _ _ => hI
  rename ¬ _ < _ => h63
  k_dflt (refine LCg.ListComp_U (F₀ := by k_asm) (by rfl) (by decide) (by rfl) (by decide) (by rfl) ?_)
  k_steps
  refine unhold ?_
  rename Fr _ _ _ _ => F2
  rename News _ _ _ _ => N2
  rename IntsAre _ (List.take _ _) => hI2
  have nd2 := ne_two N2 (by assumption)
  refine compSrcP (P := fun i y => ∃ x t, y = .int x t ∧ 0 ≤ x ∧ x < 1000003) rfl F2 N2 (.head _) (by rw [List.size_toArray, ints_lenS hI2, List.length_take]; (first | k_extra "z k_ar" | omega)) ?_ ?_
  · intro i v I oI C oC D' ys m₂ h tk E' hv hC hx F' N'
    refine hide ?_
    intro GG hGG
    obtain ⟨x, t, rfl⟩ := ints_memS hI2 (List.mem_of_getElem? (by simpa using hv))
    refine hGG ?_
    try clear hGG GG
    clear F2 N2 nd2
    k_steps
    exact ⟨_, _, rfl, by k_asm, by k_asm, _, _, rfl, Int.fmod_nonneg_of_pos _ (by decide), Int.fmod_lt_of_pos _ (by decide)⟩
  · intro g ys hyl hyp
    unfold LCg.FinE
    intro D2 h3 tk3 F3 N3 o3
    have nd3 := ne_off (o := LCg.lst ys) nd2 o3
    replace N3 : News _ _ _ ((D2, LCg.lst ys) :: _) := N3
    clear F2 N2 nd2 o3
    try dsimp only
    k_steps
    refine unhold ?_
    refine' dmadeP ?zF ?zN ?zc ?zU ?zd ?zk ?zn ?_; (case zF => k_asm); (case zN => k_asm); (case zc => assumption); (case zU => k_extra "z k_upG"); (case zd => assumption); (case zk => rfl); (case zn => exact of_decide_eq_true (by first | rfl | kernel_rfl!))
    intro h4 ow F4 N4 nd4 hW4
    try dsimp only at N4 nd4
    (try clear N3)
    (try clear nd3)
    try dsimp only
    k_steps
    refine unhold ?_
    rename Ne _ => nd5
    refine store_new ⟨by k_asm, by k_asm, by k_asm, by k_asm, by k_asm, by first | exact rfl | assumption⟩ nd5 (by first | ktr_room | k_extra "z ev_room") (by first | ktr_units | k_extra "z ev_room") ?_
    intro sx lt k h6 tk6 F6 N6 nd6 K6 S6
    try dsimp only
    k_steps
    refine unhold ?_
    refine law_types_spec ⟨by k_asm, by k_asm, by k_asm, by k_asm, by k_asm, by first | exact rfl | assumption⟩ nd6 K6 S6 (by first | ktr_room | k_extra "z ev_room") (by first | ktr_units | k_extra "z ev_room") ?_
    intro tt k7 ds7 ws7 os7 h7 tk7 F7 N7 nd7 K7 T7 e7
    (try clear N6)
    (try clear nd6)
    simp only [KL_one] at N7 nd7
    try dsimp only
    k_steps
    refine unhold ?_
    rename Ne _ => nd8
    rename News _ _ _ _ => N8
    rename Fr _ _ _ _ => F8
    refine dsetP (knd := PySem.strKind _ _) (kvs' := w0K D2 (.int 0 _) (.int 0 _) (.ref _) (.ref _) (.ref _) (.ref _) (.int 0 _) (.int 0 _) (.ref tt)) F8 N8 nd8 hW4 (strKind_is _ _ _ _) (.tail (.tail (.tail (.tail (.tail (.tail .head)))))) (by exact Nat.le_of_ble_eq_true rfl) rfl ?_
    intro h8 o8 tk8 F9 N9 nd9 hd9
    try dsimp only at N9 nd9
    clear F8 N8 nd8
    try dsimp only
    k_steps
    refine unhold ?_
    refine hide ?_
    intro GG hGG
    obtain ⟨ns, hns, hlow, hnl⟩ : ∃ ns : List Int, IntsAre ys ns ∧ (∀ i ∈ ns, 0 ≤ i ∧ i < 1000003) ∧ ns.length ≤ 20 := ints_ofS (by rw [hyl, List.size_toArray, ints_lenS hI2, List.length_take]; (first | k_extra "z k_ar" | omega)) hyp
    refine hGG ?_
    try clear hGG GG
    refine take0_spec ⟨by k_asm, by k_asm, by k_asm, by k_asm, by k_asm, by first | exact rfl | assumption⟩ nd9 (.tail (.tail (.tail (.tail (.tail (.tail .head)))))) hd9 (.tail _ (.tail _ (.tail _ (.tail _ (.head _))))) (fun o' => (.tail _ (.tail _ (.tail _ (.tail _ (.head _)))))) hns hlow hnl (by first | ktr_room | k_extra "z ev_room") (by first | ktr_units | k_extra "z ev_room") ?_
    intro x tx at_ left t3 t4 o9 h10 tk10 F10 N10 nd10 hd10 hat hlf
    try dsimp only at N10 nd10
    clear N9 nd9
    try dsimp only
    k_steps
    refine unhold ?_
    rename Fr _ _ _ _ => F11
    refine dsetP (knd := PySem.strKind _ _) (kvs' := ("in", .ref D2) :: ("at", .int at_ t3) :: ("left", .int left t4) :: ("vars", .ref _) :: ("scopes", .ref _) :: ("told", .ref _) :: ("consts", .ref _) :: ("made", .int 0 _) :: ("stands", .int 0 _) :: ("types", .ref tt) :: ("none", .bool _) :: []) F11 N10 nd10 hd10 (strKind_is _ _ _ _) (.tail (.tail (.tail (.tail (.tail (.tail .head)))))) (by exact Nat.le_of_ble_eq_true rfl) rfl ?_
    intro h12 o12 tk12 F12 N12 nd12 hd12
    try dsimp only at N12 nd12
    clear F11 N10 nd10
    try dsimp only
    k_steps
    refine unhold ?_
    refine unit_new ⟨by k_asm, by k_asm, by k_asm, by k_asm, by k_asm, by first | exact rfl | assumption⟩ nd12 (by first | ktr_room | k_extra "z ev_room") (by first | ktr_units | k_extra "z ev_room") ?_
    intro ux uxd ou dg dgd od afns avs arows n1 n2 n3 xa xb xc xd xe X1 h13 tk13 F13 N13 nd13 hux huxd hou hdg hdgd hod
    refine hide ?_
    intro GG hGG
    obtain ⟨sxd, osx, ya, yb, yc, yd, ye, hs1, hs2, hs3⟩ := T7.st
    refine hGG ?_
    try clear hGG GG
    try dsimp only
    k_steps
    refine unhold ?_
    rename Ne _ => nd14
    refine host_new ⟨by k_asm, by k_asm, by k_asm, by k_asm, by k_asm, by first | exact rfl | assumption⟩ nd14 (by first | ktr_room | k_extra "z ev_room") (by first | ktr_units | k_extra "z ev_room") ?_
    intro hx X2 h15 tk15 F15 N15 nd15
    try dsimp only
    k_steps
    refine unhold ?_
    rename Ne _ => nd16
    refine seat_new ⟨by k_asm, by k_asm, by k_asm, by k_asm, by k_asm, by first | exact rfl | assumption⟩ nd16 (by k_extra "z k_memS") (by k_extra "z k_memS") hou (by k_extra "z k_memS") (by k_extra "z k_memS") hs3 (by first | ktr_room | k_extra "z ev_room") (by first | ktr_units | k_extra "z ev_room") ?_
    intro cx cxd ocx acxsc acxrows aclosed oc anotes on n4 n5 ax u1 u2 u3 u4 cat X3 h17 tk17 F17 N17 nd17 hcx hocx hoc hon loc lon
    try dsimp only
    k_steps
    refine unhold ?_
    rename Ne _ => nd18
    rename News _ _ _ _ => N18
    obtain ⟨N19, nd19⟩ := law_form hd12 hocx hou hod N18 nd18 (by k_extra "z k_pulls")
    clear N18 nd18
    refine law_end (k := k7) ⟨by k_asm, by k_asm, by k_asm, by k_asm, by k_asm, by first | exact rfl | assumption⟩ nd19 K7 T7 (fun p hp => Tl.sub (Z := KL [] k7) (by k_extra "z k_tl") p hp) hd12 hat hlf (by k_extra "z k_memS") hns hlow hnl (by assumption) (by assumption) (by k_extra "z k_memS") hocx hoc hon loc lon (by k_extra "z k_memS") (by k_extra "z k_memS") hou (by k_extra "z k_memS") (by k_extra "z k_memS") hod (by first | ktr_room | k_extra "z ev_room") (by first | ktr_units | k_extra "z ev_room") ?_
    intro Z' h20 tk20 F20 N20
    try dsimp only
    k_steps
 refine no_implicit_lambda% (qo ?_)
 simp (disch := k_dflt k_extra "b") only [↓qs]
end Mine
theorem PySem.Challenge.cw_tn0010_01_holds : PySem.Challenge.rw_tn0010_01.Holds := by
  exact Mine.law0
