import PyProof.Rows.All
import Wide.All
import OpenK.AllK
import Wide.FinOn
import PySem.Challenge.RW_or0068_01
open PySem PySem.W PyProof.Rows PySem.Calls
set_option Elab.async false
namespace Mine
set_option maxRecDepth 100000
set_option maxHeartbeats 8000000
set_option compiler.extract_closed false
set_option linter.all false
abbrev pwT : Program := PySem.Challenge.pw_or0068_01
/-- the row again, of a callee that the text has not: `mkFrag` then writes out every object that is reached -/
def rwAll : OpenLaw := { PySem.Challenge.rw_or0068_01 with name := Str.ofString "all" }
set_option hygiene false in
local macro_rules | `(tactic| o_head $_) => `(tactic| assumption)
theorem layAll (hAll : rwAll.row.Holds) : rwAll.row.Holds := by k_head
theorem layK (hK : PySem.Challenge.rw_or0068_01.row.Holds) : PySem.Challenge.rw_or0068_01.row.Holds := by k_head
noncomputable abbrev KALL : Params → Frag := layAll.heap_1
noncomputable def gt (K : Frag) (a : Nat) : Obj := @List.rec (Nat × Obj) (fun _ => Obj) default (fun p _ ih => @Bool.rec (fun _ => Obj) ih p.2 (Nat.beq p.1 a)) K
noncomputable def recOf (o : Obj) : Obj := match o.data with
  | .func f => ⟨.none, none, .func { f with globals := 0, closure := [], defaults := .none, kwdefaults := .none, doc := .none, pyModule := .none, annotations := none, code := .none, closureTuple := .none, builtins := 0 }, #[]⟩
  | _ => o
noncomputable def setAt (l : List DictEntry) (i : Nat) (v : Value) : List DictEntry := @List.rec DictEntry (fun _ => Nat → List DictEntry) (fun _ => [])
  (fun e r ih n => @Nat.rec (fun _ => List DictEntry) ({ e with val := v } :: r) (fun m _ => e :: ih m) n) l i
noncomputable def setAll (l : List DictEntry) (ov : List (Nat × Value)) : List DictEntry := @List.rec (Nat × Value) (fun _ => List DictEntry) l (fun p _ ih => setAt ih p.1 p.2) ov
noncomputable def nsAt (o : Obj) (n ep : Nat) (ov : List (Nat × Value)) : Obj := match o.data with
  | .dict es _ => ⟨o.cls, o.dict, .dict ⟨setAll (es.toList.take n) ov⟩ ep, o.slots⟩
  | _ => o
noncomputable def ptL (l : List (Int × Nat)) : List Value := @List.rec (Int × Nat) (fun _ => List Value) [] (fun p _ ih => .int p.1 0 :: .int 0 0 :: .ref p.2 :: ih) l
noncomputable def ptAt (l : List (Int × Nat)) : Obj := ⟨.none, none, .fields ⟨ptL l⟩, #[]⟩
noncomputable abbrev N (o : Obj) (l r : BT) : BT := .node o l r
noncomputable abbrev L (o : Obj) : BT := .node o .nil .nil
noncomputable abbrev E : BT := .nil
theorem cut_piece {w : World} {m₀ : Nat} {ann : Option Value} {env : Env} {c : Code} {pos p' q : Pos} {s s' r : Shared} {m M : Nat} {b : List Stmt} (i n : Nat)
    (h : segRun treeTable pwT w m₀ ann 1 m s (piecesOf ((b.drop i).take n) env c pos [topFrame q]) = some (.next, s', c, p'))
    (k : topRun treeTable pwT w m₀ ann M s' (restOf (b.drop (i + n)) env c p' [topFrame q]) = some r) :
    topRun treeTable pwT w m₀ ann (m + M) s (restOf (b.drop i) env c pos [topFrame q]) = some r := by
  rw [← List.drop_drop] at k
  have := piece_app h k
  rwa [List.take_append_drop] at this
noncomputable def nilF : Obj := ⟨.none, none, .fields #[], #[]⟩
noncomputable def kc0 (P : Params) : Frag := KALL P
noncomputable def kc1 (P : Params) : Frag := (kc0 P).drop 40
noncomputable def kc2 (P : Params) : Frag := (kc1 P).drop 40
noncomputable def kc3 (P : Params) : Frag := (kc2 P).drop 40
noncomputable def kc4 (P : Params) : Frag := (kc3 P).drop 40
noncomputable def kc5 (P : Params) : Frag := (kc4 P).drop 40
noncomputable def kc6 (P : Params) : Frag := (kc5 P).drop 40
noncomputable def kc7 (P : Params) : Frag := (kc6 P).drop 40
noncomputable def kc8 (P : Params) : Frag := (kc7 P).drop 40
noncomputable def kc9 (P : Params) : Frag := (kc8 P).drop 40
noncomputable def ob11x0 (P : Params) : Obj := { cls := PySem.Value.type "tuple", data := PySem.Data.seq #[] }
noncomputable def ob12x1 (_P : Params) : Obj := ptAt []
noncomputable def ob13x2 (P : Params) : Obj := { cls := PySem.Value.type "code", data := PySem.Data.fields #[PySem.Value.str (PySem.Str.ofString "<module>") 182, PySem.Value.str (PySem.Str.ofString "<module>") 183, PySem.Value.str (PySem.Str.ofString "/claim/cut.py") 184, PySem.Value.int 1 0, PySem.Value.int 0 0, PySem.Value.int 0 0, PySem.Value.int 0 0, PySem.Value.int 0 0, PySem.Value.ref 11, PySem.Value.bool Bool.false, PySem.Value.int 181 0, PySem.Value.ref 12, PySem.Value.none, PySem.Value.none, PySem.Value.none, PySem.Value.none, PySem.Value.int 185 0, PySem.Value.int 1 0, PySem.Value.str (PySem.Str.ofString "/claim/cut.py") 186] }
noncomputable def ob14x3 (P : Params) : Obj := { cls := PySem.Value.type "frame", slots := #[Option.some (PySem.Value.ref 13), Option.some (PySem.Value.ref 3), Option.some (PySem.Value.ref 3), Option.none, Option.some (PySem.Value.str (PySem.Str.ofString "__main__") 164), Option.none, Option.some (PySem.Value.ref 0)] }
noncomputable def hpA (P : Params) : Heap := ⟨#[PySem.W.boot_o_0 P, PySem.W.boot_o_1 P, PySem.W.boot_o_2 P, PySem.W.boot_o_3 P, PySem.W.boot_o_4 P, PySem.W.boot_o_5 P, PySem.W.boot_o_6 P, PySem.W.boot_o_7 P, PySem.W.boot_o_8 P, PySem.W.boot_o_9 P, PySem.W.boot_o_10 P, ob11x0 P, ob12x1 P, ob13x2 P, ob14x3 P], {}⟩
noncomputable def envT : Env := { scope := pwT.main.scope, locals := mainNs, globals := mainNs, cells := [], code := PySem.Value.ref 13, frame := some 14 }
noncomputable abbrev cdT : Code := .body (behindTheImports pwT) envT
noncomputable def tr0 (P : Params) : BT := (N (PySem.W.boot_o_0 P) (N (PySem.W.boot_o_1 P) (N (PySem.W.boot_o_3 P) (L (PySem.W.boot_o_7 P)) (L (ob11x0 P))) (N (PySem.W.boot_o_5 P) (L (PySem.W.boot_o_9 P)) (L (ob13x2 P)))) (N (PySem.W.boot_o_2 P) (N (PySem.W.boot_o_4 P) (L (PySem.W.boot_o_8 P)) (L (ob12x1 P))) (N (PySem.W.boot_o_6 P) (L (PySem.W.boot_o_10 P)) (L (ob14x3 P)))))
noncomputable def st0 (w : World) (os : OsState) : SharedT := ⟨tr0 w.params, 15, {}, #[], {}, 187, os⟩
noncomputable def ob2x4 (P : Params) : Obj := gt (kc0 P) 2
noncomputable def ob3x5 (P : Params) : Obj := nsAt (gt (kc0 P) 3) 26 26 [(0, PySem.Value.str (PySem.Str.ofString "postkeep.headers") 343)]
noncomputable def ob12x6 (_P : Params) : Obj := ptAt [(5, 18), (12, 25), (17, 32), (19, 37), (23, 45), (26, 52), (35, 80), (37, 92), (42, 104), (44, 109), (46, 117)]
noncomputable def ob15x7 (P : Params) : Obj := gt (kc0 P) 15
noncomputable def ob16x8 (P : Params) : Obj := nilF
noncomputable def ob17x9 (P : Params) : Obj := recOf (gt (kc0 P) 19)
noncomputable def ob18x10 (P : Params) : Obj := gt (kc0 P) 18
noncomputable def ob19x11 (P : Params) : Obj := gt (kc0 P) 19
noncomputable def ob20x12 (P : Params) : Obj := gt (kc0 P) 20
noncomputable def ob21x13 (P : Params) : Obj := nilF
noncomputable def ob22x14 (P : Params) : Obj := gt (kc0 P) 22
noncomputable def ob23x15 (P : Params) : Obj := gt (kc0 P) 23
noncomputable def ob24x16 (P : Params) : Obj := recOf (gt (kc0 P) 26)
noncomputable def ob25x17 (P : Params) : Obj := gt (kc0 P) 25
noncomputable def ob26x18 (P : Params) : Obj := gt (kc0 P) 26
noncomputable def ob27x19 (P : Params) : Obj := gt (kc0 P) 27
noncomputable def ob28x20 (P : Params) : Obj := nilF
noncomputable def ob29x21 (P : Params) : Obj := gt (kc0 P) 29
noncomputable def ob30x22 (P : Params) : Obj := gt (kc0 P) 30
noncomputable def ob31x23 (P : Params) : Obj := recOf (gt (kc0 P) 33)
noncomputable def ob32x24 (P : Params) : Obj := gt (kc0 P) 32
noncomputable def ob33x25 (P : Params) : Obj := gt (kc0 P) 33
noncomputable def ob34x26 (P : Params) : Obj := gt (kc0 P) 34
noncomputable def ob35x27 (P : Params) : Obj := nilF
noncomputable def ob36x28 (P : Params) : Obj := recOf (gt (kc0 P) 38)
noncomputable def ob37x29 (P : Params) : Obj := gt (kc0 P) 37
noncomputable def ob38x30 (P : Params) : Obj := gt (kc0 P) 38
noncomputable def ob39x31 (P : Params) : Obj := gt (kc0 P) 39
noncomputable def ob40x32 (P : Params) : Obj := gt (kc0 P) 40
noncomputable def ob41x33 (P : Params) : Obj := nilF
noncomputable def ob42x34 (P : Params) : Obj := gt (kc0 P) 42
noncomputable def ob43x35 (P : Params) : Obj := gt (kc0 P) 43
noncomputable def ob44x36 (P : Params) : Obj := recOf (gt (kc0 P) 46)
noncomputable def ob45x37 (P : Params) : Obj := gt (kc0 P) 45
noncomputable def ob46x38 (P : Params) : Obj := gt (kc0 P) 46
noncomputable def ob47x39 (P : Params) : Obj := gt (kc0 P) 47
noncomputable def ob48x40 (P : Params) : Obj := { cls := PySem.Value.type "builtin_function_or_method", data := PySem.Data.fields #[PySem.Value.builtin "type.__prepare__", PySem.Value.type "type"] }
noncomputable def ob49x41 (P : Params) : Obj := { cls := PySem.Value.type "dict", data := PySem.Data.dict #[{ hash := PySem.PyData.keyHash P (PySem.Str.ofString "__module__"), key := PySem.Value.str (PySem.Str.ofString "__module__") 242, val := PySem.Value.str (PySem.Str.ofString "postkeep.errors") 233 }, { hash := PySem.PyData.keyHash P (PySem.Str.ofString "__qualname__"), key := PySem.Value.str (PySem.Str.ofString "__qualname__") 244, val := PySem.Value.str (PySem.Str.ofString "PostError") 243 }, { hash := PySem.PyData.keyHash P (PySem.Str.ofString "__firstlineno__"), key := PySem.Value.str (PySem.Str.ofString "__firstlineno__") 246, val := PySem.Value.int 26 245 }, { hash := PySem.PyData.keyHash P (PySem.Str.ofString "__init__"), key := PySem.Value.str (PySem.Str.ofString "__init__") 257, val := PySem.Value.ref 61 }, { hash := PySem.PyData.keyHash P (PySem.Str.ofString "told"), key := PySem.Value.str (PySem.Str.ofString "told") 264, val := PySem.Value.ref 68 }, { hash := PySem.PyData.keyHash P (PySem.Str.ofString "__static_attributes__"), key := PySem.Value.str (PySem.Str.ofString "__static_attributes__") 267, val := PySem.Value.ref 69 }] 6 }
noncomputable def ob50x42 (P : Params) : Obj := { cls := PySem.Value.type "tuple", data := PySem.Data.seq #[] }
noncomputable def ob51x43 (P : Params) : Obj := { cls := PySem.Value.none, data := PySem.Data.fields #[PySem.Value.int 28 0, PySem.Value.int 4 0, PySem.Value.ref 60, PySem.Value.int 33 0, PySem.Value.int 4 0, PySem.Value.ref 67] }
noncomputable def ob52x44 (P : Params) : Obj := { cls := PySem.Value.type "code", data := PySem.Data.fields #[PySem.Value.str (PySem.Str.ofString "PostError") 237, PySem.Value.str (PySem.Str.ofString "PostError") 238, PySem.Value.str (PySem.Str.ofString "/claim/cut.py") 239, PySem.Value.int 26 0, PySem.Value.int 0 0, PySem.Value.int 0 0, PySem.Value.int 0 0, PySem.Value.int 0 0, PySem.Value.ref 50, PySem.Value.bool Bool.false, PySem.Value.int 181 0, PySem.Value.ref 51, PySem.Value.none, PySem.Value.none, PySem.Value.none, PySem.Value.none, PySem.Value.int 240 0, PySem.Value.int 26 0, PySem.Value.str (PySem.Str.ofString "/claim/cut.py") 241] }
noncomputable def ob53x45 (P : Params) : Obj := { cls := PySem.Value.type "frame", slots := #[Option.some (PySem.Value.ref 52), Option.some (PySem.Value.ref 3), Option.some (PySem.Value.ref 49), Option.none, Option.some (PySem.Value.str (PySem.Str.ofString "postkeep.errors") 233), Option.none, Option.some (PySem.Value.ref 0)] }
noncomputable def ob54x46 (P : Params) : Obj := gt (kc0 P) 54
noncomputable def ob55x47 (P : Params) : Obj := gt (kc0 P) 55
noncomputable def ob56x48 (P : Params) : Obj := nilF
noncomputable def ob57x49 (P : Params) : Obj := gt (kc0 P) 57
noncomputable def ob58x50 (P : Params) : Obj := gt (kc0 P) 58
noncomputable def ob59x51 (P : Params) : Obj := recOf (gt (kc0 P) 61)
noncomputable def ob60x52 (P : Params) : Obj := gt (kc0 P) 60
noncomputable def ob61x53 (P : Params) : Obj := gt (kc0 P) 61
noncomputable def ob62x54 (P : Params) : Obj := gt (kc0 P) 62
noncomputable def ob63x55 (P : Params) : Obj := nilF
noncomputable def ob64x56 (P : Params) : Obj := gt (kc0 P) 64
noncomputable def ob65x57 (P : Params) : Obj := gt (kc0 P) 65
noncomputable def ob66x58 (P : Params) : Obj := recOf (gt (kc0 P) 68)
noncomputable def ob67x59 (P : Params) : Obj := gt (kc0 P) 67
noncomputable def ob68x60 (P : Params) : Obj := gt (kc0 P) 68
noncomputable def ob69x61 (P : Params) : Obj := gt (kc0 P) 69
noncomputable def ob70x62 (P : Params) : Obj := gt (kc0 P) 70
noncomputable def ob71x63 (P : Params) : Obj := gt (kc0 P) 71
noncomputable def ob72x64 (P : Params) : Obj := gt (kc1 P) 72
noncomputable def ob73x65 (P : Params) : Obj := { cls := PySem.Value.type "super", data := PySem.Data.fields #[PySem.Value.ref 71, PySem.Value.ref 71, PySem.Value.ref 71] }
noncomputable def ob74x66 (P : Params) : Obj := { cls := PySem.Value.type "builtin_function_or_method", data := PySem.Data.fields #[PySem.Value.builtin "object.__init_subclass__", PySem.Value.ref 71] }
noncomputable def ob75x67 (P : Params) : Obj := gt (kc1 P) 75
noncomputable def ob76x68 (P : Params) : Obj := { cls := PySem.Value.type "builtin_function_or_method", data := PySem.Data.fields #[PySem.Value.builtin "type.__prepare__", PySem.Value.type "type"] }
noncomputable def ob77x69 (P : Params) : Obj := { cls := PySem.Value.type "dict", data := PySem.Data.dict #[{ hash := PySem.PyData.keyHash P (PySem.Str.ofString "__module__"), key := PySem.Value.str (PySem.Str.ofString "__module__") 282, val := PySem.Value.str (PySem.Str.ofString "postkeep.errors") 233 }, { hash := PySem.PyData.keyHash P (PySem.Str.ofString "__qualname__"), key := PySem.Value.str (PySem.Str.ofString "__qualname__") 284, val := PySem.Value.str (PySem.Str.ofString "WordFault") 283 }, { hash := PySem.PyData.keyHash P (PySem.Str.ofString "__firstlineno__"), key := PySem.Value.str (PySem.Str.ofString "__firstlineno__") 286, val := PySem.Value.int 35 285 }, { hash := PySem.PyData.keyHash P (PySem.Str.ofString "__static_attributes__"), key := PySem.Value.str (PySem.Str.ofString "__static_attributes__") 287, val := PySem.Value.ref 82 }] 4 }
noncomputable def ob78x70 (P : Params) : Obj := { cls := PySem.Value.type "tuple", data := PySem.Data.seq #[] }
noncomputable def ob79x71 (P : Params) : Obj := nilF
noncomputable def ob80x72 (P : Params) : Obj := { cls := PySem.Value.type "code", data := PySem.Data.fields #[PySem.Value.str (PySem.Str.ofString "WordFault") 277, PySem.Value.str (PySem.Str.ofString "WordFault") 278, PySem.Value.str (PySem.Str.ofString "/claim/cut.py") 279, PySem.Value.int 35 0, PySem.Value.int 0 0, PySem.Value.int 0 0, PySem.Value.int 0 0, PySem.Value.int 0 0, PySem.Value.ref 78, PySem.Value.bool Bool.false, PySem.Value.int 181 0, PySem.Value.ref 79, PySem.Value.none, PySem.Value.none, PySem.Value.none, PySem.Value.none, PySem.Value.int 280 0, PySem.Value.int 35 0, PySem.Value.str (PySem.Str.ofString "/claim/cut.py") 281] }
noncomputable def ob81x73 (P : Params) : Obj := { cls := PySem.Value.type "frame", slots := #[Option.some (PySem.Value.ref 80), Option.some (PySem.Value.ref 3), Option.some (PySem.Value.ref 77), Option.none, Option.some (PySem.Value.str (PySem.Str.ofString "postkeep.errors") 233), Option.none, Option.some (PySem.Value.ref 0)] }
noncomputable def ob82x74 (P : Params) : Obj := gt (kc1 P) 82
noncomputable def ob83x75 (P : Params) : Obj := gt (kc1 P) 83
noncomputable def ob84x76 (P : Params) : Obj := gt (kc1 P) 84
noncomputable def ob85x77 (P : Params) : Obj := { cls := PySem.Value.type "super", data := PySem.Data.fields #[PySem.Value.ref 84, PySem.Value.ref 84, PySem.Value.ref 84] }
noncomputable def ob86x78 (P : Params) : Obj := { cls := PySem.Value.type "builtin_function_or_method", data := PySem.Data.fields #[PySem.Value.builtin "object.__init_subclass__", PySem.Value.ref 84] }
noncomputable def ob87x79 (P : Params) : Obj := gt (kc1 P) 87
noncomputable def ob88x80 (P : Params) : Obj := { cls := PySem.Value.type "builtin_function_or_method", data := PySem.Data.fields #[PySem.Value.builtin "type.__prepare__", PySem.Value.type "type"] }
noncomputable def ob89x81 (P : Params) : Obj := { cls := PySem.Value.type "dict", data := PySem.Data.dict #[{ hash := PySem.PyData.keyHash P (PySem.Str.ofString "__module__"), key := PySem.Value.str (PySem.Str.ofString "__module__") 298, val := PySem.Value.str (PySem.Str.ofString "postkeep.errors") 233 }, { hash := PySem.PyData.keyHash P (PySem.Str.ofString "__qualname__"), key := PySem.Value.str (PySem.Str.ofString "__qualname__") 300, val := PySem.Value.str (PySem.Str.ofString "MimeFault") 299 }, { hash := PySem.PyData.keyHash P (PySem.Str.ofString "__firstlineno__"), key := PySem.Value.str (PySem.Str.ofString "__firstlineno__") 302, val := PySem.Value.int 37 301 }, { hash := PySem.PyData.keyHash P (PySem.Str.ofString "__static_attributes__"), key := PySem.Value.str (PySem.Str.ofString "__static_attributes__") 303, val := PySem.Value.ref 94 }] 4 }
noncomputable def ob90x82 (P : Params) : Obj := { cls := PySem.Value.type "tuple", data := PySem.Data.seq #[] }
noncomputable def ob91x83 (P : Params) : Obj := nilF
noncomputable def ob92x84 (P : Params) : Obj := { cls := PySem.Value.type "code", data := PySem.Data.fields #[PySem.Value.str (PySem.Str.ofString "MimeFault") 293, PySem.Value.str (PySem.Str.ofString "MimeFault") 294, PySem.Value.str (PySem.Str.ofString "/claim/cut.py") 295, PySem.Value.int 37 0, PySem.Value.int 0 0, PySem.Value.int 0 0, PySem.Value.int 0 0, PySem.Value.int 0 0, PySem.Value.ref 90, PySem.Value.bool Bool.false, PySem.Value.int 181 0, PySem.Value.ref 91, PySem.Value.none, PySem.Value.none, PySem.Value.none, PySem.Value.none, PySem.Value.int 296 0, PySem.Value.int 37 0, PySem.Value.str (PySem.Str.ofString "/claim/cut.py") 297] }
noncomputable def ob93x85 (P : Params) : Obj := { cls := PySem.Value.type "frame", slots := #[Option.some (PySem.Value.ref 92), Option.some (PySem.Value.ref 3), Option.some (PySem.Value.ref 89), Option.none, Option.some (PySem.Value.str (PySem.Str.ofString "postkeep.errors") 233), Option.none, Option.some (PySem.Value.ref 0)] }
noncomputable def ob94x86 (P : Params) : Obj := gt (kc1 P) 94
noncomputable def ob95x87 (P : Params) : Obj := gt (kc1 P) 95
noncomputable def ob96x88 (P : Params) : Obj := gt (kc1 P) 96
noncomputable def ob97x89 (P : Params) : Obj := { cls := PySem.Value.type "super", data := PySem.Data.fields #[PySem.Value.ref 96, PySem.Value.ref 96, PySem.Value.ref 96] }
noncomputable def ob98x90 (P : Params) : Obj := { cls := PySem.Value.type "builtin_function_or_method", data := PySem.Data.fields #[PySem.Value.builtin "object.__init_subclass__", PySem.Value.ref 96] }
noncomputable def ob99x91 (P : Params) : Obj := gt (kc1 P) 99
noncomputable def ob100x92 (P : Params) : Obj := nilF
noncomputable def ob101x93 (P : Params) : Obj := gt (kc1 P) 101
noncomputable def ob102x94 (P : Params) : Obj := gt (kc1 P) 102
noncomputable def ob103x95 (P : Params) : Obj := recOf (gt (kc1 P) 105)
noncomputable def ob104x96 (P : Params) : Obj := gt (kc1 P) 104
noncomputable def ob105x97 (P : Params) : Obj := gt (kc1 P) 105
noncomputable def ob106x98 (P : Params) : Obj := gt (kc1 P) 106
noncomputable def ob107x99 (P : Params) : Obj := nilF
noncomputable def ob108x100 (P : Params) : Obj := recOf (gt (kc1 P) 110)
noncomputable def ob109x101 (P : Params) : Obj := gt (kc1 P) 109
noncomputable def ob110x102 (P : Params) : Obj := gt (kc1 P) 110
noncomputable def ob111x103 (P : Params) : Obj := gt (kc1 P) 111
noncomputable def ob112x104 (P : Params) : Obj := gt (kc1 P) 112
noncomputable def ob113x105 (P : Params) : Obj := nilF
noncomputable def ob114x106 (P : Params) : Obj := gt (kc1 P) 114
noncomputable def ob115x107 (P : Params) : Obj := gt (kc1 P) 115
noncomputable def ob116x108 (P : Params) : Obj := recOf (gt (kc1 P) 118)
noncomputable def ob117x109 (P : Params) : Obj := gt (kc1 P) 117
noncomputable def ob118x110 (P : Params) : Obj := gt (kc1 P) 118
noncomputable def ob119x111 (P : Params) : Obj := gt (kc1 P) 119
noncomputable def tr1 (P : Params) : BT := (N (PySem.W.boot_o_0 P) (N (PySem.W.boot_o_1 P) (N (ob3x5 P) (N (PySem.W.boot_o_7 P) (N (ob15x7 P) (N (ob31x23 P) (L (ob63x55 P)) (L (ob95x87 P))) (N (ob47x39 P) (L (ob79x71 P)) (L (ob111x103 P)))) (N (ob23x15 P) (N (ob39x31 P) (L (ob71x63 P)) (L (ob103x95 P))) (N (ob55x47 P) (L (ob87x79 P)) (L (ob119x111 P))))) (N (ob11x0 P) (N (ob19x11 P) (N (ob35x27 P) (L (ob67x59 P)) (L (ob99x91 P))) (N (ob51x43 P) (L (ob83x75 P)) (L (ob115x107 P)))) (N (ob27x19 P) (N (ob43x35 P) (L (ob75x67 P)) (L (ob107x99 P))) (N (ob59x51 P) (L (ob91x83 P)) E)))) (N (PySem.W.boot_o_5 P) (N (PySem.W.boot_o_9 P) (N (ob17x9 P) (N (ob33x25 P) (L (ob65x57 P)) (L (ob97x89 P))) (N (ob49x41 P) (L (ob81x73 P)) (L (ob113x105 P)))) (N (ob25x17 P) (N (ob41x33 P) (L (ob73x65 P)) (L (ob105x97 P))) (N (ob57x49 P) (L (ob89x81 P)) E))) (N (ob13x2 P) (N (ob21x13 P) (N (ob37x29 P) (L (ob69x61 P)) (L (ob101x93 P))) (N (ob53x45 P) (L (ob85x77 P)) (L (ob117x109 P)))) (N (ob29x21 P) (N (ob45x37 P) (L (ob77x69 P)) (L (ob109x101 P))) (N (ob61x53 P) (L (ob93x85 P)) E))))) (N (ob2x4 P) (N (PySem.W.boot_o_4 P) (N (PySem.W.boot_o_8 P) (N (ob16x8 P) (N (ob32x24 P) (L (ob64x56 P)) (L (ob96x88 P))) (N (ob48x40 P) (L (ob80x72 P)) (L (ob112x104 P)))) (N (ob24x16 P) (N (ob40x32 P) (L (ob72x64 P)) (L (ob104x96 P))) (N (ob56x48 P) (L (ob88x80 P)) E))) (N (ob12x6 P) (N (ob20x12 P) (N (ob36x28 P) (L (ob68x60 P)) (L (ob100x92 P))) (N (ob52x44 P) (L (ob84x76 P)) (L (ob116x108 P)))) (N (ob28x20 P) (N (ob44x36 P) (L (ob76x68 P)) (L (ob108x100 P))) (N (ob60x52 P) (L (ob92x84 P)) E)))) (N (PySem.W.boot_o_6 P) (N (PySem.W.boot_o_10 P) (N (ob18x10 P) (N (ob34x26 P) (L (ob66x58 P)) (L (ob98x90 P))) (N (ob50x42 P) (L (ob82x74 P)) (L (ob114x106 P)))) (N (ob26x18 P) (N (ob42x34 P) (L (ob74x66 P)) (L (ob106x98 P))) (N (ob58x50 P) (L (ob90x82 P)) E))) (N (ob14x3 P) (N (ob22x14 P) (N (ob38x30 P) (L (ob70x62 P)) (L (ob102x94 P))) (N (ob54x46 P) (L (ob86x78 P)) (L (ob118x110 P)))) (N (ob30x22 P) (N (ob46x38 P) (L (ob78x70 P)) (L (ob110x102 P))) (N (ob62x54 P) (L (ob94x86 P)) E))))))
noncomputable def st1 (w : World) (os : OsState) : SharedT := ⟨tr1 w.params, 120, {}, #[], {}, 348, os⟩
noncomputable def ss0 : List Stmt := ((behindTheImports pwT).drop 0).take 21
theorem pq0 (w : World) : (fun os => PySem.W.Fast.tw10110043849684766642 PySem.W.Fast.tw14364793385576792824 pwT w 11 (some (.ref 6)) 1 1032 (st0 w os) (piecesOf ss0 envT cdT ⟨0, 0, 0, 0⟩ [topFrame ⟨0, 0, 0, 0⟩])) = fun os => some (Flow.next, st1 w os, cdT, ⟨60, 0, 60, 5⟩) := by kernel_rfl
theorem pc0 (w : World) (os : OsState) {N : Nat} {r : Shared} (k : topRun treeTable pwT w 11 (some (.ref 6)) N (st1 w os).abs (restOf ((behindTheImports pwT).drop 21) envT cdT ⟨60, 0, 60, 5⟩ [topFrame ⟨0, 0, 0, 0⟩]) = some r) : topRun treeTable pwT w 11 (some (.ref 6)) (1032 + N) (st0 w os).abs (restOf ((behindTheImports pwT).drop 0) envT cdT ⟨0, 0, 0, 0⟩ [topFrame ⟨0, 0, 0, 0⟩]) = some r := by
  have q : segRunT treeTable pwT w 11 (some (.ref 6)) 1 1032 (st0 w os) (piecesOf ss0 envT cdT ⟨0, 0, 0, 0⟩ [topFrame ⟨0, 0, 0, 0⟩]) = some (Flow.next, st1 w os, cdT, ⟨60, 0, 60, 5⟩) := by
    rw [PySem.W.Fast.te10110043849684766642, PySem.W.Fast.te14364793385576792824]; exact congrFun (pq0 w) os
  exact cut_piece 0 21 (segRun_of q) k
noncomputable def ob3x112 (P : Params) : Obj := nsAt (gt (kc0 P) 3) 53 53 [(0, PySem.Value.str (PySem.Str.ofString "postkeep.params") 516)]
noncomputable def ob12x113 (_P : Params) : Obj := ptAt [(5, 18), (12, 25), (17, 32), (19, 37), (23, 45), (26, 52), (35, 80), (37, 92), (42, 104), (44, 109), (46, 117), (61, 125), (72, 158), (79, 165), (84, 172), (93, 179), (95, 184), (98, 191), (105, 196), (115, 204), (118, 209), (122, 216), (132, 223), (136, 230), (150, 238)]
noncomputable def ob120x114 (P : Params) : Obj := { cls := PySem.Value.type "tuple", data := PySem.Data.seq #[] }
noncomputable def ob121x115 (P : Params) : Obj := { cls := PySem.Value.type "builtin_function_or_method", data := PySem.Data.fields #[PySem.Value.builtin "type.__prepare__", PySem.Value.type "type"] }
noncomputable def ob122x116 (P : Params) : Obj := { cls := PySem.Value.type "dict", data := PySem.Data.dict #[{ hash := PySem.PyData.keyHash P (PySem.Str.ofString "__module__"), key := PySem.Value.str (PySem.Str.ofString "__module__") 355, val := PySem.Value.str (PySem.Str.ofString "postkeep.headers") 343 }, { hash := PySem.PyData.keyHash P (PySem.Str.ofString "__qualname__"), key := PySem.Value.str (PySem.Str.ofString "__qualname__") 357, val := PySem.Value.str (PySem.Str.ofString "Field") 356 }, { hash := PySem.PyData.keyHash P (PySem.Str.ofString "__firstlineno__"), key := PySem.Value.str (PySem.Str.ofString "__firstlineno__") 359, val := PySem.Value.int 61 358 }, { hash := PySem.PyData.keyHash P (PySem.Str.ofString "__init__"), key := PySem.Value.str (PySem.Str.ofString "__init__") 368, val := PySem.Value.ref 133 }, { hash := PySem.PyData.keyHash P (PySem.Str.ofString "word"), key := PySem.Value.str (PySem.Str.ofString "word") 374, val := PySem.Value.ref 138 }, { hash := PySem.PyData.keyHash P (PySem.Str.ofString "told"), key := PySem.Value.str (PySem.Str.ofString "told") 381, val := PySem.Value.ref 145 }, { hash := PySem.PyData.keyHash P (PySem.Str.ofString "__static_attributes__"), key := PySem.Value.str (PySem.Str.ofString "__static_attributes__") 384, val := PySem.Value.ref 146 }] 7 }
noncomputable def ob123x117 (P : Params) : Obj := { cls := PySem.Value.type "tuple", data := PySem.Data.seq #[] }
noncomputable def ob124x118 (P : Params) : Obj := { cls := PySem.Value.none, data := PySem.Data.fields #[PySem.Value.int 63 0, PySem.Value.int 4 0, PySem.Value.ref 132, PySem.Value.int 67 0, PySem.Value.int 4 0, PySem.Value.ref 137, PySem.Value.int 70 0, PySem.Value.int 4 0, PySem.Value.ref 144] }
noncomputable def ob125x119 (P : Params) : Obj := { cls := PySem.Value.type "code", data := PySem.Data.fields #[PySem.Value.str (PySem.Str.ofString "Field") 350, PySem.Value.str (PySem.Str.ofString "Field") 351, PySem.Value.str (PySem.Str.ofString "/claim/cut.py") 352, PySem.Value.int 61 0, PySem.Value.int 0 0, PySem.Value.int 0 0, PySem.Value.int 0 0, PySem.Value.int 0 0, PySem.Value.ref 123, PySem.Value.bool Bool.false, PySem.Value.int 181 0, PySem.Value.ref 124, PySem.Value.none, PySem.Value.none, PySem.Value.none, PySem.Value.none, PySem.Value.int 353 0, PySem.Value.int 61 0, PySem.Value.str (PySem.Str.ofString "/claim/cut.py") 354] }
noncomputable def ob126x120 (P : Params) : Obj := { cls := PySem.Value.type "frame", slots := #[Option.some (PySem.Value.ref 125), Option.some (PySem.Value.ref 3), Option.some (PySem.Value.ref 122), Option.none, Option.some (PySem.Value.str (PySem.Str.ofString "postkeep.headers") 343), Option.none, Option.some (PySem.Value.ref 0)] }
noncomputable def ob127x121 (P : Params) : Obj := gt (kc1 P) 127
noncomputable def ob128x122 (P : Params) : Obj := nilF
noncomputable def ob129x123 (P : Params) : Obj := gt (kc1 P) 129
noncomputable def ob130x124 (P : Params) : Obj := gt (kc1 P) 130
noncomputable def ob131x125 (P : Params) : Obj := recOf (gt (kc1 P) 133)
noncomputable def ob132x126 (P : Params) : Obj := gt (kc1 P) 132
noncomputable def ob133x127 (P : Params) : Obj := gt (kc1 P) 133
noncomputable def ob134x128 (P : Params) : Obj := gt (kc1 P) 134
noncomputable def ob135x129 (P : Params) : Obj := nilF
noncomputable def ob136x130 (P : Params) : Obj := recOf (gt (kc1 P) 138)
noncomputable def ob137x131 (P : Params) : Obj := gt (kc1 P) 137
noncomputable def ob138x132 (P : Params) : Obj := gt (kc1 P) 138
noncomputable def ob139x133 (P : Params) : Obj := gt (kc1 P) 139
noncomputable def ob140x134 (P : Params) : Obj := nilF
noncomputable def ob141x135 (P : Params) : Obj := gt (kc1 P) 141
noncomputable def ob142x136 (P : Params) : Obj := gt (kc1 P) 142
noncomputable def ob143x137 (P : Params) : Obj := recOf (gt (kc1 P) 145)
noncomputable def ob144x138 (P : Params) : Obj := gt (kc1 P) 144
noncomputable def ob145x139 (P : Params) : Obj := gt (kc1 P) 145
noncomputable def ob146x140 (P : Params) : Obj := gt (kc1 P) 146
noncomputable def ob147x141 (P : Params) : Obj := gt (kc1 P) 147
noncomputable def ob148x142 (P : Params) : Obj := gt (kc1 P) 148
noncomputable def ob149x143 (P : Params) : Obj := gt (kc2 P) 149
noncomputable def ob150x144 (P : Params) : Obj := gt (kc2 P) 150
noncomputable def ob151x145 (P : Params) : Obj := { cls := PySem.Value.type "super", data := PySem.Data.fields #[PySem.Value.ref 148, PySem.Value.ref 148, PySem.Value.ref 148] }
noncomputable def ob152x146 (P : Params) : Obj := { cls := PySem.Value.type "builtin_function_or_method", data := PySem.Data.fields #[PySem.Value.builtin "object.__init_subclass__", PySem.Value.ref 148] }
noncomputable def ob153x147 (P : Params) : Obj := gt (kc2 P) 153
noncomputable def ob154x148 (P : Params) : Obj := nilF
noncomputable def ob155x149 (P : Params) : Obj := gt (kc2 P) 155
noncomputable def ob156x150 (P : Params) : Obj := gt (kc2 P) 156
noncomputable def ob157x151 (P : Params) : Obj := recOf (gt (kc2 P) 159)
noncomputable def ob158x152 (P : Params) : Obj := gt (kc2 P) 158
noncomputable def ob159x153 (P : Params) : Obj := gt (kc2 P) 159
noncomputable def ob160x154 (P : Params) : Obj := gt (kc2 P) 160
noncomputable def ob161x155 (P : Params) : Obj := nilF
noncomputable def ob162x156 (P : Params) : Obj := gt (kc2 P) 162
noncomputable def ob163x157 (P : Params) : Obj := gt (kc2 P) 163
noncomputable def ob164x158 (P : Params) : Obj := recOf (gt (kc2 P) 166)
noncomputable def ob165x159 (P : Params) : Obj := gt (kc2 P) 165
noncomputable def ob166x160 (P : Params) : Obj := gt (kc2 P) 166
noncomputable def ob167x161 (P : Params) : Obj := gt (kc2 P) 167
noncomputable def ob168x162 (P : Params) : Obj := nilF
noncomputable def ob169x163 (P : Params) : Obj := gt (kc2 P) 169
noncomputable def ob170x164 (P : Params) : Obj := gt (kc2 P) 170
noncomputable def ob171x165 (P : Params) : Obj := recOf (gt (kc2 P) 173)
noncomputable def ob172x166 (P : Params) : Obj := gt (kc2 P) 172
noncomputable def ob173x167 (P : Params) : Obj := gt (kc2 P) 173
noncomputable def ob174x168 (P : Params) : Obj := gt (kc2 P) 174
noncomputable def ob175x169 (P : Params) : Obj := nilF
noncomputable def ob176x170 (P : Params) : Obj := gt (kc2 P) 176
noncomputable def ob177x171 (P : Params) : Obj := gt (kc2 P) 177
noncomputable def ob178x172 (P : Params) : Obj := recOf (gt (kc2 P) 180)
noncomputable def ob179x173 (P : Params) : Obj := gt (kc2 P) 179
noncomputable def ob180x174 (P : Params) : Obj := gt (kc2 P) 180
noncomputable def ob181x175 (P : Params) : Obj := gt (kc2 P) 181
noncomputable def ob182x176 (P : Params) : Obj := nilF
noncomputable def ob183x177 (P : Params) : Obj := recOf (gt (kc2 P) 185)
noncomputable def ob184x178 (P : Params) : Obj := gt (kc2 P) 184
noncomputable def ob185x179 (P : Params) : Obj := gt (kc2 P) 185
noncomputable def ob186x180 (P : Params) : Obj := gt (kc2 P) 186
noncomputable def ob187x181 (P : Params) : Obj := nilF
noncomputable def ob188x182 (P : Params) : Obj := gt (kc2 P) 188
noncomputable def ob189x183 (P : Params) : Obj := gt (kc2 P) 189
noncomputable def ob190x184 (P : Params) : Obj := recOf (gt (kc2 P) 192)
noncomputable def ob191x185 (P : Params) : Obj := gt (kc2 P) 191
noncomputable def ob192x186 (P : Params) : Obj := gt (kc2 P) 192
noncomputable def ob193x187 (P : Params) : Obj := gt (kc2 P) 193
noncomputable def ob194x188 (P : Params) : Obj := nilF
noncomputable def ob195x189 (P : Params) : Obj := recOf (gt (kc2 P) 197)
noncomputable def ob196x190 (P : Params) : Obj := gt (kc2 P) 196
noncomputable def ob197x191 (P : Params) : Obj := gt (kc2 P) 197
noncomputable def ob198x192 (P : Params) : Obj := gt (kc2 P) 198
noncomputable def ob199x193 (P : Params) : Obj := gt (kc2 P) 199
noncomputable def ob200x194 (P : Params) : Obj := nilF
noncomputable def ob201x195 (P : Params) : Obj := gt (kc2 P) 201
noncomputable def ob202x196 (P : Params) : Obj := gt (kc2 P) 202
noncomputable def ob203x197 (P : Params) : Obj := recOf (gt (kc2 P) 205)
noncomputable def ob204x198 (P : Params) : Obj := gt (kc2 P) 204
noncomputable def ob205x199 (P : Params) : Obj := gt (kc2 P) 205
noncomputable def ob206x200 (P : Params) : Obj := gt (kc2 P) 206
noncomputable def ob207x201 (P : Params) : Obj := nilF
noncomputable def ob208x202 (P : Params) : Obj := recOf (gt (kc3 P) 210)
noncomputable def ob209x203 (P : Params) : Obj := gt (kc3 P) 209
noncomputable def ob210x204 (P : Params) : Obj := gt (kc3 P) 210
noncomputable def ob211x205 (P : Params) : Obj := gt (kc3 P) 211
noncomputable def ob212x206 (P : Params) : Obj := nilF
noncomputable def ob213x207 (P : Params) : Obj := gt (kc3 P) 213
noncomputable def ob214x208 (P : Params) : Obj := gt (kc3 P) 214
noncomputable def ob215x209 (P : Params) : Obj := recOf (gt (kc3 P) 217)
noncomputable def ob216x210 (P : Params) : Obj := gt (kc3 P) 216
noncomputable def ob217x211 (P : Params) : Obj := gt (kc3 P) 217
noncomputable def ob218x212 (P : Params) : Obj := gt (kc3 P) 218
noncomputable def ob219x213 (P : Params) : Obj := nilF
noncomputable def ob220x214 (P : Params) : Obj := gt (kc3 P) 220
noncomputable def ob221x215 (P : Params) : Obj := gt (kc3 P) 221
noncomputable def ob222x216 (P : Params) : Obj := recOf (gt (kc3 P) 224)
noncomputable def ob223x217 (P : Params) : Obj := gt (kc3 P) 223
noncomputable def ob224x218 (P : Params) : Obj := gt (kc3 P) 224
noncomputable def ob225x219 (P : Params) : Obj := gt (kc3 P) 225
noncomputable def ob226x220 (P : Params) : Obj := nilF
noncomputable def ob227x221 (P : Params) : Obj := gt (kc3 P) 227
noncomputable def ob228x222 (P : Params) : Obj := gt (kc3 P) 228
noncomputable def ob229x223 (P : Params) : Obj := recOf (gt (kc3 P) 231)
noncomputable def ob230x224 (P : Params) : Obj := gt (kc3 P) 230
noncomputable def ob231x225 (P : Params) : Obj := gt (kc3 P) 231
noncomputable def ob232x226 (P : Params) : Obj := gt (kc3 P) 232
noncomputable def ob233x227 (P : Params) : Obj := gt (kc3 P) 233
noncomputable def ob234x228 (P : Params) : Obj := nilF
noncomputable def ob235x229 (P : Params) : Obj := gt (kc3 P) 235
noncomputable def ob236x230 (P : Params) : Obj := gt (kc3 P) 236
noncomputable def ob237x231 (P : Params) : Obj := recOf (gt (kc3 P) 239)
noncomputable def ob238x232 (P : Params) : Obj := gt (kc3 P) 238
noncomputable def ob239x233 (P : Params) : Obj := gt (kc3 P) 239
noncomputable def tr2 (P : Params) : BT := (N (PySem.W.boot_o_0 P) (N (PySem.W.boot_o_1 P) (N (ob3x112 P) (N (PySem.W.boot_o_7 P) (N (ob15x7 P) (N (ob31x23 P) (N (ob63x55 P) (L (ob127x121 P)) (L (ob191x185 P))) (N (ob95x87 P) (L (ob159x153 P)) (L (ob223x217 P)))) (N (ob47x39 P) (N (ob79x71 P) (L (ob143x137 P)) (L (ob207x201 P))) (N (ob111x103 P) (L (ob175x169 P)) (L (ob239x233 P))))) (N (ob23x15 P) (N (ob39x31 P) (N (ob71x63 P) (L (ob135x129 P)) (L (ob199x193 P))) (N (ob103x95 P) (L (ob167x161 P)) (L (ob231x225 P)))) (N (ob55x47 P) (N (ob87x79 P) (L (ob151x145 P)) (L (ob215x209 P))) (N (ob119x111 P) (L (ob183x177 P)) E)))) (N (ob11x0 P) (N (ob19x11 P) (N (ob35x27 P) (N (ob67x59 P) (L (ob131x125 P)) (L (ob195x189 P))) (N (ob99x91 P) (L (ob163x157 P)) (L (ob227x221 P)))) (N (ob51x43 P) (N (ob83x75 P) (L (ob147x141 P)) (L (ob211x205 P))) (N (ob115x107 P) (L (ob179x173 P)) E))) (N (ob27x19 P) (N (ob43x35 P) (N (ob75x67 P) (L (ob139x133 P)) (L (ob203x197 P))) (N (ob107x99 P) (L (ob171x165 P)) (L (ob235x229 P)))) (N (ob59x51 P) (N (ob91x83 P) (L (ob155x149 P)) (L (ob219x213 P))) (N (ob123x117 P) (L (ob187x181 P)) E))))) (N (PySem.W.boot_o_5 P) (N (PySem.W.boot_o_9 P) (N (ob17x9 P) (N (ob33x25 P) (N (ob65x57 P) (L (ob129x123 P)) (L (ob193x187 P))) (N (ob97x89 P) (L (ob161x155 P)) (L (ob225x219 P)))) (N (ob49x41 P) (N (ob81x73 P) (L (ob145x139 P)) (L (ob209x203 P))) (N (ob113x105 P) (L (ob177x171 P)) E))) (N (ob25x17 P) (N (ob41x33 P) (N (ob73x65 P) (L (ob137x131 P)) (L (ob201x195 P))) (N (ob105x97 P) (L (ob169x163 P)) (L (ob233x227 P)))) (N (ob57x49 P) (N (ob89x81 P) (L (ob153x147 P)) (L (ob217x211 P))) (N (ob121x115 P) (L (ob185x179 P)) E)))) (N (ob13x2 P) (N (ob21x13 P) (N (ob37x29 P) (N (ob69x61 P) (L (ob133x127 P)) (L (ob197x191 P))) (N (ob101x93 P) (L (ob165x159 P)) (L (ob229x223 P)))) (N (ob53x45 P) (N (ob85x77 P) (L (ob149x143 P)) (L (ob213x207 P))) (N (ob117x109 P) (L (ob181x175 P)) E))) (N (ob29x21 P) (N (ob45x37 P) (N (ob77x69 P) (L (ob141x135 P)) (L (ob205x199 P))) (N (ob109x101 P) (L (ob173x167 P)) (L (ob237x231 P)))) (N (ob61x53 P) (N (ob93x85 P) (L (ob157x151 P)) (L (ob221x215 P))) (N (ob125x119 P) (L (ob189x183 P)) E)))))) (N (ob2x4 P) (N (PySem.W.boot_o_4 P) (N (PySem.W.boot_o_8 P) (N (ob16x8 P) (N (ob32x24 P) (N (ob64x56 P) (L (ob128x122 P)) (L (ob192x186 P))) (N (ob96x88 P) (L (ob160x154 P)) (L (ob224x218 P)))) (N (ob48x40 P) (N (ob80x72 P) (L (ob144x138 P)) (L (ob208x202 P))) (N (ob112x104 P) (L (ob176x170 P)) E))) (N (ob24x16 P) (N (ob40x32 P) (N (ob72x64 P) (L (ob136x130 P)) (L (ob200x194 P))) (N (ob104x96 P) (L (ob168x162 P)) (L (ob232x226 P)))) (N (ob56x48 P) (N (ob88x80 P) (L (ob152x146 P)) (L (ob216x210 P))) (N (ob120x114 P) (L (ob184x178 P)) E)))) (N (ob12x113 P) (N (ob20x12 P) (N (ob36x28 P) (N (ob68x60 P) (L (ob132x126 P)) (L (ob196x190 P))) (N (ob100x92 P) (L (ob164x158 P)) (L (ob228x222 P)))) (N (ob52x44 P) (N (ob84x76 P) (L (ob148x142 P)) (L (ob212x206 P))) (N (ob116x108 P) (L (ob180x174 P)) E))) (N (ob28x20 P) (N (ob44x36 P) (N (ob76x68 P) (L (ob140x134 P)) (L (ob204x198 P))) (N (ob108x100 P) (L (ob172x166 P)) (L (ob236x230 P)))) (N (ob60x52 P) (N (ob92x84 P) (L (ob156x150 P)) (L (ob220x214 P))) (N (ob124x118 P) (L (ob188x182 P)) E))))) (N (PySem.W.boot_o_6 P) (N (PySem.W.boot_o_10 P) (N (ob18x10 P) (N (ob34x26 P) (N (ob66x58 P) (L (ob130x124 P)) (L (ob194x188 P))) (N (ob98x90 P) (L (ob162x156 P)) (L (ob226x220 P)))) (N (ob50x42 P) (N (ob82x74 P) (L (ob146x140 P)) (L (ob210x204 P))) (N (ob114x106 P) (L (ob178x172 P)) E))) (N (ob26x18 P) (N (ob42x34 P) (N (ob74x66 P) (L (ob138x132 P)) (L (ob202x196 P))) (N (ob106x98 P) (L (ob170x164 P)) (L (ob234x228 P)))) (N (ob58x50 P) (N (ob90x82 P) (L (ob154x148 P)) (L (ob218x212 P))) (N (ob122x116 P) (L (ob186x180 P)) E)))) (N (ob14x3 P) (N (ob22x14 P) (N (ob38x30 P) (N (ob70x62 P) (L (ob134x128 P)) (L (ob198x192 P))) (N (ob102x94 P) (L (ob166x160 P)) (L (ob230x224 P)))) (N (ob54x46 P) (N (ob86x78 P) (L (ob150x144 P)) (L (ob214x208 P))) (N (ob118x110 P) (L (ob182x176 P)) E))) (N (ob30x22 P) (N (ob46x38 P) (N (ob78x70 P) (L (ob142x136 P)) (L (ob206x200 P))) (N (ob110x102 P) (L (ob174x168 P)) (L (ob238x232 P)))) (N (ob62x54 P) (N (ob94x86 P) (L (ob158x152 P)) (L (ob222x216 P))) (N (ob126x120 P) (L (ob190x184 P)) E)))))))
noncomputable def st2 (w : World) (os : OsState) : SharedT := ⟨tr2 w.params, 240, {}, #[], {}, 534, os⟩
noncomputable def ss1 : List Stmt := ((behindTheImports pwT).drop 21).take 30
theorem pq1 (w : World) : (fun os => PySem.W.Fast.tw10110043849684766642 PySem.W.Fast.tw14364793385576792824 pwT w 11 (some (.ref 6)) 1 828 (st1 w os) (piecesOf ss1 envT cdT ⟨60, 0, 60, 5⟩ [topFrame ⟨0, 0, 0, 0⟩])) = fun os => some (Flow.next, st2 w os, cdT, ⟨167, 0, 167, 4⟩) := by kernel_rfl
theorem pc1 (w : World) (os : OsState) {N : Nat} {r : Shared} (k : topRun treeTable pwT w 11 (some (.ref 6)) N (st2 w os).abs (restOf ((behindTheImports pwT).drop 51) envT cdT ⟨167, 0, 167, 4⟩ [topFrame ⟨0, 0, 0, 0⟩]) = some r) : topRun treeTable pwT w 11 (some (.ref 6)) (828 + N) (st1 w os).abs (restOf ((behindTheImports pwT).drop 21) envT cdT ⟨60, 0, 60, 5⟩ [topFrame ⟨0, 0, 0, 0⟩]) = some r := by
  have q : segRunT treeTable pwT w 11 (some (.ref 6)) 1 828 (st1 w os) (piecesOf ss1 envT cdT ⟨60, 0, 60, 5⟩ [topFrame ⟨0, 0, 0, 0⟩]) = some (Flow.next, st2 w os, cdT, ⟨167, 0, 167, 4⟩) := by
    rw [PySem.W.Fast.te10110043849684766642, PySem.W.Fast.te14364793385576792824]; exact congrFun (pq1 w) os
  exact cut_piece 21 30 (segRun_of q) k
noncomputable def ob3x234 (P : Params) : Obj := nsAt (gt (kc0 P) 3) 85 85 [(0, PySem.Value.str (PySem.Str.ofString "postkeep.build") 751)]
noncomputable def ob12x235 (_P : Params) : Obj := ptAt [(5, 18), (12, 25), (17, 32), (19, 37), (23, 45), (26, 52), (35, 80), (37, 92), (42, 104), (44, 109), (46, 117), (61, 125), (72, 158), (79, 165), (84, 172), (93, 179), (95, 184), (98, 191), (105, 196), (115, 204), (118, 209), (122, 216), (132, 223), (136, 230), (150, 238), (168, 245), (186, 292), (188, 297), (190, 302), (193, 309), (201, 316), (208, 321), (216, 326), (223, 331), (225, 336), (239, 341), (244, 346), (260, 353), (262, 360), (265, 367), (274, 374), (284, 381), (286, 389), (294, 396), (305, 402), (307, 409)]
noncomputable def ob240x236 (P : Params) : Obj := { cls := PySem.Value.type "tuple", data := PySem.Data.seq #[] }
noncomputable def ob241x237 (P : Params) : Obj := { cls := PySem.Value.type "builtin_function_or_method", data := PySem.Data.fields #[PySem.Value.builtin "type.__prepare__", PySem.Value.type "type"] }
noncomputable def ob242x238 (P : Params) : Obj := { cls := PySem.Value.type "dict", data := PySem.Data.dict #[{ hash := PySem.PyData.keyHash P (PySem.Str.ofString "__module__"), key := PySem.Value.str (PySem.Str.ofString "__module__") 541, val := PySem.Value.str (PySem.Str.ofString "postkeep.params") 516 }, { hash := PySem.PyData.keyHash P (PySem.Str.ofString "__qualname__"), key := PySem.Value.str (PySem.Str.ofString "__qualname__") 543, val := PySem.Value.str (PySem.Str.ofString "Kind") 542 }, { hash := PySem.PyData.keyHash P (PySem.Str.ofString "__firstlineno__"), key := PySem.Value.str (PySem.Str.ofString "__firstlineno__") 545, val := PySem.Value.int 168 544 }, { hash := PySem.PyData.keyHash P (PySem.Str.ofString "__init__"), key := PySem.Value.str (PySem.Str.ofString "__init__") 555, val := PySem.Value.ref 253 }, { hash := PySem.PyData.keyHash P (PySem.Str.ofString "told"), key := PySem.Value.str (PySem.Str.ofString "told") 561, val := PySem.Value.ref 258 }, { hash := PySem.PyData.keyHash P (PySem.Str.ofString "is_multi"), key := PySem.Value.str (PySem.Str.ofString "is_multi") 568, val := PySem.Value.ref 265 }, { hash := PySem.PyData.keyHash P (PySem.Str.ofString "is_letter"), key := PySem.Value.str (PySem.Str.ofString "is_letter") 575, val := PySem.Value.ref 272 }, { hash := PySem.PyData.keyHash P (PySem.Str.ofString "is_text"), key := PySem.Value.str (PySem.Str.ofString "is_text") 582, val := PySem.Value.ref 279 }, { hash := PySem.PyData.keyHash P (PySem.Str.ofString "__static_attributes__"), key := PySem.Value.str (PySem.Str.ofString "__static_attributes__") 586, val := PySem.Value.ref 280 }] 9 }
noncomputable def ob243x239 (P : Params) : Obj := { cls := PySem.Value.type "tuple", data := PySem.Data.seq #[] }
noncomputable def ob244x240 (P : Params) : Obj := { cls := PySem.Value.none, data := PySem.Data.fields #[PySem.Value.int 170 0, PySem.Value.int 4 0, PySem.Value.ref 252, PySem.Value.int 175 0, PySem.Value.int 4 0, PySem.Value.ref 257, PySem.Value.int 178 0, PySem.Value.int 4 0, PySem.Value.ref 264, PySem.Value.int 181 0, PySem.Value.int 4 0, PySem.Value.ref 271, PySem.Value.int 184 0, PySem.Value.int 4 0, PySem.Value.ref 278] }
noncomputable def ob245x241 (P : Params) : Obj := { cls := PySem.Value.type "code", data := PySem.Data.fields #[PySem.Value.str (PySem.Str.ofString "Kind") 536, PySem.Value.str (PySem.Str.ofString "Kind") 537, PySem.Value.str (PySem.Str.ofString "/claim/cut.py") 538, PySem.Value.int 168 0, PySem.Value.int 0 0, PySem.Value.int 0 0, PySem.Value.int 0 0, PySem.Value.int 0 0, PySem.Value.ref 243, PySem.Value.bool Bool.false, PySem.Value.int 181 0, PySem.Value.ref 244, PySem.Value.none, PySem.Value.none, PySem.Value.none, PySem.Value.none, PySem.Value.int 539 0, PySem.Value.int 168 0, PySem.Value.str (PySem.Str.ofString "/claim/cut.py") 540] }
noncomputable def ob246x242 (P : Params) : Obj := { cls := PySem.Value.type "frame", slots := #[Option.some (PySem.Value.ref 245), Option.some (PySem.Value.ref 3), Option.some (PySem.Value.ref 242), Option.none, Option.some (PySem.Value.str (PySem.Str.ofString "postkeep.params") 516), Option.none, Option.some (PySem.Value.ref 0)] }
noncomputable def ob247x243 (P : Params) : Obj := gt (kc3 P) 247
noncomputable def ob248x244 (P : Params) : Obj := nilF
noncomputable def ob249x245 (P : Params) : Obj := gt (kc3 P) 249
noncomputable def ob250x246 (P : Params) : Obj := gt (kc3 P) 250
noncomputable def ob251x247 (P : Params) : Obj := recOf (gt (kc3 P) 253)
noncomputable def ob252x248 (P : Params) : Obj := gt (kc3 P) 252
noncomputable def ob253x249 (P : Params) : Obj := gt (kc3 P) 253
noncomputable def ob254x250 (P : Params) : Obj := gt (kc3 P) 254
noncomputable def ob255x251 (P : Params) : Obj := nilF
noncomputable def ob256x252 (P : Params) : Obj := recOf (gt (kc3 P) 258)
noncomputable def ob257x253 (P : Params) : Obj := gt (kc3 P) 257
noncomputable def ob258x254 (P : Params) : Obj := gt (kc3 P) 258
noncomputable def ob259x255 (P : Params) : Obj := gt (kc3 P) 259
noncomputable def ob260x256 (P : Params) : Obj := nilF
noncomputable def ob261x257 (P : Params) : Obj := gt (kc3 P) 261
noncomputable def ob262x258 (P : Params) : Obj := gt (kc3 P) 262
noncomputable def ob263x259 (P : Params) : Obj := recOf (gt (kc3 P) 265)
noncomputable def ob264x260 (P : Params) : Obj := gt (kc3 P) 264
noncomputable def ob265x261 (P : Params) : Obj := gt (kc3 P) 265
noncomputable def ob266x262 (P : Params) : Obj := gt (kc3 P) 266
noncomputable def ob267x263 (P : Params) : Obj := nilF
noncomputable def ob268x264 (P : Params) : Obj := gt (kc3 P) 268
noncomputable def ob269x265 (P : Params) : Obj := gt (kc3 P) 269
noncomputable def ob270x266 (P : Params) : Obj := recOf (gt (kc4 P) 272)
noncomputable def ob271x267 (P : Params) : Obj := gt (kc3 P) 271
noncomputable def ob272x268 (P : Params) : Obj := gt (kc4 P) 272
noncomputable def ob273x269 (P : Params) : Obj := gt (kc4 P) 273
noncomputable def ob274x270 (P : Params) : Obj := nilF
noncomputable def ob275x271 (P : Params) : Obj := gt (kc4 P) 275
noncomputable def ob276x272 (P : Params) : Obj := gt (kc4 P) 276
noncomputable def ob277x273 (P : Params) : Obj := recOf (gt (kc4 P) 279)
noncomputable def ob278x274 (P : Params) : Obj := gt (kc4 P) 278
noncomputable def ob279x275 (P : Params) : Obj := gt (kc4 P) 279
noncomputable def ob280x276 (P : Params) : Obj := gt (kc4 P) 280
noncomputable def ob281x277 (P : Params) : Obj := gt (kc4 P) 281
noncomputable def ob282x278 (P : Params) : Obj := gt (kc4 P) 282
noncomputable def ob283x279 (P : Params) : Obj := gt (kc4 P) 283
noncomputable def ob284x280 (P : Params) : Obj := gt (kc4 P) 284
noncomputable def ob285x281 (P : Params) : Obj := { cls := PySem.Value.type "super", data := PySem.Data.fields #[PySem.Value.ref 282, PySem.Value.ref 282, PySem.Value.ref 282] }
noncomputable def ob286x282 (P : Params) : Obj := { cls := PySem.Value.type "builtin_function_or_method", data := PySem.Data.fields #[PySem.Value.builtin "object.__init_subclass__", PySem.Value.ref 282] }
noncomputable def ob287x283 (P : Params) : Obj := gt (kc4 P) 287
noncomputable def ob288x284 (P : Params) : Obj := nilF
noncomputable def ob289x285 (P : Params) : Obj := gt (kc4 P) 289
noncomputable def ob290x286 (P : Params) : Obj := gt (kc4 P) 290
noncomputable def ob291x287 (P : Params) : Obj := recOf (gt (kc4 P) 293)
noncomputable def ob292x288 (P : Params) : Obj := gt (kc4 P) 292
noncomputable def ob293x289 (P : Params) : Obj := gt (kc4 P) 293
noncomputable def ob294x290 (P : Params) : Obj := gt (kc4 P) 294
noncomputable def ob295x291 (P : Params) : Obj := nilF
noncomputable def ob296x292 (P : Params) : Obj := recOf (gt (kc4 P) 298)
noncomputable def ob297x293 (P : Params) : Obj := gt (kc4 P) 297
noncomputable def ob298x294 (P : Params) : Obj := gt (kc4 P) 298
noncomputable def ob299x295 (P : Params) : Obj := gt (kc4 P) 299
noncomputable def ob300x296 (P : Params) : Obj := nilF
noncomputable def ob301x297 (P : Params) : Obj := recOf (gt (kc4 P) 303)
noncomputable def ob302x298 (P : Params) : Obj := gt (kc4 P) 302
noncomputable def ob303x299 (P : Params) : Obj := gt (kc4 P) 303
noncomputable def ob304x300 (P : Params) : Obj := gt (kc4 P) 304
noncomputable def ob305x301 (P : Params) : Obj := nilF
noncomputable def ob306x302 (P : Params) : Obj := gt (kc4 P) 306
noncomputable def ob307x303 (P : Params) : Obj := gt (kc4 P) 307
noncomputable def ob308x304 (P : Params) : Obj := recOf (gt (kc4 P) 310)
noncomputable def ob309x305 (P : Params) : Obj := gt (kc4 P) 309
noncomputable def ob310x306 (P : Params) : Obj := gt (kc4 P) 310
noncomputable def ob311x307 (P : Params) : Obj := gt (kc4 P) 311
noncomputable def ob312x308 (P : Params) : Obj := nilF
noncomputable def ob313x309 (P : Params) : Obj := gt (kc4 P) 313
noncomputable def ob314x310 (P : Params) : Obj := gt (kc4 P) 314
noncomputable def ob315x311 (P : Params) : Obj := recOf (gt (kc4 P) 317)
noncomputable def ob316x312 (P : Params) : Obj := gt (kc4 P) 316
noncomputable def ob317x313 (P : Params) : Obj := gt (kc4 P) 317
noncomputable def ob318x314 (P : Params) : Obj := gt (kc4 P) 318
noncomputable def ob319x315 (P : Params) : Obj := nilF
noncomputable def ob320x316 (P : Params) : Obj := recOf (gt (kc4 P) 322)
noncomputable def ob321x317 (P : Params) : Obj := gt (kc4 P) 321
noncomputable def ob322x318 (P : Params) : Obj := gt (kc4 P) 322
noncomputable def ob323x319 (P : Params) : Obj := gt (kc4 P) 323
noncomputable def ob324x320 (P : Params) : Obj := nilF
noncomputable def ob325x321 (P : Params) : Obj := recOf (gt (kc4 P) 327)
noncomputable def ob326x322 (P : Params) : Obj := gt (kc4 P) 326
noncomputable def ob327x323 (P : Params) : Obj := gt (kc4 P) 327
noncomputable def ob328x324 (P : Params) : Obj := gt (kc4 P) 328
noncomputable def ob329x325 (P : Params) : Obj := nilF
noncomputable def ob330x326 (P : Params) : Obj := recOf (gt (kc5 P) 332)
noncomputable def ob331x327 (P : Params) : Obj := gt (kc4 P) 331
noncomputable def ob332x328 (P : Params) : Obj := gt (kc5 P) 332
noncomputable def ob333x329 (P : Params) : Obj := gt (kc5 P) 333
noncomputable def ob334x330 (P : Params) : Obj := nilF
noncomputable def ob335x331 (P : Params) : Obj := recOf (gt (kc5 P) 337)
noncomputable def ob336x332 (P : Params) : Obj := gt (kc5 P) 336
noncomputable def ob337x333 (P : Params) : Obj := gt (kc5 P) 337
noncomputable def ob338x334 (P : Params) : Obj := gt (kc5 P) 338
noncomputable def ob339x335 (P : Params) : Obj := nilF
noncomputable def ob340x336 (P : Params) : Obj := recOf (gt (kc5 P) 342)
noncomputable def ob341x337 (P : Params) : Obj := gt (kc5 P) 341
noncomputable def ob342x338 (P : Params) : Obj := gt (kc5 P) 342
noncomputable def ob343x339 (P : Params) : Obj := gt (kc5 P) 343
noncomputable def ob344x340 (P : Params) : Obj := nilF
noncomputable def ob345x341 (P : Params) : Obj := recOf (gt (kc5 P) 347)
noncomputable def ob346x342 (P : Params) : Obj := gt (kc5 P) 346
noncomputable def ob347x343 (P : Params) : Obj := gt (kc5 P) 347
noncomputable def ob348x344 (P : Params) : Obj := gt (kc5 P) 348
noncomputable def ob349x345 (P : Params) : Obj := nilF
noncomputable def ob350x346 (P : Params) : Obj := gt (kc5 P) 350
noncomputable def ob351x347 (P : Params) : Obj := gt (kc5 P) 351
noncomputable def ob352x348 (P : Params) : Obj := recOf (gt (kc5 P) 354)
noncomputable def ob353x349 (P : Params) : Obj := gt (kc5 P) 353
noncomputable def ob354x350 (P : Params) : Obj := gt (kc5 P) 354
noncomputable def ob355x351 (P : Params) : Obj := gt (kc5 P) 355
noncomputable def ob356x352 (P : Params) : Obj := nilF
noncomputable def ob357x353 (P : Params) : Obj := gt (kc5 P) 357
noncomputable def ob358x354 (P : Params) : Obj := gt (kc5 P) 358
noncomputable def ob359x355 (P : Params) : Obj := recOf (gt (kc5 P) 361)
noncomputable def ob360x356 (P : Params) : Obj := gt (kc5 P) 360
noncomputable def ob361x357 (P : Params) : Obj := gt (kc5 P) 361
noncomputable def ob362x358 (P : Params) : Obj := gt (kc5 P) 362
noncomputable def ob363x359 (P : Params) : Obj := nilF
noncomputable def ob364x360 (P : Params) : Obj := gt (kc5 P) 364
noncomputable def ob365x361 (P : Params) : Obj := gt (kc5 P) 365
noncomputable def ob366x362 (P : Params) : Obj := recOf (gt (kc5 P) 368)
noncomputable def ob367x363 (P : Params) : Obj := gt (kc5 P) 367
noncomputable def ob368x364 (P : Params) : Obj := gt (kc5 P) 368
noncomputable def ob369x365 (P : Params) : Obj := gt (kc5 P) 369
noncomputable def ob370x366 (P : Params) : Obj := nilF
noncomputable def ob371x367 (P : Params) : Obj := gt (kc5 P) 371
noncomputable def ob372x368 (P : Params) : Obj := gt (kc5 P) 372
noncomputable def ob373x369 (P : Params) : Obj := recOf (gt (kc5 P) 375)
noncomputable def ob374x370 (P : Params) : Obj := gt (kc5 P) 374
noncomputable def ob375x371 (P : Params) : Obj := gt (kc5 P) 375
noncomputable def ob376x372 (P : Params) : Obj := gt (kc5 P) 376
noncomputable def ob377x373 (P : Params) : Obj := nilF
noncomputable def ob378x374 (P : Params) : Obj := gt (kc5 P) 378
noncomputable def ob379x375 (P : Params) : Obj := gt (kc5 P) 379
noncomputable def ob380x376 (P : Params) : Obj := recOf (gt (kc5 P) 382)
noncomputable def ob381x377 (P : Params) : Obj := gt (kc5 P) 381
noncomputable def ob382x378 (P : Params) : Obj := gt (kc5 P) 382
noncomputable def ob383x379 (P : Params) : Obj := gt (kc5 P) 383
noncomputable def ob384x380 (P : Params) : Obj := gt (kc5 P) 384
noncomputable def ob385x381 (P : Params) : Obj := nilF
noncomputable def ob386x382 (P : Params) : Obj := gt (kc5 P) 386
noncomputable def ob387x383 (P : Params) : Obj := gt (kc5 P) 387
noncomputable def ob388x384 (P : Params) : Obj := recOf (gt (kc6 P) 390)
noncomputable def ob389x385 (P : Params) : Obj := gt (kc5 P) 389
noncomputable def ob390x386 (P : Params) : Obj := gt (kc6 P) 390
noncomputable def ob391x387 (P : Params) : Obj := gt (kc6 P) 391
noncomputable def ob392x388 (P : Params) : Obj := nilF
noncomputable def ob393x389 (P : Params) : Obj := gt (kc6 P) 393
noncomputable def ob394x390 (P : Params) : Obj := gt (kc6 P) 394
noncomputable def ob395x391 (P : Params) : Obj := recOf (gt (kc6 P) 397)
noncomputable def ob396x392 (P : Params) : Obj := gt (kc6 P) 396
noncomputable def ob397x393 (P : Params) : Obj := gt (kc6 P) 397
noncomputable def ob398x394 (P : Params) : Obj := gt (kc6 P) 398
noncomputable def ob399x395 (P : Params) : Obj := gt (kc6 P) 399
noncomputable def ob400x396 (P : Params) : Obj := nilF
noncomputable def ob401x397 (P : Params) : Obj := recOf (gt (kc6 P) 403)
noncomputable def ob402x398 (P : Params) : Obj := gt (kc6 P) 402
noncomputable def ob403x399 (P : Params) : Obj := gt (kc6 P) 403
noncomputable def ob404x400 (P : Params) : Obj := gt (kc6 P) 404
noncomputable def ob405x401 (P : Params) : Obj := nilF
noncomputable def ob406x402 (P : Params) : Obj := gt (kc6 P) 406
noncomputable def ob407x403 (P : Params) : Obj := gt (kc6 P) 407
noncomputable def ob408x404 (P : Params) : Obj := recOf (gt (kc6 P) 410)
noncomputable def ob409x405 (P : Params) : Obj := gt (kc6 P) 409
noncomputable def ob410x406 (P : Params) : Obj := gt (kc6 P) 410
noncomputable def tr3 (P : Params) : BT := (N (PySem.W.boot_o_0 P) (N (PySem.W.boot_o_1 P) (N (ob3x234 P) (N (PySem.W.boot_o_7 P) (N (ob15x7 P) (N (ob31x23 P) (N (ob63x55 P) (N (ob127x121 P) (L (ob255x251 P)) (L (ob383x379 P))) (N (ob191x185 P) (L (ob319x315 P)) E)) (N (ob95x87 P) (N (ob159x153 P) (L (ob287x283 P)) E) (N (ob223x217 P) (L (ob351x347 P)) E))) (N (ob47x39 P) (N (ob79x71 P) (N (ob143x137 P) (L (ob271x267 P)) (L (ob399x395 P))) (N (ob207x201 P) (L (ob335x331 P)) E)) (N (ob111x103 P) (N (ob175x169 P) (L (ob303x299 P)) E) (N (ob239x233 P) (L (ob367x363 P)) E)))) (N (ob23x15 P) (N (ob39x31 P) (N (ob71x63 P) (N (ob135x129 P) (L (ob263x259 P)) (L (ob391x387 P))) (N (ob199x193 P) (L (ob327x323 P)) E)) (N (ob103x95 P) (N (ob167x161 P) (L (ob295x291 P)) E) (N (ob231x225 P) (L (ob359x355 P)) E))) (N (ob55x47 P) (N (ob87x79 P) (N (ob151x145 P) (L (ob279x275 P)) (L (ob407x403 P))) (N (ob215x209 P) (L (ob343x339 P)) E)) (N (ob119x111 P) (N (ob183x177 P) (L (ob311x307 P)) E) (N (ob247x243 P) (L (ob375x371 P)) E))))) (N (ob11x0 P) (N (ob19x11 P) (N (ob35x27 P) (N (ob67x59 P) (N (ob131x125 P) (L (ob259x255 P)) (L (ob387x383 P))) (N (ob195x189 P) (L (ob323x319 P)) E)) (N (ob99x91 P) (N (ob163x157 P) (L (ob291x287 P)) E) (N (ob227x221 P) (L (ob355x351 P)) E))) (N (ob51x43 P) (N (ob83x75 P) (N (ob147x141 P) (L (ob275x271 P)) (L (ob403x399 P))) (N (ob211x205 P) (L (ob339x335 P)) E)) (N (ob115x107 P) (N (ob179x173 P) (L (ob307x303 P)) E) (N (ob243x239 P) (L (ob371x367 P)) E)))) (N (ob27x19 P) (N (ob43x35 P) (N (ob75x67 P) (N (ob139x133 P) (L (ob267x263 P)) (L (ob395x391 P))) (N (ob203x197 P) (L (ob331x327 P)) E)) (N (ob107x99 P) (N (ob171x165 P) (L (ob299x295 P)) E) (N (ob235x229 P) (L (ob363x359 P)) E))) (N (ob59x51 P) (N (ob91x83 P) (N (ob155x149 P) (L (ob283x279 P)) E) (N (ob219x213 P) (L (ob347x343 P)) E)) (N (ob123x117 P) (N (ob187x181 P) (L (ob315x311 P)) E) (N (ob251x247 P) (L (ob379x375 P)) E)))))) (N (PySem.W.boot_o_5 P) (N (PySem.W.boot_o_9 P) (N (ob17x9 P) (N (ob33x25 P) (N (ob65x57 P) (N (ob129x123 P) (L (ob257x253 P)) (L (ob385x381 P))) (N (ob193x187 P) (L (ob321x317 P)) E)) (N (ob97x89 P) (N (ob161x155 P) (L (ob289x285 P)) E) (N (ob225x219 P) (L (ob353x349 P)) E))) (N (ob49x41 P) (N (ob81x73 P) (N (ob145x139 P) (L (ob273x269 P)) (L (ob401x397 P))) (N (ob209x203 P) (L (ob337x333 P)) E)) (N (ob113x105 P) (N (ob177x171 P) (L (ob305x301 P)) E) (N (ob241x237 P) (L (ob369x365 P)) E)))) (N (ob25x17 P) (N (ob41x33 P) (N (ob73x65 P) (N (ob137x131 P) (L (ob265x261 P)) (L (ob393x389 P))) (N (ob201x195 P) (L (ob329x325 P)) E)) (N (ob105x97 P) (N (ob169x163 P) (L (ob297x293 P)) E) (N (ob233x227 P) (L (ob361x357 P)) E))) (N (ob57x49 P) (N (ob89x81 P) (N (ob153x147 P) (L (ob281x277 P)) (L (ob409x405 P))) (N (ob217x211 P) (L (ob345x341 P)) E)) (N (ob121x115 P) (N (ob185x179 P) (L (ob313x309 P)) E) (N (ob249x245 P) (L (ob377x373 P)) E))))) (N (ob13x2 P) (N (ob21x13 P) (N (ob37x29 P) (N (ob69x61 P) (N (ob133x127 P) (L (ob261x257 P)) (L (ob389x385 P))) (N (ob197x191 P) (L (ob325x321 P)) E)) (N (ob101x93 P) (N (ob165x159 P) (L (ob293x289 P)) E) (N (ob229x223 P) (L (ob357x353 P)) E))) (N (ob53x45 P) (N (ob85x77 P) (N (ob149x143 P) (L (ob277x273 P)) (L (ob405x401 P))) (N (ob213x207 P) (L (ob341x337 P)) E)) (N (ob117x109 P) (N (ob181x175 P) (L (ob309x305 P)) E) (N (ob245x241 P) (L (ob373x369 P)) E)))) (N (ob29x21 P) (N (ob45x37 P) (N (ob77x69 P) (N (ob141x135 P) (L (ob269x265 P)) (L (ob397x393 P))) (N (ob205x199 P) (L (ob333x329 P)) E)) (N (ob109x101 P) (N (ob173x167 P) (L (ob301x297 P)) E) (N (ob237x231 P) (L (ob365x361 P)) E))) (N (ob61x53 P) (N (ob93x85 P) (N (ob157x151 P) (L (ob285x281 P)) E) (N (ob221x215 P) (L (ob349x345 P)) E)) (N (ob125x119 P) (N (ob189x183 P) (L (ob317x313 P)) E) (N (ob253x249 P) (L (ob381x377 P)) E))))))) (N (ob2x4 P) (N (PySem.W.boot_o_4 P) (N (PySem.W.boot_o_8 P) (N (ob16x8 P) (N (ob32x24 P) (N (ob64x56 P) (N (ob128x122 P) (L (ob256x252 P)) (L (ob384x380 P))) (N (ob192x186 P) (L (ob320x316 P)) E)) (N (ob96x88 P) (N (ob160x154 P) (L (ob288x284 P)) E) (N (ob224x218 P) (L (ob352x348 P)) E))) (N (ob48x40 P) (N (ob80x72 P) (N (ob144x138 P) (L (ob272x268 P)) (L (ob400x396 P))) (N (ob208x202 P) (L (ob336x332 P)) E)) (N (ob112x104 P) (N (ob176x170 P) (L (ob304x300 P)) E) (N (ob240x236 P) (L (ob368x364 P)) E)))) (N (ob24x16 P) (N (ob40x32 P) (N (ob72x64 P) (N (ob136x130 P) (L (ob264x260 P)) (L (ob392x388 P))) (N (ob200x194 P) (L (ob328x324 P)) E)) (N (ob104x96 P) (N (ob168x162 P) (L (ob296x292 P)) E) (N (ob232x226 P) (L (ob360x356 P)) E))) (N (ob56x48 P) (N (ob88x80 P) (N (ob152x146 P) (L (ob280x276 P)) (L (ob408x404 P))) (N (ob216x210 P) (L (ob344x340 P)) E)) (N (ob120x114 P) (N (ob184x178 P) (L (ob312x308 P)) E) (N (ob248x244 P) (L (ob376x372 P)) E))))) (N (ob12x235 P) (N (ob20x12 P) (N (ob36x28 P) (N (ob68x60 P) (N (ob132x126 P) (L (ob260x256 P)) (L (ob388x384 P))) (N (ob196x190 P) (L (ob324x320 P)) E)) (N (ob100x92 P) (N (ob164x158 P) (L (ob292x288 P)) E) (N (ob228x222 P) (L (ob356x352 P)) E))) (N (ob52x44 P) (N (ob84x76 P) (N (ob148x142 P) (L (ob276x272 P)) (L (ob404x400 P))) (N (ob212x206 P) (L (ob340x336 P)) E)) (N (ob116x108 P) (N (ob180x174 P) (L (ob308x304 P)) E) (N (ob244x240 P) (L (ob372x368 P)) E)))) (N (ob28x20 P) (N (ob44x36 P) (N (ob76x68 P) (N (ob140x134 P) (L (ob268x264 P)) (L (ob396x392 P))) (N (ob204x198 P) (L (ob332x328 P)) E)) (N (ob108x100 P) (N (ob172x166 P) (L (ob300x296 P)) E) (N (ob236x230 P) (L (ob364x360 P)) E))) (N (ob60x52 P) (N (ob92x84 P) (N (ob156x150 P) (L (ob284x280 P)) E) (N (ob220x214 P) (L (ob348x344 P)) E)) (N (ob124x118 P) (N (ob188x182 P) (L (ob316x312 P)) E) (N (ob252x248 P) (L (ob380x376 P)) E)))))) (N (PySem.W.boot_o_6 P) (N (PySem.W.boot_o_10 P) (N (ob18x10 P) (N (ob34x26 P) (N (ob66x58 P) (N (ob130x124 P) (L (ob258x254 P)) (L (ob386x382 P))) (N (ob194x188 P) (L (ob322x318 P)) E)) (N (ob98x90 P) (N (ob162x156 P) (L (ob290x286 P)) E) (N (ob226x220 P) (L (ob354x350 P)) E))) (N (ob50x42 P) (N (ob82x74 P) (N (ob146x140 P) (L (ob274x270 P)) (L (ob402x398 P))) (N (ob210x204 P) (L (ob338x334 P)) E)) (N (ob114x106 P) (N (ob178x172 P) (L (ob306x302 P)) E) (N (ob242x238 P) (L (ob370x366 P)) E)))) (N (ob26x18 P) (N (ob42x34 P) (N (ob74x66 P) (N (ob138x132 P) (L (ob266x262 P)) (L (ob394x390 P))) (N (ob202x196 P) (L (ob330x326 P)) E)) (N (ob106x98 P) (N (ob170x164 P) (L (ob298x294 P)) E) (N (ob234x228 P) (L (ob362x358 P)) E))) (N (ob58x50 P) (N (ob90x82 P) (N (ob154x148 P) (L (ob282x278 P)) (L (ob410x406 P))) (N (ob218x212 P) (L (ob346x342 P)) E)) (N (ob122x116 P) (N (ob186x180 P) (L (ob314x310 P)) E) (N (ob250x246 P) (L (ob378x374 P)) E))))) (N (ob14x3 P) (N (ob22x14 P) (N (ob38x30 P) (N (ob70x62 P) (N (ob134x128 P) (L (ob262x258 P)) (L (ob390x386 P))) (N (ob198x192 P) (L (ob326x322 P)) E)) (N (ob102x94 P) (N (ob166x160 P) (L (ob294x290 P)) E) (N (ob230x224 P) (L (ob358x354 P)) E))) (N (ob54x46 P) (N (ob86x78 P) (N (ob150x144 P) (L (ob278x274 P)) (L (ob406x402 P))) (N (ob214x208 P) (L (ob342x338 P)) E)) (N (ob118x110 P) (N (ob182x176 P) (L (ob310x306 P)) E) (N (ob246x242 P) (L (ob374x370 P)) E)))) (N (ob30x22 P) (N (ob46x38 P) (N (ob78x70 P) (N (ob142x136 P) (L (ob270x266 P)) (L (ob398x394 P))) (N (ob206x200 P) (L (ob334x330 P)) E)) (N (ob110x102 P) (N (ob174x168 P) (L (ob302x298 P)) E) (N (ob238x232 P) (L (ob366x362 P)) E))) (N (ob62x54 P) (N (ob94x86 P) (N (ob158x152 P) (L (ob286x282 P)) E) (N (ob222x216 P) (L (ob350x346 P)) E)) (N (ob126x120 P) (N (ob190x184 P) (L (ob318x314 P)) E) (N (ob254x250 P) (L (ob382x378 P)) E))))))))
noncomputable def st3 (w : World) (os : OsState) : SharedT := ⟨tr3 w.params, 411, {}, #[], {}, 774, os⟩
noncomputable def ss2 : List Stmt := ((behindTheImports pwT).drop 51).take 35
theorem pq2 (w : World) : (fun os => PySem.W.Fast.tw10110043849684766642 PySem.W.Fast.tw14364793385576792824 pwT w 11 (some (.ref 6)) 1 1055 (st2 w os) (piecesOf ss2 envT cdT ⟨167, 0, 167, 4⟩ [topFrame ⟨0, 0, 0, 0⟩])) = fun os => some (Flow.next, st3 w os, cdT, ⟨307, 0, 308, 79⟩) := by kernel_rfl
theorem pc2 (w : World) (os : OsState) {N : Nat} {r : Shared} (k : topRun treeTable pwT w 11 (some (.ref 6)) N (st3 w os).abs (restOf ((behindTheImports pwT).drop 86) envT cdT ⟨307, 0, 308, 79⟩ [topFrame ⟨0, 0, 0, 0⟩]) = some r) : topRun treeTable pwT w 11 (some (.ref 6)) (1055 + N) (st2 w os).abs (restOf ((behindTheImports pwT).drop 51) envT cdT ⟨167, 0, 167, 4⟩ [topFrame ⟨0, 0, 0, 0⟩]) = some r := by
  have q : segRunT treeTable pwT w 11 (some (.ref 6)) 1 1055 (st2 w os) (piecesOf ss2 envT cdT ⟨167, 0, 167, 4⟩ [topFrame ⟨0, 0, 0, 0⟩]) = some (Flow.next, st3 w os, cdT, ⟨307, 0, 308, 79⟩) := by
    rw [PySem.W.Fast.te10110043849684766642, PySem.W.Fast.te14364793385576792824]; exact congrFun (pq2 w) os
  exact cut_piece 51 35 (segRun_of q) k
noncomputable def ob3x407 (P : Params) : Obj := nsAt (gt (kc0 P) 3) 96 96 [(0, PySem.Value.str (PySem.Str.ofString "postkeep.build") 751)]
noncomputable def ob12x408 (_P : Params) : Obj := ptAt [(5, 18), (12, 25), (17, 32), (19, 37), (23, 45), (26, 52), (35, 80), (37, 92), (42, 104), (44, 109), (46, 117), (61, 125), (72, 158), (79, 165), (84, 172), (93, 179), (95, 184), (98, 191), (105, 196), (115, 204), (118, 209), (122, 216), (132, 223), (136, 230), (150, 238), (168, 245), (186, 292), (188, 297), (190, 302), (193, 309), (201, 316), (208, 321), (216, 326), (223, 331), (225, 336), (239, 341), (244, 346), (260, 353), (262, 360), (265, 367), (274, 374), (284, 381), (286, 389), (294, 396), (305, 402), (307, 409), (309, 416), (321, 453), (333, 486), (345, 521), (353, 528), (357, 535), (361, 540), (363, 545), (371, 552), (374, 557), (380, 564)]
noncomputable def ob411x409 (P : Params) : Obj := { cls := PySem.Value.type "tuple", data := PySem.Data.seq #[] }
noncomputable def ob412x410 (P : Params) : Obj := { cls := PySem.Value.type "builtin_function_or_method", data := PySem.Data.fields #[PySem.Value.builtin "type.__prepare__", PySem.Value.type "type"] }
noncomputable def ob413x411 (P : Params) : Obj := { cls := PySem.Value.type "dict", data := PySem.Data.dict #[{ hash := PySem.PyData.keyHash P (PySem.Str.ofString "__module__"), key := PySem.Value.str (PySem.Str.ofString "__module__") 781, val := PySem.Value.str (PySem.Str.ofString "postkeep.build") 751 }, { hash := PySem.PyData.keyHash P (PySem.Str.ofString "__qualname__"), key := PySem.Value.str (PySem.Str.ofString "__qualname__") 783, val := PySem.Value.str (PySem.Str.ofString "Leaf") 782 }, { hash := PySem.PyData.keyHash P (PySem.Str.ofString "__firstlineno__"), key := PySem.Value.str (PySem.Str.ofString "__firstlineno__") 785, val := PySem.Value.int 309 784 }, { hash := PySem.PyData.keyHash P (PySem.Str.ofString "__init__"), key := PySem.Value.str (PySem.Str.ofString "__init__") 795, val := PySem.Value.ref 426 }, { hash := PySem.PyData.keyHash P (PySem.Str.ofString "told"), key := PySem.Value.str (PySem.Str.ofString "told") 802, val := PySem.Value.ref 433 }, { hash := PySem.PyData.keyHash P (PySem.Str.ofString "depth"), key := PySem.Value.str (PySem.Str.ofString "depth") 809, val := PySem.Value.ref 440 }, { hash := PySem.PyData.keyHash P (PySem.Str.ofString "__static_attributes__"), key := PySem.Value.str (PySem.Str.ofString "__static_attributes__") 813, val := PySem.Value.ref 441 }] 7 }
noncomputable def ob414x412 (P : Params) : Obj := { cls := PySem.Value.type "tuple", data := PySem.Data.seq #[] }
noncomputable def ob415x413 (P : Params) : Obj := { cls := PySem.Value.none, data := PySem.Data.fields #[PySem.Value.int 311 0, PySem.Value.int 4 0, PySem.Value.ref 425, PySem.Value.int 316 0, PySem.Value.int 4 0, PySem.Value.ref 432, PySem.Value.int 319 0, PySem.Value.int 4 0, PySem.Value.ref 439] }
noncomputable def ob416x414 (P : Params) : Obj := { cls := PySem.Value.type "code", data := PySem.Data.fields #[PySem.Value.str (PySem.Str.ofString "Leaf") 776, PySem.Value.str (PySem.Str.ofString "Leaf") 777, PySem.Value.str (PySem.Str.ofString "/claim/cut.py") 778, PySem.Value.int 309 0, PySem.Value.int 0 0, PySem.Value.int 0 0, PySem.Value.int 0 0, PySem.Value.int 0 0, PySem.Value.ref 414, PySem.Value.bool Bool.false, PySem.Value.int 181 0, PySem.Value.ref 415, PySem.Value.none, PySem.Value.none, PySem.Value.none, PySem.Value.none, PySem.Value.int 779 0, PySem.Value.int 309 0, PySem.Value.str (PySem.Str.ofString "/claim/cut.py") 780] }
noncomputable def ob417x415 (P : Params) : Obj := { cls := PySem.Value.type "frame", slots := #[Option.some (PySem.Value.ref 416), Option.some (PySem.Value.ref 3), Option.some (PySem.Value.ref 413), Option.none, Option.some (PySem.Value.str (PySem.Str.ofString "postkeep.build") 751), Option.none, Option.some (PySem.Value.ref 0)] }
noncomputable def ob418x416 (P : Params) : Obj := gt (kc6 P) 418
noncomputable def ob419x417 (P : Params) : Obj := gt (kc6 P) 419
noncomputable def ob420x418 (P : Params) : Obj := gt (kc6 P) 420
noncomputable def ob421x419 (P : Params) : Obj := nilF
noncomputable def ob422x420 (P : Params) : Obj := gt (kc6 P) 422
noncomputable def ob423x421 (P : Params) : Obj := gt (kc6 P) 423
noncomputable def ob424x422 (P : Params) : Obj := recOf (gt (kc6 P) 426)
noncomputable def ob425x423 (P : Params) : Obj := gt (kc6 P) 425
noncomputable def ob426x424 (P : Params) : Obj := gt (kc6 P) 426
noncomputable def ob427x425 (P : Params) : Obj := gt (kc6 P) 427
noncomputable def ob428x426 (P : Params) : Obj := nilF
noncomputable def ob429x427 (P : Params) : Obj := gt (kc6 P) 429
noncomputable def ob430x428 (P : Params) : Obj := gt (kc6 P) 430
noncomputable def ob431x429 (P : Params) : Obj := recOf (gt (kc6 P) 433)
noncomputable def ob432x430 (P : Params) : Obj := gt (kc6 P) 432
noncomputable def ob433x431 (P : Params) : Obj := gt (kc6 P) 433
noncomputable def ob434x432 (P : Params) : Obj := gt (kc6 P) 434
noncomputable def ob435x433 (P : Params) : Obj := nilF
noncomputable def ob436x434 (P : Params) : Obj := gt (kc6 P) 436
noncomputable def ob437x435 (P : Params) : Obj := gt (kc6 P) 437
noncomputable def ob438x436 (P : Params) : Obj := recOf (gt (kc6 P) 440)
noncomputable def ob439x437 (P : Params) : Obj := gt (kc6 P) 439
noncomputable def ob440x438 (P : Params) : Obj := gt (kc6 P) 440
noncomputable def ob441x439 (P : Params) : Obj := gt (kc6 P) 441
noncomputable def ob442x440 (P : Params) : Obj := gt (kc6 P) 442
noncomputable def ob443x441 (P : Params) : Obj := gt (kc6 P) 443
noncomputable def ob444x442 (P : Params) : Obj := gt (kc6 P) 444
noncomputable def ob445x443 (P : Params) : Obj := gt (kc6 P) 445
noncomputable def ob446x444 (P : Params) : Obj := { cls := PySem.Value.type "super", data := PySem.Data.fields #[PySem.Value.ref 443, PySem.Value.ref 443, PySem.Value.ref 443] }
noncomputable def ob447x445 (P : Params) : Obj := { cls := PySem.Value.type "builtin_function_or_method", data := PySem.Data.fields #[PySem.Value.builtin "object.__init_subclass__", PySem.Value.ref 443] }
noncomputable def ob448x446 (P : Params) : Obj := { cls := PySem.Value.type "tuple", data := PySem.Data.seq #[] }
noncomputable def ob449x447 (P : Params) : Obj := { cls := PySem.Value.type "builtin_function_or_method", data := PySem.Data.fields #[PySem.Value.builtin "type.__prepare__", PySem.Value.type "type"] }
noncomputable def ob450x448 (P : Params) : Obj := { cls := PySem.Value.type "dict", data := PySem.Data.dict #[{ hash := PySem.PyData.keyHash P (PySem.Str.ofString "__module__"), key := PySem.Value.str (PySem.Str.ofString "__module__") 828, val := PySem.Value.str (PySem.Str.ofString "postkeep.build") 751 }, { hash := PySem.PyData.keyHash P (PySem.Str.ofString "__qualname__"), key := PySem.Value.str (PySem.Str.ofString "__qualname__") 830, val := PySem.Value.str (PySem.Str.ofString "Many") 829 }, { hash := PySem.PyData.keyHash P (PySem.Str.ofString "__firstlineno__"), key := PySem.Value.str (PySem.Str.ofString "__firstlineno__") 832, val := PySem.Value.int 321 831 }, { hash := PySem.PyData.keyHash P (PySem.Str.ofString "__init__"), key := PySem.Value.str (PySem.Str.ofString "__init__") 842, val := PySem.Value.ref 463 }, { hash := PySem.PyData.keyHash P (PySem.Str.ofString "told"), key := PySem.Value.str (PySem.Str.ofString "told") 848, val := PySem.Value.ref 468 }, { hash := PySem.PyData.keyHash P (PySem.Str.ofString "depth"), key := PySem.Value.str (PySem.Str.ofString "depth") 854, val := PySem.Value.ref 473 }, { hash := PySem.PyData.keyHash P (PySem.Str.ofString "__static_attributes__"), key := PySem.Value.str (PySem.Str.ofString "__static_attributes__") 858, val := PySem.Value.ref 474 }] 7 }
noncomputable def ob451x449 (P : Params) : Obj := { cls := PySem.Value.type "tuple", data := PySem.Data.seq #[] }
noncomputable def ob452x450 (P : Params) : Obj := { cls := PySem.Value.none, data := PySem.Data.fields #[PySem.Value.int 323 0, PySem.Value.int 4 0, PySem.Value.ref 462, PySem.Value.int 328 0, PySem.Value.int 4 0, PySem.Value.ref 467, PySem.Value.int 331 0, PySem.Value.int 4 0, PySem.Value.ref 472] }
noncomputable def ob453x451 (P : Params) : Obj := { cls := PySem.Value.type "code", data := PySem.Data.fields #[PySem.Value.str (PySem.Str.ofString "Many") 823, PySem.Value.str (PySem.Str.ofString "Many") 824, PySem.Value.str (PySem.Str.ofString "/claim/cut.py") 825, PySem.Value.int 321 0, PySem.Value.int 0 0, PySem.Value.int 0 0, PySem.Value.int 0 0, PySem.Value.int 0 0, PySem.Value.ref 451, PySem.Value.bool Bool.false, PySem.Value.int 181 0, PySem.Value.ref 452, PySem.Value.none, PySem.Value.none, PySem.Value.none, PySem.Value.none, PySem.Value.int 826 0, PySem.Value.int 321 0, PySem.Value.str (PySem.Str.ofString "/claim/cut.py") 827] }
noncomputable def ob454x452 (P : Params) : Obj := { cls := PySem.Value.type "frame", slots := #[Option.some (PySem.Value.ref 453), Option.some (PySem.Value.ref 3), Option.some (PySem.Value.ref 450), Option.none, Option.some (PySem.Value.str (PySem.Str.ofString "postkeep.build") 751), Option.none, Option.some (PySem.Value.ref 0)] }
noncomputable def ob455x453 (P : Params) : Obj := gt (kc6 P) 455
noncomputable def ob456x454 (P : Params) : Obj := gt (kc6 P) 456
noncomputable def ob457x455 (P : Params) : Obj := gt (kc6 P) 457
noncomputable def ob458x456 (P : Params) : Obj := nilF
noncomputable def ob459x457 (P : Params) : Obj := gt (kc7 P) 459
noncomputable def ob460x458 (P : Params) : Obj := gt (kc7 P) 460
noncomputable def ob461x459 (P : Params) : Obj := recOf (gt (kc7 P) 463)
noncomputable def ob462x460 (P : Params) : Obj := gt (kc7 P) 462
noncomputable def ob463x461 (P : Params) : Obj := gt (kc7 P) 463
noncomputable def ob464x462 (P : Params) : Obj := gt (kc7 P) 464
noncomputable def ob465x463 (P : Params) : Obj := nilF
noncomputable def ob466x464 (P : Params) : Obj := recOf (gt (kc7 P) 468)
noncomputable def ob467x465 (P : Params) : Obj := gt (kc7 P) 467
noncomputable def ob468x466 (P : Params) : Obj := gt (kc7 P) 468
noncomputable def ob469x467 (P : Params) : Obj := gt (kc7 P) 469
noncomputable def ob470x468 (P : Params) : Obj := nilF
noncomputable def ob471x469 (P : Params) : Obj := recOf (gt (kc7 P) 473)
noncomputable def ob472x470 (P : Params) : Obj := gt (kc7 P) 472
noncomputable def ob473x471 (P : Params) : Obj := gt (kc7 P) 473
noncomputable def ob474x472 (P : Params) : Obj := gt (kc7 P) 474
noncomputable def ob475x473 (P : Params) : Obj := gt (kc7 P) 475
noncomputable def ob476x474 (P : Params) : Obj := gt (kc7 P) 476
noncomputable def ob477x475 (P : Params) : Obj := gt (kc7 P) 477
noncomputable def ob478x476 (P : Params) : Obj := gt (kc7 P) 478
noncomputable def ob479x477 (P : Params) : Obj := { cls := PySem.Value.type "super", data := PySem.Data.fields #[PySem.Value.ref 476, PySem.Value.ref 476, PySem.Value.ref 476] }
noncomputable def ob480x478 (P : Params) : Obj := { cls := PySem.Value.type "builtin_function_or_method", data := PySem.Data.fields #[PySem.Value.builtin "object.__init_subclass__", PySem.Value.ref 476] }
noncomputable def ob481x479 (P : Params) : Obj := { cls := PySem.Value.type "tuple", data := PySem.Data.seq #[] }
noncomputable def ob482x480 (P : Params) : Obj := { cls := PySem.Value.type "builtin_function_or_method", data := PySem.Data.fields #[PySem.Value.builtin "type.__prepare__", PySem.Value.type "type"] }
noncomputable def ob483x481 (P : Params) : Obj := { cls := PySem.Value.type "dict", data := PySem.Data.dict #[{ hash := PySem.PyData.keyHash P (PySem.Str.ofString "__module__"), key := PySem.Value.str (PySem.Str.ofString "__module__") 873, val := PySem.Value.str (PySem.Str.ofString "postkeep.build") 751 }, { hash := PySem.PyData.keyHash P (PySem.Str.ofString "__qualname__"), key := PySem.Value.str (PySem.Str.ofString "__qualname__") 875, val := PySem.Value.str (PySem.Str.ofString "Letter822") 874 }, { hash := PySem.PyData.keyHash P (PySem.Str.ofString "__firstlineno__"), key := PySem.Value.str (PySem.Str.ofString "__firstlineno__") 877, val := PySem.Value.int 333 876 }, { hash := PySem.PyData.keyHash P (PySem.Str.ofString "__init__"), key := PySem.Value.str (PySem.Str.ofString "__init__") 886, val := PySem.Value.ref 496 }, { hash := PySem.PyData.keyHash P (PySem.Str.ofString "told"), key := PySem.Value.str (PySem.Str.ofString "told") 894, val := PySem.Value.ref 503 }, { hash := PySem.PyData.keyHash P (PySem.Str.ofString "depth"), key := PySem.Value.str (PySem.Str.ofString "depth") 901, val := PySem.Value.ref 510 }, { hash := PySem.PyData.keyHash P (PySem.Str.ofString "__static_attributes__"), key := PySem.Value.str (PySem.Str.ofString "__static_attributes__") 904, val := PySem.Value.ref 511 }] 7 }
noncomputable def ob484x482 (P : Params) : Obj := { cls := PySem.Value.type "tuple", data := PySem.Data.seq #[] }
noncomputable def ob485x483 (P : Params) : Obj := { cls := PySem.Value.none, data := PySem.Data.fields #[PySem.Value.int 335 0, PySem.Value.int 4 0, PySem.Value.ref 495, PySem.Value.int 339 0, PySem.Value.int 4 0, PySem.Value.ref 502, PySem.Value.int 343 0, PySem.Value.int 4 0, PySem.Value.ref 509] }
noncomputable def ob486x484 (P : Params) : Obj := { cls := PySem.Value.type "code", data := PySem.Data.fields #[PySem.Value.str (PySem.Str.ofString "Letter822") 868, PySem.Value.str (PySem.Str.ofString "Letter822") 869, PySem.Value.str (PySem.Str.ofString "/claim/cut.py") 870, PySem.Value.int 333 0, PySem.Value.int 0 0, PySem.Value.int 0 0, PySem.Value.int 0 0, PySem.Value.int 0 0, PySem.Value.ref 484, PySem.Value.bool Bool.false, PySem.Value.int 181 0, PySem.Value.ref 485, PySem.Value.none, PySem.Value.none, PySem.Value.none, PySem.Value.none, PySem.Value.int 871 0, PySem.Value.int 333 0, PySem.Value.str (PySem.Str.ofString "/claim/cut.py") 872] }
noncomputable def ob487x485 (P : Params) : Obj := { cls := PySem.Value.type "frame", slots := #[Option.some (PySem.Value.ref 486), Option.some (PySem.Value.ref 3), Option.some (PySem.Value.ref 483), Option.none, Option.some (PySem.Value.str (PySem.Str.ofString "postkeep.build") 751), Option.none, Option.some (PySem.Value.ref 0)] }
noncomputable def ob488x486 (P : Params) : Obj := gt (kc7 P) 488
noncomputable def ob489x487 (P : Params) : Obj := gt (kc7 P) 489
noncomputable def ob490x488 (P : Params) : Obj := gt (kc7 P) 490
noncomputable def ob491x489 (P : Params) : Obj := nilF
noncomputable def ob492x490 (P : Params) : Obj := gt (kc7 P) 492
noncomputable def ob493x491 (P : Params) : Obj := gt (kc7 P) 493
noncomputable def ob494x492 (P : Params) : Obj := recOf (gt (kc7 P) 496)
noncomputable def ob495x493 (P : Params) : Obj := gt (kc7 P) 495
noncomputable def ob496x494 (P : Params) : Obj := gt (kc7 P) 496
noncomputable def ob497x495 (P : Params) : Obj := gt (kc7 P) 497
noncomputable def ob498x496 (P : Params) : Obj := nilF
noncomputable def ob499x497 (P : Params) : Obj := gt (kc7 P) 499
noncomputable def ob500x498 (P : Params) : Obj := gt (kc7 P) 500
noncomputable def ob501x499 (P : Params) : Obj := recOf (gt (kc7 P) 503)
noncomputable def ob502x500 (P : Params) : Obj := gt (kc7 P) 502
noncomputable def ob503x501 (P : Params) : Obj := gt (kc7 P) 503
noncomputable def ob504x502 (P : Params) : Obj := gt (kc7 P) 504
noncomputable def ob505x503 (P : Params) : Obj := nilF
noncomputable def ob506x504 (P : Params) : Obj := gt (kc7 P) 506
noncomputable def ob507x505 (P : Params) : Obj := gt (kc7 P) 507
noncomputable def ob508x506 (P : Params) : Obj := recOf (gt (kc7 P) 510)
noncomputable def ob509x507 (P : Params) : Obj := gt (kc7 P) 509
noncomputable def ob510x508 (P : Params) : Obj := gt (kc7 P) 510
noncomputable def ob511x509 (P : Params) : Obj := gt (kc7 P) 511
noncomputable def ob512x510 (P : Params) : Obj := gt (kc7 P) 512
noncomputable def ob513x511 (P : Params) : Obj := gt (kc7 P) 513
noncomputable def ob514x512 (P : Params) : Obj := gt (kc7 P) 514
noncomputable def ob515x513 (P : Params) : Obj := gt (kc7 P) 515
noncomputable def ob516x514 (P : Params) : Obj := { cls := PySem.Value.type "super", data := PySem.Data.fields #[PySem.Value.ref 513, PySem.Value.ref 513, PySem.Value.ref 513] }
noncomputable def ob517x515 (P : Params) : Obj := { cls := PySem.Value.type "builtin_function_or_method", data := PySem.Data.fields #[PySem.Value.builtin "object.__init_subclass__", PySem.Value.ref 513] }
noncomputable def ob518x516 (P : Params) : Obj := gt (kc7 P) 518
noncomputable def ob519x517 (P : Params) : Obj := nilF
noncomputable def ob520x518 (P : Params) : Obj := recOf (gt (kc7 P) 522)
noncomputable def ob521x519 (P : Params) : Obj := gt (kc7 P) 521
noncomputable def ob522x520 (P : Params) : Obj := gt (kc7 P) 522
noncomputable def ob523x521 (P : Params) : Obj := gt (kc8 P) 523
noncomputable def ob524x522 (P : Params) : Obj := nilF
noncomputable def ob525x523 (P : Params) : Obj := gt (kc8 P) 525
noncomputable def ob526x524 (P : Params) : Obj := gt (kc8 P) 526
noncomputable def ob527x525 (P : Params) : Obj := recOf (gt (kc8 P) 529)
noncomputable def ob528x526 (P : Params) : Obj := gt (kc8 P) 528
noncomputable def ob529x527 (P : Params) : Obj := gt (kc8 P) 529
noncomputable def ob530x528 (P : Params) : Obj := gt (kc8 P) 530
noncomputable def ob531x529 (P : Params) : Obj := nilF
noncomputable def ob532x530 (P : Params) : Obj := gt (kc8 P) 532
noncomputable def ob533x531 (P : Params) : Obj := gt (kc8 P) 533
noncomputable def ob534x532 (P : Params) : Obj := recOf (gt (kc8 P) 536)
noncomputable def ob535x533 (P : Params) : Obj := gt (kc8 P) 535
noncomputable def ob536x534 (P : Params) : Obj := gt (kc8 P) 536
noncomputable def ob537x535 (P : Params) : Obj := gt (kc8 P) 537
noncomputable def ob538x536 (P : Params) : Obj := nilF
noncomputable def ob539x537 (P : Params) : Obj := recOf (gt (kc8 P) 541)
noncomputable def ob540x538 (P : Params) : Obj := gt (kc8 P) 540
noncomputable def ob541x539 (P : Params) : Obj := gt (kc8 P) 541
noncomputable def ob542x540 (P : Params) : Obj := gt (kc8 P) 542
noncomputable def ob543x541 (P : Params) : Obj := nilF
noncomputable def ob544x542 (P : Params) : Obj := recOf (gt (kc8 P) 546)
noncomputable def ob545x543 (P : Params) : Obj := gt (kc8 P) 545
noncomputable def ob546x544 (P : Params) : Obj := gt (kc8 P) 546
noncomputable def ob547x545 (P : Params) : Obj := gt (kc8 P) 547
noncomputable def ob548x546 (P : Params) : Obj := nilF
noncomputable def ob549x547 (P : Params) : Obj := gt (kc8 P) 549
noncomputable def ob550x548 (P : Params) : Obj := gt (kc8 P) 550
noncomputable def ob551x549 (P : Params) : Obj := recOf (gt (kc8 P) 553)
noncomputable def ob552x550 (P : Params) : Obj := gt (kc8 P) 552
noncomputable def ob553x551 (P : Params) : Obj := gt (kc8 P) 553
noncomputable def ob554x552 (P : Params) : Obj := gt (kc8 P) 554
noncomputable def ob555x553 (P : Params) : Obj := nilF
noncomputable def ob556x554 (P : Params) : Obj := recOf (gt (kc8 P) 558)
noncomputable def ob557x555 (P : Params) : Obj := gt (kc8 P) 557
noncomputable def ob558x556 (P : Params) : Obj := gt (kc8 P) 558
noncomputable def ob559x557 (P : Params) : Obj := gt (kc8 P) 559
noncomputable def ob560x558 (P : Params) : Obj := nilF
noncomputable def ob561x559 (P : Params) : Obj := gt (kc8 P) 561
noncomputable def ob562x560 (P : Params) : Obj := gt (kc8 P) 562
noncomputable def ob563x561 (P : Params) : Obj := recOf (gt (kc8 P) 565)
noncomputable def ob564x562 (P : Params) : Obj := gt (kc8 P) 564
noncomputable def ob565x563 (P : Params) : Obj := gt (kc8 P) 565
noncomputable def tr4 (P : Params) : BT := (N (PySem.W.boot_o_0 P) (N (PySem.W.boot_o_1 P) (N (ob3x407 P) (N (PySem.W.boot_o_7 P) (N (ob15x7 P) (N (ob31x23 P) (N (ob63x55 P) (N (ob127x121 P) (N (ob255x251 P) (L (ob511x509 P)) E) (L (ob383x379 P))) (N (ob191x185 P) (L (ob319x315 P)) (L (ob447x445 P)))) (N (ob95x87 P) (N (ob159x153 P) (N (ob287x283 P) (L (ob543x541 P)) E) (L (ob415x413 P))) (N (ob223x217 P) (L (ob351x347 P)) (L (ob479x477 P))))) (N (ob47x39 P) (N (ob79x71 P) (N (ob143x137 P) (N (ob271x267 P) (L (ob527x525 P)) E) (L (ob399x395 P))) (N (ob207x201 P) (L (ob335x331 P)) (L (ob463x461 P)))) (N (ob111x103 P) (N (ob175x169 P) (N (ob303x299 P) (L (ob559x557 P)) E) (L (ob431x429 P))) (N (ob239x233 P) (L (ob367x363 P)) (L (ob495x493 P)))))) (N (ob23x15 P) (N (ob39x31 P) (N (ob71x63 P) (N (ob135x129 P) (N (ob263x259 P) (L (ob519x517 P)) E) (L (ob391x387 P))) (N (ob199x193 P) (L (ob327x323 P)) (L (ob455x453 P)))) (N (ob103x95 P) (N (ob167x161 P) (N (ob295x291 P) (L (ob551x549 P)) E) (L (ob423x421 P))) (N (ob231x225 P) (L (ob359x355 P)) (L (ob487x485 P))))) (N (ob55x47 P) (N (ob87x79 P) (N (ob151x145 P) (N (ob279x275 P) (L (ob535x533 P)) E) (L (ob407x403 P))) (N (ob215x209 P) (L (ob343x339 P)) (L (ob471x469 P)))) (N (ob119x111 P) (N (ob183x177 P) (L (ob311x307 P)) (L (ob439x437 P))) (N (ob247x243 P) (L (ob375x371 P)) (L (ob503x501 P))))))) (N (ob11x0 P) (N (ob19x11 P) (N (ob35x27 P) (N (ob67x59 P) (N (ob131x125 P) (N (ob259x255 P) (L (ob515x513 P)) E) (L (ob387x383 P))) (N (ob195x189 P) (L (ob323x319 P)) (L (ob451x449 P)))) (N (ob99x91 P) (N (ob163x157 P) (N (ob291x287 P) (L (ob547x545 P)) E) (L (ob419x417 P))) (N (ob227x221 P) (L (ob355x351 P)) (L (ob483x481 P))))) (N (ob51x43 P) (N (ob83x75 P) (N (ob147x141 P) (N (ob275x271 P) (L (ob531x529 P)) E) (L (ob403x399 P))) (N (ob211x205 P) (L (ob339x335 P)) (L (ob467x465 P)))) (N (ob115x107 P) (N (ob179x173 P) (N (ob307x303 P) (L (ob563x561 P)) E) (L (ob435x433 P))) (N (ob243x239 P) (L (ob371x367 P)) (L (ob499x497 P)))))) (N (ob27x19 P) (N (ob43x35 P) (N (ob75x67 P) (N (ob139x133 P) (N (ob267x263 P) (L (ob523x521 P)) E) (L (ob395x391 P))) (N (ob203x197 P) (L (ob331x327 P)) (L (ob459x457 P)))) (N (ob107x99 P) (N (ob171x165 P) (N (ob299x295 P) (L (ob555x553 P)) E) (L (ob427x425 P))) (N (ob235x229 P) (L (ob363x359 P)) (L (ob491x489 P))))) (N (ob59x51 P) (N (ob91x83 P) (N (ob155x149 P) (N (ob283x279 P) (L (ob539x537 P)) E) (L (ob411x409 P))) (N (ob219x213 P) (L (ob347x343 P)) (L (ob475x473 P)))) (N (ob123x117 P) (N (ob187x181 P) (L (ob315x311 P)) (L (ob443x441 P))) (N (ob251x247 P) (L (ob379x375 P)) (L (ob507x505 P)))))))) (N (PySem.W.boot_o_5 P) (N (PySem.W.boot_o_9 P) (N (ob17x9 P) (N (ob33x25 P) (N (ob65x57 P) (N (ob129x123 P) (N (ob257x253 P) (L (ob513x511 P)) E) (L (ob385x381 P))) (N (ob193x187 P) (L (ob321x317 P)) (L (ob449x447 P)))) (N (ob97x89 P) (N (ob161x155 P) (N (ob289x285 P) (L (ob545x543 P)) E) (L (ob417x415 P))) (N (ob225x219 P) (L (ob353x349 P)) (L (ob481x479 P))))) (N (ob49x41 P) (N (ob81x73 P) (N (ob145x139 P) (N (ob273x269 P) (L (ob529x527 P)) E) (L (ob401x397 P))) (N (ob209x203 P) (L (ob337x333 P)) (L (ob465x463 P)))) (N (ob113x105 P) (N (ob177x171 P) (N (ob305x301 P) (L (ob561x559 P)) E) (L (ob433x431 P))) (N (ob241x237 P) (L (ob369x365 P)) (L (ob497x495 P)))))) (N (ob25x17 P) (N (ob41x33 P) (N (ob73x65 P) (N (ob137x131 P) (N (ob265x261 P) (L (ob521x519 P)) E) (L (ob393x389 P))) (N (ob201x195 P) (L (ob329x325 P)) (L (ob457x455 P)))) (N (ob105x97 P) (N (ob169x163 P) (N (ob297x293 P) (L (ob553x551 P)) E) (L (ob425x423 P))) (N (ob233x227 P) (L (ob361x357 P)) (L (ob489x487 P))))) (N (ob57x49 P) (N (ob89x81 P) (N (ob153x147 P) (N (ob281x277 P) (L (ob537x535 P)) E) (L (ob409x405 P))) (N (ob217x211 P) (L (ob345x341 P)) (L (ob473x471 P)))) (N (ob121x115 P) (N (ob185x179 P) (L (ob313x309 P)) (L (ob441x439 P))) (N (ob249x245 P) (L (ob377x373 P)) (L (ob505x503 P))))))) (N (ob13x2 P) (N (ob21x13 P) (N (ob37x29 P) (N (ob69x61 P) (N (ob133x127 P) (N (ob261x257 P) (L (ob517x515 P)) E) (L (ob389x385 P))) (N (ob197x191 P) (L (ob325x321 P)) (L (ob453x451 P)))) (N (ob101x93 P) (N (ob165x159 P) (N (ob293x289 P) (L (ob549x547 P)) E) (L (ob421x419 P))) (N (ob229x223 P) (L (ob357x353 P)) (L (ob485x483 P))))) (N (ob53x45 P) (N (ob85x77 P) (N (ob149x143 P) (N (ob277x273 P) (L (ob533x531 P)) E) (L (ob405x401 P))) (N (ob213x207 P) (L (ob341x337 P)) (L (ob469x467 P)))) (N (ob117x109 P) (N (ob181x175 P) (N (ob309x305 P) (L (ob565x563 P)) E) (L (ob437x435 P))) (N (ob245x241 P) (L (ob373x369 P)) (L (ob501x499 P)))))) (N (ob29x21 P) (N (ob45x37 P) (N (ob77x69 P) (N (ob141x135 P) (N (ob269x265 P) (L (ob525x523 P)) E) (L (ob397x393 P))) (N (ob205x199 P) (L (ob333x329 P)) (L (ob461x459 P)))) (N (ob109x101 P) (N (ob173x167 P) (N (ob301x297 P) (L (ob557x555 P)) E) (L (ob429x427 P))) (N (ob237x231 P) (L (ob365x361 P)) (L (ob493x491 P))))) (N (ob61x53 P) (N (ob93x85 P) (N (ob157x151 P) (N (ob285x281 P) (L (ob541x539 P)) E) (L (ob413x411 P))) (N (ob221x215 P) (L (ob349x345 P)) (L (ob477x475 P)))) (N (ob125x119 P) (N (ob189x183 P) (L (ob317x313 P)) (L (ob445x443 P))) (N (ob253x249 P) (L (ob381x377 P)) (L (ob509x507 P))))))))) (N (ob2x4 P) (N (PySem.W.boot_o_4 P) (N (PySem.W.boot_o_8 P) (N (ob16x8 P) (N (ob32x24 P) (N (ob64x56 P) (N (ob128x122 P) (N (ob256x252 P) (L (ob512x510 P)) E) (L (ob384x380 P))) (N (ob192x186 P) (L (ob320x316 P)) (L (ob448x446 P)))) (N (ob96x88 P) (N (ob160x154 P) (N (ob288x284 P) (L (ob544x542 P)) E) (L (ob416x414 P))) (N (ob224x218 P) (L (ob352x348 P)) (L (ob480x478 P))))) (N (ob48x40 P) (N (ob80x72 P) (N (ob144x138 P) (N (ob272x268 P) (L (ob528x526 P)) E) (L (ob400x396 P))) (N (ob208x202 P) (L (ob336x332 P)) (L (ob464x462 P)))) (N (ob112x104 P) (N (ob176x170 P) (N (ob304x300 P) (L (ob560x558 P)) E) (L (ob432x430 P))) (N (ob240x236 P) (L (ob368x364 P)) (L (ob496x494 P)))))) (N (ob24x16 P) (N (ob40x32 P) (N (ob72x64 P) (N (ob136x130 P) (N (ob264x260 P) (L (ob520x518 P)) E) (L (ob392x388 P))) (N (ob200x194 P) (L (ob328x324 P)) (L (ob456x454 P)))) (N (ob104x96 P) (N (ob168x162 P) (N (ob296x292 P) (L (ob552x550 P)) E) (L (ob424x422 P))) (N (ob232x226 P) (L (ob360x356 P)) (L (ob488x486 P))))) (N (ob56x48 P) (N (ob88x80 P) (N (ob152x146 P) (N (ob280x276 P) (L (ob536x534 P)) E) (L (ob408x404 P))) (N (ob216x210 P) (L (ob344x340 P)) (L (ob472x470 P)))) (N (ob120x114 P) (N (ob184x178 P) (L (ob312x308 P)) (L (ob440x438 P))) (N (ob248x244 P) (L (ob376x372 P)) (L (ob504x502 P))))))) (N (ob12x408 P) (N (ob20x12 P) (N (ob36x28 P) (N (ob68x60 P) (N (ob132x126 P) (N (ob260x256 P) (L (ob516x514 P)) E) (L (ob388x384 P))) (N (ob196x190 P) (L (ob324x320 P)) (L (ob452x450 P)))) (N (ob100x92 P) (N (ob164x158 P) (N (ob292x288 P) (L (ob548x546 P)) E) (L (ob420x418 P))) (N (ob228x222 P) (L (ob356x352 P)) (L (ob484x482 P))))) (N (ob52x44 P) (N (ob84x76 P) (N (ob148x142 P) (N (ob276x272 P) (L (ob532x530 P)) E) (L (ob404x400 P))) (N (ob212x206 P) (L (ob340x336 P)) (L (ob468x466 P)))) (N (ob116x108 P) (N (ob180x174 P) (N (ob308x304 P) (L (ob564x562 P)) E) (L (ob436x434 P))) (N (ob244x240 P) (L (ob372x368 P)) (L (ob500x498 P)))))) (N (ob28x20 P) (N (ob44x36 P) (N (ob76x68 P) (N (ob140x134 P) (N (ob268x264 P) (L (ob524x522 P)) E) (L (ob396x392 P))) (N (ob204x198 P) (L (ob332x328 P)) (L (ob460x458 P)))) (N (ob108x100 P) (N (ob172x166 P) (N (ob300x296 P) (L (ob556x554 P)) E) (L (ob428x426 P))) (N (ob236x230 P) (L (ob364x360 P)) (L (ob492x490 P))))) (N (ob60x52 P) (N (ob92x84 P) (N (ob156x150 P) (N (ob284x280 P) (L (ob540x538 P)) E) (L (ob412x410 P))) (N (ob220x214 P) (L (ob348x344 P)) (L (ob476x474 P)))) (N (ob124x118 P) (N (ob188x182 P) (L (ob316x312 P)) (L (ob444x442 P))) (N (ob252x248 P) (L (ob380x376 P)) (L (ob508x506 P)))))))) (N (PySem.W.boot_o_6 P) (N (PySem.W.boot_o_10 P) (N (ob18x10 P) (N (ob34x26 P) (N (ob66x58 P) (N (ob130x124 P) (N (ob258x254 P) (L (ob514x512 P)) E) (L (ob386x382 P))) (N (ob194x188 P) (L (ob322x318 P)) (L (ob450x448 P)))) (N (ob98x90 P) (N (ob162x156 P) (N (ob290x286 P) (L (ob546x544 P)) E) (L (ob418x416 P))) (N (ob226x220 P) (L (ob354x350 P)) (L (ob482x480 P))))) (N (ob50x42 P) (N (ob82x74 P) (N (ob146x140 P) (N (ob274x270 P) (L (ob530x528 P)) E) (L (ob402x398 P))) (N (ob210x204 P) (L (ob338x334 P)) (L (ob466x464 P)))) (N (ob114x106 P) (N (ob178x172 P) (N (ob306x302 P) (L (ob562x560 P)) E) (L (ob434x432 P))) (N (ob242x238 P) (L (ob370x366 P)) (L (ob498x496 P)))))) (N (ob26x18 P) (N (ob42x34 P) (N (ob74x66 P) (N (ob138x132 P) (N (ob266x262 P) (L (ob522x520 P)) E) (L (ob394x390 P))) (N (ob202x196 P) (L (ob330x326 P)) (L (ob458x456 P)))) (N (ob106x98 P) (N (ob170x164 P) (N (ob298x294 P) (L (ob554x552 P)) E) (L (ob426x424 P))) (N (ob234x228 P) (L (ob362x358 P)) (L (ob490x488 P))))) (N (ob58x50 P) (N (ob90x82 P) (N (ob154x148 P) (N (ob282x278 P) (L (ob538x536 P)) E) (L (ob410x406 P))) (N (ob218x212 P) (L (ob346x342 P)) (L (ob474x472 P)))) (N (ob122x116 P) (N (ob186x180 P) (L (ob314x310 P)) (L (ob442x440 P))) (N (ob250x246 P) (L (ob378x374 P)) (L (ob506x504 P))))))) (N (ob14x3 P) (N (ob22x14 P) (N (ob38x30 P) (N (ob70x62 P) (N (ob134x128 P) (N (ob262x258 P) (L (ob518x516 P)) E) (L (ob390x386 P))) (N (ob198x192 P) (L (ob326x322 P)) (L (ob454x452 P)))) (N (ob102x94 P) (N (ob166x160 P) (N (ob294x290 P) (L (ob550x548 P)) E) (L (ob422x420 P))) (N (ob230x224 P) (L (ob358x354 P)) (L (ob486x484 P))))) (N (ob54x46 P) (N (ob86x78 P) (N (ob150x144 P) (N (ob278x274 P) (L (ob534x532 P)) E) (L (ob406x402 P))) (N (ob214x208 P) (L (ob342x338 P)) (L (ob470x468 P)))) (N (ob118x110 P) (N (ob182x176 P) (L (ob310x306 P)) (L (ob438x436 P))) (N (ob246x242 P) (L (ob374x370 P)) (L (ob502x500 P)))))) (N (ob30x22 P) (N (ob46x38 P) (N (ob78x70 P) (N (ob142x136 P) (N (ob270x266 P) (L (ob526x524 P)) E) (L (ob398x394 P))) (N (ob206x200 P) (L (ob334x330 P)) (L (ob462x460 P)))) (N (ob110x102 P) (N (ob174x168 P) (N (ob302x298 P) (L (ob558x556 P)) E) (L (ob430x428 P))) (N (ob238x232 P) (L (ob366x362 P)) (L (ob494x492 P))))) (N (ob62x54 P) (N (ob94x86 P) (N (ob158x152 P) (N (ob286x282 P) (L (ob542x540 P)) E) (L (ob414x412 P))) (N (ob222x216 P) (L (ob350x346 P)) (L (ob478x476 P)))) (N (ob126x120 P) (N (ob190x184 P) (L (ob318x314 P)) (L (ob446x444 P))) (N (ob254x250 P) (L (ob382x378 P)) (L (ob510x508 P))))))))))
noncomputable def st4 (w : World) (os : OsState) : SharedT := ⟨tr4 w.params, 566, {}, #[], {}, 969, os⟩
noncomputable def ss3 : List Stmt := ((behindTheImports pwT).drop 86).take 11
theorem pq3 (w : World) : (fun os => PySem.W.Fast.tw10110043849684766642 PySem.W.Fast.tw14364793385576792824 pwT w 11 (some (.ref 6)) 1 1092 (st3 w os) (piecesOf ss3 envT cdT ⟨307, 0, 308, 79⟩ [topFrame ⟨0, 0, 0, 0⟩])) = fun os => some (Flow.next, st4 w os, cdT, ⟨380, 0, 385, 104⟩) := by kernel_rfl
theorem pc3 (w : World) (os : OsState) {N : Nat} {r : Shared} (k : topRun treeTable pwT w 11 (some (.ref 6)) N (st4 w os).abs (restOf ((behindTheImports pwT).drop 97) envT cdT ⟨380, 0, 385, 104⟩ [topFrame ⟨0, 0, 0, 0⟩]) = some r) : topRun treeTable pwT w 11 (some (.ref 6)) (1092 + N) (st3 w os).abs (restOf ((behindTheImports pwT).drop 86) envT cdT ⟨307, 0, 308, 79⟩ [topFrame ⟨0, 0, 0, 0⟩]) = some r := by
  have q : segRunT treeTable pwT w 11 (some (.ref 6)) 1 1092 (st3 w os) (piecesOf ss3 envT cdT ⟨307, 0, 308, 79⟩ [topFrame ⟨0, 0, 0, 0⟩]) = some (Flow.next, st4 w os, cdT, ⟨380, 0, 385, 104⟩) := by
    rw [PySem.W.Fast.te10110043849684766642, PySem.W.Fast.te14364793385576792824]; exact congrFun (pq3 w) os
  exact cut_piece 86 11 (segRun_of q) k
noncomputable def ob3x564 (P : Params) : Obj := nsAt (gt (kc0 P) 3) 108 108 []
noncomputable def ob12x565 (_P : Params) : Obj := ptAt [(5, 18), (12, 25), (17, 32), (19, 37), (23, 45), (26, 52), (35, 80), (37, 92), (42, 104), (44, 109), (46, 117), (61, 125), (72, 158), (79, 165), (84, 172), (93, 179), (95, 184), (98, 191), (105, 196), (115, 204), (118, 209), (122, 216), (132, 223), (136, 230), (150, 238), (168, 245), (186, 292), (188, 297), (190, 302), (193, 309), (201, 316), (208, 321), (216, 326), (223, 331), (225, 336), (239, 341), (244, 346), (260, 353), (262, 360), (265, 367), (274, 374), (284, 381), (286, 389), (294, 396), (305, 402), (307, 409), (309, 416), (321, 453), (333, 486), (345, 521), (353, 528), (357, 535), (361, 540), (363, 545), (371, 552), (374, 557), (380, 564), (386, 569), (389, 574), (396, 581), (398, 588), (402, 595), (405, 602), (408, 609), (412, 616), (419, 625), (424, 630)]
noncomputable def ob566x566 (P : Params) : Obj := gt (kc8 P) 566
noncomputable def ob567x567 (P : Params) : Obj := nilF
noncomputable def ob568x568 (P : Params) : Obj := recOf (gt (kc8 P) 570)
noncomputable def ob569x569 (P : Params) : Obj := gt (kc8 P) 569
noncomputable def ob570x570 (P : Params) : Obj := gt (kc8 P) 570
noncomputable def ob571x571 (P : Params) : Obj := gt (kc8 P) 571
noncomputable def ob572x572 (P : Params) : Obj := nilF
noncomputable def ob573x573 (P : Params) : Obj := recOf (gt (kc8 P) 575)
noncomputable def ob574x574 (P : Params) : Obj := gt (kc8 P) 574
noncomputable def ob575x575 (P : Params) : Obj := gt (kc8 P) 575
noncomputable def ob576x576 (P : Params) : Obj := gt (kc8 P) 576
noncomputable def ob577x577 (P : Params) : Obj := nilF
noncomputable def ob578x578 (P : Params) : Obj := gt (kc8 P) 578
noncomputable def ob579x579 (P : Params) : Obj := gt (kc8 P) 579
noncomputable def ob580x580 (P : Params) : Obj := recOf (gt (kc8 P) 582)
noncomputable def ob581x581 (P : Params) : Obj := gt (kc8 P) 581
noncomputable def ob582x582 (P : Params) : Obj := gt (kc8 P) 582
noncomputable def ob583x583 (P : Params) : Obj := gt (kc9 P) 583
noncomputable def ob584x584 (P : Params) : Obj := nilF
noncomputable def ob585x585 (P : Params) : Obj := gt (kc9 P) 585
noncomputable def ob586x586 (P : Params) : Obj := gt (kc9 P) 586
noncomputable def ob587x587 (P : Params) : Obj := recOf (gt (kc9 P) 589)
noncomputable def ob588x588 (P : Params) : Obj := gt (kc9 P) 588
noncomputable def ob589x589 (P : Params) : Obj := gt (kc9 P) 589
noncomputable def ob590x590 (P : Params) : Obj := gt (kc9 P) 590
noncomputable def ob591x591 (P : Params) : Obj := nilF
noncomputable def ob592x592 (P : Params) : Obj := gt (kc9 P) 592
noncomputable def ob593x593 (P : Params) : Obj := gt (kc9 P) 593
noncomputable def ob594x594 (P : Params) : Obj := recOf (gt (kc9 P) 596)
noncomputable def ob595x595 (P : Params) : Obj := gt (kc9 P) 595
noncomputable def ob596x596 (P : Params) : Obj := gt (kc9 P) 596
noncomputable def ob597x597 (P : Params) : Obj := gt (kc9 P) 597
noncomputable def ob598x598 (P : Params) : Obj := nilF
noncomputable def ob599x599 (P : Params) : Obj := gt (kc9 P) 599
noncomputable def ob600x600 (P : Params) : Obj := gt (kc9 P) 600
noncomputable def ob601x601 (P : Params) : Obj := recOf (gt (kc9 P) 603)
noncomputable def ob602x602 (P : Params) : Obj := gt (kc9 P) 602
noncomputable def ob603x603 (P : Params) : Obj := gt (kc9 P) 603
noncomputable def ob604x604 (P : Params) : Obj := gt (kc9 P) 604
noncomputable def ob605x605 (P : Params) : Obj := nilF
noncomputable def ob606x606 (P : Params) : Obj := gt (kc9 P) 606
noncomputable def ob607x607 (P : Params) : Obj := gt (kc9 P) 607
noncomputable def ob608x608 (P : Params) : Obj := recOf (gt (kc9 P) 610)
noncomputable def ob609x609 (P : Params) : Obj := gt (kc9 P) 609
noncomputable def ob610x610 (P : Params) : Obj := gt (kc9 P) 610
noncomputable def ob611x611 (P : Params) : Obj := gt (kc9 P) 611
noncomputable def ob612x612 (P : Params) : Obj := nilF
noncomputable def ob613x613 (P : Params) : Obj := gt (kc9 P) 613
noncomputable def ob614x614 (P : Params) : Obj := gt (kc9 P) 614
noncomputable def ob615x615 (P : Params) : Obj := recOf (gt (kc9 P) 617)
noncomputable def ob616x616 (P : Params) : Obj := gt (kc9 P) 616
noncomputable def ob617x617 (P : Params) : Obj := gt (kc9 P) 617
noncomputable def ob618x618 (P : Params) : Obj := gt (kc9 P) 618
noncomputable def ob619x619 (P : Params) : Obj := gt (kc9 P) 619
noncomputable def ob620x620 (P : Params) : Obj := gt (kc9 P) 620
noncomputable def ob621x621 (P : Params) : Obj := nilF
noncomputable def ob622x622 (P : Params) : Obj := gt (kc9 P) 622
noncomputable def ob623x623 (P : Params) : Obj := gt (kc9 P) 623
noncomputable def ob624x624 (P : Params) : Obj := recOf (gt (kc9 P) 626)
noncomputable def ob625x625 (P : Params) : Obj := gt (kc9 P) 625
noncomputable def ob626x626 (P : Params) : Obj := gt (kc9 P) 626
noncomputable def ob627x627 (P : Params) : Obj := gt (kc9 P) 627
noncomputable def ob628x628 (P : Params) : Obj := nilF
noncomputable def ob629x629 (P : Params) : Obj := recOf (gt (kc9 P) 631)
noncomputable def ob630x630 (P : Params) : Obj := gt (kc9 P) 630
noncomputable def ob631x631 (P : Params) : Obj := gt (kc9 P) 631
noncomputable def tr5 (P : Params) : BT := (N (PySem.W.boot_o_0 P) (N (PySem.W.boot_o_1 P) (N (ob3x564 P) (N (PySem.W.boot_o_7 P) (N (ob15x7 P) (N (ob31x23 P) (N (ob63x55 P) (N (ob127x121 P) (N (ob255x251 P) (L (ob511x509 P)) E) (L (ob383x379 P))) (N (ob191x185 P) (N (ob319x315 P) (L (ob575x575 P)) E) (L (ob447x445 P)))) (N (ob95x87 P) (N (ob159x153 P) (N (ob287x283 P) (L (ob543x541 P)) E) (L (ob415x413 P))) (N (ob223x217 P) (N (ob351x347 P) (L (ob607x607 P)) E) (L (ob479x477 P))))) (N (ob47x39 P) (N (ob79x71 P) (N (ob143x137 P) (N (ob271x267 P) (L (ob527x525 P)) E) (L (ob399x395 P))) (N (ob207x201 P) (N (ob335x331 P) (L (ob591x591 P)) E) (L (ob463x461 P)))) (N (ob111x103 P) (N (ob175x169 P) (N (ob303x299 P) (L (ob559x557 P)) E) (L (ob431x429 P))) (N (ob239x233 P) (N (ob367x363 P) (L (ob623x623 P)) E) (L (ob495x493 P)))))) (N (ob23x15 P) (N (ob39x31 P) (N (ob71x63 P) (N (ob135x129 P) (N (ob263x259 P) (L (ob519x517 P)) E) (L (ob391x387 P))) (N (ob199x193 P) (N (ob327x323 P) (L (ob583x583 P)) E) (L (ob455x453 P)))) (N (ob103x95 P) (N (ob167x161 P) (N (ob295x291 P) (L (ob551x549 P)) E) (L (ob423x421 P))) (N (ob231x225 P) (N (ob359x355 P) (L (ob615x615 P)) E) (L (ob487x485 P))))) (N (ob55x47 P) (N (ob87x79 P) (N (ob151x145 P) (N (ob279x275 P) (L (ob535x533 P)) E) (L (ob407x403 P))) (N (ob215x209 P) (N (ob343x339 P) (L (ob599x599 P)) E) (L (ob471x469 P)))) (N (ob119x111 P) (N (ob183x177 P) (N (ob311x307 P) (L (ob567x567 P)) E) (L (ob439x437 P))) (N (ob247x243 P) (N (ob375x371 P) (L (ob631x631 P)) E) (L (ob503x501 P))))))) (N (ob11x0 P) (N (ob19x11 P) (N (ob35x27 P) (N (ob67x59 P) (N (ob131x125 P) (N (ob259x255 P) (L (ob515x513 P)) E) (L (ob387x383 P))) (N (ob195x189 P) (N (ob323x319 P) (L (ob579x579 P)) E) (L (ob451x449 P)))) (N (ob99x91 P) (N (ob163x157 P) (N (ob291x287 P) (L (ob547x545 P)) E) (L (ob419x417 P))) (N (ob227x221 P) (N (ob355x351 P) (L (ob611x611 P)) E) (L (ob483x481 P))))) (N (ob51x43 P) (N (ob83x75 P) (N (ob147x141 P) (N (ob275x271 P) (L (ob531x529 P)) E) (L (ob403x399 P))) (N (ob211x205 P) (N (ob339x335 P) (L (ob595x595 P)) E) (L (ob467x465 P)))) (N (ob115x107 P) (N (ob179x173 P) (N (ob307x303 P) (L (ob563x561 P)) E) (L (ob435x433 P))) (N (ob243x239 P) (N (ob371x367 P) (L (ob627x627 P)) E) (L (ob499x497 P)))))) (N (ob27x19 P) (N (ob43x35 P) (N (ob75x67 P) (N (ob139x133 P) (N (ob267x263 P) (L (ob523x521 P)) E) (L (ob395x391 P))) (N (ob203x197 P) (N (ob331x327 P) (L (ob587x587 P)) E) (L (ob459x457 P)))) (N (ob107x99 P) (N (ob171x165 P) (N (ob299x295 P) (L (ob555x553 P)) E) (L (ob427x425 P))) (N (ob235x229 P) (N (ob363x359 P) (L (ob619x619 P)) E) (L (ob491x489 P))))) (N (ob59x51 P) (N (ob91x83 P) (N (ob155x149 P) (N (ob283x279 P) (L (ob539x537 P)) E) (L (ob411x409 P))) (N (ob219x213 P) (N (ob347x343 P) (L (ob603x603 P)) E) (L (ob475x473 P)))) (N (ob123x117 P) (N (ob187x181 P) (N (ob315x311 P) (L (ob571x571 P)) E) (L (ob443x441 P))) (N (ob251x247 P) (L (ob379x375 P)) (L (ob507x505 P)))))))) (N (PySem.W.boot_o_5 P) (N (PySem.W.boot_o_9 P) (N (ob17x9 P) (N (ob33x25 P) (N (ob65x57 P) (N (ob129x123 P) (N (ob257x253 P) (L (ob513x511 P)) E) (L (ob385x381 P))) (N (ob193x187 P) (N (ob321x317 P) (L (ob577x577 P)) E) (L (ob449x447 P)))) (N (ob97x89 P) (N (ob161x155 P) (N (ob289x285 P) (L (ob545x543 P)) E) (L (ob417x415 P))) (N (ob225x219 P) (N (ob353x349 P) (L (ob609x609 P)) E) (L (ob481x479 P))))) (N (ob49x41 P) (N (ob81x73 P) (N (ob145x139 P) (N (ob273x269 P) (L (ob529x527 P)) E) (L (ob401x397 P))) (N (ob209x203 P) (N (ob337x333 P) (L (ob593x593 P)) E) (L (ob465x463 P)))) (N (ob113x105 P) (N (ob177x171 P) (N (ob305x301 P) (L (ob561x559 P)) E) (L (ob433x431 P))) (N (ob241x237 P) (N (ob369x365 P) (L (ob625x625 P)) E) (L (ob497x495 P)))))) (N (ob25x17 P) (N (ob41x33 P) (N (ob73x65 P) (N (ob137x131 P) (N (ob265x261 P) (L (ob521x519 P)) E) (L (ob393x389 P))) (N (ob201x195 P) (N (ob329x325 P) (L (ob585x585 P)) E) (L (ob457x455 P)))) (N (ob105x97 P) (N (ob169x163 P) (N (ob297x293 P) (L (ob553x551 P)) E) (L (ob425x423 P))) (N (ob233x227 P) (N (ob361x357 P) (L (ob617x617 P)) E) (L (ob489x487 P))))) (N (ob57x49 P) (N (ob89x81 P) (N (ob153x147 P) (N (ob281x277 P) (L (ob537x535 P)) E) (L (ob409x405 P))) (N (ob217x211 P) (N (ob345x341 P) (L (ob601x601 P)) E) (L (ob473x471 P)))) (N (ob121x115 P) (N (ob185x179 P) (N (ob313x309 P) (L (ob569x569 P)) E) (L (ob441x439 P))) (N (ob249x245 P) (L (ob377x373 P)) (L (ob505x503 P))))))) (N (ob13x2 P) (N (ob21x13 P) (N (ob37x29 P) (N (ob69x61 P) (N (ob133x127 P) (N (ob261x257 P) (L (ob517x515 P)) E) (L (ob389x385 P))) (N (ob197x191 P) (N (ob325x321 P) (L (ob581x581 P)) E) (L (ob453x451 P)))) (N (ob101x93 P) (N (ob165x159 P) (N (ob293x289 P) (L (ob549x547 P)) E) (L (ob421x419 P))) (N (ob229x223 P) (N (ob357x353 P) (L (ob613x613 P)) E) (L (ob485x483 P))))) (N (ob53x45 P) (N (ob85x77 P) (N (ob149x143 P) (N (ob277x273 P) (L (ob533x531 P)) E) (L (ob405x401 P))) (N (ob213x207 P) (N (ob341x337 P) (L (ob597x597 P)) E) (L (ob469x467 P)))) (N (ob117x109 P) (N (ob181x175 P) (N (ob309x305 P) (L (ob565x563 P)) E) (L (ob437x435 P))) (N (ob245x241 P) (N (ob373x369 P) (L (ob629x629 P)) E) (L (ob501x499 P)))))) (N (ob29x21 P) (N (ob45x37 P) (N (ob77x69 P) (N (ob141x135 P) (N (ob269x265 P) (L (ob525x523 P)) E) (L (ob397x393 P))) (N (ob205x199 P) (N (ob333x329 P) (L (ob589x589 P)) E) (L (ob461x459 P)))) (N (ob109x101 P) (N (ob173x167 P) (N (ob301x297 P) (L (ob557x555 P)) E) (L (ob429x427 P))) (N (ob237x231 P) (N (ob365x361 P) (L (ob621x621 P)) E) (L (ob493x491 P))))) (N (ob61x53 P) (N (ob93x85 P) (N (ob157x151 P) (N (ob285x281 P) (L (ob541x539 P)) E) (L (ob413x411 P))) (N (ob221x215 P) (N (ob349x345 P) (L (ob605x605 P)) E) (L (ob477x475 P)))) (N (ob125x119 P) (N (ob189x183 P) (N (ob317x313 P) (L (ob573x573 P)) E) (L (ob445x443 P))) (N (ob253x249 P) (L (ob381x377 P)) (L (ob509x507 P))))))))) (N (ob2x4 P) (N (PySem.W.boot_o_4 P) (N (PySem.W.boot_o_8 P) (N (ob16x8 P) (N (ob32x24 P) (N (ob64x56 P) (N (ob128x122 P) (N (ob256x252 P) (L (ob512x510 P)) E) (L (ob384x380 P))) (N (ob192x186 P) (N (ob320x316 P) (L (ob576x576 P)) E) (L (ob448x446 P)))) (N (ob96x88 P) (N (ob160x154 P) (N (ob288x284 P) (L (ob544x542 P)) E) (L (ob416x414 P))) (N (ob224x218 P) (N (ob352x348 P) (L (ob608x608 P)) E) (L (ob480x478 P))))) (N (ob48x40 P) (N (ob80x72 P) (N (ob144x138 P) (N (ob272x268 P) (L (ob528x526 P)) E) (L (ob400x396 P))) (N (ob208x202 P) (N (ob336x332 P) (L (ob592x592 P)) E) (L (ob464x462 P)))) (N (ob112x104 P) (N (ob176x170 P) (N (ob304x300 P) (L (ob560x558 P)) E) (L (ob432x430 P))) (N (ob240x236 P) (N (ob368x364 P) (L (ob624x624 P)) E) (L (ob496x494 P)))))) (N (ob24x16 P) (N (ob40x32 P) (N (ob72x64 P) (N (ob136x130 P) (N (ob264x260 P) (L (ob520x518 P)) E) (L (ob392x388 P))) (N (ob200x194 P) (N (ob328x324 P) (L (ob584x584 P)) E) (L (ob456x454 P)))) (N (ob104x96 P) (N (ob168x162 P) (N (ob296x292 P) (L (ob552x550 P)) E) (L (ob424x422 P))) (N (ob232x226 P) (N (ob360x356 P) (L (ob616x616 P)) E) (L (ob488x486 P))))) (N (ob56x48 P) (N (ob88x80 P) (N (ob152x146 P) (N (ob280x276 P) (L (ob536x534 P)) E) (L (ob408x404 P))) (N (ob216x210 P) (N (ob344x340 P) (L (ob600x600 P)) E) (L (ob472x470 P)))) (N (ob120x114 P) (N (ob184x178 P) (N (ob312x308 P) (L (ob568x568 P)) E) (L (ob440x438 P))) (N (ob248x244 P) (L (ob376x372 P)) (L (ob504x502 P))))))) (N (ob12x565 P) (N (ob20x12 P) (N (ob36x28 P) (N (ob68x60 P) (N (ob132x126 P) (N (ob260x256 P) (L (ob516x514 P)) E) (L (ob388x384 P))) (N (ob196x190 P) (N (ob324x320 P) (L (ob580x580 P)) E) (L (ob452x450 P)))) (N (ob100x92 P) (N (ob164x158 P) (N (ob292x288 P) (L (ob548x546 P)) E) (L (ob420x418 P))) (N (ob228x222 P) (N (ob356x352 P) (L (ob612x612 P)) E) (L (ob484x482 P))))) (N (ob52x44 P) (N (ob84x76 P) (N (ob148x142 P) (N (ob276x272 P) (L (ob532x530 P)) E) (L (ob404x400 P))) (N (ob212x206 P) (N (ob340x336 P) (L (ob596x596 P)) E) (L (ob468x466 P)))) (N (ob116x108 P) (N (ob180x174 P) (N (ob308x304 P) (L (ob564x562 P)) E) (L (ob436x434 P))) (N (ob244x240 P) (N (ob372x368 P) (L (ob628x628 P)) E) (L (ob500x498 P)))))) (N (ob28x20 P) (N (ob44x36 P) (N (ob76x68 P) (N (ob140x134 P) (N (ob268x264 P) (L (ob524x522 P)) E) (L (ob396x392 P))) (N (ob204x198 P) (N (ob332x328 P) (L (ob588x588 P)) E) (L (ob460x458 P)))) (N (ob108x100 P) (N (ob172x166 P) (N (ob300x296 P) (L (ob556x554 P)) E) (L (ob428x426 P))) (N (ob236x230 P) (N (ob364x360 P) (L (ob620x620 P)) E) (L (ob492x490 P))))) (N (ob60x52 P) (N (ob92x84 P) (N (ob156x150 P) (N (ob284x280 P) (L (ob540x538 P)) E) (L (ob412x410 P))) (N (ob220x214 P) (N (ob348x344 P) (L (ob604x604 P)) E) (L (ob476x474 P)))) (N (ob124x118 P) (N (ob188x182 P) (N (ob316x312 P) (L (ob572x572 P)) E) (L (ob444x442 P))) (N (ob252x248 P) (L (ob380x376 P)) (L (ob508x506 P)))))))) (N (PySem.W.boot_o_6 P) (N (PySem.W.boot_o_10 P) (N (ob18x10 P) (N (ob34x26 P) (N (ob66x58 P) (N (ob130x124 P) (N (ob258x254 P) (L (ob514x512 P)) E) (L (ob386x382 P))) (N (ob194x188 P) (N (ob322x318 P) (L (ob578x578 P)) E) (L (ob450x448 P)))) (N (ob98x90 P) (N (ob162x156 P) (N (ob290x286 P) (L (ob546x544 P)) E) (L (ob418x416 P))) (N (ob226x220 P) (N (ob354x350 P) (L (ob610x610 P)) E) (L (ob482x480 P))))) (N (ob50x42 P) (N (ob82x74 P) (N (ob146x140 P) (N (ob274x270 P) (L (ob530x528 P)) E) (L (ob402x398 P))) (N (ob210x204 P) (N (ob338x334 P) (L (ob594x594 P)) E) (L (ob466x464 P)))) (N (ob114x106 P) (N (ob178x172 P) (N (ob306x302 P) (L (ob562x560 P)) E) (L (ob434x432 P))) (N (ob242x238 P) (N (ob370x366 P) (L (ob626x626 P)) E) (L (ob498x496 P)))))) (N (ob26x18 P) (N (ob42x34 P) (N (ob74x66 P) (N (ob138x132 P) (N (ob266x262 P) (L (ob522x520 P)) E) (L (ob394x390 P))) (N (ob202x196 P) (N (ob330x326 P) (L (ob586x586 P)) E) (L (ob458x456 P)))) (N (ob106x98 P) (N (ob170x164 P) (N (ob298x294 P) (L (ob554x552 P)) E) (L (ob426x424 P))) (N (ob234x228 P) (N (ob362x358 P) (L (ob618x618 P)) E) (L (ob490x488 P))))) (N (ob58x50 P) (N (ob90x82 P) (N (ob154x148 P) (N (ob282x278 P) (L (ob538x536 P)) E) (L (ob410x406 P))) (N (ob218x212 P) (N (ob346x342 P) (L (ob602x602 P)) E) (L (ob474x472 P)))) (N (ob122x116 P) (N (ob186x180 P) (N (ob314x310 P) (L (ob570x570 P)) E) (L (ob442x440 P))) (N (ob250x246 P) (L (ob378x374 P)) (L (ob506x504 P))))))) (N (ob14x3 P) (N (ob22x14 P) (N (ob38x30 P) (N (ob70x62 P) (N (ob134x128 P) (N (ob262x258 P) (L (ob518x516 P)) E) (L (ob390x386 P))) (N (ob198x192 P) (N (ob326x322 P) (L (ob582x582 P)) E) (L (ob454x452 P)))) (N (ob102x94 P) (N (ob166x160 P) (N (ob294x290 P) (L (ob550x548 P)) E) (L (ob422x420 P))) (N (ob230x224 P) (N (ob358x354 P) (L (ob614x614 P)) E) (L (ob486x484 P))))) (N (ob54x46 P) (N (ob86x78 P) (N (ob150x144 P) (N (ob278x274 P) (L (ob534x532 P)) E) (L (ob406x402 P))) (N (ob214x208 P) (N (ob342x338 P) (L (ob598x598 P)) E) (L (ob470x468 P)))) (N (ob118x110 P) (N (ob182x176 P) (N (ob310x306 P) (L (ob566x566 P)) E) (L (ob438x436 P))) (N (ob246x242 P) (N (ob374x370 P) (L (ob630x630 P)) E) (L (ob502x500 P)))))) (N (ob30x22 P) (N (ob46x38 P) (N (ob78x70 P) (N (ob142x136 P) (N (ob270x266 P) (L (ob526x524 P)) E) (L (ob398x394 P))) (N (ob206x200 P) (N (ob334x330 P) (L (ob590x590 P)) E) (L (ob462x460 P)))) (N (ob110x102 P) (N (ob174x168 P) (N (ob302x298 P) (L (ob558x556 P)) E) (L (ob430x428 P))) (N (ob238x232 P) (N (ob366x362 P) (L (ob622x622 P)) E) (L (ob494x492 P))))) (N (ob62x54 P) (N (ob94x86 P) (N (ob158x152 P) (N (ob286x282 P) (L (ob542x540 P)) E) (L (ob414x412 P))) (N (ob222x216 P) (N (ob350x346 P) (L (ob606x606 P)) E) (L (ob478x476 P)))) (N (ob126x120 P) (N (ob190x184 P) (N (ob318x314 P) (L (ob574x574 P)) E) (L (ob446x444 P))) (N (ob254x250 P) (L (ob382x378 P)) (L (ob510x508 P))))))))))
noncomputable def st5 (w : World) (os : OsState) : SharedT := ⟨tr5 w.params, 632, {}, #[], {}, 1061, os⟩
noncomputable def ss4 : List Stmt := ((behindTheImports pwT).drop 97).take 13
theorem pq4 (w : World) : (fun os => PySem.W.Fast.tw10110043849684766642 PySem.W.Fast.tw14364793385576792824 pwT w 11 (some (.ref 6)) 1 332 (st4 w os) (piecesOf ss4 envT cdT ⟨380, 0, 385, 104⟩ [topFrame ⟨0, 0, 0, 0⟩])) = fun os => some (Flow.next, st5 w os, cdT, ⟨424, 0, 452, 15⟩) := by kernel_rfl
theorem pc4 (w : World) (os : OsState) {N : Nat} {r : Shared} (k : topRun treeTable pwT w 11 (some (.ref 6)) N (st5 w os).abs (restOf ((behindTheImports pwT).drop 110) envT cdT ⟨424, 0, 452, 15⟩ [topFrame ⟨0, 0, 0, 0⟩]) = some r) : topRun treeTable pwT w 11 (some (.ref 6)) (332 + N) (st4 w os).abs (restOf ((behindTheImports pwT).drop 97) envT cdT ⟨380, 0, 385, 104⟩ [topFrame ⟨0, 0, 0, 0⟩]) = some r := by
  have q : segRunT treeTable pwT w 11 (some (.ref 6)) 1 332 (st4 w os) (piecesOf ss4 envT cdT ⟨380, 0, 385, 104⟩ [topFrame ⟨0, 0, 0, 0⟩]) = some (Flow.next, st5 w os, cdT, ⟨424, 0, 452, 15⟩) := by
    rw [PySem.W.Fast.te10110043849684766642, PySem.W.Fast.te14364793385576792824]; exact congrFun (pq4 w) os
  exact cut_piece 97 13 (segRun_of q) k
noncomputable def hpF (P : Params) : Heap := ⟨#[PySem.W.boot_o_0 P, PySem.W.boot_o_1 P, ob2x4 P, ob3x564 P, PySem.W.boot_o_4 P, PySem.W.boot_o_5 P, PySem.W.boot_o_6 P, PySem.W.boot_o_7 P, PySem.W.boot_o_8 P, PySem.W.boot_o_9 P, PySem.W.boot_o_10 P, ob11x0 P, ob12x565 P, ob13x2 P, ob14x3 P, ob15x7 P, ob16x8 P, ob17x9 P, ob18x10 P, ob19x11 P, ob20x12 P, ob21x13 P, ob22x14 P, ob23x15 P, ob24x16 P, ob25x17 P, ob26x18 P, ob27x19 P, ob28x20 P, ob29x21 P, ob30x22 P, ob31x23 P, ob32x24 P, ob33x25 P, ob34x26 P, ob35x27 P, ob36x28 P, ob37x29 P, ob38x30 P, ob39x31 P, ob40x32 P, ob41x33 P, ob42x34 P, ob43x35 P, ob44x36 P, ob45x37 P, ob46x38 P, ob47x39 P, ob48x40 P, ob49x41 P, ob50x42 P, ob51x43 P, ob52x44 P, ob53x45 P, ob54x46 P, ob55x47 P, ob56x48 P, ob57x49 P, ob58x50 P, ob59x51 P, ob60x52 P, ob61x53 P, ob62x54 P, ob63x55 P, ob64x56 P, ob65x57 P, ob66x58 P, ob67x59 P, ob68x60 P, ob69x61 P, ob70x62 P, ob71x63 P, ob72x64 P, ob73x65 P, ob74x66 P, ob75x67 P, ob76x68 P, ob77x69 P, ob78x70 P, ob79x71 P, ob80x72 P, ob81x73 P, ob82x74 P, ob83x75 P, ob84x76 P, ob85x77 P, ob86x78 P, ob87x79 P, ob88x80 P, ob89x81 P, ob90x82 P, ob91x83 P, ob92x84 P, ob93x85 P, ob94x86 P, ob95x87 P, ob96x88 P, ob97x89 P, ob98x90 P, ob99x91 P, ob100x92 P, ob101x93 P, ob102x94 P, ob103x95 P, ob104x96 P, ob105x97 P, ob106x98 P, ob107x99 P, ob108x100 P, ob109x101 P, ob110x102 P, ob111x103 P, ob112x104 P, ob113x105 P, ob114x106 P, ob115x107 P, ob116x108 P, ob117x109 P, ob118x110 P, ob119x111 P, ob120x114 P, ob121x115 P, ob122x116 P, ob123x117 P, ob124x118 P, ob125x119 P, ob126x120 P, ob127x121 P, ob128x122 P, ob129x123 P, ob130x124 P, ob131x125 P, ob132x126 P, ob133x127 P, ob134x128 P, ob135x129 P, ob136x130 P, ob137x131 P, ob138x132 P, ob139x133 P, ob140x134 P, ob141x135 P, ob142x136 P, ob143x137 P, ob144x138 P, ob145x139 P, ob146x140 P, ob147x141 P, ob148x142 P, ob149x143 P, ob150x144 P, ob151x145 P, ob152x146 P, ob153x147 P, ob154x148 P, ob155x149 P, ob156x150 P, ob157x151 P, ob158x152 P, ob159x153 P, ob160x154 P, ob161x155 P, ob162x156 P, ob163x157 P, ob164x158 P, ob165x159 P, ob166x160 P, ob167x161 P, ob168x162 P, ob169x163 P, ob170x164 P, ob171x165 P, ob172x166 P, ob173x167 P, ob174x168 P, ob175x169 P, ob176x170 P, ob177x171 P, ob178x172 P, ob179x173 P, ob180x174 P, ob181x175 P, ob182x176 P, ob183x177 P, ob184x178 P, ob185x179 P, ob186x180 P, ob187x181 P, ob188x182 P, ob189x183 P, ob190x184 P, ob191x185 P, ob192x186 P, ob193x187 P, ob194x188 P, ob195x189 P, ob196x190 P, ob197x191 P, ob198x192 P, ob199x193 P, ob200x194 P, ob201x195 P, ob202x196 P, ob203x197 P, ob204x198 P, ob205x199 P, ob206x200 P, ob207x201 P, ob208x202 P, ob209x203 P, ob210x204 P, ob211x205 P, ob212x206 P, ob213x207 P, ob214x208 P, ob215x209 P, ob216x210 P, ob217x211 P, ob218x212 P, ob219x213 P, ob220x214 P, ob221x215 P, ob222x216 P, ob223x217 P, ob224x218 P, ob225x219 P, ob226x220 P, ob227x221 P, ob228x222 P, ob229x223 P, ob230x224 P, ob231x225 P, ob232x226 P, ob233x227 P, ob234x228 P, ob235x229 P, ob236x230 P, ob237x231 P, ob238x232 P, ob239x233 P, ob240x236 P, ob241x237 P, ob242x238 P, ob243x239 P, ob244x240 P, ob245x241 P, ob246x242 P, ob247x243 P, ob248x244 P, ob249x245 P, ob250x246 P, ob251x247 P, ob252x248 P, ob253x249 P, ob254x250 P, ob255x251 P, ob256x252 P, ob257x253 P, ob258x254 P, ob259x255 P, ob260x256 P, ob261x257 P, ob262x258 P, ob263x259 P, ob264x260 P, ob265x261 P, ob266x262 P, ob267x263 P, ob268x264 P, ob269x265 P, ob270x266 P, ob271x267 P, ob272x268 P, ob273x269 P, ob274x270 P, ob275x271 P, ob276x272 P, ob277x273 P, ob278x274 P, ob279x275 P, ob280x276 P, ob281x277 P, ob282x278 P, ob283x279 P, ob284x280 P, ob285x281 P, ob286x282 P, ob287x283 P, ob288x284 P, ob289x285 P, ob290x286 P, ob291x287 P, ob292x288 P, ob293x289 P, ob294x290 P, ob295x291 P, ob296x292 P, ob297x293 P, ob298x294 P, ob299x295 P, ob300x296 P, ob301x297 P, ob302x298 P, ob303x299 P, ob304x300 P, ob305x301 P, ob306x302 P, ob307x303 P, ob308x304 P, ob309x305 P, ob310x306 P, ob311x307 P, ob312x308 P, ob313x309 P, ob314x310 P, ob315x311 P, ob316x312 P, ob317x313 P, ob318x314 P, ob319x315 P, ob320x316 P, ob321x317 P, ob322x318 P, ob323x319 P, ob324x320 P, ob325x321 P, ob326x322 P, ob327x323 P, ob328x324 P, ob329x325 P, ob330x326 P, ob331x327 P, ob332x328 P, ob333x329 P, ob334x330 P, ob335x331 P, ob336x332 P, ob337x333 P, ob338x334 P, ob339x335 P, ob340x336 P, ob341x337 P, ob342x338 P, ob343x339 P, ob344x340 P, ob345x341 P, ob346x342 P, ob347x343 P, ob348x344 P, ob349x345 P, ob350x346 P, ob351x347 P, ob352x348 P, ob353x349 P, ob354x350 P, ob355x351 P, ob356x352 P, ob357x353 P, ob358x354 P, ob359x355 P, ob360x356 P, ob361x357 P, ob362x358 P, ob363x359 P, ob364x360 P, ob365x361 P, ob366x362 P, ob367x363 P, ob368x364 P, ob369x365 P, ob370x366 P, ob371x367 P, ob372x368 P, ob373x369 P, ob374x370 P, ob375x371 P, ob376x372 P, ob377x373 P, ob378x374 P, ob379x375 P, ob380x376 P, ob381x377 P, ob382x378 P, ob383x379 P, ob384x380 P, ob385x381 P, ob386x382 P, ob387x383 P, ob388x384 P, ob389x385 P, ob390x386 P, ob391x387 P, ob392x388 P, ob393x389 P, ob394x390 P, ob395x391 P, ob396x392 P, ob397x393 P, ob398x394 P, ob399x395 P, ob400x396 P, ob401x397 P, ob402x398 P, ob403x399 P, ob404x400 P, ob405x401 P, ob406x402 P, ob407x403 P, ob408x404 P, ob409x405 P, ob410x406 P, ob411x409 P, ob412x410 P, ob413x411 P, ob414x412 P, ob415x413 P, ob416x414 P, ob417x415 P, ob418x416 P, ob419x417 P, ob420x418 P, ob421x419 P, ob422x420 P, ob423x421 P, ob424x422 P, ob425x423 P, ob426x424 P, ob427x425 P, ob428x426 P, ob429x427 P, ob430x428 P, ob431x429 P, ob432x430 P, ob433x431 P, ob434x432 P, ob435x433 P, ob436x434 P, ob437x435 P, ob438x436 P, ob439x437 P, ob440x438 P, ob441x439 P, ob442x440 P, ob443x441 P, ob444x442 P, ob445x443 P, ob446x444 P, ob447x445 P, ob448x446 P, ob449x447 P, ob450x448 P, ob451x449 P, ob452x450 P, ob453x451 P, ob454x452 P, ob455x453 P, ob456x454 P, ob457x455 P, ob458x456 P, ob459x457 P, ob460x458 P, ob461x459 P, ob462x460 P, ob463x461 P, ob464x462 P, ob465x463 P, ob466x464 P, ob467x465 P, ob468x466 P, ob469x467 P, ob470x468 P, ob471x469 P, ob472x470 P, ob473x471 P, ob474x472 P, ob475x473 P, ob476x474 P, ob477x475 P, ob478x476 P, ob479x477 P, ob480x478 P, ob481x479 P, ob482x480 P, ob483x481 P, ob484x482 P, ob485x483 P, ob486x484 P, ob487x485 P, ob488x486 P, ob489x487 P, ob490x488 P, ob491x489 P, ob492x490 P, ob493x491 P, ob494x492 P, ob495x493 P, ob496x494 P, ob497x495 P, ob498x496 P, ob499x497 P, ob500x498 P, ob501x499 P, ob502x500 P, ob503x501 P, ob504x502 P, ob505x503 P, ob506x504 P, ob507x505 P, ob508x506 P, ob509x507 P, ob510x508 P, ob511x509 P, ob512x510 P, ob513x511 P, ob514x512 P, ob515x513 P, ob516x514 P, ob517x515 P, ob518x516 P, ob519x517 P, ob520x518 P, ob521x519 P, ob522x520 P, ob523x521 P, ob524x522 P, ob525x523 P, ob526x524 P, ob527x525 P, ob528x526 P, ob529x527 P, ob530x528 P, ob531x529 P, ob532x530 P, ob533x531 P, ob534x532 P, ob535x533 P, ob536x534 P, ob537x535 P, ob538x536 P, ob539x537 P, ob540x538 P, ob541x539 P, ob542x540 P, ob543x541 P, ob544x542 P, ob545x543 P, ob546x544 P, ob547x545 P, ob548x546 P, ob549x547 P, ob550x548 P, ob551x549 P, ob552x550 P, ob553x551 P, ob554x552 P, ob555x553 P, ob556x554 P, ob557x555 P, ob558x556 P, ob559x557 P, ob560x558 P, ob561x559 P, ob562x560 P, ob563x561 P, ob564x562 P, ob565x563 P, ob566x566 P, ob567x567 P, ob568x568 P, ob569x569 P, ob570x570 P, ob571x571 P, ob572x572 P, ob573x573 P, ob574x574 P, ob575x575 P, ob576x576 P, ob577x577 P, ob578x578 P, ob579x579 P, ob580x580 P, ob581x581 P, ob582x582 P, ob583x583 P, ob584x584 P, ob585x585 P, ob586x586 P, ob587x587 P, ob588x588 P, ob589x589 P, ob590x590 P, ob591x591 P, ob592x592 P, ob593x593 P, ob594x594 P, ob595x595 P, ob596x596 P, ob597x597 P, ob598x598 P, ob599x599 P, ob600x600 P, ob601x601 P, ob602x602 P, ob603x603 P, ob604x604 P, ob605x605 P, ob606x606 P, ob607x607 P, ob608x608 P, ob609x609 P, ob610x610 P, ob611x611 P, ob612x612 P, ob613x613 P, ob614x614 P, ob615x615 P, ob616x616 P, ob617x617 P, ob618x618 P, ob619x619 P, ob620x620 P, ob621x621 P, ob622x622 P, ob623x623 P, ob624x624 P, ob625x625 P, ob626x626 P, ob627x627 P, ob628x628 P, ob629x629 P, ob630x630 P, ob631x631 P], {}⟩
noncomputable abbrev asK : List Addr := [2, 3, 15, 18, 19, 20, 22, 23, 25, 26, 27, 29, 30, 32, 33, 34, 37, 38, 39, 40, 42, 43, 45, 46, 47, 54, 55, 57, 58, 60, 61, 62, 64, 65, 67, 68, 69, 70, 71, 72, 75, 82, 83, 84, 87, 94, 95, 96, 99, 101, 102, 104, 105, 106, 109, 110, 111, 112, 114, 115, 117, 118, 119, 127, 129, 130, 132, 133, 134, 137, 138, 139, 141, 142, 144, 145, 146, 147, 148, 149, 150, 153, 155, 156, 158, 159, 160, 162, 163, 165, 166, 167, 169, 170, 172, 173, 174, 176, 177, 179, 180, 181, 184, 185, 186, 188, 189, 191, 192, 193, 196, 197, 198, 199, 201, 202, 204, 205, 206, 209, 210, 211, 213, 214, 216, 217, 218, 220, 221, 223, 224, 225, 227, 228, 230, 231, 232, 233, 235, 236, 238, 239, 247, 249, 250, 252, 253, 254, 257, 258, 259, 261, 262, 264, 265, 266, 268, 269, 271, 272, 273, 275, 276, 278, 279, 280, 281, 282, 283, 284, 287, 289, 290, 292, 293, 294, 297, 298, 299, 302, 303, 304, 306, 307, 309, 310, 311, 313, 314, 316, 317, 318, 321, 322, 323, 326, 327, 328, 331, 332, 333, 336, 337, 338, 341, 342, 343, 346, 347, 348, 350, 351, 353, 354, 355, 357, 358, 360, 361, 362, 364, 365, 367, 368, 369, 371, 372, 374, 375, 376, 378, 379, 381, 382, 383, 384, 386, 387, 389, 390, 391, 393, 394, 396, 397, 398, 399, 402, 403, 404, 406, 407, 409, 410, 418, 419, 420, 422, 423, 425, 426, 427, 429, 430, 432, 433, 434, 436, 437, 439, 440, 441, 442, 443, 444, 445, 455, 456, 457, 459, 460, 462, 463, 464, 467, 468, 469, 472, 473, 474, 475, 476, 477, 478, 488, 489, 490, 492, 493, 495, 496, 497, 499, 500, 502, 503, 504, 506, 507, 509, 510, 511, 512, 513, 514, 515, 518, 521, 522, 523, 525, 526, 528, 529, 530, 532, 533, 535, 536, 537, 540, 541, 542, 545, 546, 547, 549, 550, 552, 553, 554, 557, 558, 559, 561, 562, 564, 565, 566, 569, 570, 571, 574, 575, 576, 578, 579, 581, 582, 583, 585, 586, 588, 589, 590, 592, 593, 595, 596, 597, 599, 600, 602, 603, 604, 606, 607, 609, 610, 611, 613, 614, 616, 617, 618, 619, 620, 622, 623, 625, 626, 627, 630, 631]

noncomputable abbrev looseL : List Str := [Str.ofString "encoded", Str.ofString "PostError", Str.ofString "line_spans", Str.ofString "CHARSETS", Str.ofString "is_plain_params", Str.ofString "is_plain_quoted", Str.ofString "quoted_encoded", Str.ofString "Leaf", Str.ofString "Many", Str.ofString "Letter822"]
noncomputable abbrev lvL : List (Str × WData) := [(Str.ofString "CHARSETS", WData.tuple [WData.str ⟨#[117, 115, 45, 97, 115, 99, 105, 105]⟩, WData.str ⟨#[105, 115, 111, 45, 56, 56, 53, 57, 45, 49]⟩, WData.str ⟨#[117, 116, 102, 45, 56]⟩])]
noncomputable def bodyV : List Stmt := [1, 2, 3, 4, 5, 6, 7, 10, 11, 12, 14, 15, 16, 17, 20, 21, 22, 23, 24, 25, 26, 27, 28, 30, 31, 32, 33, 34, 35, 36, 37, 38, 40, 41, 43, 44, 45, 46, 47, 48, 49, 50, 51, 52, 53, 55, 56, 57, 58, 59, 60, 61, 62, 63, 64, 65, 67, 68, 69, 70, 71, 72, 73, 74, 75, 76, 77, 79, 81, 82, 83, 84, 85, 86, 87, 88, 89, 90, 91, 92, 93, 94, 95, 96, 97, 98, 99, 100, 101, 102, 103, 105, 106, 107, 108, 109].map fun i => pwT.main.body.getD i (.Pass ⟨0, 0, 0, 0⟩)
noncomputable def viewQ : Program := { pwT with main := { pwT.main with body := bodyV } }
theorem goPre (w : World) (os : OsState) : topGo treeTable pwT w 11 (some (.ref 6)) 12 ⟨boot_heap w.params, #[], boot_drawn, boot_toks, os⟩ (topStub pwT) = some (⟨hpA w.params, #[], {}, 187, os⟩, ⟨denote treeTable cdT, cdT, ⟨0, 0, 0, 0⟩, [topFrame ⟨0, 0, 0, 0⟩]⟩) := by
  rw [PySem.W.Fast.te15667345088766844465, PySem.W.Fast.te11892475500146522536, PySem.W.Fast.te14364793385576792824]; kernel_rfl
theorem goBlock (w : World) (os : OsState) : segRun treeTable pwT w 11 (some (.ref 6)) 1 1 ⟨hpA w.params, #[], {}, 187, os⟩ (blockOf (behindTheImports pwT) envT cdT ⟨0, 0, 0, 0⟩ [topFrame ⟨0, 0, 0, 0⟩]) = some (Flow.next, (st0 w os).abs, cdT, ⟨0, 0, 0, 0⟩) := by
  rw [PySem.W.Fast.te14374325043358763698, PySem.W.Fast.te14364793385576792824]; kernel_rfl
theorem goFin (w : World) (os : OsState) : topRun treeTable pwT w 11 (some (.ref 6)) 2 (st5 w os).abs (restOf ((behindTheImports pwT).drop 110) envT cdT ⟨424, 0, 452, 15⟩ [topFrame ⟨0, 0, 0, 0⟩]) = some ⟨hpF w.params, #[], {}, 1061, os⟩ := by
  rw [show (behindTheImports pwT).drop 110 = [] by kernel_rfl]
  refine piece_nil ?_
  rw [PySem.W.Fast.te14082659384304107361, PySem.W.Fast.te14364793385576792824]; kernel_rfl
noncomputable abbrev stepsT : Nat := 12 + (1 + (1032 + (828 + (1055 + (1092 + (332 + (2)))))))
theorem runT (w : World) (os : OsState) : topRun treeTable pwT w 11 (some (.ref 6)) stepsT ⟨boot_heap w.params, #[], boot_drawn, boot_toks, os⟩ (topStub pwT) = some ⟨hpF w.params, #[], {}, 1061, os⟩ :=
  go_top (goPre w os) (piece_block (goBlock w os) (pc0 w os (pc1 w os (pc2 w os (pc3 w os (pc4 w os (goFin w os)))))))
theorem sizeT (w : World) : ((boot_heap w.params).isNs mainGlobals && (#[] : Array GenState).size == 0, (boot_heap w.params).objs.size, (boot_heap w.params).nsMap mainGlobals "__annotations__") = (true, 11, some (.ref 6)) := by kernel_rfl
noncomputable abbrev xtQ (s : Shared) : Bool := xlAt viewQ lvL s && recOk (RowW.records PySem.Challenge.rw_or0068_01.row.toRowW) s
noncomputable abbrev sF (os : OsState) (w : World) : Shared := ⟨hpF w.params, #[], {}, 1061, os⟩
noncomputable abbrev wlK : List (Str × WData) := [(Str.ofString "SIGNS", WData.bytes [65, 66, 67, 68, 69, 70, 71, 72, 73, 74, 75, 76, 77, 78, 79, 80, 81, 82, 83, 84, 85, 86, 87, 88, 89, 90, 97, 98, 99, 100, 101, 102, 103, 104, 105, 106, 107, 108, 109, 110, 111, 112, 113, 114, 115, 116, 117, 118, 119, 120, 121, 122, 48, 49, 50, 51, 52, 53, 54, 55, 56, 57, 43, 47]), (Str.ofString "LINE_END", WData.bytes [13, 10]), (Str.ofString "CRLF", WData.bytes [13, 10]), (Str.ofString "WHITE", WData.tuple [WData.int 32, WData.int 9]), (Str.ofString "NEVER_ESCAPED", WData.tuple [WData.int 0, WData.int 10, WData.int 13]), (Str.ofString "BARRED", WData.bytes [40, 41, 60, 62, 64, 44, 59, 58, 92, 34, 47, 91, 93, 63, 61]), (Str.ofString "BARRED_IN_NAMES", WData.bytes [42, 39, 37]), (Str.ofString "HEX_FIGURES", WData.bytes [48, 49, 50, 51, 52, 53, 54, 55, 56, 57, 65, 66, 67, 68, 69, 70]), (Str.ofString "HEX", WData.bytes [48, 49, 50, 51, 52, 53, 54, 55, 56, 57, 65, 66, 67, 68, 69, 70]), (Str.ofString "OWN_WORDS", WData.tuple [WData.str ⟨#[99, 111, 110, 116, 101, 110, 116, 45, 116, 121, 112, 101]⟩, WData.str ⟨#[99, 111, 110, 116, 101, 110, 116, 45, 116, 114, 97, 110, 115, 102, 101, 114, 45, 101, 110, 99, 111, 100, 105, 110, 103]⟩, WData.str ⟨#[109, 105, 109, 101, 45, 118, 101, 114, 115, 105, 111, 110]⟩]), (Str.ofString "_law_names", WData.tuple [WData.bytes [67, 111, 110, 116, 101, 110, 116, 45, 84, 121, 112, 101], WData.bytes [99, 111, 110, 116, 101, 110, 116, 45, 84, 89, 80, 69], WData.bytes [67, 111, 110, 116, 101, 110, 116, 45, 84, 114, 97, 110, 115, 102, 101, 114, 45, 69, 110, 99, 111, 100, 105, 110, 103], WData.bytes [77, 73, 77, 69, 45, 86, 101, 114, 115, 105, 111, 110], WData.bytes [109, 105, 109, 101, 45, 118, 101, 114, 115, 105, 111, 110], WData.bytes [67, 111, 110, 116, 101, 110, 116, 45, 68, 105, 115, 112, 111, 115, 105, 116, 105, 111, 110], WData.bytes [88, 45, 67, 111, 110, 116, 101, 110, 116, 45, 84, 121, 112, 101], WData.bytes [67, 111, 110, 116, 101, 110, 116, 45, 84, 121, 112], WData.bytes [83, 117, 98, 106, 101, 99, 116], WData.bytes [77, 73, 77, 69]]), (Str.ofString "_law_own", WData.tuple [WData.int 0, WData.int 1, WData.int 2, WData.int 3, WData.int 4])]
theorem dE : drecsOf viewQ = [] := by rw [PySem.W.Fast.te3247288618530077131]; kernel_rfl
theorem dcE : dclssOf viewQ looseL = [] := by kernel_rfl
theorem wcE : wclssOf viewQ looseL = [] := by kernel_rfl
theorem wdE : wdefsOf viewQ = [] := by rw [PySem.W.Fast.te694669760492028198]; kernel_rfl
theorem wlE : wlitsOf viewQ = wlK := by rw [PySem.W.Fast.te11925523677476243305]; kernel_rfl
theorem imE : viewQ.main.body.flatMap importedNames = [] := by kernel_rfl
theorem lwE : looseW viewQ looseL = looseL ++ [Str.ofString "SIGNS", Str.ofString "LINE_END", Str.ofString "CRLF", Str.ofString "WHITE", Str.ofString "NEVER_ESCAPED", Str.ofString "BARRED", Str.ofString "BARRED_IN_NAMES", Str.ofString "HEX_FIGURES", Str.ofString "HEX", Str.ofString "OWN_WORDS", Str.ofString "_law_names", Str.ofString "_law_own"] := by
  show (looseL ++ ((dclssOf viewQ looseL ++ wclssOf viewQ looseL).map (·.name) ++ ((wdefsOf viewQ).map (·.1.name) ++ (wlitsOf viewQ).map (·.1))) ++ viewQ.main.body.flatMap importedNames) ++ (drecsOf viewQ).map (·.1.name) = _
  rw [wlE, wdE, dE, dcE, wcE, imE]; rfl
theorem lookA (w : World) (os : OsState) : (seen ((recsOf viewQ).map (·.name)) (ownsOf viewQ) [] { (sF os w) with gens := #[] }, (sF os w).heap.bltView) = (expectedOf viewQ, bltViewBooted) := by
  delta expectedOf
  rw [PySem.W.Fast.te5160383126252970620, PySem.W.Fast.te3399658132070893891, PySem.W.Fast.te5991557255702980513]
  kernel_rfl
theorem lookB (w : World) (os : OsState) : ((sF os w).heap.keysOk (looseW viewQ looseL) ((recsOf viewQ).map (·.name)) ((litsOf viewQ).map (·.1)) ((clssOf viewQ (looseW viewQ looseL)).map (·.name)) && (sF os w).heap.accountedOkI (importedModules pwT.main.body) && (sF os w).heap.isNs mainGlobals && (sF os w).heap.isNs builtinsNs && tablesOk viewQ (sF os w).heap && xtQ (sF os w) && (if true then (sF os w).gens.size == 0 else !leftWithCleanup (sF os w).gens)) = true := by
  rw [lwE, PySem.W.Fast.te10880121769531294198, PySem.W.Fast.te3399658132070893891, PySem.W.Fast.te7409074990110511671, PySem.W.Fast.te13664370479719496447, PySem.W.Fast.te14722251495701143533, PySem.W.Fast.te10994771534591457954, PySem.W.Fast.te5923862056798008813]
  kernel_rfl
theorem lookC (w : World) (os : OsState) : (tabsOk viewQ (sF os w), pinSeenD viewQ (drecsOf viewQ) (sF os w)) = (true, pinGoodD (drecsOf viewQ)) := by
  rw [dE, PySem.W.Fast.te479339242167458305]
  kernel_rfl
theorem lookD (w : World) (os : OsState) : plainSeenE viewQ (looseW viewQ looseL) (sF os w) = plainGoodE viewQ (looseW viewQ looseL) := by
  rw [lwE, PySem.W.Fast.te2386780881361962483]
  kernel_rfl
theorem lookE (w : World) (os : OsState) : (plainSeenD viewQ looseL (sF os w), wideSeen viewQ (sF os w), clsSeenW viewQ looseL (sF os w)) = (plainGoodD viewQ looseL, wideGood viewQ, clsGoodW viewQ looseL) := by
  have e : (wlitsOf viewQ).all (constAt (sF os w).heap) = true := by rw [wlE]; kernel_rfl
  simp only [plainSeenD, plainGoodD, wideSeen, wideGood, clsSeenW, clsGoodW, dcE, wcE, wdE, e, List.map_nil, List.all_nil, Bool.and_self]
theorem pair_l {α β : Type} {a a' : α} {b b' : β} (h : (a, b) = (a', b')) : a = a' := congrArg Prod.fst h
theorem pair_r {α β : Type} {a a' : α} {b b' : β} (h : (a, b) = (a', b')) : b = b' := congrArg Prod.snd h
theorem look2 (w : World) (os : OsState) : openSeen viewQ looseL (importedModules pwT.main.body) xtQ true ⟨hpF w.params, #[], {}, 1061, os⟩ = openGood viewQ looseL :=
  looks_pair (pair_l (lookA w os)) (looks_pair (pair_r (lookA w os)) (looks_pair (lookB w os) (looks_pair (pair_l (lookC w os)) (looks_pair (pair_r (lookC w os)) (looks_pair (lookD w os) (lookE w os))))))
theorem look1 (w : World) (os : OsState) : (staticsOk (importedModules pwT.main.body) (boot_heap w.params) (hpF w.params) && namesBound pwT (hpF w.params) && gensDone ⟨hpF w.params, #[], {}, 1061, os⟩ && laidKept (boot_heap w.params) (hpF w.params)) = true := by
  rw [PySem.W.Fast.te5923862056798008813]; kernel_rfl
theorem openT : ∀ w : World, (fencedOpening treeTable pwT w 8794).map (fun s => (s.heap, s.gens, s.drawn, s.toks)) = some (boot_heap w.params, #[], boot_drawn, boot_toks) :=
  boot_open (by kernel_rfl) (by kernel_rfl) (fun _ => by kernel_rfl)
theorem leftAll (Kf : Params → Frag) (as : List Addr) (e : ∀ P, as = (Kf P).map (·.1)) (h : ∀ w : World, as.map (hpF w.params).get? = (Kf w.params).map fun p => some p.2) :
    LeftO pwT viewQ looseL xtQ (Hook.obs (kHook Kf as e)) (Hook.val (kHook Kf as e)) 8794 :=
  LeftO.of_pieces (H₀ := boot_heap) (H₁ := hpF) (ann := some (.ref 6)) openT sizeT runT (by kernel_rfl) fun w => funext fun os =>
    looks_pair (look1 w os) (looks_pair (look2 w os) (h w))
theorem wellSaid : PySem.Challenge.rw_or0068_01.wellSaid = true := by
  rw [PySem.W.Fast.te9446332074065402090]; kernel_rfl
noncomputable abbrev HK : Hook := kHook layK.heap_1 asK (fun _ => by kernel_rfl)
theorem leftK : LeftO pwT viewQ looseL xtQ (Hook.obs HK) (Hook.val HK) 8794 := leftAll _ _ _ (fun w => by kernel_rfl)
theorem hX {s : Shared} (e : xtQ s = true) : xlAt viewQ lvL s = true ∧ recOk (RowW.records PySem.Challenge.rw_or0068_01.row.toRowW) s = true := Bool.and_eq_true_iff.mp e
theorem okT : (chainsOk viewQ && opensWell pwT && (frees PySem.Challenge.rw_or0068_01.row.toRowW && PySem.Challenge.rw_or0068_01.row.within.isEmpty)) = true := by decide +kernel
theorem bareT : pwT.bare := ⟨rfl, rfl, rfl, rfl, rfl, by kernel_rfl⟩
set_option hygiene false in
local macro_rules | `(tactic| o_law) => `(tactic| (refine holds_law wellSaid ?_; intro said))
set_option hygiene false in
theorem rowH : True := by (k_with "MY head" => refine holds_open (q := viewQ) (loose := looseL) (Xt := xtQ) (XP := XL viewQ lvL) (Yf := Hook.obs HK) (Ya := Hook.val HK) (YP := Hook.says HK) (N := 8794) leftK (Hook.of HK) (Hook.keeps HK) (fun s e => xl_of s (hX e).1) XL.keeps (by rfl) (by rfl) (by rfl) (fun s e => recFacts_of (hX e).2) (by rfl) said okT bareT ?hw ?hc); trivial
local macro_rules | `(tactic| k_head) => `(tactic| walk_at "MY head")
open_top hd for PySem.Challenge.rw_or0068_01

set_option maxHeartbeats 1500000
theorem walk_off : True := by
  w_top off
  trivial
theorem fill_K : PySem.Challenge.rw_or0068_01 = PySem.Challenge.rw_or0068_01 ∧ layK.heap_1 = layK.heap_1 := by
  k_fill; exact ⟨rfl, rfl⟩

-- P01
/-- a call that changes nothing that stood: it hands back a value, and new things `tl`, of which `Out` holds -/
noncomputable def Ctr (prog : Program) (w : World) (p : Program) (loose : List Str) (mean : ExcName → Option Value) (mg mb : Str → Option Value) (f : Addr) (d u : Nat)
    (Rel : List (Addr × Obj) → Prop) (vs : List Value) (Out : Value → Prop) : Prop :=
  ∀ (dp un : Nat) (gd : Option (List Code)) (cn : Str) (cs : Scope) (a : Addr) (ccd : Value) (cl : List (Str × Addr)) (outer : List Env) (A₀ : Around) (base h₀ : Heap) (L : Addr) (m : Str → Option Value) (news : List (Addr × Obj)) (s : Shared)
    (Q E : Value → Shared → Prop),
    Below A₀ base outer h₀ → Fr h₀ L s.heap m → (layK.heap_1 w.params).In h₀ → News h₀ L s.heap news → Top p loose mean mg mb h₀ → cs.kind = .function → Rel news → dp + d < recursionLimit → un + u < cLine →
    (∀ r h' tk', Fr h₀ L h' m → News h₀ L h' news → Out r → Q r { s with heap := h', toks := tk' }) →
    wpAny (model prog w) (ktrTop dp un gd cn cs L a ccd cl outer) (call (.ref f) vs) Q E s

section
variable {prog : Program} {w : World} {p : Program} {loose : List Str} {mean : ExcName → Option Value} {mg mb : Str → Option Value} {f : Addr} {d u : Nat}
    {Rel : List (Addr × Obj) → Prop} {vs : List Value} {Out : Value → Prop}
  {dp un : Nat} {gd : Option (List Code)} {cn : Str} {cs : Scope} {a : Addr} {ccd : Value} {cl : List (Str × Addr)} {outer : List Env} {A₀ : Around} {base h₀ : Heap} {L : Addr} {m : Str → Option Value} {news : List (Addr × Obj)} {s : Shared}
    {Q E : Value → Shared → Prop}
theorem Ctr.use (C : Ctr prog w p loose mean mg mb f d u Rel vs Out)
    (B : Below A₀ base outer h₀) (F : Fr h₀ L s.heap m) (X : (layK.heap_1 w.params).In h₀) (N : News h₀ L s.heap news) (T : Top p loose mean mg mb h₀) (hk : cs.kind = .function) (hR : Rel news) (hd : dp + d < recursionLimit) (hu : un + u < cLine)
    (hQ : ∀ r h' tk', Fr h₀ L h' m → News h₀ L h' news → Out r → Q r { s with heap := h', toks := tk' }) :
    wpAny (model prog w) (ktrTop dp un gd cn cs L a ccd cl outer) (call (.ref f) vs) Q E s := C _ _ _ _ _ _ _ _ _ _ _ _ _ _ _ _ _ _ B F X N T hk hR hd hu hQ

end

/-! ### sources of a comprehension -/
open LCg
structure SrcW (prog : Program) (w : World) (A : Around) (h₀ : Heap) (L : Addr) (xv : Value) (n : Nat) (P : Nat → Value → Prop) (S : List (Addr × Obj) → Prop) : Prop where
  go : ∀ (s₁ : Shared) (news : List (Addr × Obj)) (m : Str → Option Value) (Q E : Value → Shared → Prop), Fr h₀ L s₁.heap m → News h₀ L s₁.heap news → S news →
    (∀ (o : Obj) (fp : List Addr) (St : Nat → Heap → Prop), Walks prog w A s₁.heap.objs.size fp [s₁.heap.objs.size] n P St → (∀ b ∈ fp, b < (s₁.heap.push o).objs.size) → St 0 (s₁.heap.push o) →
      (∀ i h, St i h → ∃ o, h.get? s₁.heap.objs.size = some o) →
      (∀ i h h' o nw, St i h → h.get? s₁.heap.objs.size = some o → h'.get? s₁.heap.objs.size = some o → (∀ b o, h₀.get? b = some o → h'.get? b = some o) → News h₀ L h' nw → S nw → St i h') →
      Q (.ref s₁.heap.objs.size) { s₁ with heap := s₁.heap.push o }) →
    wpAny (model prog w) A (pyIter xv) Q E s₁

/-- where a comprehension's iterable has been read: how it goes on -/
noncomputable def CSrc (prog : Program) (w : World) (A : Around) (h₀ : Heap) (L : Addr) (m : Str → Option Value) (env : Env) (elt : Expr) (x : Str) (scope : Scope) (cl : List (Str × Addr)) (Fin : Shared → List Value → List (Addr × Obj) → Prop) (xv : Value) (s₁ : Shared) : Prop :=
  ∃ n P S news, Fr h₀ L s₁.heap m ∧ News h₀ L s₁.heap news ∧ SrcW prog w A h₀ L xv n P S ∧ S news ∧ n ≤ sizeLine ∧
      ∀ g, CompRest prog w A h₀ L m env elt x scope cl { s₁ with heap := g } S P (Fin { s₁ with heap := g }) n 0 [] news
noncomputable def CSrcT (prog : Program) (w : World) (A : Around) (h₀ : Heap) (L : Addr) (m : Str → Option Value) (env : Env) (ct elt : Expr) (x : Str) (scope : Scope) (cl : List (Str × Addr)) (Fin : Shared → List Value → List (Addr × Obj) → Prop) (xv : Value) (s₁ : Shared) : Prop :=
  ∃ n P S news, Fr h₀ L s₁.heap m ∧ News h₀ L s₁.heap news ∧ SrcW prog w A h₀ L xv n P S ∧ S news ∧ n ≤ sizeLine ∧
      ∀ g, LCt.CompRestT prog w A h₀ L m env ct elt x scope cl { s₁ with heap := g } S P (Fin { s₁ with heap := g }) n 0 [] news
/-- an element's end -/
noncomputable def ElEnd (h₀ : Heap) (L : Addr) (m : Str → Option Value) (s : Shared) (news : List (Addr × Obj)) (R : Value → Prop) (y : Value) (s₂ : Shared) : Prop := ∃ h' tk', s₂ = { s with heap := h', toks := tk' } ∧ Fr h₀ L h' m ∧ News h₀ L h' news ∧ R y
theorem ElEnd.intro {h₀ h' : Heap} {L : Addr} {m : Str → Option Value} {s : Shared} {news : List (Addr × Obj)} {R : Value → Prop} {y : Value} {tk' : Nat} (F : Fr h₀ L h' m) (N : News h₀ L h' news) (r : R y) : ElEnd h₀ L m s news R y { s with heap := h', toks := tk' } := ⟨h', tk', rfl, F, N, r⟩
noncomputable def TsEnd (h₀ : Heap) (L : Addr) (m : Str → Option Value) (s : Shared) (news : List (Addr × Obj)) (b ok : Bool) (s₂ : Shared) : Prop := ok = b ∧ ∃ h' tk', s₂ = { s with heap := h', toks := tk' } ∧ Fr h₀ L h' m ∧ News h₀ L h' news
theorem TsEnd.intro {h₀ h' : Heap} {L : Addr} {m : Str → Option Value} {s : Shared} {news : List (Addr × Obj)} {b ok : Bool} {tk' : Nat} (F : Fr h₀ L h' m) (N : News h₀ L h' news) (r : ok = b) : TsEnd h₀ L m s news b ok { s with heap := h', toks := tk' } := ⟨r, h', tk', rfl, F, N⟩

section
variable {prog : Program} {w : World} {A : Around} {E : Value → Shared → Prop} {s : Shared} {h₀ : Heap} {L : Addr} {m : Str → Option Value} {env : Env}

theorem src_bytes (hh : A.handled = none) (b : Array UInt8) (t : Tok) : SrcW prog w A h₀ L (.bytes b t) b.size (fun i v => ∃ c u, b[i]? = some c ∧ v = .int (c.toNat : Int) u) (fun _ => True) where
  go := fun s₁ news m Q E F N _ hQ => by
    refine KBw.pyIter_bytes ?_
    refine hQ _ _ _ (KBw.walks hh s₁.heap.objs.size b t) (fun b' hb => ?_) ⟨_, Heap.get?_push_size _ rfl, rfl, rfl⟩ (fun i h st => let ⟨o, e, _⟩ := st; ⟨o, e⟩) ?_
    · rw [List.mem_singleton.mp hb, Heap.size_push]; exact Nat.lt_succ_self _
    · rintro i h h' o nw ⟨o', e', r⟩ e1 e2 - - -
      rw [e1] at e'; cases e'; exact ⟨o, e2, r⟩

theorem src_str (hh : A.handled = none) (x : Str) (t : Tok) : SrcW prog w A h₀ L (.str x t) x.cps.size (SignAt x) (fun _ => True) where
  go := fun s₁ news m Q E F N _ hQ => by
    have st : ∀ (T : String) (i : Nat) (h h' : Heap) (o : Obj) (nw : List (Addr × Obj)), h.IsStrIter s₁.heap.objs.size T x t i → h.get? s₁.heap.objs.size = some o → h'.get? s₁.heap.objs.size = some o → (∀ b o, h₀.get? b = some o → h'.get? b = some o) → News h₀ L h' nw → True → h'.IsStrIter s₁.heap.objs.size T x t i := by
      rintro T i h h' o nw ⟨o', e', r⟩ e1 e2 - - -
      rw [e1] at e'; cases e'; exact ⟨o, e2, r⟩
    cases ha : x.cps.all (· < 128)
    · refine wpAny_pyIter_wide ha (hQ _ _ _ (Walks.strWide hh _ x t) (fun b' hb => ?_) ⟨_, Heap.get?_push_size _ rfl, rfl, rfl⟩ (fun i h st => let ⟨o, e, _⟩ := st; ⟨o, e⟩) (st _))
      rw [List.mem_singleton.mp hb, Heap.size_push]; exact Nat.lt_succ_self _
    · refine wpAny_pyIter_ascii ha (hQ _ _ _ (Walks.strAscii hh _ x t) (fun b' hb => ?_) ⟨_, Heap.get?_push_size _ rfl, rfl, rfl⟩ (fun i h st => let ⟨o, e, _⟩ := st; ⟨o, e⟩) (st _))
      rw [List.mem_singleton.mp hb, Heap.size_push]; exact Nat.lt_succ_self _

theorem src_list (hh : A.handled = none) (ax : Addr) (its : Array Value) : SrcW prog w A h₀ L (.ref ax) its.size (fun i v => its[i]? = some v) (SrcAt h₀ ax its) where
  go := fun s₁ news m Q E F N S hQ => by
    have hl := S.list F.keep N
    have hlt : ax < s₁.heap.objs.size := by obtain ⟨_, e, _⟩ := hl; exact Heap.lt_size e
    refine wpAny_pyIter_list hl ?_
    refine hQ _ _ _ (Walks.list hh s₁.heap.objs.size ax (Nat.ne_of_lt hlt) its) (fun b hb => ?_) ⟨⟨_, Heap.get?_push_size _ rfl, rfl, rfl⟩, hl.push _⟩ (fun i h st => by obtain ⟨o, e, _⟩ := st.1; exact ⟨o, e⟩) ?_
    · rw [Heap.size_push]
      rcases List.mem_cons.mp hb with rfl | hb
      · exact Nat.lt_succ_self _
      · rw [List.mem_singleton.mp hb]; exact Nat.lt_succ_of_lt hlt
    · rintro i h h' o nw st e e' k N' S'
      exact ⟨by obtain ⟨o', q, r⟩ := st.1; rw [e] at q; cases q; exact ⟨o, e', r⟩, S'.list k N'⟩

theorem comp_U {elt iter : Expr} {x : Str} {px : Pos} {scope : Scope} {cl : List (Str × Addr)} {pos : Pos} {Q : Value → Shared → Prop} (_F₀ : Fr h₀ L s.heap m)
    (hclos : closureFor scope env = pure cl) (hcell : ∀ y ∈ scope.names, y.2 ≠ .cell) (hkind : scope.kind = .function)
    (hnames : ∀ y ∈ scope.names, y.2 = .local → scope.names.lookup y.1 = some .local) (hx : scope.names.lookup x = some .local)
    (h : wpAny (model prog w) A (eval iter env) (CSrc prog w A h₀ L m env elt x scope cl fun s₁ => FinE h₀ L m s₁ Q) E s)
    (hs : ∀ x, foldedSetIterable iter env x = pure x := by intro _; rfl) :
    wpAny (model prog w) A (eval (.ListComp elt [⟨.Name x px, iter, [], 0⟩] scope pos) env) Q E s := by
  rw [eval_ListComp]
  refine wpAny_comprehension_free (use := none) rfl hs hclos hkind hnames (wpAny_mono h (fun xv s₁ h₁ => ?_) fun _ _ e => e)
  obtain ⟨n, P, S, news, F, N, SW, hS, hsz, R⟩ := h₁
  refine SW.go s₁ news m _ _ F N hS fun o fp St W hfp hst hIo hSt => ?_
  refine block_U W hsz hIo hSt hcell hkind hx hst hfp (F.keeps fun _ _ e => Heap.get?_push_of_some _ e) (N.grown fun _ _ e => Heap.get?_push_of_some _ e) (Nat.ne_of_lt F.ns.lt) (next_is_new F) (fun p hp => Nat.ne_of_lt (Heap.lt_size (N p hp).1)) hS (R _) ?_
  intro D C h' tk m' ys news' F' N' o1 hn hC₀ hD₀ hCL hDL hCD offC fin
  refine ⟨m', hn, fun h'' hs'' => fin D h'' tk (F'.change hs'' hCL hC₀) (fun p hp => ?_) o1⟩
  refine ⟨hs''.extBut _ _ ?_ (N' p hp).1, (N' p hp).2⟩
  rcases List.mem_cons.mp hp with rfl | hp
  · exact Ne.symm hCD
  · exact offC p hp

theorem comp_UA {elt iter : Expr} {x y : Str} {px py : Pos} {scope : Scope} {cl : List (Str × Addr)} {pos spos : Pos} {Q : Flow → Shared → Prop} (_F₀ : Fr h₀ L s.heap m) (hLe : env.locals = L)
    (hsw : swapsWith (.ListComp elt [⟨.Name x px, iter, [], 0⟩] scope pos) (some (.Name y py)) spos.line env = pure true)
    (hclos : closureFor scope env = pure cl) (hcell : ∀ z ∈ scope.names, z.2 ≠ .cell) (hkind : scope.kind = .function)
    (hnames : ∀ z ∈ scope.names, z.2 = .local → scope.names.lookup z.1 = some .local) (hx : scope.names.lookup x = some .local)
    (hy : env.kindOf y = some .local) (hp : (env.scope.kind == .class || (env.scope.kind == .module && env.locals != env.globals)) = false)
    (h : wpAny (model prog w) A (eval iter env) (CSrc prog w A h₀ L m env elt x scope cl fun s₁ => FinA h₀ L m s₁ y Q) E s)
    (hs : ∀ x, foldedSetIterable iter env x = pure x := by intro _; rfl) :
    wpAny (model prog w) A (exec (.Assign [.Name y py] (.ListComp elt [⟨.Name x px, iter, [], 0⟩] scope pos) spos) env) Q E s := by
  subst hLe
  rw [exec_Assign_Name_used _ _ _ _ hsw]
  refine wpAny_bind (wpAny_standAt (wpAny_bind ?_))
  show wpAny _ A (do let _ ← comprehension (.ListComp elt [⟨.Name x px, iter, [], 0⟩] scope pos) scope env _ (newList []) false (eval iter env) (some (assign (.Name y py) env))) _ _ s
  refine wpAny_bind (wpAny_mono (wpAny_comprehension_free (use := some (assign (.Name y py) env)) (Q := fun _ s' => Q .next s') rfl hs hclos hkind hnames
    (wpAny_mono h (fun xv s₁ h₁ => ?_) fun _ _ e => e)) (fun _ s' hq => wpAny_pure (wpAny_pure hq)) fun _ _ e => e)
  obtain ⟨n, P, S, news, F, N, SW, hS, hsz, R⟩ := h₁
  refine SW.go s₁ news m _ _ F N hS fun o fp St W hfp hst hIo hSt => ?_
  refine block_U W hsz hIo hSt hcell hkind hx hst hfp (F.keeps fun _ _ e => Heap.get?_push_of_some _ e) (N.grown fun _ _ e => Heap.get?_push_of_some _ e) (Nat.ne_of_lt F.ns.lt) (next_is_new F) (fun p hp => Nat.ne_of_lt (Heap.lt_size (N p hp).1)) hS (R _) ?_
  intro D C h' tk m' ys news' F' N' o1 hn hC₀ hD₀ hCL hDL hCD offC fin
  show wpAny _ A (assign (.Name y py) env (.ref D)) _ _ _
  refine wpAny_assign_Name (wpAny_storeName_local hy F'.ns (fun h₂ hn₂ hs₂ => ?_) hp)
  have hL₀ : h₀.get? env.locals = none := Heap.get?_none_of_le F'.above
  have F₂ : Fr h₀ env.locals h₂ (fun z => if z = y then some (.ref D) else m z) := ⟨hn₂, fun b o e => hs₂.extBut b o (fun q => by rw [q, hL₀] at e; cases e) (F'.keep b o e), F'.above⟩
  refine ⟨m', hn.sameBut hs₂ hCL, fun h'' hs'' => fin D h'' _ (F₂.change hs'' hCL hC₀) (fun p hp => ?_) o1⟩
  have z : h₂.get? p.1 = some p.2 := hs₂.extBut _ _ (N' p hp).2.1 (N' p hp).1
  refine ⟨hs''.extBut _ _ ?_ z, (N' p hp).2⟩
  rcases List.mem_cons.mp hp with rfl | hp
  · exact Ne.symm hCD
  · exact offC p hp

open LCt in
theorem comp_TA {ct elt iter : Expr} {x y : Str} {px py : Pos} {scope : Scope} {cl : List (Str × Addr)} {pos spos : Pos} {Q : Flow → Shared → Prop} (_F₀ : Fr h₀ L s.heap m) (hLe : env.locals = L)
    (hsw : swapsWith (.ListComp elt [⟨.Name x px, iter, [ct], 0⟩] scope pos) (some (.Name y py)) spos.line env = pure true)
    (hclos : closureFor scope env = pure cl) (hcell : ∀ z ∈ scope.names, z.2 ≠ .cell) (hkind : scope.kind = .function)
    (hnames : ∀ z ∈ scope.names, z.2 = .local → scope.names.lookup z.1 = some .local) (hx : scope.names.lookup x = some .local)
    (hy : env.kindOf y = some .local) (hp : (env.scope.kind == .class || (env.scope.kind == .module && env.locals != env.globals)) = false)
    (h : wpAny (model prog w) A (eval iter env) (CSrcT prog w A h₀ L m env ct elt x scope cl fun s₁ => FinA h₀ L m s₁ y Q) E s)
    (hs : ∀ x, foldedSetIterable iter env x = pure x := by intro _; rfl) :
    wpAny (model prog w) A (exec (.Assign [.Name y py] (.ListComp elt [⟨.Name x px, iter, [ct], 0⟩] scope pos) spos) env) Q E s := by
  subst hLe
  rw [exec_Assign_Name_used _ _ _ _ hsw]
  refine wpAny_bind (wpAny_standAt (wpAny_bind ?_))
  show wpAny _ A (do let _ ← comprehension (.ListComp elt [⟨.Name x px, iter, [ct], 0⟩] scope pos) scope env _ (newList []) false (eval iter env) (some (assign (.Name y py) env))) _ _ s
  refine wpAny_bind (wpAny_mono (wpAny_comprehension_free (use := some (assign (.Name y py) env)) (Q := fun _ s' => Q .next s') rfl hs hclos hkind hnames
    (wpAny_mono h (fun xv s₁ h₁ => ?_) fun _ _ e => e)) (fun _ s' hq => wpAny_pure (wpAny_pure hq)) fun _ _ e => e)
  obtain ⟨n, P, S, news, F, N, SW, hS, hsz, R⟩ := h₁
  refine SW.go s₁ news m _ _ F N hS fun o fp St W hfp hst hIo hSt => ?_
  refine block_T W hsz hIo hSt hcell hkind hx hst hfp (F.keeps fun _ _ e => Heap.get?_push_of_some _ e) (N.grown fun _ _ e => Heap.get?_push_of_some _ e) (Nat.ne_of_lt F.ns.lt) (next_is_new F) (fun p hp => Nat.ne_of_lt (Heap.lt_size (N p hp).1)) hS (R _) ?_
  intro D C h' tk m' ys news' F' N' o1 hn hC₀ hD₀ hCL hDL hCD offC fin
  show wpAny _ A (assign (.Name y py) env (.ref D)) _ _ _
  refine wpAny_assign_Name (wpAny_storeName_local hy F'.ns (fun h₂ hn₂ hs₂ => ?_) hp)
  have hL₀ : h₀.get? env.locals = none := Heap.get?_none_of_le F'.above
  have F₂ : Fr h₀ env.locals h₂ (fun z => if z = y then some (.ref D) else m z) := ⟨hn₂, fun b o e => hs₂.extBut b o (fun q => by rw [q, hL₀] at e; cases e) (F'.keep b o e), F'.above⟩
  refine ⟨m', hn.sameBut hs₂ hCL, fun h'' hs'' => fin D h'' _ (F₂.change hs'' hCL hC₀) (fun p hp => ?_) o1⟩
  have z : h₂.get? p.1 = some p.2 := hs₂.extBut _ _ (N' p hp).2.1 (N' p hp).1
  refine ⟨hs''.extBut _ _ ?_ z, (N' p hp).2⟩
  rcases List.mem_cons.mp hp with rfl | hp
  · exact Ne.symm hCD
  · exact offC p hp

/-- every item by itself: `R a y` of the answer -/
theorem rest_map {α : Type} {elt : Expr} {x : Str} {scope : Scope} {cl : List (Str × Addr)} {S : List (Addr × Obj) → Prop} {P : Nat → Value → Prop} {Fin : List Value → List (Addr × Obj) → Prop} {news : List (Addr × Obj)} {n : Nat}
    (xs : List α) (V : α → Value → Prop) (R : α → Value → Prop) (hn : xs.length = n) (hP : ∀ i v, i < n → P i v → ∃ a, xs[i]? = some a ∧ V a v) (hS : S news)
    (turn : ∀ a v I oI C oC D m₂ ys h tk (E' : Value → Shared → Prop), a ∈ xs → V a v → NsObj oC m₂ → m₂ x = some v → Fr h₀ L h m → News h₀ L h ((I, oI) :: (C, oC) :: (D, lst ys) :: news) → Off3 I C D news → ((@Ne Nat I C) ∧ (@Ne Nat I D) ∧ (@Ne Nat C D)) →
      wpAny (model prog w) A (eval elt (compEnvC scope cl C env)) (ElEnd h₀ L m s ((I, oI) :: (C, oC) :: (D, lst ys) :: news) (R a)) E' { s with heap := h, toks := tk })
    (fin : ∀ ys, Paired R xs ys → Fin ys news) : CompRest prog w A h₀ L m env elt x scope cl s S P Fin n 0 [] news := by
  have key : ∀ (j i : Nat) (ys : List Value), i + j = n → Paired R (xs.take i) ys → CompRest prog w A h₀ L m env elt x scope cl s S P Fin j i ys news := by
    intro j
    induction j with
    | zero =>
      intro i ys hi hy
      have e : i = xs.length := by omega
      subst e
      rw [List.take_length] at hy
      exact CompRest.zero (fin ys hy)
    | succ j ih =>
      intro i ys hi hy
      refine CompRest.succ ?_
      intro v I oI C oC D m₂ h tk E' hv hC hx F N off ne
      obtain ⟨a, ha, hV⟩ := hP i v (by omega) hv
      refine wpAny_mono (turn a v I oI C oC D m₂ ys h tk E' (List.mem_of_getElem? ha) hV hC hx F N off ne) (fun y s₂ hq => ?_) fun _ _ e => e
      obtain ⟨h', tk', e, F', N', hR⟩ := hq
      refine ⟨h', tk', news, e, F', N', off, hS, ?_⟩
      refine ih (i + 1) _ (by omega) ?_
      rw [List.take_add_one, ha]
      exact Paired.snoc hy hR
  exact key n 0 [] (by omega) (by simpa using Paired.nil)


open LCt in
theorem comp_T {ct elt iter : Expr} {x : Str} {px : Pos} {scope : Scope} {cl : List (Str × Addr)} {pos : Pos} {Q : Value → Shared → Prop} (_F₀ : Fr h₀ L s.heap m)
    (hclos : closureFor scope env = pure cl) (hcell : ∀ y ∈ scope.names, y.2 ≠ .cell) (hkind : scope.kind = .function)
    (hnames : ∀ y ∈ scope.names, y.2 = .local → scope.names.lookup y.1 = some .local) (hx : scope.names.lookup x = some .local)
    (h : wpAny (model prog w) A (eval iter env) (CSrcT prog w A h₀ L m env ct elt x scope cl fun s₁ => FinE h₀ L m s₁ Q) E s)
    (hs : ∀ x, foldedSetIterable iter env x = pure x := by intro _; rfl) :
    wpAny (model prog w) A (eval (.ListComp elt [⟨.Name x px, iter, [ct], 0⟩] scope pos) env) Q E s := by
  rw [eval_ListComp]
  refine wpAny_comprehension_free (use := none) rfl hs hclos hkind hnames (wpAny_mono h (fun xv s₁ h₁ => ?_) fun _ _ e => e)
  obtain ⟨n, P, S, news, F, N, SW, hS, hsz, R⟩ := h₁
  refine SW.go s₁ news m _ _ F N hS fun o fp St W hfp hst hIo hSt => ?_
  refine block_T W hsz hIo hSt hcell hkind hx hst hfp (F.keeps fun _ _ e => Heap.get?_push_of_some _ e) (N.grown fun _ _ e => Heap.get?_push_of_some _ e) (Nat.ne_of_lt F.ns.lt) (next_is_new F) (fun p hp => Nat.ne_of_lt (Heap.lt_size (N p hp).1)) hS (R _) ?_
  intro D C h' tk m' ys news' F' N' o1 hn hC₀ hD₀ hCL hDL hCD offC fin
  refine ⟨m', hn, fun h'' hs'' => fin D h'' tk (F'.change hs'' hCL hC₀) (fun p hp => ?_) o1⟩
  refine ⟨hs''.extBut _ _ ?_ (N' p hp).1, (N' p hp).2⟩
  rcases List.mem_cons.mp hp with rfl | hp
  · exact Ne.symm hCD
  · exact offC p hp

open LCt in
theorem rest_filter {α : Type} {ct elt : Expr} {x : Str} {scope : Scope} {cl : List (Str × Addr)} {S : List (Addr × Obj) → Prop} {P : Nat → Value → Prop} {Fin : List Value → List (Addr × Obj) → Prop} {news : List (Addr × Obj)} {n : Nat}
    (xs : List α) (V : α → Value → Prop) (pz : α → Bool) (R : α → Value → Prop) (hn : xs.length = n) (hP : ∀ i v, i < n → P i v → ∃ a, xs[i]? = some a ∧ V a v) (hS : S news)
    (test : ∀ a v I oI C oC D m₂ ys h tk (E' : Value → Shared → Prop), a ∈ xs → V a v → NsObj oC m₂ → m₂ x = some v → Fr h₀ L h m → News h₀ L h ((I, oI) :: (C, oC) :: (D, lst ys) :: news) → Off3 I C D news → ((@Ne Nat I C) ∧ (@Ne Nat I D) ∧ (@Ne Nat C D)) →
      wpAny (model prog w) A (isTrue ct (compEnvC scope cl C env) (eval ct (compEnvC scope cl C env))) (TsEnd h₀ L m s ((I, oI) :: (C, oC) :: (D, lst ys) :: news) (pz a)) E' { s with heap := h, toks := tk })
    (turn : ∀ a v I oI C oC D m₂ ys h tk (E' : Value → Shared → Prop), a ∈ xs → V a v → pz a = true → NsObj oC m₂ → m₂ x = some v → Fr h₀ L h m → News h₀ L h ((I, oI) :: (C, oC) :: (D, lst ys) :: news) → Off3 I C D news → ((@Ne Nat I C) ∧ (@Ne Nat I D) ∧ (@Ne Nat C D)) →
      wpAny (model prog w) A (eval elt (compEnvC scope cl C env)) (ElEnd h₀ L m s ((I, oI) :: (C, oC) :: (D, lst ys) :: news) (R a)) E' { s with heap := h, toks := tk })
    (fin : ∀ ys, Paired R (xs.filter pz) ys → Fin ys news) : CompRestT prog w A h₀ L m env ct elt x scope cl s S P Fin n 0 [] news := by
  have key : ∀ (j i : Nat) (ys : List Value), i + j = n → Paired R ((xs.take i).filter pz) ys → CompRestT prog w A h₀ L m env ct elt x scope cl s S P Fin j i ys news := by
    intro j
    induction j with
    | zero =>
      intro i ys hi hy
      have e : i = xs.length := by omega
      subst e
      rw [List.take_length] at hy
      exact CompRestT.zero (fin ys hy)
    | succ j ih =>
      intro i ys hi hy
      refine CompRestT.succ ?_
      intro v I oI C oC D m₂ h tk E' hv hC hx F N off ne
      obtain ⟨a, ha, hV⟩ := hP i v (by omega) hv
      refine wpAny_mono (test a v I oI C oC D m₂ ys h tk E' (List.mem_of_getElem? ha) hV hC hx F N off ne) (fun ok s₂ hq => ?_) fun _ _ e => e
      obtain ⟨rfl, h₁, tk₁, rfl, F₁, N₁⟩ := hq
      cases hp : pz a with
      | true =>
        simp only [if_true]
        refine wpAny_mono (turn a v I oI C oC D m₂ ys h₁ tk₁ E' (List.mem_of_getElem? ha) hV hp hC hx F₁ N₁ off ne) (fun y s₂ hq => ?_) fun _ _ e => e
        obtain ⟨h', tk', e, F', N', hR⟩ := hq
        refine ⟨h', tk', news, e, F', N', off, hS, ?_⟩
        refine ih (i + 1) _ (by omega) ?_
        rw [List.take_add_one, ha, List.filter_append]
        simpa [hp] using Paired.snoc hy hR
      | false =>
        simp only [Bool.false_eq_true, if_false]
        refine ⟨h₁, tk₁, news, rfl, F₁, N₁, off, hS, ?_⟩
        refine ih (i + 1) _ (by omega) ?_
        rw [List.take_add_one, ha, List.filter_append]
        simpa [hp] using hy
  exact key n 0 [] (by omega) (by simpa using Paired.nil)
end

/-! ### a loop over a list of the ledger whose turns store nothing but the loop's own name -/
noncomputable def LpNext (h₀ : Heap) (L : Addr) (s₁ : Shared) (nw : List (Addr × Obj)) (x : Str) (m₀ : Str → Option Value) (s₂ : Shared) : Prop := ∃ h' tk' m', s₂ = { s₁ with heap := h', toks := tk' } ∧ Fr h₀ L h' m' ∧ News h₀ L h' nw ∧ ∀ z, z ≠ x → m' z = m₀ z
theorem LpNext.intro {h₀ h' : Heap} {L : Addr} {s₁ : Shared} {nw : List (Addr × Obj)} {x : Str} {m₀ m' : Str → Option Value} {tk' : Nat} (F : Fr h₀ L h' m') (N : News h₀ L h' nw) (e : ∀ z, z ≠ x → m' z = m₀ z) : LpNext h₀ L s₁ nw x m₀ { s₁ with heap := h', toks := tk' } := ⟨h', tk', m', rfl, F, N, e⟩
noncomputable def LpEnd (h₀ : Heap) (L : Addr) (s₁ : Shared) (nw : List (Addr × Obj)) (x : Str) (m₀ : Str → Option Value) (Q : Flow → Shared → Prop) (f : Flow) (s₂ : Shared) : Prop := match f with
  | .ret v => Q (.ret v) s₂
  | .brk => Q .next s₂
  | _ => LpNext h₀ L s₁ nw x m₀ s₂
section
variable {prog : Program} {w : World} {A : Around} {E : Value → Shared → Prop} {s : Shared} {env : Env} {h₀ : Heap} {x : Str} {body : List Stmt} {Q : Flow → Shared → Prop}
theorem iterL_none {ax : Addr} {lo : Obj} {vs : List Value} {n : Nat} {m₀ : Str → Option Value} {news : List (Addr × Obj)}
    (hh : A.handled = none) (F : Fr h₀ env.locals s.heap m₀) (N : News h₀ env.locals s.heap news) (hm : (ax, lo) ∈ news) (hc : lo.cls = .type "list") (hd : lo.data = .seq vs.toArray n)
    (turn : ∀ v I it h tk, v ∈ vs → Fr h₀ env.locals h (fun y => if y = x then some v else m₀ y) → News h₀ env.locals h ((I, it) :: news) →
      wpAny (model prog w) A (execs body env) (LpEnd h₀ env.locals { s with heap := h, toks := tk } ((I, it) :: news) x m₀ Q) E { s with heap := h, toks := tk })
    (done : ∀ (u : Str → Option Value) h tk, Fr h₀ env.locals h (fun z => if z = x then u z else m₀ z) → News h₀ env.locals h news → Q .next { s with heap := h, toks := tk }) :
    wpAny (model prog w) A (pyIter (.ref ax)) (fun it s₂ => LoopAtV prog w A h₀ env x body Q E it s₂) E s := by
  refine iter_listUnr hh F N hm hc hd fun I hI => ?_
  have key : ∀ (r : List Value), (∀ v ∈ r, v ∈ vs) → ∀ m₁, (∀ z, z ≠ x → m₁ z = m₀ z) → ListRest prog w A E h₀ env x body Q s I (ax, lo) r m₁ news := by
    intro r
    induction r with
    | nil =>
      intro _ m₁ hm₁ h tk F₁ N₁
      refine done m₁ h tk ?_ N₁
      rw [done_none hm₁]; exact F₁
    | cons v r ih =>
      intro hsub m₁ hm₁
      refine ListRest.succ fun it h tk hit F₁ N₁ => ?_
      rw [map_none hm₁] at F₁
      refine wpAny_mono (turn v I it h tk (hsub v (.head _)) F₁ N₁) (fun f s₂ p => ?_) fun _ _ e => e
      have fin : LpNext h₀ env.locals { s with heap := h, toks := tk } ((I, it) :: news) x m₀ s₂ → UnrEnd h₀ env.locals { s with heap := h, toks := tk } I it (fun m' n' => (ax, lo) ∈ n' ∧ ListRest prog w A E h₀ env x body Q s I (ax, lo) r m' n') s₂ := by
        rintro ⟨h', tk', m', e, F', N', hm'⟩
        exact ⟨h', tk', m', news, e, F', N', fun p hp => Nat.ne_of_lt (hI p hp), hm, ih (fun v hv => hsub v (.tail _ hv)) m' hm'⟩
      cases f with
      | ret v => exact p
      | brk => exact p
      | next => exact fin p
      | cont => exact fin p
  exact key vs (fun v h => h) m₀ fun _ _ => rfl
end
theorem tup_of_K {K : Frag} {h₀ h : Heap} {L a : Addr} {m : Str → Option Value} {od : Option Addr} {items : Array Value} {n : Nat} {sl : Array (Option Value)} (X : K.In h₀) (F : Fr h₀ L h m) (e : K.lookup a = some ⟨.type "tuple", od, .seq items n, sl⟩) : IsTup h a items := ⟨_, F.keep _ _ (X _ _ e), rfl, _, rfl⟩
theorem allLt_ne {d c : Addr} : ∀ {l : List (Addr × Obj)}, AllLt d l → @LE.le Nat _ d c → ∀ p ∈ l, p.1 ≠ c
  | [], _, _, _, hp => nomatch hp
  | q :: r, h, k, p, hp => by
    rcases List.mem_cons.mp hp with rfl | hp
    · exact Nat.ne_of_lt (Nat.lt_of_lt_of_le h.1 k)
    · exact allLt_ne h.2 k p hp
theorem drop1 {h₀ h : Heap} {L : Addr} {q : Addr × Obj} {news : List (Addr × Obj)} (N : News h₀ L h (q :: news)) : News h₀ L h news := fun p hp => N p (.tail _ hp)
theorem gen_tk {prog : Program} {w : World} {A : Around} {st : Stmt} {rest : List Stmt} {env : Env} {Q : Flow → Shared → Prop} {E : Value → Shared → Prop} {h : Heap} {g : Array GenState} {d : Drawn} {t : Nat} {o : OsState} (k : ∀ tk, wpAny (model prog w) A (execs (st :: rest) env) Q E ⟨h, g, d, tk, o⟩) : wpAny (model prog w) A (execs (st :: rest) env) Q E ⟨h, g, d, t + 1, o⟩ := k _
theorem ult {a : Nat} (k : Nat.ble (a + 1) 9900 = true) : a < cLine := Nat.le_of_ble_eq_true k
theorem un0 {u m L : Nat} (h : u + m < L) : u < L := Nat.lt_of_le_of_lt (Nat.le_add_right u m) h
theorem un1 {u m a L : Nat} (h : u + m < L) (k : Nat.ble a m = true) : u + a < L := Nat.lt_of_le_of_lt (Nat.add_le_add_left (Nat.le_of_ble_eq_true k) u) h
theorem un2 {u m a b L : Nat} (h : u + m < L) (k : Nat.ble (a + b) m = true) : u + a + b < L := by rw [Nat.add_assoc]; exact un1 h k
theorem un3 {u m a b c L : Nat} (h : u + m < L) (k : Nat.ble (a + b + c) m = true) : u + a + b + c < L := by rw [Nat.add_assoc u a b]; exact un2 h k
theorem un4 {u m a b c d L : Nat} (h : u + m < L) (k : Nat.ble (a + b + c + d) m = true) : u + a + b + c + d < L := by rw [Nat.add_assoc u a b]; exact un3 h k
theorem un5 {u m a b c d e L : Nat} (h : u + m < L) (k : Nat.ble (a + b + c + d + e) m = true) : u + a + b + c + d + e < L := by rw [Nat.add_assoc u a b]; exact un4 h k
theorem un6 {u m a b c d e f L : Nat} (h : u + m < L) (k : Nat.ble (a + b + c + d + e + f) m = true) : u + a + b + c + d + e + f < L := by rw [Nat.add_assoc u a b]; exact un5 h k
local macro_rules | `(tactic| walk_at $s:str) => do let t := Lean.Syntax.mkStrLit ("Q " ++ s.getString); `(tactic| k_extra $t)
local macro_rules | `(tactic| k_all) => `(tactic| walk_at "k_all")
local macro_rules | `(tactic| k_ne) => `(tactic| walk_at "k_ne")
local macro_rules | `(tactic| k_mem) => `(tactic| walk_at "k_mem")
local macro_rules | `(tactic| ktr_units) => `(tactic| walk_at "ktr_units")
local macro_rules | `(tactic| ktr_room) => `(tactic| walk_at "ktr_room")
local macro_rules | `(tactic| size_fits) => `(tactic| walk_at "size_fits")
local macro_rules | `(tactic| k_steps) => `(tactic| walk_at "k_steps")
local macro_rules | `(tactic| k_qdec) => `(tactic| walk_at "k_qdec")
local macro_rules | `(tactic| k_in) => `(tactic| walk_at "k_in")
local macro_rules | `(tactic| tm_at "eq") => `(tactic| walk_at "tm eq")
theorem row1 : True := by (k_with "Q k_in" => first | with_reducible assumption | k_in_fast | exact Frag.In.keeps (by k_asm) (Fr.keep (by k_asm))); trivial
theorem row2 : True := by (k_with "Q tm eq" => (apply PyProof.Rows.v_eq_bool <;> tm_val)); trivial
theorem row3 : True := by (k_with "MY un" => first | exact un1 (by with_reducible assumption) (by exact rfl) | exact un2 (by with_reducible assumption) (by exact rfl) | exact un3 (by with_reducible assumption) (by exact rfl) | exact un4 (by with_reducible assumption) (by exact rfl) | exact un5 (by with_reducible assumption) (by exact rfl) | exact un6 (by with_reducible assumption) (by exact rfl) | exact ult (by decide) | exact un0 (by with_reducible assumption)); trivial
theorem row4 : True := by (k_with "Q ktr_units" => ((try simp only [units_in1, units_deeper, Around.mark_units, units_caller]); (try dsimp only [ktrTop]); walk_at "MY un")); trivial
theorem row5 : True := by (k_with "Q ktr_room" => ((try simp only [depth_under_make, depth_under_kw, depth_in1, depth_deeper, depth_caller]); (try dsimp only [ktrTop]); first | decide | walk_at "MY un")); trivial
theorem row6 : True := by (k_with "MY size" => first | exact Nat.zero_le _ | ((simp only [PySem.sizeLine_eq, List.size_toArray, List.length_cons, List.length_nil]); done) | ((try simp only [PySem.sizeLine_eq, List.size_toArray, List.length_cons, List.length_nil]); first | exact Nat.zero_le _ | decide | exact Nat.le_trans (by with_reducible assumption) (by decide))); trivial
theorem row7 : True := by (k_with "Q size_fits" => walk_at "MY size"); trivial
theorem row8 : True := by (k_with "MY lt" => first | with_reducible assumption | exact Nat.lt_of_succ_lt (by with_reducible assumption) | exact Nat.lt_of_succ_lt (Nat.lt_of_succ_lt (by with_reducible assumption)) | exact Nat.lt_of_succ_lt (Nat.lt_of_succ_lt (Nat.lt_of_succ_lt (by with_reducible assumption))) | walk_at "MY ltc" | (refine Nat.lt_trans ?_ (by with_reducible assumption); walk_at "MY lt")); trivial
theorem row9 : True := by (k_with "MY ltc" => ((rename (@LT.lt Nat _ _ _ ∧ _) => hLt); first | with_reducible exact hLt.1 | with_reducible exact hLt.2.1 | with_reducible exact hLt.2.2.1 | with_reducible exact hLt.2.2.2.1 | with_reducible exact hLt.2.2.2.2.1 | with_reducible exact hLt.2.2.2.2.2.1 | with_reducible exact hLt.2.2.2.2.2.2.1 | with_reducible exact hLt.2.2.2.2.2.2.2.1 | with_reducible exact hLt.2 | (clear hLt; walk_at "MY ltc"))); trivial
theorem row10 : True := by (k_with "MY nec" => ((rename (_ ≠ _ ∧ _) => hN); first | with_reducible exact hN.1 | with_reducible exact hN.2.1 | with_reducible exact hN.2.2.1 | with_reducible exact hN.2.2.2.1 | with_reducible exact hN.2.2.2.2.1 | with_reducible exact hN.2.2.2.2.2.1 | with_reducible exact hN.2.2.2.2.2.2.1 | with_reducible exact hN.2.2.2.2.2.2.2.1 | with_reducible exact hN.2.2.2.2.2.2.2.2.1 | with_reducible exact Ne.symm hN.1 | with_reducible exact Ne.symm hN.2.1 | with_reducible exact Ne.symm hN.2.2.1 | with_reducible exact Ne.symm hN.2.2.2.1 | with_reducible exact Ne.symm hN.2.2.2.2.1 | with_reducible exact Ne.symm hN.2.2.2.2.2.1 | with_reducible exact Ne.symm hN.2.2.2.2.2.2.1 | with_reducible exact Ne.symm hN.2.2.2.2.2.2.2.1 | with_reducible exact Ne.symm hN.2.2.2.2.2.2.2.2.1 | with_reducible exact hN.2 | with_reducible exact Ne.symm hN.2 | (clear hN; walk_at "MY nec"))); trivial
theorem row11 : True := by (k_with "Q k_ne" => (refine neN ?_; (try dsimp only); first | exact Nat.ne_of_lt (by walk_at "MY lt") | exact Nat.ne_of_gt (by walk_at "MY lt") | walk_at "MY nec" | omega)); trivial
theorem row12 : True := by (k_with "Q k_steps" => repeat' (first | (k_unfold; (try dsimp only)) | (k_end; wrow_close) | ((with_reducible show wpAny _ _ (execs (_ :: _) _) _ _ _); dsimp only; (with_reducible refine gen_tk ?_); intro ztk; walk1) | ((with_reducible show wpAny _ _ (eval _ _) _ _ _); dsimp only; walk1) | walk1 | (dsimp only; walk1) | (leave1; walk_say "STEP leave1"; try dsimp only) | fail "no step")); trivial
theorem row13 : True := by (k_with "MY use" => ((case k1 => k_asm); (case k2 => k_asm); (case k3 => k_asm); (case k4 => k_asm); (case k5 => k_asm); (case kK => first | exact rfl | assumption); (case kR => trivial); (case kd => ktr_room); (case ku => ktr_units))); trivial
theorem row14 : True := by (k_with "MY useR" => ((case k1 => k_asm); (case k2 => k_asm); (case k3 => k_asm); (case k4 => k_asm); (case k5 => k_asm); (case kK => first | exact rfl | assumption); (case kd => ktr_room); (case ku => ktr_units))); trivial
theorem row15 : True := by (k_with "MY one" => (first | (k_unfold; (try dsimp only)) | ((with_reducible show wpAny _ _ (execs (_ :: _) _) _ _ _); dsimp only; (with_reducible refine gen_tk ?_); intro tk; walk1) | ((with_reducible show wpAny _ _ (eval _ _) _ _ _); dsimp only; walk1) | walk1 | (dsimp only; walk1))); trivial
theorem row16 : True := by (k_with "MY got0" => (intro r9 h9 tk9 F9 N9 e9; subst e9; (try dsimp only))); trivial
theorem row17 : True := by (k_with "MY got1" => (intro r9 h9 tk9 F9 N9 ⟨t9, e9⟩; subst e9; (try dsimp only))); trivial
theorem row18 : True := by (k_with "MY got2" => (intro D9 ys9 n9 h9 tk9 F9 N9 l9 ⟨t9, e9⟩; subst e9; (k_lt l9); (try dsimp only))); trivial
theorem row19 : True := by (k_with "Q k_all" => exact allLt_ne (by assumption) (by (first | exact Nat.le_refl _ | exact Nat.le_of_lt (by walk_at "MY lt") | omega))); trivial
theorem row20 : True := by (k_with "Q call ref" => (k_here; k_dflt (refine wpAny_call ?_; first | walk_at "MY enter" | walk_at "MY enterC"))); trivial
theorem row21 : True := by (k_with "MY enterC" => (refine' code_defC ?k1 ?k2 ?k3 ?k4 ?k5 ?kA ?kF ?kK ?k6 ?k7 ?k8 ?k9 ?kB ?kD ?_ ?c2 ?c3 ?c4; (case kA => exact rfl); (case kF => exact rfl); (case kK => first | exact rfl | assumption); (case k1 => k_asm); (case k2 => k_asm); (case k3 => k_asm); (case k4 => k_asm); (case k5 => k_asm); (case k6 => k_is); (case k7 => k_is); (case k8 => ktr_room); (case k9 => first | exact BindsTo.of_eq rfl | exact binds_K (by k_in) rfl (by k_is) rfl rfl rfl); (case kB => exact rfl); (case kD => decide +kernel); (case c2 => exact rfl); (case c3 => exact rfl); (case c4 => exact rfl); k_whole; intro g' L' h' tk' cells' FG' F' N' Y' B' X' T' l1; (try k_lt l1); k_cells Y'; (try simp only [List.cons_append, List.nil_append] at N'); (try dsimp only); (try k_lift B'); (try k_fold))); trivial
theorem row22 : True := by (k_with "Q k_mem" => ((show (_ : Addr × Obj) ∈ (_ : List (Addr × Obj))); ktr_member)); trivial
theorem row23 : True := by (k_with "MY sub" => (intro p hp; repeat (first | exact hp | refine List.Mem.tail _ ?_))); trivial
theorem row24 : True := by (k_with "Q compareOp In int ref" => (k_here; k_dflt (refine in_tuple_ints (tup_of_K (by k_asm) (by k_asm) (by k_is)) (by repeat constructor) ?_))); trivial
theorem row25 : True := by (k_with "Q compareOp NotIn int ref" => (k_here; k_dflt (refine notin_tuple_ints (tup_of_K (by k_asm) (by k_asm) (by k_is)) (by repeat constructor) ?_))); trivial
theorem row26 : True := by (k_with "Q ite" => (k_here; first | (refine PySem.W.ite_pos (decide_eq_true (by with_reducible rfl)) ?_) | (refine PySem.W.ite_pos (by with_reducible rfl) ?_))); trivial
theorem row27 : True := by (k_with "Q LpEnd" => dsimp only [LpEnd]); trivial
theorem row28 : True := by (k_with "Q LpNext" => exact LpNext.intro (by k_asm) (by k_asm) (by kba_same)); trivial
theorem row29 : True := by (k_with "Q exec For" => (k_here; (rename Fr _ _ _ _ => zlF'); (with_unfolding_all refine' For_invVF zlF' ?k1 ?k2 ?_; (case k1 => exact rfl); (case k2 => exact rfl); k_whole))); trivial
theorem row30 : True := by (k_with "MY iterL" => (k_here; (with_reducible show wpAny _ _ (pyIter (Value.ref _)) (fun it s₂ => LoopAtV _ _ _ _ _ _ _ _ _ it s₂) _ _); (rename Fr _ _ _ _ => lF'); (rename News _ _ _ _ => lN'); (with_unfolding_all refine iterL_none (by rfl) lF' lN' (by k_mem) (by rfl) (by rfl) ?_ ?_))); trivial
theorem row31 : True := by (k_with "MY enter" => (refine' code_def ?k1 ?k2 ?k3 ?k4 ?k5 ?kA ?kF ?kK ?k6 ?k7 ?k8 ?k9 ?kB ?_ ?c2 ?c3 ?c4 ?c5; (case kA => exact rfl); (case kF => exact rfl); (case kK => first | exact rfl | assumption); (case k1 => k_asm); (case k2 => k_asm); (case k3 => k_asm); (case k4 => k_asm); (case k5 => k_asm); (case k6 => k_is); (case k7 => k_is); (case k8 => ktr_room); (case k9 => first | exact BindsTo.of_eq rfl | exact binds_K (by k_in) rfl (by k_is) rfl rfl rfl); (case c5 => decide); (case kB => exact locs rfl); (case c2 => exact rfl); (case c3 => exact rfl); (case c4 => exact rfl); k_whole; intro g' L' h' FG' F' N' B' X' T'; (try dsimp only); (try k_lift B'); (try k_fold))); trivial
theorem row32 : True := by (k_with "Q InvEndN" => (refine InvEndN.intro (by assumption) (by assumption) ⟨rfl, by kba_same⟩ (by rfl) (fun p hp => List.mem_append.mpr (Or.inl hp)) (fun p hp => List.mem_append.mpr (Or.inr hp)))); trivial
theorem row33 : True := by (k_with "MY led" => first | k_asm | exact drop1 (by k_asm) | exact drop1 (drop1 (by k_asm)) | exact drop1 (drop1 (drop1 (by k_asm))) | exact drop1 (drop1 (drop1 (drop1 (by k_asm)))) | exact drop1 (drop1 (drop1 (drop1 (drop1 (by k_asm))))) | exact drop1 (drop1 (drop1 (drop1 (drop1 (drop1 (by k_asm)))))) | exact drop1 (drop1 (drop1 (drop1 (drop1 (drop1 (drop1 (by k_asm)))))))); trivial
theorem row34 : True := by (k_with "Q eval ListComp" => (k_here; (with_reducible show wpAny _ _ (eval (Expr.ListComp _ (Comprehension.mk (Expr.Name _ _) _ [] _ :: []) _ _) _) _ _ _); k_dflt (refine' comp_U (by k_asm) ?a1 ?a2 ?a3 ?a4 ?a5 ?_ ?a7; (case a1 => with_unfolding_all rfl); (case a2 => decide); (case a3 => rfl); (case a4 => decide); (case a5 => rfl); (case a7 => intro _; rfl)))); trivial
theorem row35 : True := by (k_with "Q eval ListComp" => (k_here; (with_reducible show wpAny _ _ (eval (Expr.ListComp _ (Comprehension.mk (Expr.Name _ _) _ (_ :: []) _ :: []) _ _) _) _ _ _); k_dflt (refine' comp_T (by k_asm) ?a1 ?a2 ?a3 ?a4 ?a5 ?_ ?a7; (case a1 => with_unfolding_all rfl); (case a2 => decide); (case a3 => rfl); (case a4 => decide); (case a5 => rfl); (case a7 => intro _; rfl)))); trivial
theorem row36 : True := by (k_with "Q exec Assign cons ListComp" => (k_here; (with_reducible show wpAny _ _ (exec (Stmt.Assign (Expr.Name _ _ :: []) (Expr.ListComp _ (Comprehension.mk (Expr.Name _ _) _ [] _ :: []) _ _) _) _) _ _ _); k_dflt (refine' comp_UA (by k_asm) ?a8 ?a9 ?a1 ?a2 ?a3 ?a4 ?a5 ?a10 ?a11 ?_ ?a7; (case a8 => rfl); (case a9 => with_unfolding_all rfl); (case a1 => with_unfolding_all rfl); (case a2 => decide); (case a3 => rfl); (case a4 => decide); (case a5 => rfl); (case a10 => rfl); (case a11 => rfl); (case a7 => intro _; rfl)))); trivial
theorem row37 : True := by (k_with "Q exec Assign cons ListComp" => (k_here; (with_reducible show wpAny _ _ (exec (Stmt.Assign (Expr.Name _ _ :: []) (Expr.ListComp _ (Comprehension.mk (Expr.Name _ _) _ (_ :: []) _ :: []) _ _) _) _) _ _ _); k_dflt (refine' comp_TA (by k_asm) ?a8 ?a9 ?a1 ?a2 ?a3 ?a4 ?a5 ?a10 ?a11 ?_ ?a7; (case a8 => rfl); (case a9 => with_unfolding_all rfl); (case a1 => with_unfolding_all rfl); (case a2 => decide); (case a3 => rfl); (case a4 => decide); (case a5 => rfl); (case a10 => rfl); (case a11 => rfl); (case a7 => intro _; rfl)))); trivial
theorem row38 : True := by (k_with "Q exec Assign cons ListComp" => (k_here; (with_reducible show wpAny _ _ (exec (Stmt.Assign (Expr.Name _ _ :: []) (Expr.ListComp _ _ _ _) _) _) _ _ _); k_dflt (refine wpAny_Assign_Name ?_ (by with_unfolding_all rfl)))); trivial

-- P02
noncomputable def lowerI (c : Int) : Int := if 65 ≤ c ∧ c ≤ 90 then c + 32 else c
noncomputable def lowerN (c : Nat) : Nat := if 65 ≤ c ∧ c ≤ 90 then c + 32 else c
noncomputable def lowerS (x : Str) : Str := ⟨x.cps.map lowerN⟩
theorem lowerI_nat (c : Nat) : lowerI (c : Int) = ((lowerN c : Nat) : Int) := by
  unfold lowerI lowerN
  by_cases h : 65 ≤ c ∧ c ≤ 90
  · rw [if_pos h, if_pos (by omega)]; omega
  · rw [if_neg h, if_neg (by omega)]
theorem lowerS_eq (x : Str) : lowerS x = ⟨(x.cps.toList.map lowerN).toArray⟩ := by
  unfold lowerS
  congr 1
  apply Array.ext'
  simp
theorem join_singles : ∀ l : List Nat, (PySem.Txt.join (PySem.Str.ofString "") (l.map fun c => (⟨#[c]⟩ : Str))) = ⟨l.toArray⟩ := by
  intro l
  show Builtin.Str.glued (PySem.Str.ofString "") _ = _
  rw [StrLaws.glued_eq_join]
  induction l with
  | nil => rfl
  | cons c r ih =>
    cases r with
    | nil => rfl
    | cons d r =>
      show (⟨#[c]⟩ : Str) ++ PySem.Str.ofString "" ++ PySem.Str.join (PySem.Str.ofString "") ((d :: r).map fun c => (⟨#[c]⟩ : Str)) = _
      rw [ih]
      have e : (PySem.Str.ofString "").cps = #[] := by decide +kernel
      refine PySem.Str.ext' ?_
      rw [PySem.Str.cps_append, PySem.Str.cps_append, e]
      simp
theorem strs_of_paired {f : Nat → Nat} : ∀ {l : List Nat} {ys : List Value}, Paired (fun c y => ∃ u, y = Value.str ⟨#[f c]⟩ u) l ys → StrsAre ys ((l.map f).map fun c => (⟨#[c]⟩ : Str))
  | _, _, .nil => .nil
  | _, _, .cons ⟨u, e⟩ r => e ▸ .cons _ u (strs_of_paired r)
theorem sum_ones : ∀ l : List Nat, ((l.map fun c => (⟨#[c]⟩ : Str)).map (·.length)).sum = l.length
  | [] => rfl
  | c :: r => by
    rw [List.map_cons, List.map_cons, List.sum_cons, sum_ones r, List.length_cons]
    show 1 + _ = _
    omega
section
variable {prog : Program} {w : World} {p : Program} {loose : List Str} {mean : ExcName → Option Value} {mg mb : Str → Option Value}
theorem c_lower_code (c : Int) (t : Tok) : Ctr prog w p loose mean mg mb 105 1 8 (fun _ => True) [.int c t] (fun r => ∃ t', r = .int (lowerI c) t') := by
  intro dp un gd cn cs a ccd cl outer A₀ base h₀ L m news s Q E B F X N T hk hR hd hu hret
  refine wpAny_call ?_
  k_dflt cell_enter
  k_steps
  all_goals (refine hret _ _ _ (by k_asm) (by k_asm) ⟨_, by unfold lowerI; first | rw [if_pos (by omega)] | rw [if_neg (by omega)]⟩)
end
theorem row39 : True := by (k_with "Q call ref" => (k_here; (with_reducible show wpAny _ _ (call (Value.ref 105) [Value.int _ _]) _ _ _); k_dflt (refine' Ctr.use (c_lower_code _ _) ?k1 ?k2 ?k3 ?k4 ?k5 ?kK ?kR ?kd ?ku ?_; walk_at "MY use"); walk_at "MY got1")); trivial
section
variable {prog : Program} {w : World} {p : Program} {loose : List Str} {mean : ExcName → Option Value} {mg mb : Str → Option Value}
theorem join_codes {A : Around} {E : Value → Shared → Prop} {s : Shared} {t : Tok} {Q : Value → Shared → Prop} {D : Addr} {ys : List Value} {f : Nat → Nat} {l : List Nat}
    (hl : s.heap.IsList D ys.toArray) (hP : Paired (fun c y => ∃ u, y = Value.str ⟨#[f c]⟩ u) l ys) (hn : l.length ≤ 1000) (h : ∀ t' k, Q (.str ⟨(l.map f).toArray⟩ t') { s with toks := k }) :
    wpAny (model prog w) A (call (.builtin "str.join") [.str (PySem.Str.ofString "") t, .ref D]) Q E s := by
  refine join_list hl (strs_of_paired hP) ?_ fun t' k => ?_
  · rw [sum_ones]
    have e : (PySem.Str.ofString "").length = 0 := by decide +kernel
    rw [e, List.length_map]; omega
  · rw [join_singles]; exact h t' k
theorem c_lower_text (x : Str) (t : Tok) (hx : x.cps.size ≤ 1000) (hc : ∀ c ∈ x.cps.toList, c < 1000) : Ctr prog w p loose mean mg mb 110 2 16 (fun _ => True) [.str x t] (fun r => ∃ t', r = .str (lowerS x) t') := by
  intro dp un gd cn cs a ccd cl outer A₀ base h₀ L m news s Q E B F X N T hk hR hd hu hret
  refine wpAny_call ?_
  k_dflt cell_enter
  k_steps
  refine ⟨_, _, _, _, by k_asm, by k_asm, src_str rfl _ _, trivial, by rw [sizeLine_eq]; omega, fun g => ?_⟩
  refine rest_map x.cps.toList (fun c v => ∃ u, v = .str ⟨#[c]⟩ u) (fun c y => ∃ u, y = .str ⟨#[lowerN c]⟩ u) (by simp) ?_ trivial ?_ ?_
  · rintro i v hi ⟨c, u, hc, rfl⟩
    exact ⟨c, by simpa using hc, u, rfl⟩
  · rintro c v I oI C oC D m₂ ys h tk E' ha ⟨u, rfl⟩ hC hx F N off ne
    k_steps
    have hcc := hc c ha
    have hb : lowerN c < 2000 := by unfold lowerN; split <;> omega
    rw [lowerI_nat]
    refine chr_of_range (by omega) (by omega) ?_
    exact ElEnd.intro (by k_asm) (by k_asm) ⟨_, rfl⟩
  · intro ys hP
    k_steps
    refine join_codes (News.isList (by k_asm) (by k_mem)) hP (by simpa using hx) fun t' k => ?_
    k_steps
    exact hret _ _ _ (by k_asm) (by walk_at "MY led") ⟨t', by rw [lowerS_eq]⟩
end

-- P03
/-- a field on the ledger -/
noncomputable def FieldIn (news : List (Addr × Obj)) (a : Addr) (n r : Array UInt8) : Prop :=
  ∃ dx h1 t1 t2 h2 t3 t4, (a, instObj 148 dx) ∈ news ∧ (dx, dictOf [⟨h1, .str (Str.ofString "name") t1, .bytes n t2⟩, ⟨h2, .str (Str.ofString "raw") t3, .bytes r t4⟩] 2) ∈ news
noncomputable def nats (n : Array UInt8) : List Nat := n.toList.map (·.toNat)
noncomputable def wordOf (n : Array UInt8) : Str := lowerS ⟨(nats n).toArray⟩
section
variable {prog : Program} {w : World} {p : Program} {loose : List Str} {mean : ExcName → Option Value} {mg mb : Str → Option Value}
end
theorem row40 : True := by (k_with "Q call ref" => (k_here; (with_reducible show wpAny _ _ (call (Value.ref 110) [Value.str _ _]) _ _ _); k_dflt (refine' Ctr.use (c_lower_text _ _ ?n1 ?n2) ?k1 ?k2 ?k3 ?k4 ?k5 ?kK ?kR ?kd ?ku ?_; (case n1 => first | assumption | decide +kernel); (case n2 => first | assumption | decide +kernel); walk_at "MY use"); walk_at "MY got1")); trivial
section
variable {prog : Program} {w : World} {p : Program} {loose : List Str} {mean : ExcName → Option Value} {mg mb : Str → Option Value}
theorem c_word (a : Addr) (n r : Array UInt8) (hn : n.size ≤ 1000) : Ctr prog w p loose mean mg mb 138 4 32 (fun news => FieldIn news a n r) [.ref a] (fun r => ∃ t', r = .str (wordOf n) t') := by
  intro dp un gd cn cs a' ccd cl outer A₀ base h₀ L m news s Q E B F X N T hk hR hd hu hret
  obtain ⟨dx, h1, t1, t2, h2, t3, t4, m1, m2⟩ := hR
  refine wpAny_call ?_
  k_dflt cell_enter
  k_steps
  refine ⟨_, _, _, _, by k_asm, by k_asm, src_bytes rfl _ _, trivial, by rw [sizeLine_eq]; omega, fun g => ?_⟩
  refine rest_map (nats n) (fun c v => ∃ u, v = .int (c : Int) u) (fun c y => ∃ u, y = .str ⟨#[id c]⟩ u) (by simp [nats]) ?_ trivial ?_ ?_
  · rintro i v hi ⟨c, u, hc, rfl⟩
    exact ⟨c.toNat, by simp [nats, hc], u, rfl⟩
  · rintro c v I oI C oC D m₂ ys h tk E' ha ⟨u, rfl⟩ hC hx F N off ne
    k_steps
    have hb : c < 256 := by
      obtain ⟨b, _, rfl⟩ := List.mem_map.mp ha
      exact b.toNat_lt
    refine chr_of_range (by omega) (by omega) ?_
    exact ElEnd.intro (by k_asm) (by k_asm) ⟨_, rfl⟩
  · intro ys hP
    k_steps
    refine join_codes (News.isList (by k_asm) (by k_mem)) hP (by simpa [nats] using hn) fun t' k => ?_
    rw [List.map_id]
    have hz1 : (⟨(nats n).toArray⟩ : Str).cps.size ≤ 1000 := by simpa [nats] using hn
    have hz2 : ∀ c ∈ (⟨(nats n).toArray⟩ : Str).cps.toList, c < 1000 := by
      intro c hc
      obtain ⟨b, _, rfl⟩ := List.mem_map.mp (show c ∈ nats n from by simpa using hc)
      have := b.toNat_lt; omega
    k_steps
    exact hret _ _ _ (by k_asm) (by walk_at "MY led") ⟨_, rfl⟩
end

-- P04
noncomputable def okCode (c : Nat) : Bool := decide (33 ≤ c ∧ c ≤ 126 ∧ c ≠ 58)
section
variable {prog : Program} {w : World} {p : Program} {loose : List Str} {mean : ExcName → Option Value} {mg mb : Str → Option Value}
theorem c_is_name (n : Array UInt8) (t : Tok) (hn : n.size ≤ 1000) (h0 : 0 < n.size) (hc : ∀ c ∈ KBw.bInts n, 33 ≤ c ∧ c ≤ 126 ∧ c ≠ 58) : Ctr prog w p loose mean mg mb 166 2 16 (fun _ => True) [.bytes n t] (fun r => r = .bool true) := by
  intro dp un gd cn cs a' ccd cl outer A₀ base h₀ L m news s Q E B F X N T hk hR hd hu hret
  have hin : KBw.bInts n = KBw.bInts n := rfl
  have hin2 := KBw.ints_length n
  refine wpAny_call ?_
  k_dflt cell_enter
  k_steps
  · exfalso; have := hc _ (by assumption); omega
  · exfalso; have := hc _ (by assumption); omega
  · exfalso; have := hc _ (by assumption); omega
  · refine hret _ _ _ (by k_asm) (by walk_at "MY led") ?_
    rw [decide_eq_true (by omega)]
end

-- P05
/-! ### bytes: find, join -/
namespace Bt
open Builtin
theorem slot_find : Slot "bytes" "find" "bytes.find" :=
  .of (owner := "bytes") (n := "find") (by rw [typeLookup_type, builtinLookup_eq_fast]; kernel_rfl) (by decide +kernel) (by decide +kernel) (by decide +kernel)
    (by first | exact .inl (by decide +kernel) | exact .inr (by decide +kernel)) (by rw [isSubtype_type]; kernel_rfl)
theorem type_find : typeOf (.builtin "bytes.find") = pure (.type "method_descriptor") := by show builtinType _ = _; rw [builtinType_eq_fast]; kernel_rfl
theorem entry_find : entryFor table "bytes.find" = some Builtin.«bytes.find» := entryFor_of_tree (by kernel_rfl)
theorem args_find (a b c d : Value) : argsOk "bytes.find" ⟨[a, b, c, d], []⟩ := by unfold argsOk; kernel_rfl
theorem slot_join : Slot "bytes" "join" "bytes.join" :=
  .of (owner := "bytes") (n := "join") (by rw [typeLookup_type, builtinLookup_eq_fast]; kernel_rfl) (by decide +kernel) (by decide +kernel) (by decide +kernel)
    (by first | exact .inl (by decide +kernel) | exact .inr (by decide +kernel)) (by rw [isSubtype_type]; kernel_rfl)
theorem type_join : typeOf (.builtin "bytes.join") = pure (.type "method_descriptor") := by show builtinType _ = _; rw [builtinType_eq_fast]; kernel_rfl
theorem entry_join : entryFor table "bytes.join" = some Builtin.«bytes.join» := entryFor_of_tree (by kernel_rfl)
theorem args_join (a b : Value) : argsOk "bytes.join" ⟨[a, b], []⟩ := by unfold argsOk; kernel_rfl

/-- what find answers -/
noncomputable def findI (b c : Array UInt8) (i j : Int) : Int :=
  match (if (Bytes.window b.size (some i) (some j)).2 - (Bytes.window b.size (some i) (some j)).1 < c.size then none else some ((Bytes.window b.size (some i) (some j)).1.toNat, (Bytes.window b.size (some i) (some j)).2.toNat) : Option (Nat × Nat)).bind fun (lo, hi) => Bytes.find? b c lo hi with
  | some k => (k : Int)
  | none => -1

section
variable {prog : Program} {w : World} {A : Around} {E : Value → Shared → Prop} {s : Shared} {b c : Array UInt8} {t u v z : Tok} {i j : Int}
theorem bound_int {M : Model} {Q : Option Int → Shared → Prop} (h : Q (some i) s) : wpAny M A (Bytes.bound? (some (.int i v))) Q E s := by
  show wpAny M A (specialOf (.int i v) "__index__" >>= fun r => _) _ E s
  refine wpAny_bind (wpAny_specialOf (T := "int") (typeIs_int _ _ _) F.slot_int_index.lookup ?_)
  show wpAny M A (asIndex (.int i v) >>= fun r => _) _ E s
  exact wpAny_bind (wpAny_of_eq rfl (wpAny_pure h))
theorem find_call {Q : Value → Shared → Prop} (h : ∀ t', Q (.int (findI b c i j) t') { s with toks := s.toks + 1 }) :
    wpAny (model prog w) A (call (.builtin "bytes.find") [.bytes b t, .bytes c u, .int i v, .int j z]) Q E s := by
  refine wpAny_call_entry slot_find (typeIs_bytes _ _ _) entry_find ?_ (args_find _ _ _ _)
  show wpAny _ _ (Bytes.searchArgs .bytes "find" ⟨[.bytes b t, .bytes c u, .int i v, .int j z], []⟩ >>= fun r => _) _ _ s
  refine wpAny_bind ?_
  show wpAny _ _ (Bytes.bound? (some (.int i v)) >>= fun r => _) _ _ s
  refine wpAny_bind (bound_int ?_)
  show wpAny _ _ (Bytes.bound? (some (.int j z)) >>= fun r => _) _ _ s
  refine wpAny_bind (bound_int ?_)
  show wpAny _ _ (Bytes.buffer? _ (.bytes c u) >>= fun r => _) _ _ s
  refine wpAny_bind (wpAny_of_eq KBy.buffer_eq ?_)
  refine wpAny_bind (wpAny_pure ?_)
  refine wpAny_bind (wpAny_of_eq (a := b) rfl ?_)
  refine wpAny_pure ?_
  have key : ∀ o : Option Nat, (∀ t', Q (.int (match o with | some k => (k : Int) | none => -1) t') { s with toks := s.toks + 1 }) →
      wpAny (model prog w) A.in1 (match o with | some i => retInt i | none => do rule s!"{Bytes.Kind.bytes.name}.{"find"}.not-found"; if false = true then raiseError "ValueError" "subsection not found" else retInt (-1)) (fun fin s' => ∃ v, fin = .done (.ret v) ∧ Q v s') E s := by
    intro o ho
    cases o with
    | some k => exact wpAny_bind (wpAny_mkInt (wpAny_pure ⟨_, rfl, ho _⟩))
    | none => exact wpAny_bind (wpAny_rule (wpAny_ite (by rw [if_neg Bool.false_ne_true]; exact wpAny_bind (wpAny_mkInt (wpAny_pure ⟨_, rfl, ho _⟩)))))
  exact key _ h
theorem find_at {k : Int} {Q : Value → Shared → Prop} (e : findI b c i j = k) (h : ∀ t', Q (.int k t') { s with toks := s.toks + 1 }) :
    wpAny (model prog w) A (call (.builtin "bytes.find") [.bytes b t, .bytes c u, .int i v, .int j z]) Q E s := find_call (e ▸ h)
theorem find_method {M : Model} {pl : Sem Bool} {Q : Value × List Value → Shared → Prop} (h : Q (.builtin "bytes.find", [.bytes b t]) s) : wpAny M A (getMethod (.bytes b t) "find" pl) Q E s := by
  with_reducible exact KBd.method_of (.bytes b t) (typeIs_bytes _ _ _) slot_find type_find KBd.noRef h
theorem join_method {M : Model} {pl : Sem Bool} {Q : Value × List Value → Shared → Prop} (h : Q (.builtin "bytes.join", [.bytes b t]) s) : wpAny M A (getMethod (.bytes b t) "join" pl) Q E s := by
  with_reducible exact KBd.method_of (.bytes b t) (typeIs_bytes _ _ _) slot_join type_join KBd.noRef h

/-! join -/
inductive BytesAre : List Value → List (Array UInt8) → Prop
  | nil : BytesAre [] []
  | cons (b : Array UInt8) (t : Tok) {vs bs} : BytesAre vs bs → BytesAre (.bytes b t :: vs) (b :: bs)
theorem BytesAre.at : ∀ {vs : List Value} {bs : List (Array UInt8)}, BytesAre vs bs → ∀ i, i < vs.length → ∃ b t, vs[i]? = some (.bytes b t) ∧ bs[i]? = some b
  | _, _, .nil, _, h => absurd h (Nat.not_lt_zero _)
  | _, _, .cons b t _, 0, _ => ⟨b, t, rfl, rfl⟩
  | _, _, .cons _ _ r, i + 1, h => r.at i (Nat.lt_of_succ_lt_succ h)
theorem BytesAre.light : ∀ {vs : List Value} {bs : List (Array UInt8)}, BytesAre vs bs → ∀ i, (((vs.take i).map fun x => (x, (none : Option Value))).any (·.1.onHeap)) = false
  | _, _, .nil, i => by simp
  | _, _, .cons b t _, 0 => rfl
  | _, _, .cons b t r, i + 1 => by
    rw [List.take_succ_cons, List.map_cons, List.any_cons, r.light i]; rfl
theorem let_go {M : Model} {Q : Unit → Shared → Prop} (x : Value) (l : List Value) (h : Q () s) : wpAny M A (letGo [x] l) Q E s := by
  unfold letGo
  exact wpAny_bind (wpAny_holding (wpAny_point (by unfold letGo; exact wpAny_pure h)))
theorem join_go {M : Model} {keep : List Value} {Q : Unit → Shared → Prop} : ∀ (l : List Value), Q () s → wpAny M A (Bytes.joinLetGo (l.map fun x => (x, none)) keep) Q E s
  | [], h => wpAny_pure h
  | x :: l, h => by
    show wpAny M A (letGo [x] _ >>= fun _ => Bytes.joinLetGo (l.map fun x => (x, none)) keep) Q E s
    exact wpAny_bind (let_go x _ (join_go l h))
theorem take_quiet {id : String} : Bytes.takeBufferQuiet? id (.bytes b t) 0 = pure (some (b, none)) := by
  unfold Bytes.takeBufferQuiet? Bytes.takeBuffer?
  rw [KBy.special_eq KBy.look_buffer, KBy.own_buffer]
  kernel_rfl
theorem joined_one (sep : Array UInt8) : Bytes.joined sep [b] = b := by simp [Bytes.joined]
theorem seq_items {M : Model} {D : Addr} {items : Array Value} {Q : Option (Array Value) → Shared → Prop} (hl : s.heap.IsList D items) (h : Q (some items) s) : wpAny M A (seqItems? (.ref D)) Q E s := by
  obtain ⟨o, ho, _, n, hd⟩ := hl
  unfold seqItems?
  refine wpAny_bind (wpAny_load ho ?_)
  rw [hd]
  exact wpAny_pure h
theorem join_call {D : Addr} {items : List Value} {bs : List (Array UInt8)} {Q : Value → Shared → Prop} (hl : s.heap.IsList D items.toArray) (hb : BytesAre items bs) (hsz : (bs.foldl (· + ·.size) (b.size * (bs.length - 1))) ≤ 16777216) (hz2 : (Bytes.joined b bs).size ≤ 16777216)
    (h : ∀ t' k, Q (.bytes (Bytes.joined b bs) t') { s with toks := k }) : wpAny (model prog w) A (call (.builtin "bytes.join") [.bytes b t, .ref D]) Q E s := by
  refine wpAny_call_entry slot_join (typeIs_bytes _ _ _) entry_join ?_ (args_join _ _)
  show wpAny _ _ (Bytes.joinItems (.ref D) >>= fun seq => _) _ _ s
  refine wpAny_bind ?_
  unfold Bytes.joinItems
  refine wpAny_bind (wpAny_typeOf hl.typeIs ?_)
  refine wpAny_pure ?_
  show wpAny _ _ (seqItems? (.ref D) >>= fun r => _) _ _ s
  refine wpAny_bind (seq_items hl ?_)
  have hi : items.length = bs.length := by
    clear hl hsz h hz2
    induction hb with
    | nil => rfl
    | cons b t _ ih => simp [ih]
  have rest : wpAny (model prog w) A.in1 (do
      let mut parts : Array (Array UInt8) := #[]
      let mut taken : List (Value × Option Value) := []
      for i in [0:items.toArray.size] do
        let held := (Value.ref D) :: taken.flatMap fun (y, u) => y :: u.toList
        let some now ← seqItems? (.ref D) | unsupported s!"internal:bytes.join"
        let x := now.getD i .none
        if Bytes.Kind.bytes == .bytearray || taken.any (·.1.onHeap) then
          match ← specialOf x "__buffer__" with
          | none | some (.builtin _) => pure ()
          | some _ => unsupported s!"bytes.join:buffer"
        let some (b, w) ← holding (x :: held) (Bytes.takeBufferQuiet? "bytes.join" x 0)
          | rule s!"bytes.join.item-not-bytes-like"
            holding (x :: held.drop 1) point
            Bytes.joinLetGo taken [x]
            raiseError "TypeError" s!"sequence item {i}: expected a bytes-like object, {← typeNameOf x} found"
        parts := parts.push b
        taken := taken ++ [(x, w)]
        let some after ← seqItems? (.ref D) | unsupported s!"internal:bytes.join"
        if after.size != items.toArray.size then
          rule s!"bytes.join.changed-size"
          Bytes.joinLetGo taken []
          raiseError "RuntimeError" "sequence changed size during iteration"
      let sep ← Bytes.payload (.bytes b t)
      if Bytes.tooLong (parts.foldl (· + ·.size) (sep.size * (parts.size - 1))) then unsupported s!"bytes.join:memory"
      let result ← Bytes.Kind.new .bytes (Bytes.joined sep parts.toList)
      holding (result :: taken.flatMap fun (y, u) => y :: u.toList) point
      Bytes.joinLetGo taken [result]
      ret result : Sem Fin) (fun fin s' => ∃ v, fin = .done (.ret v) ∧ Q v s') E s := by
    refine wpAny_bind ?_
    rw [Std.Legacy.Range.forIn_eq_forIn_range']
    simp only [Std.Legacy.Range.size, Nat.sub_zero, Nat.add_sub_cancel, Nat.div_one, List.size_toArray]
    refine wpAny_forIn_list _ (fun rest' (r : Array (Array UInt8) × List (Value × Option Value)) s' => ∃ i, rest' = List.range' i (items.length - i) ∧ i ≤ items.length ∧ r = ((bs.take i).toArray, (items.take i).map fun x => (x, none)) ∧ s' = s) _ ?_ ?_ _ _ ⟨0, by simp, Nat.zero_le _, by simp, rfl⟩
    · rintro x rest' _ s' ⟨i, hr, hle, rfl, rfl⟩
      have hlt : i < items.length := by
        rcases Nat.lt_or_ge i items.length with h | h
        · exact h
        · rw [Nat.sub_eq_zero_of_le h] at hr; simp at hr
      obtain ⟨rfl, hrest⟩ : x = i ∧ rest' = List.range' (i + 1) (items.length - (i + 1)) := by
        have e : items.length - i = (items.length - (i + 1)) + 1 := by omega
        rw [e, List.range'_succ] at hr
        injection hr with h1 h2
        exact ⟨h1, h2⟩
      obtain ⟨b₁, t₁, hx, hbx⟩ := hb.at x hlt
      refine wpAny_bind (seq_items hl ?_)
      have hg : items.toArray.getD x .none = .bytes b₁ t₁ := by
        simp only [Array.getD, List.size_toArray, hlt, dite_true]
        exact (List.getElem?_eq_some_iff.mp hx).2
      simp only [hg]
      rw [if_neg (by rw [Bool.not_eq_true, Bool.or_eq_false_iff]; exact ⟨rfl, hb.light x⟩)]
      refine wpAny_bind (wpAny_holding (wpAny_of_eq take_quiet ?_))
      refine wpAny_bind (seq_items hl ?_)
      dsimp only
      rw [if_neg (by simp)]
      refine wpAny_pure ⟨x + 1, hrest, hlt, ?_, rfl⟩
      rw [List.take_add_one, List.take_add_one, hx, hbx]
      simp
    · rintro r s' ⟨i, hr, hle, rfl, rfl⟩
      have he : i = items.length := by
        rcases Nat.lt_or_ge i items.length with h | h
        · have e : items.length - i = (items.length - (i + 1)) + 1 := by omega
          rw [e, List.range'_succ] at hr
          cases hr
        · omega
      subst he
      rw [List.take_length, hi, List.take_length]
      refine wpAny_bind (wpAny_of_eq (a := b) rfl ?_)
      have hz : Bytes.tooLong (Array.foldl (fun x1 x2 => x1 + x2.size) (b.size * (bs.toArray.size - 1)) bs.toArray) = false := KBy.tooLong_not (by simpa using hsz)
      dsimp only
      rw [if_neg (by rw [hz]; exact Bool.false_ne_true)]
      refine wpAny_bind (wpAny_mkBytes ?_ (by rw [sizeLine_eq]; exact hz2))
      refine wpAny_bind (wpAny_holding (wpAny_point ?_))
      refine wpAny_bind (join_go _ ?_)
      exact wpAny_pure ⟨_, rfl, h _ _⟩
  cases hb with
  | nil => exact rest
  | cons b₁ t₁ hb' =>
    cases hb' with
    | nil =>
      refine wpAny_bind (wpAny_typeOf (typeIs_bytes _ _ _) ?_)
      refine wpAny_bind (wpAny_rule ?_)
      refine wpAny_pure ⟨_, rfl, ?_⟩
      have := h t₁ s.toks
      rw [joined_one] at this
      exact this
    | cons b₂ t₂ hb'' => exact rest
end
/-- joined with nothing between -/
noncomputable def cat (bs : List (Array UInt8)) : Array UInt8 := (bs.flatMap (·.toList)).toArray
theorem joined_aux : ∀ (bs : List (Array UInt8)) (i : Nat) (o : Array UInt8), ((bs.zipIdx i).foldl (fun out (p, i) => (if i > 0 then out ++ (#[] : Array UInt8) else out) ++ p) o) = o ++ cat bs
  | [], _, o => by simp [cat]
  | b :: bs, i, o => by
    rw [List.zipIdx_cons, List.foldl_cons, joined_aux bs (i + 1)]
    have e : (if i > 0 then o ++ (#[] : Array UInt8) else o) = o := by split <;> simp
    show (if i > 0 then o ++ (#[] : Array UInt8) else o) ++ b ++ cat bs = _
    rw [e]
    apply Array.ext'
    simp [cat]
theorem joined_empty (bs : List (Array UInt8)) : Bytes.joined #[] bs = cat bs := by
  have := joined_aux bs 0 #[]
  unfold Bytes.joined
  rw [this]
  simp
theorem size_foldl : ∀ (bs : List (Array UInt8)) (k : Nat), bs.foldl (· + ·.size) k = k + (cat bs).size
  | [], k => by simp [cat]
  | b :: bs, k => by
    rw [List.foldl_cons, size_foldl bs]
    simp [cat]
    omega
section
variable {prog : Program} {w : World} {A : Around} {E : Value → Shared → Prop} {s : Shared} {t : Tok}
theorem join_empty {D : Addr} {items : List Value} {bs : List (Array UInt8)} {Q : Value → Shared → Prop} (hl : s.heap.IsList D items.toArray) (hb : BytesAre items bs) (hz : (cat bs).size ≤ 16777216)
    (h : ∀ t' k, Q (.bytes (cat bs) t') { s with toks := k }) : wpAny (model prog w) A (call (.builtin "bytes.join") [.bytes #[] t, .ref D]) Q E s := by
  refine join_call hl hb ?_ (by rw [joined_empty]; exact hz) (by rw [joined_empty]; exact h)
  rw [size_foldl]
  simpa using hz
end
end Bt
theorem row41 : True := by (k_with "Q getMethod bytes" => ((with_reducible show wpAny _ _ (getMethod (Value.bytes _ _) "find" _) _ _ _); refine Bt.find_method ?_)); trivial
theorem row42 : True := by (k_with "Q getMethod bytes" => ((with_reducible show wpAny _ _ (getMethod (Value.bytes _ _) "join" _) _ _ _); refine Bt.join_method ?_)); trivial
theorem row43 : True := by (k_with "Q call builtin:bytes.find" => ((first | refine Bt.find_at (k := (-1)) (by assumption) ?_ | refine Bt.find_at (k := (-1)) (by decide +kernel) ?_ | refine Bt.find_at (k := 3) (by decide +kernel) ?_ | refine Bt.find_at (k := 18) (by decide +kernel) ?_ | refine Bt.find_at (k := 25) (by decide +kernel) ?_ | refine Bt.find_at (k := 27) (by decide +kernel) ?_); intro _)); trivial
theorem row44 : True := by (k_with "Q subscriptTail" => (k_here; (with_reducible show wpAny _ _ (subscriptTail _ (Expr.Slice _ _ none _) (Value.bytes _ _) (Value.ref _)) _ _ _); (with_reducible rename Fr _ _ _ _ => zF'); (with_reducible rename News _ _ _ _ => zN'); (refine KBc.slice_K (s := ⟨_, _, _, _, _⟩) zF' zN' rfl (by constructor) (by constructor) (by decide +kernel) ?_); intro _ _ _ _ _ _)); trivial

-- P06
theorem row45 : True := by (k_with "Q call ref" => (k_here; (with_reducible show wpAny _ _ (call (Value.ref 166) [Value.bytes _ _]) _ _ _); k_dflt (refine' Ctr.use (c_is_name _ _ ?n1 ?n2 ?n3) ?k1 ?k2 ?k3 ?k4 ?k5 ?kK ?kR ?kd ?ku ?_; (case n1 => assumption); (case n2 => assumption); (case n3 => assumption); walk_at "MY use"); walk_at "MY got0")); trivial
section
variable {prog : Program} {w : World} {p : Program} {loose : List Str} {mean : ExcName → Option Value} {mg mb : Str → Option Value}
theorem c_sound1 (a : Addr) (n r : Array UInt8) (hn : n.size ≤ 1000) (h0 : 0 < n.size) (hc : ∀ c ∈ KBw.bInts n, 33 ≤ c ∧ c ≤ 126 ∧ c ≠ 58) (hr : r.size ≤ 1000) (hf : Bt.findI r #[10] 0 ((KBw.bInts r).length : Int) = -1) : Ctr prog w p loose mean mg mb 192 8 64 (fun news => FieldIn news a n r) [.ref a] (fun r => r = .bool true) := by
  intro dp un gd cn cs a' ccd cl outer A₀ base h₀ L m news s Q E B F X N T hk hR hd hu hret
  obtain ⟨dx, h1, t1, t2, h2, t3, t4, m1, m2⟩ := hR
  have hin : KBw.bInts r = KBw.bInts r := rfl
  have hin2 := KBw.ints_length r
  refine wpAny_call ?_
  k_dflt cell_enter
  k_steps
  walk_at "MY iterL"
  · intro v I it h tk hv F9 N9
    exact absurd hv List.not_mem_nil
  · intro u h tk F9 N9
    k_steps
    exact hret _ _ _ (by k_asm) (by walk_at "MY led") rfl
end

-- P07
section
variable {prog : Program} {w : World} {p : Program} {loose : List Str} {mean : ExcName → Option Value} {mg mb : Str → Option Value}
theorem c_sound2 (a : Addr) (n : Array UInt8) (hn : n.size ≤ 1000) (h0 : 0 < n.size) (hc : ∀ c ∈ KBw.bInts n, 33 ≤ c ∧ c ≤ 126 ∧ c ≠ 58) : Ctr prog w p loose mean mg mb 192 8 64 (fun news => FieldIn news a n #[32, 98, 13, 10, 32, 99]) [.ref a] (fun r => r = .bool true) := by
  intro dp un gd cn cs a' ccd cl outer A₀ base h₀ L m news s Q E B F X N T hk hR hd hu hret
  obtain ⟨dx, h1, t1, t2, h2, t3, t4, m1, m2⟩ := hR
  refine wpAny_call ?_
  k_dflt cell_enter
  k_steps
  walk_at "MY iterL"
  · intro v I it h tk hv F9 N9
    have hv' := List.mem_singleton.mp hv
    subst hv'
    k_steps
  · intro u h tk F9 N9
    k_steps
    exact hret _ _ _ (by k_asm) (by walk_at "MY led") rfl
theorem c_sound3 (a : Addr) (n : Array UInt8) (hn : n.size ≤ 1000) (h0 : 0 < n.size) (hc : ∀ c ∈ KBw.bInts n, 33 ≤ c ∧ c ≤ 126 ∧ c ≠ 58) : Ctr prog w p loose mean mg mb 192 8 64 (fun news => FieldIn news a n #[32, 109, 117, 108, 116, 105, 112, 97, 114, 116, 47, 109, 105, 120, 101, 100, 59, 13, 10, 32, 98, 111, 117, 110, 100, 97, 114, 121, 61, 34, 61, 95, 112, 97, 114, 116, 48, 34]) [.ref a] (fun r => r = .bool true) := by
  intro dp un gd cn cs a' ccd cl outer A₀ base h₀ L m news s Q E B F X N T hk hR hd hu hret
  obtain ⟨dx, h1, t1, t2, h2, t3, t4, m1, m2⟩ := hR
  refine wpAny_call ?_
  k_dflt cell_enter
  k_steps
  walk_at "MY iterL"
  · intro v I it h tk hv F9 N9
    have hv' := List.mem_singleton.mp hv
    subst hv'
    k_steps
  · intro u h tk F9 N9
    k_steps
    exact hret _ _ _ (by k_asm) (by walk_at "MY led") rfl
end

-- P08
noncomputable def kindMulti : Array UInt8 := #[32, 109, 117, 108, 116, 105, 112, 97, 114, 116, 47, 109, 105, 120, 101, 100, 59, 13, 10, 32, 98, 111, 117, 110, 100, 97, 114, 121, 61, 34, 61, 95, 112, 97, 114, 116, 48, 34]
/-- a field that can stand -/
noncomputable def SoundF (n r : Array UInt8) : Prop := n.size ≤ 1000 ∧ 0 < n.size ∧ (∀ c ∈ KBw.bInts n, 33 ≤ c ∧ c ≤ 126 ∧ c ≠ 58) ∧ r.size ≤ 1000 ∧
  (Bt.findI r #[10] 0 ((KBw.bInts r).length : Int) = -1 ∨ r = #[32, 98, 13, 10, 32, 99] ∨ r = #[32, 109, 117, 108, 116, 105, 112, 97, 114, 116, 47, 109, 105, 120, 101, 100, 59, 13, 10, 32, 98, 111, 117, 110, 100, 97, 114, 121, 61, 34, 61, 95, 112, 97, 114, 116, 48, 34])
noncomputable def FieldAt (news : List (Addr × Obj)) (f : Array UInt8 × Array UInt8) (v : Value) : Prop := ∃ a, v = .ref a ∧ FieldIn news a f.1 f.2
noncomputable def fldBytes (f : Array UInt8 × Array UInt8) : Array UInt8 := f.1 ++ #[58] ++ f.2 ++ #[13, 10]
theorem FieldIn.mono {news news' : List (Addr × Obj)} {a : Addr} {n r : Array UInt8} (h : FieldIn news a n r) (hs : ∀ p ∈ news, p ∈ news') : FieldIn news' a n r := by
  obtain ⟨dx, h1, t1, t2, h2, t3, t4, m1, m2⟩ := h
  exact ⟨dx, h1, t1, t2, h2, t3, t4, hs _ m1, hs _ m2⟩
section
variable {prog : Program} {w : World} {p : Program} {loose : List Str} {mean : ExcName → Option Value} {mg mb : Str → Option Value}
theorem c_sound (a : Addr) (n r : Array UInt8) (h : SoundF n r) : Ctr prog w p loose mean mg mb 192 8 64 (fun news => FieldIn news a n r) [.ref a] (fun r => r = .bool true) := by
  obtain ⟨hn, h0, hc, hr, hf | hf | hf⟩ := h
  · exact c_sound1 a n r hn h0 hc hr hf
  · subst hf; exact c_sound2 a n hn h0 hc
  · subst hf; exact c_sound3 a n hn h0 hc
end
theorem row46 : True := by (k_with "Q call ref" => (k_here; (with_reducible show wpAny _ _ (call (Value.ref 192) [Value.ref _]) _ _ _); k_dflt (refine' Ctr.use (c_sound _ _ _ ?n1) ?k1 ?k2 ?k3 ?k4 ?k5 ?kK ?kR ?kd ?ku ?_; (case k4 => k_asm); (case kR => first | assumption | exact FieldIn.mono (by assumption) (by walk_at "MY sub")); (case n1 => assumption); (case k1 => k_asm); (case k2 => k_asm); (case k3 => k_asm); (case k5 => k_asm); (case kK => first | exact rfl | assumption); (case kd => ktr_room); (case ku => ktr_units)); walk_at "MY got0")); trivial
theorem row47 : True := by (k_with "Q binaryOp Add bytes bytes" => (k_here; (with_reducible show wpAny _ _ (binaryOp Operator.Add (Value.bytes _ _) (Value.bytes _ _)) _ _ _); (refine KBy.add_bytes (by ((try simp only [Array.size_append, List.size_toArray, List.length_cons, List.length_nil]); omega)) ?_); intro _ _)); trivial
section
variable {prog : Program} {w : World} {p : Program} {loose : List Str} {mean : ExcName → Option Value} {mg mb : Str → Option Value}
theorem paired_left {α β : Type} {F : α → β → Prop} : ∀ {xs : List α} {ys : List β}, Paired F xs ys → ∀ y ∈ ys, ∃ x ∈ xs, F x y
  | _, _, .cons h _, _, .head _ => ⟨_, .head _, h⟩
  | _, _, .cons _ r, _, .tail _ m => let ⟨x, hx, hF⟩ := paired_left r _ m; ⟨x, .tail _ hx, hF⟩
theorem paired_at {α β : Type} {F : α → β → Prop} : ∀ {xs : List α} {ys : List β}, Paired F xs ys → ∀ (i : Nat) (y : β), ys[i]? = some y → ∃ x, xs[i]? = some x ∧ F x y
  | _, _, .cons h _, 0, _, e => by cases e; exact ⟨_, rfl, h⟩
  | _, _, .cons _ r, i + 1, y, e => paired_at r i y (by simpa using e)
theorem bytes_of_paired {α : Type} {g : α → Array UInt8} : ∀ {l : List α} {ys : List Value}, Paired (fun f y => ∃ u, y = Value.bytes (g f) u) l ys → Bt.BytesAre ys (l.map g)
  | _, _, .nil => .nil
  | _, _, .cons ⟨u, e⟩ r => e ▸ .cons _ u (bytes_of_paired r)
theorem cat_size_le {α : Type} {g : α → Array UInt8} {B : Nat} : ∀ (l : List α), (∀ f ∈ l, (g f).size ≤ B) → (Bt.cat (l.map g)).size ≤ l.length * B
  | [], _ => by simp [Bt.cat]
  | f :: l, h => by
    have ih := cat_size_le l fun f hf => h f (.tail _ hf)
    have h1 := h f (.head _)
    have e : (Bt.cat ((f :: l).map g)).size = (g f).size + (Bt.cat (l.map g)).size := by simp [Bt.cat]
    rw [e, List.length_cons, Nat.add_mul]
    omega
theorem c_write_fields (l : Addr) (k : Nat) (vs : List Value) (fs : List (Array UInt8 × Array UInt8)) (hs : ∀ f ∈ fs, SoundF f.1 f.2) (hlen : fs.length ≤ 8) :
    Ctr prog w p loose mean mg mb 197 10 80 (fun news => (l, W.listOf vs.toArray k) ∈ news ∧ Paired (FieldAt news) fs vs) [.ref l] (fun r => ∃ t, r = .bytes (Bt.cat (fs.map fldBytes)) t) := by
  intro dp un gd cn cs a' ccd cl outer A₀ base h₀ L m news s Q E B F X N T hk hR hd hu hret
  obtain ⟨m1, hP⟩ := hR
  have hvl := hP.length
  refine wpAny_call ?_
  k_dflt cell_enter
  k_steps
  walk_at "MY iterL"
  · intro v I it h tk hv F9 N9
    obtain ⟨f, hf, a, rfl, hfi⟩ := paired_left hP v hv
    have hsf := hs f hf
    k_steps
  · intro u h tk F9 N9
    k_steps
    have hits : vs.toArray.size ≤ sizeLine := by rw [sizeLine_eq]; simp; omega
    refine ⟨_, _, _, _, by k_asm, by k_asm, src_list rfl _ vs.toArray, Or.inr ⟨_, m1, rfl, _, rfl⟩, hits, fun g => ?_⟩
    refine rest_map fs (fun f v => f ∈ fs ∧ FieldAt news f v) (fun f y => ∃ u, y = Value.bytes (fldBytes f) u) (by simp [hvl]) ?_ (Or.inr ⟨_, m1, rfl, _, rfl⟩) ?_ ?_
    · intro i v hi hv
      obtain ⟨f, e, hF⟩ := paired_at hP i v (by simpa using hv)
      exact ⟨f, e, List.mem_of_getElem? e, hF⟩
    · rintro f v I oI C oC D m₂ ys h tk E' hf ⟨_, a, rfl, dx, h1, t1, t2, h2, t3, t4, m3, m4⟩ hC hx F N off ne
      obtain ⟨z1, _, _, z2, _⟩ := hs f hf
      k_steps
      exact ElEnd.intro (by k_asm) (by k_asm) ⟨_, rfl⟩
    · intro ys hP2
      k_steps
      have hB : (Bt.cat (fs.map fldBytes)).size ≤ 8 * 2003 := by
        have h1 := cat_size_le (g := fldBytes) (B := 2003) fs fun f hf => by
          obtain ⟨z1, _, _, z2, _⟩ := hs f hf
          unfold fldBytes
          simp only [Array.size_append, List.size_toArray, List.length_cons, List.length_nil]
          omega
        have h2 : fs.length * 2003 ≤ 8 * 2003 := Nat.mul_le_mul_right _ hlen
        omega
      refine Bt.join_empty (News.isList (by k_asm) (by k_mem)) (bytes_of_paired hP2) (by omega) fun t' k' => ?_
      k_steps
      exact hret _ _ _ (by k_asm) (by walk_at "MY led") ⟨_, rfl⟩
end

-- PX
/-! ### own exceptions with an __init__ of their own -/
namespace Xc
open PySem.Spec Builtin Builtin.ObjectAttr Builtin.Getset_descriptor
noncomputable def isRefV : Value → Bool | .ref _ => true | _ => false
theorem isRefV_ref {v : Value} (h : isRefV v = true) : ∃ a, v = .ref a := by cases v <;> first | exact ⟨_, rfl⟩ | cases h
noncomputable def onlyExc (l : List Value) : Bool := decide (l.dropWhile isRefV = [.type "Exception", .type "BaseException", .type "object"])
theorem onlyExc_ind {P : List Value → Prop} (hb : P [.type "Exception", .type "BaseException", .type "object"]) (hc : ∀ c r, P r → P (.ref c :: r)) : ∀ {l : List Value}, onlyExc l = true → P l
  | [], e => by cases of_decide_eq_true e
  | v :: r, e => by
    have e' := of_decide_eq_true e
    cases hv : isRefV v with
    | true =>
      obtain ⟨a, rfl⟩ := isRefV_ref hv
      rw [List.dropWhile_cons_of_pos hv] at e'
      exact hc a r (onlyExc_ind hb hc (decide_eq_true e'))
    | false =>
      rw [List.dropWhile_cons_of_neg (by rw [hv]; exact Bool.false_ne_true)] at e'
      rw [e']; exact hb
theorem refuse_exc (self : Value) {l : List Value} (e : onlyExc l = true) : refuseLoop self "__setattr__" l = pure () :=
  onlyExc_ind (P := fun l => refuseLoop self "__setattr__" l = pure ()) (PySem.F.store_Exception.passes self) (fun c r h => by rw [refuseLoop_ref]; exact h) e
theorem exc_has {X : String} {b : Bool} (hb : [Value.type "Exception", .type "BaseException", .type "object"].contains (.type X) = b) {l : List Value} (e : onlyExc l = true) : l.contains (.type X) = b :=
  onlyExc_ind (P := fun l => l.contains (.type X) = b) hb (fun c r h => by rw [List.contains_cons, h]; rfl) e
noncomputable def excOver (K : Frag) (C : Addr) : Bool := (clsIn K C).any fun cd => onlyExc cd.mro

section
variable {prog : Program} {w : World} {A : Around} {E : Value → Shared → Prop} {K : Frag} {C x : Addr} {s : Shared} {h₀ : Heap} {L : Addr} {m : Str → Option Value} {news : List (Addr × Obj)} {R : Result → Shared → Prop}
theorem osa_openX {ox : Obj} {od : Option Obj} {name : Str} {tk : Tok} {v : Value} {r : Option Value} (X : K.In s.heap) (I : InstAt s.heap x ox C od) (hp : excOver K C = true) (ht : takerIn K C name = some r)
    (h : ∀ b, wpAny (model prog w) A.in1 (match r with | some a => setByDescriptor a (.ref x) v | none => storeInOwnDict (.ref x) (.ref C) (.str name tk) name v b)
      (fun fin s' => match fin with | .done f => R (.ok f) s' | .again c' => c'.quiet = true ∧ codeAny (model prog w) A c' R s') (fun e s' => R (.error e) s') s) :
    codeAny (model prog w) A (.call (.builtin "object.__setattr__") ⟨[.ref x, .str name tk, v], []⟩) R s := by
  have SF := PySem.F.store_object
  obtain ⟨cd, hc, ho⟩ := any_some hp
  have ne : cd.mro.isEmpty = false := by cases q : cd.mro with | nil => rw [q] at ho; cases ho | cons _ _ => rfl
  have sub : Looks (model prog w) s.heap (isInstance (.ref x) (.type "object")) true := I.type.andThen (looks_mroIn X (by unfold mroIn; rw [hc, Option.bind_some, if_neg (by rw [ne]; decide), exc_has (b := true) (by decide) ho]))
  refine codeAny_call_builtin SF.slot.plain SF.entry (@check_slot (model prog w) _ _ s "object.__setattr__" "object" "__setattr__" (.ref x) [.str name tk, v] [] _ SF.kind SF.split sub (SF.args (.ref x) (.str name tk) v) ?_)
  obtain ⟨attr, ha, hr⟩ := Option.bind_eq_some_iff.mp ht
  have hm : Looks (model prog w) s.heap (mroOf (.ref C)) cd.mro := (looks_clsIn X hc).andThen .now
  have L3 : Looks (model prog w) s.heap (storeTaker? attr) r := by
    cases attr with
    | none => cases hr; exact .now
    | some a =>
      obtain ⟨b, hb, rfl⟩ := Option.map_eq_some_iff.mp hr
      refine (looks_takesIn X hb).andThen ?_
      cases b <;> exact .now
  rw [osa_eq, refuse_eq]
  refine wpAny_bind (wpAny_bind (I.type.here (wpAny_bind (hm.here ?_))))
  rw [refuse_exc _ ho]
  refine wpAny_pure (wpAny_bind (I.type.here (wpAny_bind ((looks_findIn X ha).here (wpAny_bind (L3.here ?_))))))
  exact h _

/-- storing in a dict that stands -/
theorem osa_dictX {ox od od' : Obj} {dx : Addr} {name : Str} {tk : Tok} {v : Value} {pre post : List (Addr × Obj)} {es : List DictEntry} {n : Nat} (F : Fr h₀ L s.heap m) (N : News h₀ L s.heap (pre ++ (dx, od) :: post)) (X : K.In s.heap)
    (I : InstAt s.heap x ox C (some od)) (hd : ox.dict = some dx) (hp : excOver K C = true) (ht : takerIn K C name = some none) (hh : (clsIn K C).any (·.hasDict) = true)
    (hl : (lookIn name od).isSome = true) (h1 : ∀ p ∈ pre, p.1 ≠ dx) (h2 : ∀ p ∈ post, p.1 ≠ dx)
    (e : Obj.putName name (PyData.keyHash w.params name) (.str name s.toks) v od = od') (e' : od'.data = .dict es.toArray n) (hz : es.length ≤ 1000)
    (h : ∀ h', Fr h₀ L h' m → News h₀ L h' (pre ++ (dx, od') :: post) → R (.ok (.ret .none)) { s with heap := h', toks := s.toks + 1 }) :
    codeAny (model prog w) A (.call (.builtin "object.__setattr__") ⟨[.ref x, .str name tk, v], []⟩) R s := by
  refine osa_openX X I hp ht fun b => ?_
  obtain ⟨cd, hc, hd'⟩ := any_some hh
  obtain ⟨U1, U2⟩ := news_upd (f := Obj.putName name (PyData.keyHash w.params name) (.str name s.toks) v) F N h1 h2 e (by obtain ⟨_, _, dd, _⟩ := od'; cases e'; rfl)
  have D := (N (dx, od) (by simp)).1
  have D' := (U2 (dx, od') (by simp)).1
  obtain ⟨hx, hcl, hn, -⟩ := I
  obtain ⟨oc, odi, oda, osl⟩ := ox
  dsimp only at hcl hd
  subst hcl hd
  refine wpAny_bind (wpAny_pure (wpAny_bind (wpAny_bind (wpAny_loadPart hx (wpAny_bind ((looks_clsIn X hc).here ?_))))))
  rw [hd']
  refine wpAny_pure (a := some dx) (wpAny_bind (wpAny_pure (wpAny_bind ?_)))
  unfold nsSet
  refine wpAny_bind (wpAny_bind (wpAny_askSetting (wpAny_pure (wpAny_bind (wpAny_mkText (wpAny_bind (wpAny_loadPart D ?_)))))))
  unfold lookIn at hl
  split at hl
  · rename_i es₀ n₀ q
    rw [q]
    dsimp only
    have c : (!es₀.any (·.key.isStr name) && es₀.any (·.refKey)) = false := by
      rw [← Array.any_toList, ← Array.any_toList]
      split at hl
      · rename_i en he
        rw [List.any_eq_true.mpr ⟨en, List.mem_of_find?_eq_some he, List.find?_some he⟩]; rfl
      · split at hl
        · cases hl
        · rename_i z; rw [Bool.not_eq_true] at z; rw [z, Bool.and_false]
    rw [aRefKeyMayBeTheName_at, c]
    refine wpAny_updatePart D ?_
    refine wpAny_bind (wpAny_lookBehind D' (by rw [e']; exact pastItsLine_dict (by rw [List.size_toArray, sizeLine_eq]; omega)) ?_)
    exact wpAny_pure (h _ U1 U2)
  · cases hl

theorem set_plainX {E : Value → Shared → Prop} {ox od od' : Obj} {dx : Addr} {name : Str} {v : Value} {pre post : List (Addr × Obj)} {es : List DictEntry} {n : Nat} {Q : Unit → Shared → Prop} (F : Fr h₀ L s.heap m) (N : News h₀ L s.heap (pre ++ (dx, od) :: post)) (X : K.In s.heap)
    (I : InstAt s.heap x ox C (some od)) (hd : ox.dict = some dx) (hs : findIn K (.ref C) "__setattr__" = some (some (.builtin "object.__setattr__"))) (hp : excOver K C = true) (ht : takerIn K C name = some none) (hh : (clsIn K C).any (·.hasDict) = true)
    (hl : (lookIn name od).isSome = true) (h1 : ∀ p ∈ pre, p.1 ≠ dx) (h2 : ∀ p ∈ post, p.1 ≠ dx)
    (e : Obj.putName name (PyData.keyHash w.params name) (.str name (s.toks + 1)) v od = od') (e' : od'.data = .dict es.toArray n) (hz : es.length ≤ 1000)
    (h : ∀ h', Fr h₀ L h' m → News h₀ L h' (pre ++ (dx, od') :: post) → Q () { s with heap := h', toks := s.toks + 2 }) : wpAny (model prog w) A (setAttr (.ref x) name v) Q E s :=
  set_plain X I hs (osa_dictX (s := { s with toks := s.toks + 1 }) F N X I hd hp ht hh hl h1 h2 e e' hz fun h' F' N' => h h' F' N')

theorem set_dictX {E : Value → Shared → Prop} {ox : Obj} {dx : Addr} {name : Str} {v : Value} {post : List (Addr × Obj)} {es es' : List DictEntry} {n n' : Nat} {Q : Unit → Shared → Prop} (F : Fr h₀ L s.heap m) (N : News h₀ L s.heap ((dx, dictOf es n) :: post)) (X : K.In s.heap)
    (I : InstAt s.heap x ox C (some (dictOf es n))) (hd : ox.dict = some dx) (hs : findIn K (.ref C) "__setattr__" = some (some (.builtin "object.__setattr__"))) (hp : excOver K C = true) (ht : takerIn K C name = some none) (hh : (clsIn K C).any (·.hasDict) = true)
    (hl : (getL name es).isSome = true) (h2 : ∀ p ∈ post, p.1 ≠ dx) (e : (putL name (PyData.keyHash w.params name) (.str name (s.toks + 1)) v es, putN name es n) = (es', n')) (hz : es'.length ≤ 1000)
    (h : ∀ h', Fr h₀ L h' m → News h₀ L h' ((dx, dictOf es' n') :: post) → Q () { s with heap := h', toks := s.toks + 2 }) : wpAny (model prog w) A (setAttr (.ref x) name v) Q E s := by
  obtain ⟨e1, e2⟩ := Prod.mk.inj e
  exact set_plainX (pre := []) F N X I hd hs hp ht hh hl (fun _ h => nomatch h) h2 (by rw [putName_dict, e1, e2]) rfl hz h

/-- the first storing: the dict is made -/
theorem set_firstX {E : Value → Shared → Prop} {vs : Array Value} {sl : Array (Option Value)} {name : Str} {v : Value} {rest : List (Addr × Obj)} {Q : Unit → Shared → Prop} (F : Fr h₀ L s.heap m) (N : News h₀ L s.heap ((x, ⟨.ref C, none, .fields vs, sl⟩) :: rest)) (X : K.In s.heap)
    (hx : ∀ p ∈ rest, p.1 ≠ x) (hs : findIn K (.ref C) "__setattr__" = some (some (.builtin "object.__setattr__"))) (hp : excOver K C = true) (ht : takerIn K C name = some none) (hh : (clsIn K C).any (·.hasDict) = true)
    (h : ∀ h' dx, Fr h₀ L h' m → News h₀ L h' ((dx, dictOf [⟨PyData.keyHash w.params name, .str name (s.toks + 1), v⟩] 1) :: (x, ⟨.ref C, some dx, .fields vs, sl⟩) :: rest) → dx ≠ x → (∀ p ∈ rest, p.1 ≠ dx) → Q () { s with heap := h', toks := s.toks + 2 }) : wpAny (model prog w) A (setAttr (.ref x) name v) Q E s := by
  have hx0 := (N _ (.head _)).1
  have I : InstAt s.heap x ⟨.ref C, none, .fields vs, sl⟩ C none := ⟨hx0, rfl, rfl, trivial⟩
  refine set_plain X I hs ?_
  refine osa_openX X I hp ht fun b => ?_
  obtain ⟨cd, hc, hd'⟩ := any_some hh
  have N1 := N.push F emptyDict
  have F1 := F.push emptyDict
  have hlt : x < s.heap.objs.size := Heap.lt_size hx0
  have hdr : ∀ p ∈ rest, p.1 ≠ s.heap.objs.size := fun p hp => Nat.ne_of_lt (Heap.lt_size (N p (.tail _ hp)).1)
  have up1 := news_upd (pre := [(s.heap.objs.size, emptyDict)]) (post := rest) (d := x) (o := ⟨.ref C, none, .fields vs, sl⟩) (o' := ⟨.ref C, some s.heap.objs.size, .fields vs, sl⟩) (f := fun o => { o with dict := some s.heap.objs.size }) F1 N1 (fun p hp => by rw [List.mem_singleton.mp hp]; exact (Nat.ne_of_lt hlt).symm) hx rfl rfl
  obtain ⟨F2, N2⟩ := up1
  have up2 := news_upd (pre := []) (post := (x, ⟨.ref C, some s.heap.objs.size, .fields vs, sl⟩) :: rest) (d := s.heap.objs.size) (o := emptyDict) (o' := ⟨.type "dict", none, .dict #[⟨PyData.keyHash w.params name, .str name (s.toks + 1), v⟩] 1, #[]⟩) (f := Obj.putName name (PyData.keyHash w.params name) (.str name (s.toks + 1)) v) F2 N2 (fun p hp => nomatch hp) (fun p hp => by rcases List.mem_cons.mp hp with rfl | hp; exact Nat.ne_of_lt hlt; exact hdr p hp) rfl rfl
  obtain ⟨U1, U2⟩ := up2
  have D := (N2 _ (.head _)).1
  have D' := (U2 _ (.head _)).1
  refine wpAny_bind (wpAny_pure (wpAny_bind (wpAny_bind (wpAny_loadPart hx0 (wpAny_bind (looks_clsIn X hc _ _ _ _ (fun _ _ e => e) ?_))))))
  rw [hd']
  simp only [Bool.not_true, Bool.false_eq_true, if_false, typeHasDict, Bool.or_self]
  refine wpAny_bind (wpAny_alloc' ?_)
  refine wpAny_bind (wpAny_update' (N1 _ (.tail _ (.head _))).1 ?_)
  refine wpAny_pure ?_
  unfold storeInDict newKeyGuard
  refine wpAny_bind (wpAny_pure (wpAny_bind ?_))
  unfold nsSet
  refine wpAny_bind (wpAny_bind (wpAny_askSetting (wpAny_pure (wpAny_bind (wpAny_mkText (wpAny_bind (wpAny_loadPart D ?_)))))))
  dsimp only
  rw [aRefKeyMayBeTheName_at, show ((!(#[] : Array DictEntry).any (·.key.isStr name)) && (#[] : Array DictEntry).any (·.refKey)) = false from by simp]
  refine wpAny_updatePart' D ?_
  refine wpAny_bind (wpAny_lookBehind D' (pastItsLine_dict (by rw [sizeLine_eq]; simp)) ?_)
  exact wpAny_pure (h _ _ U1 U2 (Nat.ne_of_lt hlt).symm hdr)

end
section
variable {prog : Program} {w : World} {A : Around} {R : Result → Shared → Prop} {h : Heap} {g : Array GenState} {d : Drawn} {t : Nat} {os : OsState}
variable {nm q : Str} {C N : Addr} {bs bm bmB : List Value} {hdct : Bool} {sn : List Str} {sub : List Value} {ab : Bool} {col : Option Bool} {dd : Option Addr} {k0 k1 k2 k3 k5 : Option Value} {B newId initId : String}

theorem check_newX {M : Model} {E : Value → Shared → Prop} (F : ExcBaseFacts B newId initId bmB) (hb : bm.contains (.type B) = true) {rest : List Value} {Q : Unit → Shared → Prop} (hC : h.get? C = some (excClassObj nm q C N bs bm hdct sn sub ab col dd k0 k1 k2 k3 k5 newId))
    (hq : Q () ⟨h, g, d, t, os⟩) : wpAny M A (checkBuiltinCall newId ⟨.ref C :: rest, []⟩) Q E ⟨h, g, d, t, os⟩ := by
  have hcont : (Value.ref C :: bm).contains (.type B) = true := by rw [List.contains_cons, hb, Bool.or_true]
  have hstar := F.noStar
  simp only [checkBuiltinCall, F.newKind, F.newSplit, F.newRow]
  repeat (first | refine wpAny_loadPart_at hC ?_ | (refine wpAny_isSubtype_exc hC ?_; rw [hcont]) | refine wpAny_staticBase_exc hC ?_ | refine wpAny_madeBy_exc hC ?_ | simp only [bne_self_eq_false, Bool.false_eq_true, if_false] | wp_step)
  exact hq
theorem exc_newX (F : ExcBaseFacts B newId initId bmB) (hb : bm.contains (.type B) = true) (hA : bm.contains (.type "AttributeError") = false) (hN : bm.contains (.type "NameError") = false) {rest : List Value} (hC : h.get? C = some (excClassObj nm q C N bs bm hdct sn sub ab col dd k0 k1 k2 k3 k5 newId))
    (hq : R (.ok (.ret (.ref (h.objs.size + 1)))) ⟨(h.push { cls := .type "tuple", data := .seq rest.toArray }).push
      { cls := .ref C, data := .fields #[.ref h.objs.size, .none, .none, .none, .bool false, .none] }, g, d, t, os⟩) (hrest : rest.length ≤ sizeLine := by size_fits) :
    codeAny (model prog w) A (.builtin newId ⟨.ref C :: rest, []⟩) R ⟨h, g, d, t, os⟩ := by
  have hends := F.ends
  have hcB : (Value.ref C :: bm).contains (.type B) = true := by rw [List.contains_cons, hb, Bool.or_true]
  have hcA : (Value.ref C :: bm).contains (.type "AttributeError") = false := by rw [List.contains_cons, hA]; rfl
  have hcN : (Value.ref C :: bm).contains (.type "NameError") = false := by rw [List.contains_cons, hN]; rfl
  refine codeAny_builtinAt F.entry ?_
  unfold Builtin.«BaseException.__new__»
  refine PySem.wpAt_bind ?_
  show PySem.wpAt _ _ _ (stack >>= _) _ _ _
  refine PySem.wpAt_bind (PySem.wpAt_stack fun p below => PySem.wpAt_of_wpAny ?_)
  wp_walk
  refine PySem.wpAt_of_wpAny ?_
  rw [F.owner]
  repeat (first | with_reducible refine wpAny_madeHere_exc F.canon hC ?_ | with_reducible refine wpAny_loadPart_at hC ?_ | (with_reducible refine wpAny_isSubtype_exc hC ?_; first | rw [hcB] | rw [hcA] | rw [hcN]) | wp_step)
  show R _ _
  rw [Heap.size_push]
  exact hq
theorem check_initX {M : Model} {E : Value → Shared → Prop} (F : ExcBaseFacts B newId initId bmB) (hb : bm.contains (.type B) = true) {e : Addr} {oe : Obj} {rest : List Value} {Q : Unit → Shared → Prop}
    (hC : h.get? C = some (excClassObj nm q C N bs bm hdct sn sub ab col dd k0 k1 k2 k3 k5 newId)) (he : h.get? e = some oe) (hcls : oe.cls = .ref C) (hq : Q () ⟨h, g, d, t, os⟩) :
    wpAny M A (checkBuiltinCall initId ⟨.ref e :: rest, []⟩) Q E ⟨h, g, d, t, os⟩ := by
  have hcB : (Value.ref C :: bm).contains (.type B) = true := by rw [List.contains_cons, hb, Bool.or_true]
  have hshort := F.noStar
  simp only [checkBuiltinCall, F.initKind, F.initSplit, F.initRow]
  repeat (first | (with_reducible refine wpAny_loadPart_at he ?_; rw [hcls]) | with_reducible refine wpAny_loadPart_at hC ?_ | (with_reducible refine wpAny_isSubtype_exc hC ?_; rw [hcB]) | wp_step)
  refine wpAny_onRaise ?_
  rw [show ∀ (a b : String) (n : Nat), Bind.check ⟨.positional, "*", B, .self, [⟨"args", .varPos, false⟩]⟩ a b n (List.map (fun x => x.fst) ({ pos := Value.ref e :: rest } : Args).kw) = pure () from
    fun a b n => check_star_args _ _ _ _ _ _]
  exact wpAny_pure hq
/-- a call of the class: the object is made, and its own __init__ is called -/
theorem call_excX {K : Frag} {rest : List Value} {fI : Addr} (F : ExcBaseFacts B newId initId bmB) (hb : bm.contains (.type B) = true) (hA : bm.contains (.type "AttributeError") = false) (hN : bm.contains (.type "NameError") = false) (hC : h.get? C = some (excClassObj nm q C N bs bm hdct sn sub ab col dd k0 k1 k2 k3 k5 newId)) (X : K.In h)
    (hi : findIn K (.ref C) "__init__" = some (some (.ref fI))) (hf : typeIn K (.ref fI) = some (.type "function"))
    (hq : codeAny (model prog w) (A.under (.builtin "type.__call__" ⟨.ref C :: rest, []⟩)) (.call (.ref fI) ⟨.ref (h.objs.size + 1) :: rest, []⟩) (InitBack (h.objs.size + 1) R) ⟨(h.push { cls := .type "tuple", data := .seq rest.toArray }).push
      { cls := .ref C, data := .fields #[.ref h.objs.size, .none, .none, .none, .bool false, .none] }, g, d, t, os⟩) (hrest : rest.length ≤ sizeLine := by size_fits) :
    codeAny (model prog w) A (.call (.ref C) ⟨rest, []⟩) R ⟨h, g, d, t, os⟩ := by
  have f1 := tc_lookup
  have f2 := tc_bind (.ref C)
  have hT : (⟨h, g, d, t, os⟩ : Shared).TypeIs (.ref C) "type" := ⟨_, hC, rfl⟩
  refine codeAny_of_tree ?_
  show wpAny _ _ (callAny (.ref C) _) _ _ _
  repeat (any_goals (first | assumption | with_reducible refine wpAny_loadPart_at hC ?_ | wp_step))
  refine ⟨rfl, ?_⟩
  refine codeAny_call_builtin_at (Code.quiet_builtin _ (by decide +kernel)) entry_typeCall (wpAny_check_type_call_sub hC ?_)
  repeat (first | with_reducible refine wpAny_loadPart_at hC ?_ | with_reducible refine wpAny_madeBy_exc hC ?_ | wp_step)
  refine codeAny_call_builtin_code (Code.quiet_builtin _ F.quiet) (check_newX F hb hC ?_)
  refine exc_newX F hb hA hN hC ?_ hrest
  show wpAny _ _ _ _ _ _
  have k : ∀ b o, h.get? b = some o → ((h.push { cls := .type "tuple", data := .seq rest.toArray }).push { cls := .ref C, data := .fields #[.ref h.objs.size, .none, .none, .none, .bool false, .none] }).get? b = some o := fun b o e => Heap.get?_push_of_some _ (Heap.get?_push_of_some _ e)
  have hC₁ := k _ _ hC
  have hget : ((h.push { cls := .type "tuple", data := .seq rest.toArray }).push
      { cls := .ref C, data := .fields #[.ref h.objs.size, .none, .none, .none, .bool false, .none] }).get? (h.objs.size + 1) = some
      { cls := .ref C, data := .fields #[.ref h.objs.size, .none, .none, .none, .bool false, .none] } := by heap_get
  have hcC : (Value.ref C :: bm).contains (.ref C) = true := by simp
  unfold isInstance
  repeat (first | with_reducible refine wpAny_loadPart_at hget ?_ | (with_reducible refine wpAny_isSubtype_exc hC₁ ?_; rw [hcC]) | wp_step)
  refine wpAny_isSubtype_exc hC₁ ?_
  rw [hcC]
  have i1 := (looks_findIn (M := model prog w) X hi).keeps k
  have b1 := (bind_fn (M := model prog w) X (.ref (h.objs.size + 1)) hf).keeps k
  have t1 : Looks (model prog w) ((h.push { cls := .type "tuple", data := .seq rest.toArray }).push { cls := .ref C, data := .fields #[.ref h.objs.size, .none, .none, .none, .bool false, .none] }) (typeOf (.ref (h.objs.size + 1))) (.ref C) := (Looks.ld hget).andThen .now
  unfold callSpecial? specialOf
  simp only [Bool.not_true, Bool.false_eq_true, if_false]
  refine wpAny_bind (wpAny_holding (wpAny_bind (wpAny_bind (t1 _ _ _ _ (fun _ _ e => e) (i1 _ _ _ _ (fun _ _ e => e) ?_)))))
  dsimp only
  refine wpAny_holding (wpAny_bind (b1 _ _ _ _ (fun _ _ e => e) (wpAny_bind (wpAny_call ?_))))
  refine codeAny_mono hq fun r s' z => ?_
  rcases r with e | (v | _ | _ | _) <;> first | exact z | exact z.elim | skip
  obtain ⟨rfl, z⟩ := z
  exact wpAny_pure (wpAny_pure z)

theorem init_excX {E : Value → Shared → Prop} {s : Shared} {h₀ : Heap} {L x t0 : Addr} {m : Str → Option Value} {sl : Array (Option Value)} {rest : List (Addr × Obj)} {v : Value} {Q : Value → Shared → Prop} {dx : Option Addr}
    (FB : ExcBaseFacts B newId initId bmB) (hb : bm.contains (.type B) = true) (hC : s.heap.get? C = some (excClassObj nm q C N bs bm hdct sn sub ab col dd k0 k1 k2 k3 k5 newId))
    (F : Fr h₀ L s.heap m) (Nw : News h₀ L s.heap ((x, ⟨.ref C, dx, .fields #[.ref t0, .none, .none, .none, .bool false, .none], sl⟩) :: rest)) (hx : ∀ p ∈ rest, p.1 ≠ x)
    (h : ∀ h' t, Fr h₀ L h' m → News h₀ L h' ((x, ⟨.ref C, dx, .fields #[.ref t, .none, .none, .none, .bool false, .none], sl⟩) :: (t, ⟨.type "tuple", none, .seq #[v], #[]⟩) :: rest) → t ≠ x → (∀ p ∈ rest, p.1 ≠ t) → Q .none { s with heap := h' }) :
    wpAny (model prog w) A (call (.builtin initId) [.ref x, v]) Q E s := by
  have hx0 := (Nw _ (.head _)).1
  have N1 := Nw.push F { cls := .type "tuple", data := .seq #[v] }
  have F1 := F.push { cls := .type "tuple", data := .seq #[v] }
  have hlt : x < s.heap.objs.size := Heap.lt_size hx0
  have hdr : ∀ p ∈ rest, p.1 ≠ s.heap.objs.size := fun p hp => Nat.ne_of_lt (Heap.lt_size (Nw p (.tail _ hp)).1)
  have N2 : News h₀ L (s.heap.push { cls := .type "tuple", data := .seq #[v] }) ((x, ⟨.ref C, dx, .fields #[.ref t0, .none, .none, .none, .bool false, .none], sl⟩) :: (s.heap.objs.size, ⟨.type "tuple", none, .seq #[v], #[]⟩) :: rest) := fun p hp => by
    rcases List.mem_cons.mp hp with rfl | hp
    · exact N1 _ (.tail _ (.head _))
    · rcases List.mem_cons.mp hp with rfl | hp
      · exact N1 _ (.head _)
      · exact N1 _ (.tail _ (.tail _ hp))
  obtain ⟨U1, U2⟩ := news_upd (pre := []) (d := x) (o' := ⟨.ref C, dx, .fields #[.ref s.heap.objs.size, .none, .none, .none, .bool false, .none], sl⟩) (f := Obj.mapFields (·.setIfInBounds 0 (Value.ref s.heap.objs.size))) F1 N2 (fun p hp => nomatch hp) (fun p hp => by rcases List.mem_cons.mp hp with rfl | hp; exact (Nat.ne_of_lt hlt).symm; exact hx p hp) rfl rfl
  have z := h _ _ U1 U2 (Nat.ne_of_lt hlt).symm hdr
  obtain ⟨hp, g, d, tk, os⟩ := s
  refine wpAny_call (codeAny_call_builtin FB.init.plain FB.initEntry (check_initX FB hb hC hx0 rfl ?_))
  wp_walk
  exact z
end
noncomputable def RaisableX (C : Addr) (E : Value → Shared → Prop) (v : Value) (s₁ : Shared) : Prop :=
  ∃ a oe vs nm q N bs bm hdct sn sub ab col dd k0 k1 k2 k3 k5 newId, v = .ref a ∧ s₁.heap.get? C = some (excClassObj nm q C N bs bm hdct sn sub ab col dd k0 k1 k2 k3 k5 newId) ∧ bm.contains (.type "BaseException") = true ∧
    s₁.heap.get? a = some oe ∧ oe.cls = .ref C ∧ oe.data = .fields vs ∧ vs[1]? = some .none ∧ E (.ref a) s₁
theorem Raise_X {M : Model} {A : Around} {E : Value → Shared → Prop} {s : Shared} {env : Env} {e : Expr} {pos : Pos} {C : Addr} {Q : Flow → Shared → Prop} (hh : A.handled = none)
    (h : wpAny M A (eval e env) (RaisableX C E) E s) : wpAny M A (exec (.Raise (some e) none pos) env) Q E s := by
  show wpAny M A (do standAt pos; raiseStmt env (some (do let v ← eval e env; standAt pos; pure v)) none) Q E s
  refine wpAny_bind (wpAny_standAt ?_)
  unfold raiseStmt
  dsimp only
  refine wpAny_bind (wpAny_bind (wpAny_mono h (fun v s₁ h₁ => wpAny_bind (wpAny_standAt (wpAny_pure ?_))) fun _ _ x => x))
  obtain ⟨a, oe, vs, nm, q, N, bs, bm, hdct, sn, sub, ab, col, dd, k0, k1, k2, k3, k5, newId, rfl, hC, hbase, ha, hcls, hd, h1, hE⟩ := h₁
  have hcB : (Value.ref C :: bm).contains (.type "BaseException") = true := by rw [List.contains_cons, hbase, Bool.or_true]
  have hnt : ∀ {Q' : Bool → Shared → Prop}, Q' false s₁ → wpAny M A (isType (.ref a)) Q' E s₁ := by
    intro Q' hq
    simp only [isType, loadHead]
    refine wpAny_bind (wpAny_loadPart ha ?_)
    rw [hd]; exact wpAny_pure hq
  refine wpAny_bind (wpAny_pure ?_)
  dsimp only
  refine wpAny_bind (wpAny_holding ?_)
  unfold excFromValue isExcClass
  refine wpAny_bind (wpAny_bind (hnt ?_))
  simp only [Bool.false_eq_true, if_false]
  refine wpAny_pure ?_
  simp only [Bool.false_eq_true, if_false]
  have t1 : Looks M s₁.heap (typeOf (.ref a)) (.ref C) := by rw [← hcls]; exact (Looks.ld ha).andThen .now
  unfold isInstance
  obtain ⟨hp, g, d, tk, os⟩ := s₁
  refine wpAny_bind (wpAny_bind (t1 _ _ _ _ (fun _ _ e => e) (wpAny_isSubtype_exc hC ?_)))
  rw [hcB]
  simp only [if_true]
  refine wpAny_pure ?_
  refine wpAny_bind (hnt ?_)
  simp only [Bool.false_eq_true, if_false]
  unfold raisedInstance
  have t2 : Looks M hp (typeOf (.ref C)) (.type "type") := (Looks.ld hC).andThen .now
  refine wpAny_bind (wpAny_bind (t1 _ _ _ _ (fun _ _ e => e) (wpAny_bind (t2 _ _ _ _ (fun _ _ e => e) ?_))))
  rw [if_pos (by decide)]
  refine wpAny_pure ?_
  unfold setFlight raiseNew
  refine wpAny_bind (wpAny_bind (wpAny_field ha hd h1 ?_))
  rw [if_neg (by decide)]
  refine wpAny_pure (wpAny_bind (wpAny_handled ?_))
  rw [hh]
  first
    | exact wpAny_throw hE
    | exact wpAny_bind (wpAny_pure (wpAny_throw hE))

section
variable {M : Model} {A : Around} {E : Value → Shared → Prop} {s' : Shared} {base g g₂ h : Heap} {outer : List Env} {L a e t : Addr} {m : Str → Option Value} {name : Str} {scope : Scope} {cd : Value} {Q : Unit → Shared → Prop} {news rest : List (Addr × Obj)}
theorem leave_X {cls : Value} {oe ot : Obj} {fs : Array Value} {vs : List Value} {n : Nat} (K : Below A base outer g) (F : Fr g L s'.heap m) (N : News g L s'.heap rest) (he : (e, oe) ∈ rest) (ht : (t, ot) ∈ rest) (hs : ∀ q ∈ news, q ∈ rest ∧ q.1 ≠ e ∧ q.1 ≠ t)
    (h1 : oe.cls = cls) (h2 : oe.data = .fields fs) (h3 : fs[1]? = some .none) (h4 : fs[0]? = some (.ref t)) (h5 : ot.cls = .type "tuple") (h6 : ot.data = .seq vs.toArray n)
    (hQ : ∀ h', RaisedS base g outer e cls t vs news h' → g.UpToSlots h' → Q () { s' with heap := h' }) (hk : scope.kind = .function := by rfl) :
    wpAny M (A.deeper (envOf name scope L a cd)) (leaving (envOf name scope L a cd) (.ref e)) Q E s' := by
  subst h1
  have K' := K.push (name := name) (a := a) (cd := cd) F hk
  have hin : ∀ env ∈ (envOf name scope L a cd :: outer), ∀ b, env.frame = some b → b ∈ e :: t :: (envOf name scope L a cd :: outer).filterMap (·.frame) := fun env he b hb => .tail _ (.tail _ (List.mem_filterMap.mpr ⟨env, he, hb⟩))
  have eb : base.get? e = none := fresh_of_stays K.stays (N _ he).2.2
  have tb : base.get? t = none := fresh_of_stays K.stays (N _ ht).2.2
  have st : base.StaysIn (hideAll s'.heap (e :: t :: (envOf name scope L a cd :: outer).filterMap (·.frame))) := fun b o q => hideAll_get _ (K'.stays b o q) fun hm => by
    rcases List.mem_cons.mp hm with rfl | hm
    · rw [eb] at q; cases q
    · rcases List.mem_cons.mp hm with rfl | hm
      · rw [tb] at q; cases q
      · rw [(K'.frames.mem hm).1] at q; cases q
  have sg : ∀ b o, g.get? b = some o → b ∉ outer.filterMap (·.frame) → (hideAll s'.heap (e :: t :: (envOf name scope L a cd :: outer).filterMap (·.frame))).get? b = some o := fun b o q nm => hideAll_get _ (F.keep b o q) fun hm => by
    rcases List.mem_cons.mp hm with rfl | hm
    · rw [(N _ he).2.2] at q; cases q
    · rcases List.mem_cons.mp hm with rfl | hm
      · rw [(N _ ht).2.2] at q; cases q
      · rcases kts_mem hm with z | z
        · rw [z, kts_self F] at q
          cases q
        · exact nm z
  have hl : ∀ q ∈ news, (hideAll s'.heap (e :: t :: (envOf name scope L a cd :: outer).filterMap (·.frame))).get? q.1 = some q.2 ∧ g.get? q.1 = none ∧ base.get? q.1 = none := fun q hq => by
    obtain ⟨hq, qe, qt⟩ := hs q hq
    refine ⟨hideAll_get _ (N q hq).1 fun hm => ?_, (N q hq).2.2, fresh_of_stays K.stays (N q hq).2.2⟩
    rcases List.mem_cons.mp hm with z | hm
    · exact qe z
    · rcases List.mem_cons.mp hm with z | hm
      · exact qt z
      · obtain ⟨env, he, hf⟩ := List.mem_filterMap.mp hm
        rcases List.mem_cons.mp he with rfl | he
        · exact (N q hq).2.1 (Option.some.inj hf).symm
        · obtain ⟨o, ho, _⟩ := (K.frames.mem (List.mem_filterMap.mpr ⟨env, he, hf⟩)).2
          rw [(N q hq).2.2] at ho; cases ho
  refine wpAny_leaving_firstW (a0 := .ref t) K'.stack (funFrames_hide K'.frames hin) rfl (N _ he).1 (fun b o q => of_hideAll _ q) (hideAll_none _ (.head _)) h2 h3 h4 fun h' hL => ?_
  obtain ⟨k1, ⟨_, _, k2⟩, k3, k4⟩ := hL
  exact hQ h' ⟨⟨_, st, sg, hl, ⟨k1, hideAll_none _ (.head _), k2, k3⟩, hideAll_none _ (.tail _ (.head _))⟩, Heap.TupAt.of_slots ⟨_, _, (N _ ht).1, h5, h6⟩ k4⟩ ((Heap.UpToSlots.of_keeps F.keep).trans k4)

theorem RaisedS.sub {base G : Heap} {l : List Env} {e t : Addr} {cls : Value} {vs : List Value} {news news' : List (Addr × Obj)} {h : Heap} (R : RaisedS base G l e cls t vs news h) (hs : ∀ q ∈ news', q ∈ news) : RaisedS base G l e cls t vs news' h := by
  obtain ⟨⟨B, hB, hBG, hl, hfl, hnew⟩, htup⟩ := R
  exact ⟨⟨B, hB, hBG, fun q hq => hl q (hs q hq), hfl, hnew⟩, htup⟩
/-- a frame is left that has not caught -/
theorem leave_onX {env : Env} {cls : Value} {vs : List Value} (hf : env.frame = some L) (K : Below A base outer g) (F : Fr g L g₂ m) (R : RaisedS base g₂ (env :: outer) e cls t vs news s'.heap) (hsm : g₂.UpToSlots s'.heap)
    (hQ : ∀ h', RaisedS base g outer e cls t vs news h' → g.UpToSlots h' → Q () { s' with heap := h' }) :
    wpAny M (A.deeper env) (leaving env (.ref e)) Q E s' := by
  obtain ⟨⟨B, hB, hBG, hl, hfl, hnew⟩, htup⟩ := R
  have mem : ∀ b, b ∈ (env :: outer).filterMap (·.frame) → b = L ∨ b ∈ outer.filterMap (·.frame) := fun b hm => by
    obtain ⟨env', he, hf'⟩ := List.mem_filterMap.mp hm
    rcases List.mem_cons.mp he with rfl | he
    · rw [hf] at hf'; exact .inl (Option.some.inj hf').symm
    · exact .inr (List.mem_filterMap.mpr ⟨env', he, hf'⟩)
  refine wpAny_leaves_onW (Around.frames_deeper K.stack) hf hfl fun h' x1 x2 => ?_
  exact hQ h' ⟨⟨B, hB, fun b o q nm => hBG b o (F.keep b o q) (fun hm => by
      rcases mem b hm with z | z
      · rw [z, kts_self F] at q
        cases q
      · exact nm z), fun q hq => ⟨(hl q hq).1, kts_none F.keep (hl q hq).2.1, (hl q hq).2.2⟩, x1, hnew⟩, htup.of_slots x2⟩ ((Heap.UpToSlots.of_keeps F.keep).trans (hsm.trans x2))
end

/-- an own exception's class as the part holds it -/
noncomputable def isNewV : Option Value → Bool | some (.builtin n) => n == "Exception.__new__" | _ => false
theorem isNewV_eq {v : Option Value} (h : isNewV v = true) : v = some (.builtin "Exception.__new__") := by
  unfold isNewV at h
  split at h
  · rw [beq_iff_eq.mp h]
  · cases h
noncomputable def headIs (C : Addr) : List Value → Bool | .ref C' :: bm => C' == C && onlyExc bm | _ => false
theorem headIs_eq {C : Addr} {l : List Value} (h : headIs C l = true) : ∃ bm, l = .ref C :: bm ∧ onlyExc bm = true := by
  unfold headIs at h
  split at h
  · obtain ⟨a, b⟩ := Bool.and_eq_true_iff.mp h
    exact ⟨_, by rw [beq_iff_eq.mp a], b⟩
  · cases h
theorem six {α : Type} {l : List α} (h : l.length = 6) : ∃ a b c d e f, l = [a, b, c, d, e, f] := by
  rcases l with _ | ⟨a, _ | ⟨b, _ | ⟨c, _ | ⟨d, _ | ⟨e, _ | ⟨f, _ | ⟨g, l⟩⟩⟩⟩⟩⟩⟩ <;> simp at h
  exact ⟨a, b, c, d, e, f, rfl⟩
noncomputable def excInX (K : Frag) (C : Addr) : Bool := match K.lookup C with
  | some ⟨.type "type", _, .cls cd, sl⟩ => headIs C cd.mro && !cd.hasDel && sl.toList.length == 6 && isNewV ((sl.toList.drop 4).headD none)
  | _ => false
theorem exc_cls {K : Frag} {h : Heap} {C : Addr} (X : K.In h) (q : excInX K C = true) : ∃ nm qn N bs bm hdct sn sub ab col dd k0 k1 k2 k3 k5,
    h.get? C = some (excClassObj nm qn C N bs bm hdct sn sub ab col dd k0 k1 k2 k3 k5 "Exception.__new__") ∧ onlyExc bm = true := by
  unfold excInX at q
  split at q
  · rename_i dd cd sl ho
    simp only [Bool.and_eq_true, beq_iff_eq, Bool.not_eq_true'] at q
    obtain ⟨⟨⟨hm, hdel⟩, h6⟩, hn⟩ := q
    obtain ⟨bm, hm, hb⟩ := headIs_eq hm
    obtain ⟨k0, k1, k2, k3, k4, k5, hs⟩ := six h6
    rw [hs] at hn
    have hk := isNewV_eq hn
    simp only [List.drop, List.headD] at hk
    subst hk
    obtain ⟨nm, bs, mro, ns, qn, hd, sn, sub, ab, col, del⟩ := cd
    dsimp only at hm hdel
    subst hm hdel
    have hsl : sl = #[k0, k1, k2, k3, some (.builtin "Exception.__new__"), k5] := by
      obtain ⟨l⟩ := sl
      simp only at hs
      rw [hs]
    subst hsl
    exact ⟨nm, qn, ns, bs, bm, hd, sn, sub, ab, col, dd, k0, k1, k2, k3, k5, X _ _ ho, hb⟩
  · cases q
/-- the class called: in the words of a part and a ledger -/
theorem call_X {prog : Program} {w : World} {A : Around} {E : Value → Shared → Prop} {K : Frag} {C fI L : Addr} {s : Shared} {h₀ : Heap} {m : Str → Option Value} {news : List (Addr × Obj)} {v : Value} {Q : Value → Shared → Prop} (F : Fr h₀ L s.heap m) (X₀ : K.In h₀) (N : News h₀ L s.heap news) (hc : excInX K C = true)
    (hi : findIn K (.ref C) "__init__" = some (some (.ref fI))) (hf : isFn K (.ref fI) = true)
    (h : ∀ x t h', Fr h₀ L h' m → News h₀ L h' ((x, ⟨.ref C, none, .fields #[.ref t, .none, .none, .none, .bool false, .none], #[]⟩) :: (t, ⟨.type "tuple", none, .seq #[v], #[]⟩) :: news) → (∀ p ∈ news, p.1 < t) → t < x →
      codeAny (model prog w) (A.under (.builtin "type.__call__" ⟨[.ref C, v], []⟩)) (.call (.ref fI) ⟨[.ref x, v], []⟩) (InitBack x fun r s' => match r with | .ok (.ret v) => Q v s' | .ok _ => False | .error e => E e s') { s with heap := h' }) :
    wpAny (model prog w) A (call (.ref C) [v]) Q E s := by
  obtain ⟨nm, qn, Ns, bs, bm, hdct, sn, sub, ab, col, dd, k0, k1, k2, k3, k5, hC, ho⟩ := exc_cls (X₀.keeps F.keep) hc
  have N2 := (N.push F { cls := .type "tuple", data := .seq #[v] }).push (F.push _) { cls := .ref C, data := .fields #[.ref s.heap.objs.size, .none, .none, .none, .bool false, .none] }
  have F2 := (F.push { cls := .type "tuple", data := .seq #[v] }).push { cls := .ref C, data := .fields #[.ref s.heap.objs.size, .none, .none, .none, .bool false, .none] }
  have z := h _ s.heap.objs.size _ F2 N2 (fun p hp => Heap.lt_size (N p hp).1) (by rw [Heap.size_push]; exact Nat.lt_succ_self _)
  have X := X₀.keeps F.keep
  obtain ⟨hh, g, d, t, os⟩ := s
  refine wpAny_call (call_excX PySem.F.excBase_Exception (exc_has (by decide) ho) (exc_has (by decide) ho) (exc_has (by decide) ho) hC X hi (beq_iff_eq.mp hf) ?_ (by simp [sizeLine_eq]))
  rw [Heap.size_push] at z
  exact z
theorem init_X {prog : Program} {w : World} {A : Around} {E : Value → Shared → Prop} {K : Frag} {C L x t0 : Addr} {s : Shared} {h₀ : Heap} {m : Str → Option Value} {sl : Array (Option Value)} {rest : List (Addr × Obj)} {v : Value} {Q : Value → Shared → Prop} {dx : Option Addr} (F : Fr h₀ L s.heap m) (X₀ : K.In h₀)
    (Nw : News h₀ L s.heap ((x, ⟨.ref C, dx, .fields #[.ref t0, .none, .none, .none, .bool false, .none], sl⟩) :: rest)) (hx : ∀ p ∈ rest, p.1 ≠ x) (hc : excInX K C = true)
    (h : ∀ h' t, Fr h₀ L h' m → News h₀ L h' ((x, ⟨.ref C, dx, .fields #[.ref t, .none, .none, .none, .bool false, .none], sl⟩) :: (t, ⟨.type "tuple", none, .seq #[v], #[]⟩) :: rest) → t ≠ x → (∀ p ∈ rest, p.1 ≠ t) → Q .none { s with heap := h' }) :
    wpAny (model prog w) A (call (.builtin "Exception.__init__") [.ref x, v]) Q E s := by
  obtain ⟨nm, qn, Ns, bs, bm, hdct, sn, sub, ab, col, dd, k0, k1, k2, k3, k5, hC, ho⟩ := exc_cls (X₀.keeps F.keep) hc
  exact init_excX PySem.F.excBase_Exception (exc_has (by decide) ho) hC F Nw hx h
end Xc

-- P09
/-- a call that may end in a MimeFault where `Bad` -/
noncomputable def CtrR (prog : Program) (w : World) (p : Program) (loose : List Str) (mean : ExcName → Option Value) (mg mb : Str → Option Value) (f : Addr) (d u : Nat)
    (Rel : List (Addr × Obj) → Prop) (vs : List Value) (Out : Value → Prop) (Bad : Prop) : Prop :=
  ∀ (dp un : Nat) (gd : Option (List Code)) (cn : Str) (cs : Scope) (a : Addr) (ccd : Value) (cl : List (Str × Addr)) (outer : List Env) (A₀ : Around) (base h₀ : Heap) (L : Addr) (m : Str → Option Value) (news : List (Addr × Obj)) (s : Shared)
    (Q E : Value → Shared → Prop),
    Below A₀ base outer h₀ → Fr h₀ L s.heap m → (layK.heap_1 w.params).In h₀ → News h₀ L s.heap news → Top p loose mean mg mb h₀ → cs.kind = .function → Rel news → dp + d < recursionLimit → un + u < cLine →
    (∀ r h' tk', Fr h₀ L h' m → News h₀ L h' news → Out r → Q r { s with heap := h', toks := tk' }) →
    (Bad → ∀ e t ws g h' tk', Fr h₀ L g m → g.UpToSlots h' → RaisedS base g (envX cn cs L a ccd cl :: outer) e (.ref 96) t ws news h' → E (.ref e) { s with heap := h', toks := tk' }) →
    wpAny (model prog w) (ktrTop dp un gd cn cs L a ccd cl outer) (call (.ref f) vs) Q E s
section
variable {prog : Program} {w : World} {p : Program} {loose : List Str} {mean : ExcName → Option Value} {mg mb : Str → Option Value} {f : Addr} {d u : Nat}
    {Rel : List (Addr × Obj) → Prop} {vs : List Value} {Out : Value → Prop} {Bad : Prop}
  {dp un : Nat} {gd : Option (List Code)} {cn : Str} {cs : Scope} {a : Addr} {ccd : Value} {cl : List (Str × Addr)} {outer : List Env} {A₀ : Around} {base h₀ : Heap} {L : Addr} {m : Str → Option Value} {news : List (Addr × Obj)} {s : Shared}
    {Q E : Value → Shared → Prop}
theorem CtrR.use (C : CtrR prog w p loose mean mg mb f d u Rel vs Out Bad)
    (B : Below A₀ base outer h₀) (F : Fr h₀ L s.heap m) (X : (layK.heap_1 w.params).In h₀) (N : News h₀ L s.heap news) (T : Top p loose mean mg mb h₀) (hk : cs.kind = .function) (hR : Rel news) (hd : dp + d < recursionLimit) (hu : un + u < cLine)
    (hQ : ∀ r h' tk', Fr h₀ L h' m → News h₀ L h' news → Out r → Q r { s with heap := h', toks := tk' })
    (hE : Bad → ∀ e t ws g h' tk', Fr h₀ L g m → g.UpToSlots h' → RaisedS base g (envX cn cs L a ccd cl :: outer) e (.ref 96) t ws news h' → E (.ref e) { s with heap := h', toks := tk' }) :
    wpAny (model prog w) (ktrTop dp un gd cn cs L a ccd cl outer) (call (.ref f) vs) Q E s := C _ _ _ _ _ _ _ _ _ _ _ _ _ _ _ _ _ _ B F X N T hk hR hd hu hQ hE
end
noncomputable def S (x : String) : Str := Str.ofString x
/-- MIME's own words -/
noncomputable def ownW : List Str := [⟨#[99, 111, 110, 116, 101, 110, 116, 45, 116, 121, 112, 101]⟩, ⟨#[99, 111, 110, 116, 101, 110, 116, 45, 116, 114, 97, 110, 115, 102, 101, 114, 45, 101, 110, 99, 111, 100, 105, 110, 103]⟩, ⟨#[109, 105, 109, 101, 45, 118, 101, 114, 115, 105, 111, 110]⟩]
noncomputable def barred (f : Array UInt8 × Array UInt8) : Bool := ownW.any (· == wordOf f.1)
/-- a tuple on the ledger or at the top -/
noncomputable def TupN (w : World) (news : List (Addr × Obj)) (a : Addr) (vs : List Value) : Prop :=
  (∃ o n, (a, o) ∈ news ∧ o.cls = .type "tuple" ∧ o.data = .seq vs.toArray n) ∨ (∃ od n sl, (layK.heap_1 w.params).lookup a = some ⟨.type "tuple", od, .seq vs.toArray n, sl⟩)
theorem TupN.tup {w : World} {news : List (Addr × Obj)} {a : Addr} {vs : List Value} {h₀ h : Heap} {L : Addr} {m : Str → Option Value} (T : TupN w news a vs) (X : (layK.heap_1 w.params).In h₀) (F : Fr h₀ L h m) (N : News h₀ L h news) : IsTup h a vs.toArray := by
  rcases T with ⟨o, n, hm, hc, hd⟩ | ⟨od, n, sl, e⟩
  · exact ⟨o, N.get hm, hc, n, hd⟩
  · exact tup_of_K X F e
theorem TupN.mono {w : World} {news news' : List (Addr × Obj)} {a : Addr} {vs : List Value} (T : TupN w news a vs) (hs : ∀ p ∈ news, p ∈ news') : TupN w news' a vs := by
  rcases T with ⟨o, n, hm, hc, hd⟩ | h
  · exact .inl ⟨o, n, hs _ hm, hc, hd⟩
  · exact .inr h
theorem src_tup {prog : Program} {w : World} {A : Around} {h₀ : Heap} {L : Addr} (hh : A.handled = none) (ax : Addr) (its : Array Value) (hl : IsTup h₀ ax its) : SrcW prog w A h₀ L (.ref ax) its.size (fun i v => its[i]? = some v) (fun _ => True) where
  go := fun s₁ news m Q E F N S hQ => by
    have hl1 : s₁.heap.IsTuple ax its := by obtain ⟨o, e, r⟩ := hl; exact ⟨o, F.keep _ _ e, r⟩
    have hlt : ax < s₁.heap.objs.size := by obtain ⟨_, e, _⟩ := hl1; exact Heap.lt_size e
    refine wpAny_pyIter_tuple hl1 ?_
    refine hQ _ _ _ (Walks.tuple hh s₁.heap.objs.size ax (Nat.ne_of_lt hlt) its) (fun b hb => ?_) ⟨⟨_, Heap.get?_push_size _ rfl, rfl, rfl⟩, hl1.at fun o e => Heap.get?_push_of_some _ e⟩ (fun i h st => by obtain ⟨o, e, _⟩ := st.1; exact ⟨o, e⟩) ?_
    · rw [Heap.size_push]
      rcases List.mem_cons.mp hb with rfl | hb
      · exact Nat.lt_succ_self _
      · rw [List.mem_singleton.mp hb]; exact Nat.lt_succ_of_lt hlt
    · rintro i h h' o nw st e e' k N' S'
      refine ⟨by obtain ⟨o', q, r⟩ := st.1; rw [e] at q; cases q; exact ⟨o, e', r⟩, ?_⟩
      obtain ⟨o, e, r⟩ := hl; exact ⟨o, k _ _ e, r⟩
theorem tup_K0 {K : Frag} {h₀ : Heap} {a : Addr} {od : Option Addr} {items : Array Value} {n : Nat} {sl : Array (Option Value)} (X : K.In h₀) (e : K.lookup a = some ⟨.type "tuple", od, .seq items n, sl⟩) : IsTup h₀ a items := ⟨_, X _ _ e, rfl, _, rfl⟩
section
variable {prog : Program} {w : World} {p : Program} {loose : List Str} {mean : ExcName → Option Value} {mg mb : Str → Option Value}
end
theorem row48 : True := by (k_with "Q call type:list" => (k_here; (with_reducible show wpAny _ _ (call (Value.type _) [Value.ref _]) _ _ _); (k_dflt (refine' list_copyKT ?k1 ?k2 ?k3 ?_ ?z; (case k1 => k_asm); (case k2 => k_asm); (case k3 => first | exact TupN.tup (by assumption) (by k_asm) (by k_asm) (by k_asm) | exact TupN.tup (TupN.mono (by assumption) (by walk_at "MY sub")) (by k_asm) (by k_asm) (by k_asm)); (case z => rw [PySem.sizeLine_eq]; simp only [List.size_toArray]; omega))); intro zD' zc' zh' zF' zN' zl1)); trivial
theorem row49 : True := by (k_with "MY call138" => ((repeat' (fail_if_success (with_reducible show wpAny _ _ (call (Value.ref 138) _) _ _ _)); first | (k_unfold; (try dsimp only)) | walk1 | (dsimp only; walk1)); (with_reducible show wpAny _ _ (call (Value.ref 138) _) _ _ _); (refine' Ctr.use (c_word _ _ _ ?n1) ?k1 ?k2 ?k3 ?k4 ?k5 ?kK ?kR ?kd ?ku ?_; (case k4 => k_asm); (case kR => first | assumption | exact FieldIn.mono (by assumption) (by walk_at "MY sub")); (case n1 => assumption); (case k1 => k_asm); (case k2 => k_asm); (case k3 => k_asm); (case k5 => k_asm); (case kK => first | exact rfl | assumption); (case kd => ktr_room); (case ku => ktr_units)); walk_at "MY got1")); trivial
theorem row50 : True := by (k_with "MY compT" => (refine' comp_T (by k_asm) ?a1 ?a2 ?a3 ?a4 ?a5 ?_ ?a7; (case a1 => with_unfolding_all rfl); (case a2 => decide); (case a3 => rfl); (case a4 => decide); (case a5 => rfl); (case a7 => intro _; rfl))); trivial
theorem row51 : True := by (k_with "Q exec Raise some none" => (k_here; k_dflt (refine Xc.Raise_X (C := 96) rfl ?_))); trivial
section
variable {prog : Program} {w : World} {p : Program} {loose : List Str} {mean : ExcName → Option Value} {mg mb : Str → Option Value}
theorem Xc.ne_two {l : List (Addr × Obj)} {t x : Addr} {o : Obj} (h1 : ∀ p ∈ l, p.1 < t) (h2 : t < x) : ∀ p ∈ (t, o) :: l, p.1 ≠ x := fun p hp => by
  rcases List.mem_cons.mp hp with rfl | hp
  · exact Nat.ne_of_lt h2
  · exact Nat.ne_of_lt (Nat.lt_trans (h1 p hp) h2)
theorem Xc.ne_cons {l : List (Addr × Obj)} {t x : Addr} {o : Obj} (h1 : t ≠ x) (h2 : ∀ p ∈ l, p.1 ≠ x) : ∀ p ∈ (t, o) :: l, p.1 ≠ x := fun p hp => by
  rcases List.mem_cons.mp hp with rfl | hp
  · exact h1
  · exact h2 p hp
theorem filter_lt {α : Type} {p : α → Bool} : ∀ {l : List α} {x : α}, x ∈ l → p x = false → (l.filter p).length < l.length := by
  intro l
  induction l with
  | nil => intro x hx _; cases hx
  | cons y l ih =>
    intro x hx h
    rw [List.filter_cons]
    have h0 := List.length_filter_le p l
    rcases List.mem_cons.mp hx with rfl | hx
    · rw [h, if_neg (by decide), List.length_cons]; omega
    · have h1 := ih hx h
      split
      · rw [List.length_cons, List.length_cons]; omega
      · rw [List.length_cons]; omega
theorem strs_are : ∀ {xs : List Str} {ys : List Value}, Paired (fun x y => ∃ u, y = Value.str x u) xs ys → PyProof.Rows.StrsAre ys xs
  | _, _, .nil => .nil
  | _, _, .cons ⟨u, e⟩ r => e ▸ .cons _ u (strs_are r)
theorem c_check (a : Addr) (vs : List Value) (fs : List (Array UInt8 × Array UInt8)) (hs : ∀ f ∈ fs, SoundF f.1 f.2) (hlen : fs.length ≤ 8) :
    CtrR prog w p loose mean mg mb 553 10 80 (fun news => TupN w news a vs ∧ Paired (FieldAt news) fs vs) [.ref a] (fun r => r = .none ∧ ∀ f ∈ fs, barred f = false) (∃ f ∈ fs, barred f = true) := by
  intro dp un gd cn cs a' ccd cl outer A₀ base h₀ L m news s Q E B F X N T hk hR hd hu hret hrai
  obtain ⟨hT, hP⟩ := hR
  have hvl := hP.length
  refine wpAny_call ?_
  k_dflt cell_enter
  k_steps
  refine ⟨_, _, _, _, by k_asm, by k_asm, src_tup rfl 398 _ (tup_K0 (by k_asm) (by k_dflt k_is)), trivial, Nat.le_of_ble_eq_true rfl, fun g => ?_⟩
  refine rest_map ownW (fun x v => x ∈ ownW ∧ ∃ u, v = .str x u) (fun x y => ∃ u, y = .str x u) rfl ?_ trivial ?_ ?_
  · intro i v hi hv
    match i, hi with
    | 0, _ => cases hv; exact ⟨_, rfl, .head _, _, rfl⟩
    | 1, _ => cases hv; exact ⟨_, rfl, .tail _ (.head _), _, rfl⟩
    | 2, _ => cases hv; exact ⟨_, rfl, .tail _ (.tail _ (.head _)), _, rfl⟩
  · rintro x v I oI C oC D m₂ ys h tk E' hx ⟨_, u, rfl⟩ hC hx2 F N off ne
    have hz1 : x.cps.size ≤ 1000 := by rcases List.mem_cons.mp hx with rfl | hx; decide; rcases List.mem_cons.mp hx with rfl | hx; decide; rw [List.mem_singleton.mp hx]; decide
    have hz2 : ∀ c ∈ x.cps.toList, c < 1000 := by rcases List.mem_cons.mp hx with rfl | hx; decide; rcases List.mem_cons.mp hx with rfl | hx; decide; rw [List.mem_singleton.mp hx]; decide
    have hz3 : lowerS x = x := by rcases List.mem_cons.mp hx with rfl | hx; decide +kernel; rcases List.mem_cons.mp hx with rfl | hx; decide +kernel; rw [List.mem_singleton.mp hx]; decide +kernel
    k_steps
    exact ElEnd.intro (by k_asm) (by k_asm) ⟨_, by rw [hz3]⟩
  · intro ys hP2
    repeat' (fail_if_success (with_reducible show wpAny _ _ (eval (Expr.ListComp _ _ _ _) _) _ _ _)); first | (k_unfold; (try dsimp only)) | walk1 | (dsimp only; walk1)
    walk_at "MY compT"
    k_steps
    refine ⟨vs.toArray.size, (fun i v => vs.toArray[i]? = some v), _, _, by k_asm, by k_asm, src_list rfl _ vs.toArray, Or.inr ⟨_, by k_mem, rfl, _, rfl⟩, by rw [sizeLine_eq]; simp; omega, fun g => ?_⟩
    refine rest_filter fs (fun f v => f ∈ fs ∧ FieldAt news f v) (fun f => !(barred f)) (fun f y => FieldAt news f y) (by simp [hvl]) ?_ (Or.inr ⟨_, by k_mem, rfl, _, rfl⟩) ?_ ?_ ?_
    · intro i v hi hv
      obtain ⟨f, e, hF⟩ := paired_at hP i v (by simpa using hv)
      exact ⟨f, e, List.mem_of_getElem? e, hF⟩
    · rintro f v I oI C oC D m₂ ys h tk E' hf ⟨_, a, rfl, hfi⟩ hC hx F N off ne
      obtain ⟨z1, _, _, z2, _⟩ := hs f hf
      have hfi2 := hfi
      obtain ⟨dx, h1, t1, t2, h2, t3, t4, m3, m4⟩ := hfi2
      walk_at "MY call138"
      k_steps
      refine PyProof.Rows.notin_list_strs (News.isList (by k_asm) (by k_mem)) (strs_are hP2) ?_
      k_steps

      exact TsEnd.intro (by k_asm) (by k_asm) rfl
    · rintro f v I oI C oC D m₂ ys h tk E' hf ⟨_, hfa⟩ hpz hC hx F N off ne
      k_steps

      exact ElEnd.intro (by k_asm) (by k_asm) hfa
    · intro ys2 hP3
      k_steps
      have hl3 := hP3.length
      refine len_list (News.isList (by k_asm) (by k_mem)) (by simp; have := List.length_filter_le (fun f => !(barred f)) fs; omega) ?_
      k_steps
      rename News _ _ _ _ => N'2
      refine len_tuple (TupN.tup (TupN.mono hT (by walk_at "MY sub")) (by k_asm) (by k_asm) N'2) (by simp; omega) ?_
      k_steps
      · skip
        refine Xc.call_X (by k_asm) (by k_asm) (by k_asm) (by kernel_rfl) (by k_is) (by k_is) ?_
        intro x t h' Fx Nx lx1 lx2
        walk_at "MY enter"
        k_steps
        refine method_type (by k_asm) (by k_asm) (by kernel_rfl) (by decide +kernel) (by k_dflt k_is) (by k_handed) ?_
        k_steps

        have hx1 := fun o => Xc.ne_two (o := o) lx1 lx2
        refine Xc.init_X (by k_asm) (by k_asm) (by k_asm) (hx1 _) (by kernel_rfl) ?_
        intro h2 t2 F2 N2 ne2 nt2
        have hx2 := fun o o' => Xc.ne_cons (o := o') ne2 (hx1 o)
        k_steps
        refine Xc.set_firstX (K := Mine.layK.heap_1 w.params) (by k_asm) (by k_asm) (by k_in) (hx2 _ _) (by k_is) (by kernel_rfl) (by k_is) (by kernel_rfl) ?_
        intro h3 dx F3 N3 ne3 nt3
        k_steps
        refine Xc.set_dictX (K := Mine.layK.heap_1 w.params) (by k_asm) (by k_asm) (by k_in) ⟨(N3 _ (.tail _ (.head _))).1, rfl, rfl, (N3 _ (.head _)).1⟩ rfl (by k_is) (by kernel_rfl) (by k_is) (by kernel_rfl) (by k_get) (Xc.ne_cons ne3.symm nt3) (by k_put) (Nat.le_of_ble_eq_true rfl) ?_
        intro h4 F4 N4
        k_steps
        rename Fr _ _ _ _ => F5
        rename News _ _ _ _ => N5
        obtain ⟨nm, qn, Ns, bs, bm, hdct, sn, sub, ab, col, dd, k0, k1, k2, k3, k5, hC, ho⟩ := Xc.exc_cls (K := Mine.layK.heap_1 w.params) (C := 96) (h := h4) (by k_in) (by kernel_rfl)
        refine ⟨x, _, _, nm, qn, Ns, bs, bm, hdct, sn, sub, ab, col, dd, k0, k1, k2, k3, k5, _, rfl, hC, Xc.exc_has (by decide) ho, (N5 _ (.tail _ (.head _))).1, rfl, rfl, rfl, ?_⟩
        k_unfold
        refine Xc.leave_X (news := news) (by k_asm) F5 N5 (.tail _ (.head _)) (.tail _ (.tail _ (.head _))) (fun q hq => ⟨by repeat (first | exact hq | refine List.Mem.tail _ ?_), Nat.ne_of_lt (Nat.lt_trans (lx1 q (by repeat (first | exact hq | refine List.Mem.tail _ ?_))) lx2), nt2 q (by repeat (first | exact hq | refine List.Mem.tail _ ?_))⟩) rfl rfl rfl rfl rfl rfl ?_
        intro h6 R6 U6
        refine hrai ?_ _ _ _ _ _ _ (by k_asm) U6 R6
        refine Classical.byContradiction fun hno => ?_
        have hfil : fs.filter (fun f => !(barred f)) = fs := List.filter_eq_self.mpr fun f hf => by
          cases hq : barred f with
          | true => exact absurd ⟨f, hf, hq⟩ hno
          | false => rfl
        rw [hfil] at hl3
        rename (_ : Int) ≠ _ => hne
        simp only [List.size_toArray] at hne
        omega
      · refine hret _ _ _ (by k_asm) (by walk_at "MY led") ⟨rfl, fun f hf => ?_⟩
        cases hq : barred f with
        | false => rfl
        | true =>
          exfalso
          have h9 := filter_lt (p := fun f => !(barred f)) hf (by rw [hq]; rfl)
          rename (_ : Int) = _ => hne
          simp only [List.size_toArray] at hne
          omega
end

-- P10
namespace Bt
open Builtin
section
variable {prog : Program} {w : World} {A : Around} {E : Value → Shared → Prop} {s : Shared} {b : Array UInt8} {t u : Tok} {c : Int}
theorem has_call {Q : Value → Shared → Prop} (h0 : 0 ≤ c) (h1 : c < 256) (h : Q (.bool (b.contains c.toNat.toUInt8)) s) : wpAny (model prog w) A (call (.builtin "bytes.__contains__") [.bytes b t, .int c u]) Q E s := by
  refine wpAny_call_entry PySem.W.FB.slot_bytes_contains (typeIs_bytes _ _ _) PySem.W.FB.entry_bytes_contains ?_ (PySem.W.FB.args_bytes_contains_2 _ _)
  show wpAny _ _ (Bytes.containsIn _ (.bytes b t) (.int c u) >>= fun r => _) _ _ s
  refine wpAny_bind ?_
  show wpAny _ _ (pure (Except.ok c : Except Value Int) >>= fun i => _) _ _ s
  refine wpAny_bind (wpAny_pure ?_)
  refine wpAny_bind (wpAny_of_eq KBy.buffer_eq ?_)
  dsimp only
  refine wpAny_ite ?_
  rw [if_neg (by simp only [Bool.or_eq_true, decide_eq_true_eq]; omega)]
  exact wpAny_pure (wpAny_pure ⟨_, rfl, h⟩)
theorem in_int {Q : Value → Shared → Prop} (h0 : 0 ≤ c) (h1 : c < 256) (h : Q (.bool (b.contains c.toNat.toUInt8)) s) : wpAny (model prog w) A (compareOp .In (.int c u) (.bytes b t)) Q E s :=
  In_slot (typeIs_bytes _ _ _) PySem.W.FB.slot_bytes_contains (has_call h0 h1 (wpAny_pure h))
theorem notin_int {Q : Value → Shared → Prop} (h0 : 0 ≤ c) (h1 : c < 256) (h : Q (.bool (!(b.contains c.toNat.toUInt8))) s) : wpAny (model prog w) A (compareOp .NotIn (.int c u) (.bytes b t)) Q E s :=
  NotIn_slot (typeIs_bytes _ _ _) PySem.W.FB.slot_bytes_contains (has_call h0 h1 (wpAny_pure h))
theorem eq_nil {l b : Addr} {items : Array Value} {Q : Value → Shared → Prop} (hl : s.heap.IsList l items) (hb : s.heap.IsList b #[]) (hu : A.units < cLine) (h : Q (.bool (items.size == 0)) s) : wpAny (model prog w) A (compareOp .Eq (.ref l) (.ref b)) Q E s := by
  by_cases hz : items.size = 0
  · rw [hz] at h
    refine SeqAt.eq_listAt (e := fun _ => true) hl hb (by rw [hz]; rfl) hu (fun j _ h2 => absurd h2 (Nat.not_lt_zero _)) ?_
    rw [hz]; exact h
  · rw [beq_eq_false_iff_ne.mpr hz] at h
    exact SeqAt.eq_list_lengthsAt hl hb (by simpa using hz) hu h
theorem ne_nil {l b : Addr} {items : Array Value} {Q : Value → Shared → Prop} (hl : s.heap.IsList l items) (hb : s.heap.IsList b #[]) (hu : A.units < cLine) (h : Q (.bool (!(items.size == 0))) s) : wpAny (model prog w) A (compareOp .NotEq (.ref l) (.ref b)) Q E s := by
  by_cases hz : items.size = 0
  · rw [hz] at h
    refine SeqAt.RcNeAt.lists (e := fun _ => true) hl hb (by rw [hz]; rfl) hu (fun j _ h2 => absurd h2 (Nat.not_lt_zero _)) prog w E Q ?_
    rw [hz]; exact h
  · rw [beq_eq_false_iff_ne.mpr hz] at h
    exact SeqAt.RcNeAt.lists_lengths hl hb (by simpa using hz) hu prog w E Q h
end
end Bt
theorem row52 : True := by (k_with "Q compareOp NotIn int bytes" => (k_here; k_dflt (refine Bt.notin_int (by first | omega | decide) (by first | omega | decide) ?_))); trivial
theorem row53 : True := by (k_with "Q compareOp In int bytes" => (k_here; k_dflt (refine Bt.in_int (by first | omega | decide) (by first | omega | decide) ?_))); trivial
noncomputable def barredB : Array UInt8 := #[40, 41, 60, 62, 64, 44, 59, 58, 92, 34, 47, 91, 93, 63, 61]
noncomputable def tokI (c : Int) : Bool := decide (32 < c) && decide (c < 127) && !(barredB.contains c.toNat.toUInt8)
section
variable {prog : Program} {w : World} {p : Program} {loose : List Str} {mean : ExcName → Option Value} {mg mb : Str → Option Value}
theorem c_tok_code (c : Int) (t : Tok) (h0 : 0 ≤ c) (h1 : c < 256) : Ctr prog w p loose mean mg mb 293 1 8 (fun _ => True) [.int c t] (fun r => r = .bool (tokI c)) := by
  intro dp un gd cn cs a ccd cl outer A₀ base h₀ L m news s Q E B F X N T hk hR hd hu hret
  refine wpAny_call ?_
  k_dflt cell_enter
  k_steps
  · refine hret _ _ _ (by k_asm) (by walk_at "MY led") ?_
    unfold tokI
    rw [decide_eq_true (by assumption : 32 < c), decide_eq_true (by assumption : c < 127)]
    rfl
  · refine hret _ _ _ (by k_asm) (by walk_at "MY led") ?_
    unfold tokI
    rw [decide_eq_false (by assumption : ¬ c < 127), Bool.and_false]
    rfl
  · refine hret _ _ _ (by k_asm) (by walk_at "MY led") ?_
    unfold tokI
    rw [decide_eq_false (by assumption : ¬ 32 < c)]
    rfl
end
theorem row54 : True := by (k_with "Q call ref" => (k_here; (with_reducible show wpAny _ _ (call (Value.ref 293) [Value.int _ _]) _ _ _); k_dflt (refine' Ctr.use (c_tok_code _ _ ?n1 ?n2) ?k1 ?k2 ?k3 ?k4 ?k5 ?kK ?kR ?kd ?ku ?_; (case n1 => first | assumption | omega); (case n2 => first | assumption | omega); walk_at "MY use"); walk_at "MY got0")); trivial
section
variable {prog : Program} {w : World} {p : Program} {loose : List Str} {mean : ExcName → Option Value} {mg mb : Str → Option Value}
/-- a name of letters, as is_token asks -/
noncomputable def tokB (b : Array UInt8) : Bool := decide (0 < b.size) && (nats b).all fun c => tokI c
theorem all_of_filter {α : Type} (q : α → Bool) : ∀ (l : List α) {n : Nat}, (l.filter (fun c => !(q c))).length = n → (n == 0) = l.all q := by
  intro l
  induction l with
  | nil => rintro n rfl; rfl
  | cons x l ih =>
    rintro n rfl
    rw [List.filter_cons, List.all_cons, ← ih rfl]
    cases q x <;> rfl
theorem c_is_token (b : Array UInt8) (t : Tok) (hb : b.size ≤ 1000) : Ctr prog w p loose mean mg mb 298 3 16 (fun _ => True) [.bytes b t] (fun r => r = .bool (tokB b)) := by
  intro dp un gd cn cs a ccd cl outer A₀ base h₀ L m news s Q E B F X N T hk hR hd hu hret
  refine wpAny_call ?_
  k_dflt cell_enter
  k_steps
  · refine ⟨_, _, _, _, by k_asm, by k_asm, src_bytes rfl _ _, trivial, by rw [sizeLine_eq]; omega, fun g => ?_⟩
    refine rest_filter (nats b) (fun c v => c < 256 ∧ ∃ u, v = .int (c : Int) u) (fun c => !(tokI c)) (fun c y => ∃ u, y = .int (c : Int) u) (by simp [nats]) ?_ trivial ?_ ?_ ?_
    · rintro i v hi ⟨c, u, hc, rfl⟩
      exact ⟨c.toNat, by simp [nats, hc], c.toNat_lt, u, rfl⟩
    · rintro c v I oI C oC D m₂ ys h tk E' ha ⟨hlt, u, rfl⟩ hC hx F N off ne
      k_steps
      exact TsEnd.intro (by k_asm) (by k_asm) rfl
    · rintro c v I oI C oC D m₂ ys h tk E' ha ⟨hlt, u, rfl⟩ hpz hC hx F N off ne
      k_steps
      exact ElEnd.intro (by k_asm) (by k_asm) ⟨u, rfl⟩
    · intro ys hP
      k_steps
      refine Bt.eq_nil (News.isList (by k_asm) (by k_mem)) (News.isList (by k_asm) (by k_mem)) (by ktr_units) ?_
      k_steps
      refine hret _ _ _ (by k_asm) (by walk_at "MY led") ?_
      unfold tokB
      rw [decide_eq_true (by omega), Bool.true_and, List.size_toArray, all_of_filter _ _ hP.length]
  · refine hret _ _ _ (by k_asm) (by walk_at "MY led") ?_
    unfold tokB
    rw [decide_eq_false (by omega), decide_eq_false (by omega)]
    rfl
end

-- PS
/-! ### list.sort of no or one str -/
section
variable {prog : Program} {w : World} {A : Around} {E : Value → Shared → Prop} {s : Shared} {h₀ : Heap} {L D : Addr} {m : Str → Option Value} {news : List (Addr × Obj)}
theorem short_perm {α : Type} : ∀ {vs : List α}, vs.length ≤ 1 → ∀ {l : List (α × α)}, l.Perm (vs.zip vs) → l.map (·.2) = vs
  | [], _, _, h => by rw [List.Perm.eq_nil h]; rfl
  | [x], _, _, h => by rw [List.perm_singleton.mp h]; rfl
  | _ :: _ :: _, h, _, _ => by simp at h
theorem sort_short {vs : List Value} {ss : List Str} {n : Nat} {Q : Value → Shared → Prop} (F : Fr h₀ L s.heap m) (N : News h₀ L s.heap ((D, W.listOf vs.toArray n) :: news)) (hD : ∀ q ∈ news, q.1 < D) (hS : PyProof.Rows.StrsAre vs ss) (h1 : vs.length < 2)
    (h : ∀ h' k, Fr h₀ L h' m → News h₀ L h' ((D, W.listOf vs.toArray k) :: news) → Q .none { s with heap := h' }) : wpAny (model prog w) A (call (.builtin "list.sort") [.ref D]) Q E s := by
  have hD0 := N _ (.head _)
  have ho : s.heap.get? D = some (seqObj "list" vs.toArray n) := hD0.1
  refine wpAny_call_entry PyProof.Rows.slot_list_sort ⟨_, ho, rfl⟩ PyProof.Rows.entry_list_sort (list_sort_treeK (κ := strKind) (n := n) (vs := vs) strKind_oneLt ho hS.keysOf (fun v₁ v₂ rest e => by rw [e] at h1; simp only [List.length_cons] at h1; omega) (by omega) fun st' hp hs => ⟨.none, rfl, ?_⟩) (PyProof.Rows.args_list_sort _)
  have hout : (arrOf st').map (·.2) = vs.toArray := by
    have hl : (arrOf st').toList.Perm (vs.zip vs) := by rw [← pairsOf_toList]; exact Array.perm_iff_toList_perm.mp hp
    apply Array.ext'
    rw [Array.toList_map]
    exact short_perm (vs := vs) (by omega) hl
  rw [hout]
  have hlt : D < s.heap.objs.size := Heap.lt_size ho
  obtain ⟨k, hk⟩ := sortedHeap_at (out := vs.toArray) ho
  have hold : ∀ b o, b ≠ D → s.heap.get? b = some o → (sortedHeap s.heap D vs vs.toArray).get? b = some o := fun b o hb e => (sortedHeap_old hb (Heap.lt_size e)).trans e
  refine h _ k ?_ ?_
  · obtain ⟨oL, es, ep, hL, r⟩ := F.ns
    exact ⟨⟨oL, es, ep, hold L _ (Ne.symm hD0.2.1) hL, r⟩, fun b o e => hold b o (fun z => by have := hD0.2.2; rw [← z, e] at this; cases this) (F.keep b o e), F.above⟩
  · intro p hp
    rcases List.mem_cons.mp hp with rfl | hp
    · exact ⟨hk, hD0.2⟩
    · have z := N p (.tail _ hp)
      exact ⟨hold _ _ (Nat.ne_of_lt (hD p hp)) z.1, z.2⟩
end

-- P11
/-! ### a loop over a tuple of the ledger, turn by turn -/
section
variable {prog : Program} {w : World} {A : Around} {E : Value → Shared → Prop} {s : Shared} {env : Env} {h₀ : Heap} {x : Str} {body : List Stmt} {Q : Flow → Shared → Prop}
noncomputable def ItRest (prog : Program) (w : World) (A : Around) (E : Value → Shared → Prop) (h₀ : Heap) (env : Env) (x : Str) (body : List Stmt) (Q : Flow → Shared → Prop) (s : Shared) (I : Addr) (lp : Addr × Obj) : List Value → (Str → Option Value) → List (Addr × Obj) → Prop
  | [], m, news => ∀ h tk, Fr h₀ env.locals h m → News h₀ env.locals h news → Q .next { s with heap := h, toks := tk }
  | v :: r, m, news => ∀ (it : Obj) h tk, Fr h₀ env.locals h (fun y => if y = x then some v else m y) → News h₀ env.locals h ((I, it) :: news) →
      wpAny (model prog w) A (execs body env) (UnrPost h₀ env.locals { s with heap := h, toks := tk } I it (fun m' n' => lp ∈ n' ∧ ItRest prog w A E h₀ env x body Q s I lp r m' n') Q) E { s with heap := h, toks := tk }
theorem ItRest.zero {I : Addr} {lp : Addr × Obj} {m : Str → Option Value} {news : List (Addr × Obj)} (h : ∀ h tk, Fr h₀ env.locals h m → News h₀ env.locals h news → Q .next { s with heap := h, toks := tk }) :
    ItRest prog w A E h₀ env x body Q s I lp [] m news := h
theorem ItRest.succ {I : Addr} {lp : Addr × Obj} {v : Value} {r : List Value} {m : Str → Option Value} {news : List (Addr × Obj)}
    (h : ∀ (it : Obj) h tk, Fr h₀ env.locals h (fun y => if y = x then some v else m y) → News h₀ env.locals h ((I, it) :: news) →
      wpAny (model prog w) A (execs body env) (UnrPost h₀ env.locals { s with heap := h, toks := tk } I it (fun m' n' => lp ∈ n' ∧ ItRest prog w A E h₀ env x body Q s I lp r m' n') Q) E { s with heap := h, toks := tk }) :
    ItRest prog w A E h₀ env x body Q s I lp (v :: r) m news := h
theorem iter_tupU {ax : Addr} {lo : Obj} {vs : List Value} {n : Nat} {m₀ : Str → Option Value} {news : List (Addr × Obj)}
    (hh : A.handled = none) (F : Fr h₀ env.locals s.heap m₀) (N : News h₀ env.locals s.heap news) (hm : (ax, lo) ∈ news) (hc : lo.cls = .type "tuple") (hd : lo.data = .seq vs.toArray n)
    (rest₀ : ∀ I : Addr, (∀ p ∈ news, p.1 < I) → ItRest prog w A E h₀ env x body Q s I (ax, lo) vs m₀ news) :
    wpAny (model prog w) A (pyIter (.ref ax)) (fun it s₂ => LoopAtV prog w A h₀ env x body Q E it s₂) E s := by
  have hax := N _ hm
  have hl : s.heap.IsTuple ax vs.toArray := ⟨lo, hax.1, hc, n, hd⟩
  have hlt : ax < s.heap.objs.size := Heap.lt_size hax.1
  have hne : ax ≠ s.heap.objs.size := Nat.ne_of_lt hlt
  refine wpAny_pyIter_tuple hl ?_
  have rest := rest₀ s.heap.objs.size fun p hp => Heap.lt_size (N p hp).1
  have W := Walks.tuple (prog := prog) (w := w) hh s.heap.objs.size ax hne vs.toArray
  have hnew := next_is_new F
  have hlen : vs.toArray.size = vs.length := by simp
  rw [hlen] at W
  let J : Nat → (Str → Option Value) → List (Addr × Obj) → Prop := fun i m₁ news₁ => (ax, lo) ∈ news₁ ∧ ItRest prog w A E h₀ env x body Q s s.heap.objs.size (ax, lo) (vs.drop i) m₁ news₁
  refine ⟨_, _, _, vs.length, _, _, m₀, news, J, rfl, W, ?_, ?_, ?_, ⟨⟨_, Heap.get?_push_size _ rfl, rfl, rfl⟩, hl.at fun o e => Heap.get?_push_of_some _ e⟩, F.push _, (fun p hp => ⟨Heap.get?_push_of_some _ (N p hp).1, (N p hp).2⟩), ⟨hm, by rw [List.drop_zero]; exact rest⟩, ?_, ?_⟩
  · intro hmm
    rcases List.mem_cons.mp hmm with e | hmm
    · exact absurd F.ns.lt (e ▸ Nat.lt_irrefl _)
    · exact hax.2.1 (List.mem_singleton.mp hmm).symm
  · intro b hb
    rw [List.mem_singleton.mp hb]
    exact hnew
  · intro p hp hI
    exact absurd (Heap.lt_size (N p hp).1) ((List.mem_singleton.mp hI) ▸ Nat.lt_irrefl _)
  · rintro i v m₁ news₁ s₁ own ⟨hh', tk', rfl⟩ hin hP ⟨hmem₁, hJ⟩ hoff hown hget hall hst F₁ N₁
    obtain ⟨it, hit, hid⟩ := hst.1
    have hmemI := hall s.heap.objs.size (List.mem_cons_self ..) hnew _ hit
    have hdrop : vs.drop i = v :: vs.drop (i + 1) := by
      have hlt' : i < vs.length := hin
      have hv : vs[i]? = some v := by simpa using hP
      rw [List.drop_eq_getElem_cons hlt']
      congr 1
      exact Option.some.inj ((List.getElem?_eq_getElem hlt').symm.trans hv)
    rw [hdrop] at hJ
    have N₂ : News h₀ env.locals hh' ((s.heap.objs.size, it) :: news₁) := fun p hp => by
      rcases List.mem_cons.mp hp with rfl | hp
      · exact N₁ _ (List.mem_append_left _ hmemI)
      · exact N₁ _ (List.mem_append_right _ hp)
    refine wpAny_mono (hJ it hh' tk' F₁ N₂) (fun f s₂ p => ?_) fun _ _ e => e
    have fin : UnrEnd h₀ env.locals { s with heap := hh', toks := tk' } s.heap.objs.size it (fun m' n' => (ax, lo) ∈ n' ∧ ItRest prog w A E h₀ env x body Q s s.heap.objs.size (ax, lo) (vs.drop (i + 1)) m' n') s₂ →
        LoopStepU h₀ env.locals [s.heap.objs.size] own (J (i + 1)) { s with heap := hh', toks := tk' } .next s₂ := by
      rintro ⟨h', tk, m', news', e, F', N', ho, hmm, r⟩
      refine ⟨rfl, h', tk, m', news', e, F', fun p hp => ?_, fun p hp hI => ho p hp (List.mem_singleton.mp hI), hmm, r⟩
      rcases List.mem_append.mp hp with hp | hp
      · have h2 : hh'.get? p.1 = some p.2 := hget p hp
        rcases List.mem_cons.mp (hown p hp) with h1 | h1
        · have h3 : p = (s.heap.objs.size, it) := by
            rw [h1, hit] at h2
            exact Prod.ext h1 (Option.some.inj h2).symm
          rw [h3]; exact N' _ (List.mem_cons_self ..)
        · have h1' : p.1 = ax := List.mem_singleton.mp h1
          have h3 : p = (ax, lo) := by
            rw [h1', (N₁ _ (List.mem_append_right _ hmem₁)).1] at h2
            exact Prod.ext h1' (Option.some.inj h2).symm
          rw [h3]; exact N' _ (List.mem_cons_of_mem _ hmm)
      · exact N' _ (List.mem_cons_of_mem _ hp)
    cases f with
    | ret v => exact .ret p
    | brk => exact .brk p
    | next => exact .next (fin p)
    | cont => exact .cont (fin p)
  · rintro h' tk m' news' F' N' _ ⟨_, hJ⟩
    have z : vs.drop vs.length = [] := List.drop_length
    rw [z] at hJ
    exact hJ h' tk F' N'
end
theorem row55 : True := by (k_with "Q call ref" => (k_here; k_dflt (refine' call_cls ?k1 ?k2 ?k3 ?k4 ?k5 ?k6 ?_; (case k1 => k_asm); (case k2 => k_asm); (case k3 => k_asm); (case k4 => k_is); (case k5 => k_is); (case k6 => k_is); k_whole; intro zx' zd' zh' zF' zN' zl1 zl2; (try k_lt zl1); (try k_lt2 zl2); (try k_sweep); walk_at "MY enter"))); trivial
theorem row56 : True := by (k_with "Q exec For Name Tuple cons nil" => (k_here; (rename Fr _ _ _ _ => zlF'); (with_unfolding_all refine' For_invVF zlF' ?k1 ?k2 ?_; (case k1 => exact rfl); (case k2 => exact rfl); k_whole))); trivial
theorem row57 : True := by (k_with "MY iterT" => (k_here; (with_reducible show wpAny _ _ (pyIter (Value.ref _)) (fun it s₂ => LoopAtV _ _ _ _ _ _ _ _ _ it s₂) _ _); (rename Fr _ _ _ _ => lF'); (rename News _ _ _ _ => lN'); (with_unfolding_all refine iter_tupU (vs := [_, _]) (by rfl) lF' lN' (by k_mem) (by rfl) (by rfl) ?_))); trivial
theorem Bt.joined_two (s a b : Array UInt8) : Builtin.Bytes.joined s [a, b] = a ++ s ++ b := by simp [Builtin.Bytes.joined]
theorem off_upd {news news' : List (Addr × Obj)} {I : Addr} (h : ∀ p ∈ news, p.1 < I) (e : news'.map (·.1) = news.map (·.1)) : ∀ p ∈ news', p.1 ≠ I := fun p hp => by
  have h1 : p.1 ∈ news.map (·.1) := e ▸ List.mem_map_of_mem hp
  obtain ⟨q, hq, e1⟩ := List.mem_map.mp h1
  exact e1 ▸ Nat.ne_of_lt (h q hq)
theorem ints_of_paired : ∀ {l : List Nat} {ys : List Value}, Paired (fun (c : Nat) y => ∃ u, y = Value.int (c : Int) u) l ys → IntsAre ys (l.map fun (c : Nat) => (c : Int))
  | _, _, .nil => .nil
  | _, _, .cons ⟨u, e⟩ r => e ▸ .cons _ u (ints_of_paired r)
noncomputable def octs (l : List Nat) : Array UInt8 := (l.map fun c => c.toUInt8).toArray
theorem bytes_codes {prog : Program} {w : World} {A : Around} {E : Value → Shared → Prop} {s : Shared} {h₀ : Heap} {L D : Addr} {m : Str → Option Value} {news : List (Addr × Obj)} {Q : Value → Shared → Prop} {l : List Nat} {ys : List Value} (F : Fr h₀ L s.heap m) (N : News h₀ L s.heap news) (hl : s.heap.IsList D ys.toArray)
    (hP : Paired (fun (c : Nat) y => ∃ u, y = Value.int (c : Int) u) l ys) (hc : ∀ c ∈ l, c < 256) (hn : l.length ≤ 1000) (hh : A.handled = none) (h : ∀ h' t k, Fr h₀ L h' m → News h₀ L h' news → Q (.bytes (octs l) t) { s with heap := h', toks := k }) : wpAny (model prog w) A (call (.type "bytes") [.ref D]) Q E s := by
  refine bytes_K F N hl (ints_of_paired hP) ?_ (by have := hP.length; rw [sizeLine_eq]; omega) hh fun h' t k F' N' _ => ?_
  · intro n hn
    obtain ⟨c, hc', rfl⟩ := List.mem_map.mp hn
    have := hc c hc'
    omega
  · rw [List.map_map, show ((fun n : Int => n.toNat.toUInt8) ∘ fun c : Nat => (c : Int)) = fun c => c.toUInt8 from funext fun c => by simp]
    exact h h' t k F' N'
/-- a dict of strs -/
noncomputable def DictF (prog : Program) (w : World) (pr : Addr) (po : Obj) (kvs : List (Str × Value)) (D : List (PyData × PyData)) : Prop := (pr == sysModules) = false ∧ Obj.IsDictOf (PySem.strKind prog w) po kvs ∧ PyProof.V.FlatPairs PyData.str kvs D
/-- a Kind on the ledger -/
noncomputable def KindIn (news : List (Addr × Obj)) (k : Addr) (top sub : Str) (pr : Addr) : Prop :=
  ∃ dx h1 t1 t2 h2 t3 t4 h3 t5, (k, instObj 282 dx) ∈ news ∧ (dx, dictOf [⟨h1, .str (Str.ofString "top") t1, .str top t2⟩, ⟨h2, .str (Str.ofString "sub") t3, .str sub t4⟩, ⟨h3, .str (Str.ofString "params") t5, .ref pr⟩] 3) ∈ news
/-- a word of a kind that can stand -/
structure KWord (x : Str) : Prop where
  size : x.cps.size ≤ 100
  low : ∀ c ∈ x.cps.toList, c < 128
  tok : tokB (octs x.cps.toList) = true
  same : lowerS x = x
theorem KWord.filt {x : Str} (h : KWord x) : x.cps.toList.filter (fun (c : Nat) => decide ((c : Int) < 128)) = x.cps.toList := List.filter_eq_self.mpr fun c hc => decide_eq_true (by have := h.low c hc; omega)
section
variable {prog : Program} {w : World} {p : Program} {loose : List Str} {mean : ExcName → Option Value} {mg mb : Str → Option Value}
theorem c_is_token1 (b : Array UInt8) (t : Tok) (hb : b.size ≤ 1000) (h : tokB b = true) : Ctr prog w p loose mean mg mb 298 3 16 (fun _ => True) [.bytes b t] (fun r => r = .bool true) := by
  have := c_is_token (prog := prog) (w := w) (p := p) (loose := loose) (mean := mean) (mg := mg) (mb := mb) b t hb
  rwa [h] at this
end
theorem row58 : True := by (k_with "Q call ref" => (k_here; (with_reducible show wpAny _ _ (call (Value.ref 298) [Value.bytes _ _]) _ _ _); k_dflt (refine' Ctr.use (c_is_token1 _ _ ?n1 ?n2) ?k1 ?k2 ?k3 ?k4 ?k5 ?kK ?kR ?kd ?ku ?_; (case n1 => first | assumption | decide +kernel); (case n2 => first | assumption | decide +kernel); walk_at "MY use"); walk_at "MY got0")); trivial
section
variable {prog : Program} {w : World} {p : Program} {loose : List Str} {mean : ExcName → Option Value} {mg mb : Str → Option Value}
theorem c_params0 (pr : Addr) (po : Obj) (b : Array UInt8) (t : Tok) (hb : b.size ≤ 1000) (hp : DictF prog w pr po [] []) : Ctr prog w p loose mean mg mb 342 3 30 (fun news => (pr, po) ∈ news) [.bytes b t, .ref pr] (fun r => ∃ t, r = .bytes b t) := by
  intro dp un gd cn cs a' ccd cl outer A₀ base h₀ L m news s Q E B F X N T hk hR hd hu hret
  obtain ⟨hp0, hp1, hp2⟩ := hp
  refine wpAny_call ?_
  k_dflt cell_enter
  k_steps
  refine kdu_sortedD (knd := PySem.strKind _ _) (enc := PyData.str) (fun _ _ => kdl_flat_str) (by rfl) (by k_asm) (by k_asm) (by k_tabat) (by k_units) ?_
  intro B9 h9 tk9
  dsimp only [KdlKeysD]
  intro F9 N9 l9
  refine sort_short F9 N9 l9 .nil (by decide) ?_
  intro h10 k10 F10 N10
  k_steps
  walk_at "MY iterL"
  · intro v I it h tk hv F9 N9
    exact absurd hv List.not_mem_nil
  · intro u h tk F9 N9
    k_steps
    refine Bt.join_call (items := [_]) (News.isList (by k_asm) (by k_mem)) (.cons _ _ .nil) (by simp; omega) (by rw [Bt.joined_one]; omega) fun tj2 kj2 => ?_
    rw [Bt.joined_one]
    k_steps
    exact hret _ _ _ (by k_asm) (by walk_at "MY led") ⟨_, rfl⟩
theorem c_kind (k pr : Addr) (top sub : Str) (po : Obj) (out : Array UInt8) (ht : KWord top) (hs : KWord sub)
    (hW : ∀ t, Ctr prog w p loose mean mg mb 342 8 64 (fun news => (pr, po) ∈ news) [.bytes (octs top.cps.toList ++ #[47] ++ octs sub.cps.toList) t, .ref pr] (fun r => ∃ t, r = .bytes out t)) :
    Ctr prog w p loose mean mg mb 347 10 80 (fun news => KindIn news k top sub pr ∧ (pr, po) ∈ news) [.ref k] (fun r => ∃ t, r = .bytes out t) := by
  intro dp un gd cn cs a' ccd cl outer A₀ base h₀ L m news s Q E B F X N T hk hR hd hu hret
  obtain ⟨⟨dx, h1, t1, t2, h2, t3, t4, h3, t5, m1, m2⟩, m3⟩ := hR
  have zt1 : (octs top.cps.toList).size ≤ 1000 := by have := ht.size; simp [octs]; omega
  have zs1 : (octs sub.cps.toList).size ≤ 1000 := by have := hs.size; simp [octs]; omega
  have zt2 := ht.tok
  have zs2 := hs.tok
  have zt3 : top.cps.size ≤ 1000 := by have := ht.size; omega
  have zs3 : sub.cps.size ≤ 1000 := by have := hs.size; omega
  have zt4 : ∀ c ∈ top.cps.toList, c < 1000 := fun c hc => by have := ht.low c hc; omega
  have zs4 : ∀ c ∈ sub.cps.toList, c < 1000 := fun c hc => by have := hs.low c hc; omega
  have zt5 := ht.same
  have zt6 : ((octs top.cps.toList).size : Int) = (top.length : Int) := by simp [octs, Str.length]
  have zs6 : ((octs sub.cps.toList).size : Int) = (sub.length : Int) := by simp [octs, Str.length]
  have zs5 := hs.same
  refine wpAny_call ?_
  k_dflt cell_enter
  k_steps
  walk_at "MY iterT"
  intro I lI
  have lI0 := lI
  k_lt lI
  refine ItRest.succ fun it hh1 tk1 F1 N1 => ?_
  k_steps
  refine ⟨_, _, _, _, by k_asm, by k_asm, src_str rfl _ _, trivial, by have := ht.1; rw [sizeLine_eq]; omega, fun g => ?_⟩
  refine rest_filter top.cps.toList (fun c v => ∃ u, v = .str ⟨#[c]⟩ u) (fun c => decide ((c : Int) < 128)) (fun c y => ∃ u, y = .int (c : Int) u) (by simp) ?_ trivial ?_ ?_ ?_
  · rintro i v hi ⟨c, u, hc, rfl⟩
    exact ⟨c, by simpa using hc, u, rfl⟩
  · rintro c v I oI C oC D m₂ ys h tk E' ha ⟨u, rfl⟩ hC hx F N off ne
    k_steps
    exact TsEnd.intro (by k_asm) (by k_asm) rfl
  · rintro c v I oI C oC D m₂ ys h tk E' ha ⟨u, rfl⟩ hpz hC hx F N off ne
    k_steps
    exact ElEnd.intro (by k_asm) (by k_asm) ⟨_, rfl⟩
  · intro ys hP
    rw [ht.filt] at hP
    k_steps
    refine bytes_codes (by k_asm) (by k_asm) (News.isList (by k_asm) (by k_mem)) hP (fun c hc => by have := ht.low c hc; omega) (by simpa using zt3) rfl ?_
    intro h7 t7 k7 F7 N7
    k_steps
    · exact absurd (by assumption : (lowerS top != top) = true) (by rw [zt5]; simp)
    refine ⟨_, _, _, _, rfl, by k_asm, by walk_at "MY led", ?_, by k_mem, ?_⟩
    · exact off_upd lI0 rfl
    refine ItRest.succ fun it hh2 tk2 F2 N2 => ?_
    k_steps
    refine ⟨_, _, _, _, by k_asm, by k_asm, src_str rfl _ _, trivial, by have := hs.1; rw [sizeLine_eq]; omega, fun g => ?_⟩
    refine rest_filter sub.cps.toList (fun c v => ∃ u, v = .str ⟨#[c]⟩ u) (fun c => decide ((c : Int) < 128)) (fun c y => ∃ u, y = .int (c : Int) u) (by simp) ?_ trivial ?_ ?_ ?_
    · rintro i v hi ⟨c, u, hc, rfl⟩
      exact ⟨c, by simpa using hc, u, rfl⟩
    · rintro c v I oI C oC D m₂ ys h tk E' ha ⟨u, rfl⟩ hC hx F N off ne
      k_steps
      exact TsEnd.intro (by k_asm) (by k_asm) rfl
    · rintro c v I oI C oC D m₂ ys h tk E' ha ⟨u, rfl⟩ hpz hC hx F N off ne
      k_steps
      exact ElEnd.intro (by k_asm) (by k_asm) ⟨_, rfl⟩
    · intro ys2 hP2
      rw [hs.filt] at hP2
      k_steps
      refine bytes_codes (by k_asm) (by k_asm) (News.isList (by k_asm) (by k_mem)) hP2 (fun c hc => by have := hs.low c hc; omega) (by simpa using zs3) rfl ?_
      intro h8 t8 k8 F8 N8
      k_steps
      · exact absurd (by assumption : (lowerS sub != sub) = true) (by rw [zs5]; simp)
      refine ⟨_, _, _, _, rfl, by k_asm, by walk_at "MY led", ?_, by k_mem, ?_⟩
      · exact off_upd lI0 rfl
      refine ItRest.zero fun hh3 tk3 F3 N3 => ?_
      k_steps
      refine Bt.join_call (items := [_, _]) (News.isList (by k_asm) (by k_mem)) (.cons _ _ (.cons _ _ .nil)) (by simp; omega) (by rw [Bt.joined_two]; simp; omega) fun tj kj => ?_
      rw [Bt.joined_two]
      repeat' (fail_if_success (with_reducible show wpAny _ _ (call (Value.ref 342) _) _ _ _)); first | (k_unfold; (try dsimp only)) | walk1 | (dsimp only; walk1)
      (refine' Ctr.use (hW _) ?k1 ?k2 ?k3 ?k4 ?k5 ?kK ?kR ?kd ?ku ?_; (case k4 => k_asm); (case kR => k_mem); (case k1 => k_asm); (case k2 => k_asm); (case k3 => k_asm); (case k5 => k_asm); (case kK => first | exact rfl | assumption); (case kd => ktr_room); (case ku => ktr_units))
      rintro r9 h9 tk9 F9 N9 ⟨t9, rfl⟩
      k_steps
      exact hret _ _ _ (by k_asm) (by walk_at "MY led") ⟨_, rfl⟩
end

-- PE
/-- the signs of the boundary -/
noncomputable def bSigns : List (Array UInt8) := [#[61], #[95], #[112], #[97], #[114], #[116], #[48]]
theorem off_two {l I : Addr} {o : Obj} {news : List (Addr × Obj)} (h : l < I ∧ AllLt I news) : ∀ p ∈ (l, o) :: news, p.1 ≠ I := fun p hp => by
  rcases List.mem_cons.mp hp with rfl | hp
  · exact Nat.ne_of_lt h.1
  · exact allLt_ne h.2 (Nat.le_refl _) p hp
theorem row59 : True := by (k_with "MY toJ" => (repeat' (fail_if_success (with_reducible show wpAny _ _ (call (Value.builtin _) _) _ _ _)); walk_at "MY one")); trivial
theorem pick_one (c : UInt8) : KBy.picked #[c] (some (0 + ((0 : Nat) : Int))) (some (0 + ((0 : Nat) : Int) + 1)) = #[c] := by
  rw [KBc.picked_eq]
  rfl
section
variable {prog : Program} {w : World} {p : Program} {loose : List Str} {mean : ExcName → Option Value} {mg mb : Str → Option Value}
/-- escaped_octets of one octet that needs no sign ahead of it -/
theorem c_esc2 (c : UInt8) (t t' : Tok) (hc1 : ([0, 10, 13] : List Int).any (fun x => x == ((c.toNat : Nat) : Int)) = false) (hc2 : (#[34, 92] : Array UInt8).contains (((c.toNat : Nat) : Int)).toNat.toUInt8 = false) : Ctr prog w p loose mean mg mb 239 2 20 (fun _ => True) [.bytes #[c] t, .bytes #[34, 92] t'] (fun r => ∃ u, r = .bytes #[c] u) := by
  intro dp un gd cn cs a ccd cl outer A₀ base h₀ L m news s Q E B F X N T hk hR hd hu hret
  refine wpAny_call ?_
  k_dflt cell_enter
  k_steps
  rename IsRange _ _ _ _ _ _ _ _ => hr0
  have hr1 : IsRange _ _ 0 1 1 _ _ _ := hr0
  clear hr0
  rename Fr _ _ _ _ => lF'
  rename News _ _ _ _ => lN'
  with_unfolding_all refine iter_rangeUnr (n := 1) (by rfl) hr1 (by decide) (by decide) lF' lN' ?_
  intro I lI
  have lI0 := lI
  k_lt lI
  refine RangeRest.succ fun t8 h8 tk8 F8 N8 => ?_
  repeat' (fail_if_success (with_reducible show wpAny _ _ (compareOp CmpOp.In (Value.int _ _) (Value.ref _)) _ _ _)); first | (k_unfold; (try dsimp only)) | walk1 | (dsimp only; walk1)
  refine in_tuple_ints (tup_of_K (by k_asm) (by k_asm) (by k_dflt k_is)) (by repeat constructor) ?_
  have e1 : (([0, 10, 13] : List Int).any fun x => x == ((((#[c] : Array UInt8).toList.getD (0 + ((0 : Nat) : Int)).toNat 0).toNat : Nat) : Int)) = false := hc1
  rw [e1]
  repeat' (fail_if_success (with_reducible show wpAny _ _ (compareOp CmpOp.In (Value.int _ _) (Value.bytes _ _)) _ _ _)); first | (k_unfold; (try dsimp only)) | walk1 | (dsimp only; walk1)
  have hlt : (((((#[c] : Array UInt8).toList.getD (0 + ((0 : Nat) : Int)).toNat 0).toNat : Nat) : Int)) < 256 := by
    have : c.toNat < 256 := UInt8.toNat_lt c
    show ((c.toNat : Nat) : Int) < 256
    omega
  refine Bt.in_int (by omega) hlt ?_
  have e2 : (#[34, 92] : Array UInt8).contains (((((#[c] : Array UInt8).toList.getD (0 + ((0 : Nat) : Int)).toNat 0).toNat : Nat) : Int)).toNat.toUInt8 = false := hc2
  rw [e2]
  repeat' (fail_if_success (with_reducible show wpAny _ _ (subscriptTail _ _ _ _) _ _ _)); first | (k_unfold; (try dsimp only)) | walk1 | (dsimp only; walk1)
  rename News _ _ _ _ => N30
  rename Fr _ _ _ _ => F30
  refine KBc.slice_K (s := ⟨_, _, _, _, _⟩) F30 N30 rfl (by constructor) (by constructor) (by rw [KBw.ints_length]; show 1 ≤ 16777216; decide) ?_
  intro h31 t31 k31 F31 N31 _
  rw [pick_one]
  k_steps
  refine ⟨_, _, _, _, rfl, by k_asm, by walk_at "MY led", off_two (by assumption), ?_⟩
  refine RangeRest.zero fun h9 tk9 F9 N9 => ?_
  walk_at "MY toJ"
  refine Bt.join_call (items := [_]) (News.isList (by k_asm) (by k_mem)) (.cons _ _ .nil) (by simp) (by rw [Bt.joined_one]; show 1 ≤ _; decide +kernel) fun tj2 kj2 => ?_
  rw [Bt.joined_one]
  k_steps
  exact hret _ _ _ (by k_asm) (by walk_at "MY led") ⟨_, rfl⟩
theorem c_esc1 (b : Array UInt8) (t t' : Tok) (hb : b ∈ bSigns) : Ctr prog w p loose mean mg mb 239 2 20 (fun _ => True) [.bytes b t, .bytes #[34, 92] t'] (fun r => ∃ u, r = .bytes b u) := by
  have hb2 : b = #[61] ∨ b = #[95] ∨ b = #[112] ∨ b = #[97] ∨ b = #[114] ∨ b = #[116] ∨ b = #[48] := by simpa [bSigns] using hb
  clear hb
  rcases hb2 with rfl | rfl | rfl | rfl | rfl | rfl | rfl
  · exact c_esc2 61 t t' (by decide) (by decide +kernel)
  · exact c_esc2 95 t t' (by decide) (by decide +kernel)
  · exact c_esc2 112 t t' (by decide) (by decide +kernel)
  · exact c_esc2 97 t t' (by decide) (by decide +kernel)
  · exact c_esc2 114 t t' (by decide) (by decide +kernel)
  · exact c_esc2 116 t t' (by decide) (by decide +kernel)
  · exact c_esc2 48 t t' (by decide) (by decide +kernel)
end

-- P12
noncomputable abbrev bWord : Str := Str.ofString "boundary"
noncomputable abbrev bText : Str := Str.ofString "=_part0"
theorem nats_get {b : Array UInt8} {i : Nat} {c : UInt8} (h : b[i]? = some c) : (nats b)[i]? = some c.toNat := by simp [nats, h]
/-- a call that hands back a new list -/
noncomputable def CtrL (prog : Program) (w : World) (p : Program) (loose : List Str) (mean : ExcName → Option Value) (mg mb : Str → Option Value) (f : Addr) (d u : Nat)
    (Rel : List (Addr × Obj) → Prop) (vs : List Value) (Out : List Value → Prop) : Prop :=
  ∀ (dp un : Nat) (gd : Option (List Code)) (cn : Str) (cs : Scope) (a : Addr) (ccd : Value) (cl : List (Str × Addr)) (outer : List Env) (A₀ : Around) (base h₀ : Heap) (L : Addr) (m : Str → Option Value) (news : List (Addr × Obj)) (s : Shared)
    (Q E : Value → Shared → Prop),
    Below A₀ base outer h₀ → Fr h₀ L s.heap m → (layK.heap_1 w.params).In h₀ → News h₀ L s.heap news → Top p loose mean mg mb h₀ → cs.kind = .function → Rel news → dp + d < recursionLimit → un + u < cLine →
    (∀ D ys n h' tk', Fr h₀ L h' m → News h₀ L h' ((D, W.listOf ys.toArray n) :: news) → (∀ q ∈ news, q.1 < D) → Out ys → Q (.ref D) { s with heap := h', toks := tk' }) →
    wpAny (model prog w) (ktrTop dp un gd cn cs L a ccd cl outer) (call (.ref f) vs) Q E s
section
variable {prog : Program} {w : World} {p : Program} {loose : List Str} {mean : ExcName → Option Value} {mg mb : Str → Option Value} {f : Addr} {d u : Nat}
    {Rel : List (Addr × Obj) → Prop} {vs : List Value} {Out : List Value → Prop}
  {dp un : Nat} {gd : Option (List Code)} {cn : Str} {cs : Scope} {a : Addr} {ccd : Value} {cl : List (Str × Addr)} {outer : List Env} {A₀ : Around} {base h₀ : Heap} {L : Addr} {m : Str → Option Value} {news : List (Addr × Obj)} {s : Shared}
    {Q E : Value → Shared → Prop}
theorem CtrL.use (C : CtrL prog w p loose mean mg mb f d u Rel vs Out)
    (B : Below A₀ base outer h₀) (F : Fr h₀ L s.heap m) (X : (layK.heap_1 w.params).In h₀) (N : News h₀ L s.heap news) (T : Top p loose mean mg mb h₀) (hk : cs.kind = .function) (hR : Rel news) (hd : dp + d < recursionLimit) (hu : un + u < cLine)
    (hQ : ∀ D ys n h' tk', Fr h₀ L h' m → News h₀ L h' ((D, W.listOf ys.toArray n) :: news) → (∀ q ∈ news, q.1 < D) → Out ys → Q (.ref D) { s with heap := h', toks := tk' }) :
    wpAny (model prog w) (ktrTop dp un gd cn cs L a ccd cl outer) (call (.ref f) vs) Q E s := C _ _ _ _ _ _ _ _ _ _ _ _ _ _ _ _ _ _ B F X N T hk hR hd hu hQ
end
theorem allLt_lt {d : Addr} : ∀ {l : List (Addr × Obj)}, AllLt d l → ∀ p ∈ l, p.1 < d
  | [], _, _, hp => nomatch hp
  | q :: r, h, p, hp => by
    rcases List.mem_cons.mp hp with rfl | hp
    · exact h.1
    · exact allLt_lt h.2 p hp
theorem news_pick {h₀ h : Heap} {L : Addr} {q : Addr × Obj} {a b : List (Addr × Obj)} (N : News h₀ L h (q :: b)) (hs : ∀ p ∈ a, p ∈ b) : News h₀ L h (q :: a) := fun p hp => by
  rcases List.mem_cons.mp hp with rfl | hp
  · exact N _ (.head _)
  · exact N _ (.tail _ (hs p hp))
theorem row60 : True := by (k_with "MY below" => (rename (@LT.lt Nat _ _ _ ∧ _) => hLt; refine allLt_lt ?_; first | exact hLt.2 | exact hLt.2.2 | exact hLt.2.2.2 | exact hLt.2.2.2.2 | exact hLt.2.2.2.2.2 | exact hLt.2.2.2.2.2.2 | exact hLt.2.2.2.2.2.2.2 | exact hLt.2.2.2.2.2.2.2.2 | exact hLt.2.2.2.2.2.2.2.2.2 | exact hLt.2.2.2.2.2.2.2.2.2.2)); trivial
section
variable {prog : Program} {w : World} {p : Program} {loose : List Str} {mean : ExcName → Option Value} {mg mb : Str → Option Value}
theorem c_is_token0 (b : Array UInt8) (t : Tok) (hb : b.size ≤ 1000) (h : tokB b = false) : Ctr prog w p loose mean mg mb 298 3 16 (fun _ => True) [.bytes b t] (fun r => r = .bool false) := by
  have := c_is_token (prog := prog) (w := w) (p := p) (loose := loose) (mean := mean) (mg := mg) (mb := mb) b t hb
  rwa [h] at this
end
theorem row61 : True := by (k_with "Q call ref" => (k_here; (with_reducible show wpAny _ _ (call (Value.ref 298) [Value.bytes _ _]) _ _ _); k_dflt (refine' Ctr.use (c_is_token0 _ _ ?n1 ?n2) ?k1 ?k2 ?k3 ?k4 ?k5 ?kK ?kR ?kd ?ku ?_; (case n1 => first | assumption | decide +kernel); (case n2 => first | assumption | decide +kernel); walk_at "MY use"); walk_at "MY got0")); trivial
section
variable {prog : Program} {w : World} {p : Program} {loose : List Str} {mean : ExcName → Option Value} {mg mb : Str → Option Value}
noncomputable def plainC (c : Nat) : Bool := decide ((32 : Int) ≤ c) && decide ((c : Int) < 127)
theorem c_plain (x : Str) (t : Tok) (hx : x.cps.size ≤ 1000) (h : x.cps.toList.all plainC = true) : Ctr prog w p loose mean mg mb 303 2 16 (fun _ => True) [.str x t] (fun r => r = .bool true) := by
  intro dp un gd cn cs a ccd cl outer A₀ base h₀ L m news s Q E B F X N T hk hR hd hu hret
  refine wpAny_call ?_
  k_dflt cell_enter
  k_steps
  refine ⟨_, _, _, _, by k_asm, by k_asm, src_str rfl _ _, trivial, by rw [sizeLine_eq]; omega, fun g => ?_⟩
  refine rest_filter x.cps.toList (fun c v => ∃ u, v = .str ⟨#[c]⟩ u) (fun c => !(plainC c)) (fun c y => ∃ u, y = .str ⟨#[c]⟩ u) (by simp) ?_ trivial ?_ ?_ ?_
  · rintro i v hi ⟨c, u, hc, rfl⟩
    exact ⟨c, by simpa using hc, u, rfl⟩
  · rintro c v I oI C oC D m₂ ys h tk E' ha ⟨u, rfl⟩ hC hx F N off ne
    k_steps
    · refine TsEnd.intro (by k_asm) (by k_asm) ?_
      unfold plainC
      rw [decide_eq_true (by assumption : (32 : Int) ≤ c), Bool.true_and]
    · refine TsEnd.intro (by k_asm) (by k_asm) ?_
      unfold plainC
      rw [decide_eq_false (by assumption : ¬ (32 : Int) ≤ c)]
      rfl
  · rintro c v I oI C oC D m₂ ys h tk E' ha ⟨u, rfl⟩ hpz hC hx F N off ne
    k_steps
    exact ElEnd.intro (by k_asm) (by k_asm) ⟨u, rfl⟩
  · intro ys hP
    k_steps
    refine Bt.eq_nil (News.isList (by k_asm) (by k_mem)) (News.isList (by k_asm) (by k_mem)) (by ktr_units) ?_
    k_steps
    refine hret _ _ _ (by k_asm) (by walk_at "MY led") ?_
    rw [List.size_toArray, all_of_filter _ _ hP.length, h]
end
theorem row62 : True := by (k_with "Q call ref" => (k_here; (with_reducible show wpAny _ _ (call (Value.ref 303) [Value.str _ _]) _ _ _); k_dflt (refine' Ctr.use (c_plain _ _ ?n1 ?n2) ?k1 ?k2 ?k3 ?k4 ?k5 ?kK ?kR ?kd ?ku ?_; (case n1 => first | assumption | decide +kernel); (case n2 => first | assumption | decide +kernel); walk_at "MY use"); walk_at "MY got0")); trivial
section
variable {prog : Program} {w : World} {p : Program} {loose : List Str} {mean : ExcName → Option Value} {mg mb : Str → Option Value}
theorem bt_low (c : Nat) (h : c ∈ bText.cps.toList) : c < 256 := by
  have : ∀ c ∈ bText.cps.toList, c < 256 := by decide +kernel
  exact this c h
theorem bt_signs (c : Nat) (h : c ∈ bText.cps.toList) : octs [c] ∈ bSigns := by
  have : ∀ c ∈ bText.cps.toList, octs [c] ∈ bSigns := by decide +kernel
  exact this c h
end
theorem row63 : True := by (k_with "Q call ref" => (k_here; (with_reducible show wpAny _ _ (call (Value.ref 239) [Value.bytes _ _, Value.bytes _ _]) _ _ _); k_dflt (refine' Ctr.use (c_esc1 _ _ _ ?n1) ?k1 ?k2 ?k3 ?k4 ?k5 ?kK ?kR ?kd ?ku ?_; (case n1 => assumption); walk_at "MY use"); walk_at "MY got1")); trivial
section
variable {prog : Program} {w : World} {p : Program} {loose : List Str} {mean : ExcName → Option Value} {mg mb : Str → Option Value}
theorem paired_one {b : Array UInt8} : ∀ {ys : List Value}, Paired (fun (_ : Unit) y => ∃ u, y = Value.bytes b u) [()] ys → ∃ u, ys = [.bytes b u]
  | _, .cons ⟨u, e⟩ .nil => ⟨u, by rw [e]⟩
noncomputable def bRow : Array UInt8 := #[98, 111, 117, 110, 100, 97, 114, 121, 61, 34, 61, 95, 112, 97, 114, 116, 48, 34]
theorem c_quoted (t t' : Tok) : CtrL prog w p loose mean mg mb 327 4 30 (fun _ => True) [.bytes #[98, 111, 117, 110, 100, 97, 114, 121] t, .str bText t'] (fun ys => ∃ u, ys = [.bytes bRow u]) := by
  intro dp un gd cn cs a' ccd cl outer A₀ base h₀ L m news s Q E B F X N T hk hR hd hu hret
  refine wpAny_call ?_
  k_dflt (walk_at "MY enterC")
  k_steps
  refine ⟨_, _, _, _, by k_asm, by k_asm, src_str rfl _ _, trivial, by rw [sizeLine_eq]; decide +kernel, fun g => ?_⟩
  refine rest_map bText.cps.toList (fun c v => ∃ u, v = .str ⟨#[c]⟩ u) (fun (c : Nat) y => ∃ u, y = .bytes #[c.toUInt8] u) (by simp) ?_ trivial ?_ ?_
  · rintro i v hi ⟨c, u, hc, rfl⟩
    exact ⟨c, by simpa using hc, u, rfl⟩
  · rintro c v I oI C oC D m₂ ys h tk E' ha ⟨u, rfl⟩ hC hx F N off ne
    k_steps
    have hmem : octs [c] ∈ bSigns := bt_signs c ha
    refine bytes_codes (l := [c]) (ys := [_]) (by k_asm) (by k_asm) (News.isList (by k_asm) (by k_mem)) (.cons ⟨_, rfl⟩ .nil) (fun c' hc' => by rw [List.mem_singleton.mp hc']; exact bt_low c ha) (by simp) rfl ?_
    intro h27 t27 k27 F27 N27
    k_steps
    exact ElEnd.intro (by k_asm) (by walk_at "MY led") ⟨_, rfl⟩
  · intro ys4 hP4
    k_steps
    refine Bt.join_empty (News.isList (by k_asm) (by k_mem)) (bytes_of_paired hP4) (by decide +kernel) fun tj2 kj2 => ?_
    rw [show Bt.cat (bText.cps.toList.map fun c => #[c.toUInt8]) = #[61, 95, 112, 97, 114, 116, 48] from by decide +kernel]
    k_steps
    rename News _ _ _ _ => N9
    exact hret _ [_] _ _ _ (by k_asm) (news_pick N9 (by walk_at "MY sub")) (by walk_at "MY below") ⟨_, rfl⟩
end
theorem row64 : True := by (k_with "Q call ref" => (k_here; (with_reducible show wpAny _ _ (call (Value.ref 327) [Value.bytes _ _, Value.str _ _]) _ _ _); k_dflt (refine' CtrL.use (c_quoted _ _) ?k1 ?k2 ?k3 ?k4 ?k5 ?kK ?kR ?kd ?ku ?_; walk_at "MY use"); walk_at "MY got2")); trivial
section
variable {prog : Program} {w : World} {p : Program} {loose : List Str} {mean : ExcName → Option Value} {mg mb : Str → Option Value}
theorem c_prows (t t' : Tok) : CtrL prog w p loose mean mg mb 337 6 40 (fun _ => True) [.str bWord t, .str bText t'] (fun ys => ∃ u, ys = [.bytes bRow u]) := by
  intro dp un gd cn cs a' ccd cl outer A₀ base h₀ L m news s Q E B F X N T hk hR hd hu hret
  refine wpAny_call ?_
  k_dflt cell_enter
  k_steps
  refine ⟨_, _, _, _, by k_asm, by k_asm, src_str rfl _ _, trivial, by rw [sizeLine_eq]; decide +kernel, fun g => ?_⟩
  refine rest_filter bWord.cps.toList (fun c v => ∃ u, v = .str ⟨#[c]⟩ u) (fun c => decide ((c : Int) < 128)) (fun c y => ∃ u, y = .int (c : Int) u) (by simp) ?_ trivial ?_ ?_ ?_
  · rintro i v hi ⟨c, u, hc, rfl⟩
    exact ⟨c, by simpa using hc, u, rfl⟩
  · rintro c v I oI C oC D m₂ ys h tk E' ha ⟨u, rfl⟩ hC hx F N off ne
    k_steps
    exact TsEnd.intro (by k_asm) (by k_asm) rfl
  · rintro c v I oI C oC D m₂ ys h tk E' ha ⟨u, rfl⟩ hpz hC hx F N off ne
    k_steps
    exact ElEnd.intro (by k_asm) (by k_asm) ⟨_, rfl⟩
  · intro ys hP
    rw [show bWord.cps.toList.filter (fun (c : Nat) => decide ((c : Int) < 128)) = bWord.cps.toList from by decide +kernel] at hP
    k_steps
    refine bytes_codes (by k_asm) (by k_asm) (News.isList (by k_asm) (by k_mem)) hP (by decide +kernel) (by decide +kernel) rfl ?_
    intro h7 t7 k7 F7 N7
    rw [show octs bWord.cps.toList = #[98, 111, 117, 110, 100, 97, 114, 121] from by decide +kernel]
    k_steps
    refine ⟨_, _, _, _, by k_asm, by k_asm, src_bytes rfl _ _, trivial, by rw [sizeLine_eq]; decide +kernel, fun g => ?_⟩
    refine rest_filter (nats #[98, 111, 117, 110, 100, 97, 114, 121]) (fun c v => c < 256 ∧ ∃ u, v = .int (c : Int) u) (fun c => (#[42, 39, 37] : Array UInt8).contains ((c : Int).toNat.toUInt8)) (fun c y => ∃ u, y = .int (c : Int) u) (by simp [nats]) ?_ trivial ?_ ?_ ?_
    · rintro i v hi ⟨c, u, hc, rfl⟩
      exact ⟨c.toNat, nats_get hc, c.toNat_lt, u, rfl⟩
    · rintro c v I oI C oC D m₂ ys h tk E' ha ⟨hlt, u, rfl⟩ hC hx F N off ne
      k_steps
      exact TsEnd.intro (by k_asm) (by k_asm) rfl
    · rintro c v I oI C oC D m₂ ys h tk E' ha ⟨hlt, u, rfl⟩ hpz hC hx F N off ne
      k_steps
      exact ElEnd.intro (by k_asm) (by k_asm) ⟨_, rfl⟩
    · intro ys2 hP2
      rw [show (nats #[98, 111, 117, 110, 100, 97, 114, 121]).filter (fun (c : Nat) => (#[42, 39, 37] : Array UInt8).contains ((c : Int).toNat.toUInt8)) = [] from by decide +kernel] at hP2
      cases hP2
      k_steps
      · exact absurd (by assumption : (lowerS bWord != bWord) = true) (by decide +kernel)
      refine ⟨_, _, _, _, by k_asm, by k_asm, src_str rfl _ _, trivial, by rw [sizeLine_eq]; decide +kernel, fun g => ?_⟩
      refine rest_map bText.cps.toList (fun c v => ∃ u, v = .str ⟨#[c]⟩ u) (fun (c : Nat) y => ∃ u, y = .int (c : Int) u) (by simp) ?_ trivial ?_ ?_
      · rintro i v hi ⟨c, u, hc, rfl⟩
        exact ⟨c, by simpa using hc, u, rfl⟩
      · rintro c v I oI C oC D m₂ ys h tk E' ha ⟨u, rfl⟩ hC hx F N off ne
        k_steps
        exact ElEnd.intro (by k_asm) (by k_asm) ⟨_, rfl⟩
      · intro ys3 hP3
        k_steps
        refine bytes_codes (by k_asm) (by k_asm) (News.isList (by k_asm) (by k_mem)) hP3 (by decide +kernel) (by decide +kernel) rfl ?_
        intro h17 t17 k17 F17 N17
        rw [show octs bText.cps.toList = #[61, 95, 112, 97, 114, 116, 48] from by decide +kernel]
        k_steps
        rename News _ _ _ _ => N9
        exact hret _ [_] _ _ _ (by k_asm) (news_pick N9 (by walk_at "MY sub")) (by walk_at "MY below") ⟨_, rfl⟩
end

-- P13
section
variable {prog : Program} {w : World} {p : Program} {loose : List Str} {mean : ExcName → Option Value} {mg mb : Str → Option Value}
end
theorem row65 : True := by (k_with "Q call ref" => (k_here; (with_reducible show wpAny _ _ (call (Value.ref 337) [Value.str _ _, Value.str _ _]) _ _ _); k_dflt (refine' CtrL.use (c_prows _ _) ?k1 ?k2 ?k3 ?k4 ?k5 ?kK ?kR ?kd ?ku ?_; walk_at "MY use"); walk_at "MY got2")); trivial
section
variable {prog : Program} {w : World} {p : Program} {loose : List Str} {mean : ExcName → Option Value} {mg mb : Str → Option Value}
set_option maxHeartbeats 8000000 in
theorem c_params1 (pr : Addr) (po : Obj) (b : Array UInt8) (t tb : Tok) (hb : b.size ≤ 1000) (hp : DictF prog w pr po [(bWord, .str bText tb)] [(.str bWord, .str bText)]) : Ctr prog w p loose mean mg mb 342 8 64 (fun news => (pr, po) ∈ news) [.bytes b t, .ref pr]
    (fun r => ∃ t, r = .bytes (b ++ #[59, 13, 10] ++ #[32, 98, 111, 117, 110, 100, 97, 114, 121, 61, 34, 61, 95, 112, 97, 114, 116, 48, 34]) t) := by
  intro dp un gd cn cs a' ccd cl outer A₀ base h₀ L m news s Q E B F X N T hk hR hd hu hret
  refine wpAny_call ?_
  k_dflt cell_enter
  k_steps
  refine kdu_sortedD (knd := PySem.strKind _ _) (enc := PyData.str) (fun _ _ => kdl_flat_str) (by rfl) (by k_asm) (by k_asm) (TabAt.ofNews (by k_asm) (by k_mem) hp.1 hp.2.1 hp.2.2) (by k_units) ?_
  intro B9 h9 tk9
  dsimp only [KdlKeysD]
  intro v9 hv9 F9 N9 l9
  obtain ⟨t9, rfl⟩ := PyProof.V.Flat.str_inv hv9
  refine sort_short F9 N9 l9 (.cons _ _ .nil) (by simp) ?_
  intro h10 k10 F10 N10
  k_lt l9
  k_steps
  rename Fr _ _ _ _ => lF'
  rename News _ _ _ _ => lN'
  with_unfolding_all refine iter_listUnr (vs := [_]) (by rfl) lF' lN' (by k_mem) (by rfl) (by rfl) ?_
  intro I lI
  have lI0 := lI
  k_lt lI
  refine ListRest.succ fun it hh1 tk1 hit F1 N1 => ?_
  k_steps
  refine tab_tail (knd := PySem.strKind _ _) (enc := PyData.str) (TabAt.ofNews (by k_asm) (by k_mem) hp.1 hp.2.1 hp.2.2) ?_
  refine PyProof.Rows.getItem_tab PyProof.V.same_str (strKind_is _ _ _ _) (TabAt.ofNews (by k_asm) (by k_mem) hp.1 hp.2.1 hp.2.2) (dv := .str bText) (by rfl) ?_
  intro v8 hv8
  obtain ⟨t8, rfl⟩ := PyProof.V.Flat.str_inv hv8
  k_steps
  refine ⟨_, _, _, _, by k_asm, by k_asm, src_list rfl _ #[_], Or.inr ⟨_, by k_mem, rfl, _, rfl⟩, by rw [sizeLine_eq]; simp, fun g => ?_⟩
  refine rest_map [()] (fun _ v => ∃ u, v = .bytes #[98, 111, 117, 110, 100, 97, 114, 121, 61, 34, 61, 95, 112, 97, 114, 116, 48, 34] u) (fun _ y => ∃ u, y = Value.bytes #[32, 98, 111, 117, 110, 100, 97, 114, 121, 61, 34, 61, 95, 112, 97, 114, 116, 48, 34] u) rfl ?_ (Or.inr ⟨_, by k_mem, rfl, _, rfl⟩) ?_ ?_
  · intro i v hi hv
    match i, hi with
    | 0, _ => cases hv; exact ⟨(), rfl, _, rfl⟩
  · rintro _ v I oI C oC D m₂ ys h tk E' _ ⟨u, rfl⟩ hC hx F N off ne
    k_steps
    exact ElEnd.intro (by k_asm) (by k_asm) ⟨_, rfl⟩
  · intro ys5 hP5
    obtain ⟨u5, rfl⟩ := paired_one hP5
    repeat' (fail_if_success (with_reducible show wpAny _ _ (call (Value.builtin "list.extend") _) _ _ _)); first | (k_unfold; (try dsimp only)) | walk1 | (dsimp only; walk1)
    refine kl_extend (its := #[_]) (its2 := #[_]) (l := [_, _]) (by k_asm) (by k_asm) (by k_mem) rfl (Nat.succ_ne_zero _) (by k_upd) (by exact Bool.false_ne_true) (by kl_room) (by kl_room) ?_
    intro h37 F37 N37
    k_steps
    refine ⟨_, _, _, _, rfl, by k_asm, by walk_at "MY led", ?_, by k_mem, ?_⟩
    · exact off_upd lI0 rfl
    refine ListRest.zero fun hh3 tk3 F3 N3 => ?_
    k_steps
    refine Bt.join_call (items := [_, _]) (News.isList (by k_asm) (by k_mem)) (.cons _ _ (.cons _ _ .nil)) (by simp; omega) (by rw [Bt.joined_two]; simp; omega) fun tj kj => ?_
    rw [Bt.joined_two]
    k_steps
    exact hret _ _ _ (by k_asm) (by walk_at "MY led") ⟨_, rfl⟩
end

-- PG
/-! ### comprehensions whose target is a tuple of names, over any iterator that takes turns -/
namespace Gc
open LCg
/-- tests and element of one turn -/
noncomputable def elemW (prog : Program) (w : World) (A : Around) (env : Env) (cts : Option Expr) (elt : Expr) (K : Value → Shared → Prop) (Kf : Shared → Prop) (E : Value → Shared → Prop) (s : Shared) : Prop :=
  match cts with
  | none => wpAny (model prog w) A (eval elt env) K E s
  | some c => wpAny (model prog w) A (isTrue c env (eval c env)) (fun ok s' => if ok = true then wpAny (model prog w) A (eval elt env) K E s' else Kf s') E s
section
variable {prog : Program} {w : World} {A : Around} {E : Value → Shared → Prop} {s : Shared} {env : Env} {cts : Option Expr} {elt : Expr}
theorem elemW_mono {K K' : Value → Shared → Prop} {Kf Kf' : Shared → Prop} {E' : Value → Shared → Prop} (h : elemW prog w A env cts elt K Kf E s) (h1 : ∀ y s', K y s' → K' y s') (h2 : ∀ s', Kf s' → Kf' s') (h3 : ∀ e s', E e s' → E' e s') : elemW prog w A env cts elt K' Kf' E' s := by
  cases cts with
  | none => exact wpAny_mono h (fun y s' => h1 y s') fun e s' => h3 e s'
  | some c =>
    refine wpAny_mono h (fun ok s' hq => ?_) fun e s' => h3 e s'
    cases ok with
    | true => simp only [if_true] at hq ⊢; exact wpAny_mono hq (fun y s' => h1 y s') fun e s' => h3 e s'
    | false => simp only [Bool.false_eq_true, if_false] at hq ⊢; exact h2 s' hq
theorem loopG {target iter : Expr} {scope : Scope} {pos : Pos} {it acc : Value} {R : Result → Shared → Prop} (I : Nat → Shared → Prop)
    (turn : ∀ n s, I n s → wpAny (model prog w) A (pyNext it) (fun r s₁ => match r with
      | none => R (.ok .next) s₁
      | some v => wpAny (model prog w) A (letOwnedTupleGo target it v) (fun _ s₀ => wpAny (model prog w) A (assign target env v) (fun _ s₂ =>
          elemW prog w A env cts elt (fun x s₄ => wpAny (model prog w) A (call (.builtin "list.append") [acc, x]) (fun _ s₅ => ∃ m, m < n ∧ I m s₅) (notedBy (model prog w) A env fun e s' => R (.error e) s') s₄)
            (fun s₃ => ∃ m, m < n ∧ I m s₃) (notedBy (model prog w) A env fun e s' => R (.error e) s') s₂)
          (notedBy (model prog w) A env fun e s' => R (.error e) s') s₀) (notedBy (model prog w) A env fun e s' => R (.error e) s') s₁) (notedBy (model prog w) A env fun e s' => R (.error e) s') s)
    (n : Nat) (h : I n s) : codeAny (model prog w) A (.compLoop (.ListComp elt [⟨target, iter, cts.toList, 0⟩] scope pos) 0 it acc env) R s := by
  cases cts with
  | none => exact kcp_loop I turn n h
  | some c => exact kct_loop I turn n h
end
/-- assigning values to names one by one -/
noncomputable def bindL : List Str → List Value → (Str → Option Value) → (Str → Option Value)
  | x :: xs, v :: vs, m => bindL xs vs (fun z => if z = x then some v else m z)
  | _, _, m => m
section
variable {prog : Program} {w : World} {A : Around} {E : Value → Shared → Prop}
theorem assign_all {env : Env} (hp : (env.scope.kind == .class || (env.scope.kind == .module && env.locals != env.globals)) = false) : ∀ (ns : List (Str × Pos)) (vs : List Value) (s : Shared) (m : Str → Option Value) (Q : Unit → Shared → Prop), ns.length = vs.length → (∀ q ∈ ns, env.kindOf q.1 = some .local) → s.heap.Ns env.locals m →
    (∀ (h' : Heap) (tk : Nat), h'.Ns env.locals (bindL (ns.map (·.1)) vs m) → (∀ c o, c ≠ env.locals → s.heap.get? c = some o → h'.get? c = some o) → Q () { s with heap := h', toks := tk }) →
    wpAny (model prog w) A (assignInOrder (ns.map fun q => assign (.Name q.1 q.2) env) vs) Q E s := by
  intro ns
  induction ns with
  | nil =>
    intro vs s m Q hl _ hn h
    cases vs with
    | nil => exact assignInOrder_nil (h s.heap s.toks hn fun _ _ _ e => e)
    | cons v vs => simp at hl
  | cons q ns ih =>
    intro vs s m Q hl hk hn h
    cases vs with
    | nil => simp at hl
    | cons v vs =>
      refine assignInOrder_cons ?_
      refine wpAny_assign_Name (wpAny_storeName_local (hk q (.head _)) hn (fun h₂ hn₂ hs₂ => ?_) hp)
      refine ih vs _ _ Q (by simpa using hl) (fun p hp => hk p (.tail _ hp)) hn₂ ?_
      intro h' tk hn' hk'
      exact h h' tk hn' fun c o hc e => hk' c o hc (hs₂.extBut c o hc e)
theorem assign_tuple {env : Env} (hp : (env.scope.kind == .class || (env.scope.kind == .module && env.locals != env.globals)) = false) (hh : A.handled = none) {ns : List (Str × Pos)} {kk : Nat} {tp : Pos} {T : Addr} {vs : List Value} {s : Shared} {m : Str → Option Value} {Q : Unit → Shared → Prop}
    (hl : ns.length = vs.length) (hst : (assignEach (ns.map fun q => Expr.Name q.1 q.2) env).findIdx? (·.1) = none) (hlen : (assignEach (ns.map fun q => Expr.Name q.1 q.2) env).length = ns.length)
    (hmap : (assignEach (ns.map fun q => Expr.Name q.1 q.2) env).map (·.2) = ns.map fun q => assign (.Name q.1 q.2) env) (ht : s.heap.IsTuple T vs.toArray) (hk : ∀ q ∈ ns, env.kindOf q.1 = some .local) (hn : s.heap.Ns env.locals m)
    (h : ∀ (h' : Heap) (tk : Nat), h'.Ns env.locals (bindL (ns.map (·.1)) vs m) → (∀ c o, c ≠ env.locals → s.heap.get? c = some o → h'.get? c = some o) → Q () { s with heap := h', toks := tk }) :
    wpAny (model prog w) A (assign (.Tuple (ns.map fun q => Expr.Name q.1 q.2) kk tp) env (.ref T)) Q E s := by
  refine wpAny_assign_Tuple hh ht (by rw [hlen, hl]; simp) hst fun h₁ he₁ => ?_
  have hL : env.locals ≠ s.heap.objs.size := Nat.ne_of_lt hn.lt
  have hn₁ : h₁.Ns env.locals m := hn.at' fun o e => he₁ _ o hL e
  have up₁ : ∀ c o, s.heap.get? c = some o → h₁.get? c = some o := fun c o e => he₁ c o (Nat.ne_of_lt (Heap.lt_size e)) e
  rw [hmap]
  exact assign_all hp ns vs _ m Q hl hk hn₁ fun h' tk hn' hk' => h h' tk hn' fun c o hc e => hk' c o hc (up₁ c o e)
theorem each_names (env : Env) : ∀ ns : List (Str × Pos), (assignEach (ns.map fun q => Expr.Name q.1 q.2) env).findIdx? (·.1) = none ∧ (assignEach (ns.map fun q => Expr.Name q.1 q.2) env).length = ns.length ∧
    (assignEach (ns.map fun q => Expr.Name q.1 q.2) env).map (·.2) = ns.map fun q => assign (.Name q.1 q.2) env := by
  intro ns
  induction ns with
  | nil => exact ⟨rfl, rfl, rfl⟩
  | cons q ns ih =>
    obtain ⟨h1, h2, h3⟩ := ih
    have e : assignEach ((q :: ns).map fun q => Expr.Name q.1 q.2) env = (false, assign (.Name q.1 q.2) env) :: assignEach (ns.map fun q => Expr.Name q.1 q.2) env := by
      rw [List.map_cons]
      with_unfolding_all rfl
    refine ⟨?_, ?_, ?_⟩
    · rw [e, List.findIdx?_cons, h1]; rfl
    · rw [e, List.length_cons, List.length_cons, h2]
    · rw [e, List.map_cons, List.map_cons, h3]
end
/-- an iterator that takes turns, and is its own iterator -/
structure GT (prog : Program) (w : World) (A : Around) (target : Expr) (I : Addr) (fp wr ws : List Addr) (n : Nat) (P : Nat → List Value → Prop) (Md : Nat → Value → Heap → Prop) (St : Nat → Heap → Prop) (h₀ : Heap) (L : Addr) (S : List (Addr × Obj) → Prop) : Prop where
  k : KTurns prog w A target I fp wr n (fun i v h => ∃ T vals, v = .ref T ∧ P i vals ∧ h.IsTuple T vals.toArray) Md St
  self : ∀ i (s : Shared) (Q : Value → Shared → Prop) (E : Value → Shared → Prop), St i s.heap → Q (.ref I) s → wpAny (model prog w) A (pyIter (.ref I)) Q E s
  fwr : ∀ b ∈ wr, b ∈ ws
  fws : ∀ b ∈ ws, b ∈ fp ∧ h₀.get? b = none
  fL : L ∉ fp
  own : ∀ i h, St i h → ∃ own : List (Addr × Obj), own.map (·.1) = ws ∧ ∀ q ∈ own, h.get? q.1 = some q.2
  st : ∀ i h h' (own nw : List (Addr × Obj)), St i h → own.map (·.1) = ws → (∀ q ∈ own, h.get? q.1 = some q.2) → (∀ q ∈ own, h'.get? q.1 = some q.2) → (∀ b o, h₀.get? b = some o → h'.get? b = some o) → News h₀ L h' nw → S nw → St i h'
noncomputable def EndG (h₀ : Heap) (L : Addr) (m : Str → Option Value) (s₁ : Shared) (C : Addr) (oC : Obj) (D : Addr) (oD : Obj) (own : List (Addr × Obj)) (S : List (Addr × Obj) → Prop) (rest : Value → List (Addr × Obj) → Prop) (y : Value) (s₂ : Shared) : Prop :=
  ∃ h' tk news', s₂ = { s₁ with heap := h', toks := tk } ∧ Fr h₀ L h' m ∧ News h₀ L h' ((C, oC) :: (D, oD) :: (own ++ news')) ∧ (∀ p ∈ news', p.1 ≠ C ∧ p.1 ≠ D ∧ ∀ q ∈ own, p.1 ≠ q.1) ∧ S news' ∧ rest y news'
noncomputable def RestG (prog : Program) (w : World) (A : Around) (h₀ : Heap) (L : Addr) (m : Str → Option Value) (env : Env) (cts : Option Expr) (elt : Expr) (xs : List Str) (scope : Scope) (cl : List (Str × Addr)) (s : Shared) (S : List (Addr × Obj) → Prop) (P : Nat → List Value → Prop)
    (Fin : List Value → List (Addr × Obj) → Prop) : Nat → Nat → List Value → List (Addr × Obj) → Prop
  | 0, _, ys, news => Fin ys news
  | k + 1, i, ys, news => ∀ vals C oC D own m₁ m₂ h tk (E' : Value → Shared → Prop), P i vals → NsObj oC m₂ → m₂ = bindL xs vals m₁ → Fr h₀ L h m → News h₀ L h ((C, oC) :: (D, lst ys) :: (own ++ news)) → (∀ p ∈ news, p.1 ≠ C ∧ p.1 ≠ D ∧ ∀ q ∈ own, p.1 ≠ q.1) → (∀ q ∈ own, q.1 ≠ C ∧ q.1 ≠ D) → C ≠ D →
      elemW prog w A (compEnvC scope cl C env) cts elt (EndG h₀ L m { s with heap := h, toks := tk } C oC D (lst ys) own S (fun y news' => RestG prog w A h₀ L m env cts elt xs scope cl s S P Fin k (i + 1) (ys ++ [y]) news'))
        (EndG h₀ L m { s with heap := h, toks := tk } C oC D (lst ys) own S (fun _ news' => RestG prog w A h₀ L m env cts elt xs scope cl s S P Fin k (i + 1) ys news') .none) E' { s with heap := h, toks := tk }
section
variable {prog : Program} {w : World} {A : Around} {E : Value → Shared → Prop} {s : Shared} {h₀ : Heap} {L : Addr} {m : Str → Option Value} {env : Env}
theorem block_G {cts : Option Expr} {elt iter : Expr} {ns : List (Str × Pos)} {kk : Nat} {tp : Pos} {scope : Scope} {cl : List (Str × Addr)} {pos : Pos} {s₂ : Shared} {I : Addr} {fp wr ws : List Addr} {n : Nat} {P : Nat → List Value → Prop} {Md : Nat → Value → Heap → Prop} {St : Nat → Heap → Prop} {S : List (Addr × Obj) → Prop} {news : List (Addr × Obj)}
    {Fin : List Value → List (Addr × Obj) → Prop} {RR : Value → Addr → Result → Shared → Prop} (hh : A.handled = none)
    (W : GT prog w A (.Tuple (ns.map fun q => Expr.Name q.1 q.2) kk tp) I fp wr ws n P Md St h₀ L S) (hsz : n ≤ sizeLine) (hlen : ∀ i vals, P i vals → ns.length = vals.length)
    (hcell : ∀ y ∈ scope.names, y.2 ≠ .cell) (hkind : scope.kind = .function) (hx : ∀ q ∈ ns, scope.names.lookup q.1 = some .local) (hst : St 0 s₂.heap) (hfp : ∀ b ∈ fp, b < s₂.heap.objs.size)
    (F : Fr h₀ L s₂.heap m) (N : News h₀ L s₂.heap news) (off : ∀ p ∈ news, p.1 ∉ ws) (hS : S news)
    (R : RestG prog w A h₀ L m env cts elt (ns.map (·.1)) scope cl s₂ S P Fin n 0 [] news)
    (hRR : ∀ D C h tk m' ys news', Fr h₀ L h m → News h₀ L h ((D, lst ys) :: news') → Off1 D news' → h.Ns C m' → h₀.get? C = none → h₀.get? D = none → C ≠ L → D ≠ L → C ≠ D → (∀ p ∈ news', p.1 ≠ C) → Fin ys news' → RR (.ref D) C (.ok .next) { s₂ with heap := h, toks := tk }) :
    wpAny (model prog w) A (newList []) (fun acc s₃ => wpAny (model prog w) A (newFunctionEnv scope env.globals cl [] env.qual none .none (some env)) (fun cenv s₄ =>
      codeAny (model prog w) A (.compStart (.ListComp elt [⟨.Tuple (ns.map fun q => Expr.Name q.1 q.2) kk tp, iter, cts.toList, 0⟩] scope pos) 0 (.ref I) acc { cenv with scope := relabel scope env }) (RR acc cenv.locals) s₄) E s₃) E s₂ := by
  refine wpAny_newObj_type (wpAny_newFunctionEnv hcell (by intro y hy; simp at hy) (fun h₁ hns₁ hsb₁ => ?_) hkind)
  dsimp only at hns₁ hsb₁ ⊢
  generalize hH2 : s₂.heap.push { cls := .type "list", dict := none, data := .seq ([] : List Value).toArray } = H2 at hns₁ hsb₁ ⊢
  have hC : H2.objs.size = s₂.heap.objs.size + 1 := by rw [← hH2, Heap.size_push]
  have hDC : s₂.heap.objs.size ≠ H2.objs.size := by rw [hC]; exact Nat.ne_of_lt (Nat.lt_succ_self _)
  have below : ∀ b, b < s₂.heap.objs.size → b ≠ H2.objs.size ∧ b ≠ s₂.heap.objs.size := fun b hb => ⟨by rw [hC]; exact Nat.ne_of_lt (Nat.lt_succ_of_lt hb), Nat.ne_of_lt hb⟩
  have hDf : s₂.heap.objs.size ∉ fp := fun hm => Nat.lt_irrefl _ (hfp _ hm)
  have hCf : H2.objs.size ∉ fp := fun hm => by have := hfp _ hm; rw [hC] at this; exact Nat.lt_irrefl _ (Nat.lt_of_succ_lt this)
  have wrf : ∀ b ∈ wr, b ∈ fp := fun b hb => W.k.sub b hb
  have hDw : s₂.heap.objs.size ∉ wr := fun hb => hDf (wrf _ hb)
  have hCw : H2.objs.size ∉ wr := fun hb => hCf (wrf _ hb)
  have hLw : L ∉ wr := fun hb => W.fL (wrf _ hb)
  have oldw : ∀ b o, h₀.get? b = some o → b ∉ wr := fun b o e hb => by rw [(W.fws b (W.fwr b hb)).2] at e; cases e
  have old : ∀ b o, s₂.heap.get? b = some o → h₁.get? b = some o := fun b o e => hsb₁.extBut b o (below b (Heap.lt_size e)).1 (Heap.get?_push_of_some _ (hH2 ▸ Heap.get?_push_of_some _ e))
  have hacc : h₁.get? s₂.heap.objs.size = some (lst []) := hsb₁.extBut _ _ hDC (Heap.get?_push_of_some _ (hH2 ▸ Heap.get?_push_size _ rfl))
  have hst₁ : St 0 h₁ := W.k.frame _ _ _ hst fun b _ o e => old b o e
  have fresh : ∀ a, s₂.heap.objs.size ≤ a → s₂.heap.get? a = none := fun a ha => by
    cases e : s₂.heap.get? a with
    | none => rfl
    | some o' => exact absurd (Heap.lt_size e) (Nat.not_lt.mpr ha)
  have fresh₀ : ∀ a, s₂.heap.objs.size ≤ a → h₀.get? a = none := fun a ha => by
    cases e : h₀.get? a with
    | none => rfl
    | some o' => have := F.keep a o' e; rw [fresh a ha] at this; cases this
  have hD₀ : h₀.get? s₂.heap.objs.size = none := fresh₀ _ (Nat.le_refl _)
  have hC₀ : h₀.get? H2.objs.size = none := fresh₀ _ (by rw [hC]; exact Nat.le_succ _)
  have hLlt : L < s₂.heap.objs.size := F.ns.lt
  have hDL : s₂.heap.objs.size ≠ L := Ne.symm (below L hLlt).2
  have hCL : H2.objs.size ≠ L := Ne.symm (below L hLlt).1
  have off₀ : ∀ p ∈ news, p.1 ≠ H2.objs.size ∧ p.1 ≠ s₂.heap.objs.size ∧ p.1 ∉ ws := fun p hp => ⟨(below _ (Heap.lt_size (N p hp).1)).1, (below _ (Heap.lt_size (N p hp).1)).2, off p hp⟩
  have loop : ∀ s₃ : Shared, s₃ = { s₂ with heap := h₁, toks := s₂.toks + ([] : List (Str × Value)).length } →
      codeAny (model prog w) A (.compLoop (.ListComp elt [⟨.Tuple (ns.map fun q => Expr.Name q.1 q.2) kk tp, iter, cts.toList, 0⟩] scope pos) 0 (.ref I) (.ref s₂.heap.objs.size) (compEnvC scope cl H2.objs.size env))
        (RR (.ref s₂.heap.objs.size) H2.objs.size) s₃ := by
    rintro s₃ rfl
    refine loopG
      (fun k s' => ∃ h' tk i ys m' news', s' = { s₂ with heap := h', toks := tk } ∧ i ≤ n ∧ k = n + 1 - i ∧ ys.length ≤ i ∧ St i h' ∧ Fr h₀ L h' m ∧ h'.Ns H2.objs.size m' ∧ News h₀ L h' ((s₂.heap.objs.size, lst ys) :: news') ∧
        (∀ p ∈ news', p.1 ≠ H2.objs.size ∧ p.1 ≠ s₂.heap.objs.size ∧ p.1 ∉ ws) ∧ S news' ∧ RestG prog w A h₀ L m env cts elt (ns.map (·.1)) scope cl s₂ S P Fin (n - i) i ys news') ?_ (n + 1)
      ⟨h₁, _, 0, [], _, news, rfl, Nat.zero_le _, rfl, Nat.le_refl _, hst₁, F.keeps old, hns₁, fun p hp => ?_, off₀, hS, R⟩
    · rintro k s' ⟨h', tk, i, ys, m', news', rfl, hi, rfl, hyl, hst', F', hn', N', off', hS', R'⟩
      have frK : ∀ h a : Heap, Fr h₀ L h m → (∀ b o, b ∉ wr → h.get? b = some o → a.get? b = some o) → Fr h₀ L a m := fun h a F hk => ⟨F.ns.at' fun o e => hk L o hLw e, fun b o e => hk b o (oldw b o e) (F.keep b o e), F.above⟩
      have nwK : ∀ h a : Heap, News h₀ L h ((s₂.heap.objs.size, lst ys) :: news') → (∀ b o, b ∉ wr → h.get? b = some o → a.get? b = some o) → News h₀ L a ((s₂.heap.objs.size, lst ys) :: news') := fun h a N hk p hp => by
        refine ⟨hk _ _ ?_ (N p hp).1, (N p hp).2⟩
        rcases List.mem_cons.mp hp with rfl | hp
        · exact hDw
        · exact fun hb => (off' p hp).2.2 (W.fwr _ hb)
      by_cases hlt : i < n
      · obtain ⟨j, hj⟩ : ∃ j, n - i = j + 1 := ⟨n - i - 1, by omega⟩
        rw [hj] at R'
        refine W.k.item i _ _ _ hlt hst' fun v h₂ tk₂ hMd hk₂ => ?_
        refine W.k.go i v _ _ _ hMd fun h₃ hP hst₃ hk₃ => ?_
        obtain ⟨T, vals, rfl, hPv, hT⟩ := hP
        have F₃ : Fr h₀ L h₃ m := frK _ _ (frK _ _ F' hk₂) hk₃
        have N₃ := nwK _ _ (nwK _ _ N' hk₂) hk₃
        have hn₃ : h₃.Ns H2.objs.size m' := (hn'.at' fun o e => hk₂ _ o hCw e).at' fun o e => hk₃ _ o hCw e
        obtain ⟨e1, e2, e3⟩ := each_names (compEnvC scope cl H2.objs.size env) ns
        refine assign_tuple (by simp [compEnvC, relabel, hkind]) hh (hlen i vals hPv) e1 e2 e3 hT (fun q hq => lookup_relabel_local (hx q hq)) hn₃ fun h₄ tk₄ hn₄ hk₄ => ?_
        have hst₄ : St (i + 1) h₄ := W.k.frame _ _ _ hst₃ fun b hb o e => hk₄ b o (fun q => hCf (by have q' : b = H2.objs.size := q; rw [← q']; exact hb)) e
        obtain ⟨own, hown, hget⟩ := W.own _ _ hst₄
        have ownm : ∀ q ∈ own, q.1 ∈ ws := fun q hq => hown ▸ List.mem_map_of_mem hq
        obtain ⟨oC, heC, hoC⟩ := ns_obj hn₄
        have F₄ : Fr h₀ L h₄ m := ⟨F₃.ns.at' fun o e => hk₄ L o (Ne.symm hCL) e, fun b o e => hk₄ b o (fun q => by have q' : b = H2.objs.size := q; rw [q', hC₀] at e; cases e) (F₃.keep b o e), F₃.above⟩
        have N₄ : News h₀ L h₄ ((H2.objs.size, oC) :: (s₂.heap.objs.size, lst ys) :: (own ++ news')) := fun p hp => by
          rcases List.mem_cons.mp hp with rfl | hp
          · exact ⟨heC, hCL, hC₀⟩
          rcases List.mem_cons.mp hp with rfl | hp
          · have z := N₃ _ (.head _); exact ⟨hk₄ _ _ hDC z.1, z.2⟩
          rcases List.mem_append.mp hp with hp | hp
          · exact ⟨hget p hp, fun q => W.fL (by have := (W.fws _ (ownm p hp)).1; rwa [q] at this), (W.fws _ (ownm p hp)).2⟩
          · have z := N₃ p (.tail _ hp); exact ⟨hk₄ _ _ (off' p hp).1 z.1, z.2⟩
        refine elemW_mono (R' vals H2.objs.size oC s₂.heap.objs.size own _ _ h₄ _ _ hPv hoC rfl F₄ N₄ (fun p hp => ⟨(off' p hp).1, (off' p hp).2.1, fun q hq e => (off' p hp).2.2 (e ▸ ownm q hq)⟩) (fun q hq => ⟨fun e => hCf (by have := (W.fws _ (ownm q hq)).1; rwa [e] at this), fun e => hDf (by have := (W.fws _ (ownm q hq)).1; rwa [e] at this)⟩) (Ne.symm hDC)) ?_ ?_ fun _ _ e => e
        · rintro y s₅ ⟨h₅, tk₅, news₅, rfl, F₅, N₅, off₅, hS₅, R₅⟩
          have zC := (N₅ _ (.head _)).1
          have zD := (N₅ _ (.tail _ (.head _))).1
          have N₅o : ∀ q ∈ own, h₅.get? q.1 = some q.2 := fun q hq => (N₅ q (.tail _ (.tail _ (List.mem_append_left _ hq)))).1
          have N₅' : News h₀ L h₅ news₅ := fun p hp => N₅ p (.tail _ (.tail _ (List.mem_append_right _ hp)))
          have hst₅ : St (i + 1) h₅ := W.st _ _ _ own _ hst₄ hown hget N₅o F₅.keep N₅' hS₅
          refine append_at (hsz := by show ys.toArray.size ≤ sizeLine; rw [List.size_toArray]; exact Nat.le_trans (Nat.le_trans hyl hi) hsz) zD fun h₆ hs₆ hD₆ => ?_
          refine ⟨n + 1 - (i + 1), by omega, h₆, tk₅, i + 1, ys ++ [y], _, news₅, rfl, hlt, rfl, by rw [List.length_append, List.length_singleton]; exact Nat.succ_le_succ hyl, W.k.frame _ _ _ hst₅ fun b hb o e => hs₆.extBut b o (fun q => hDf (q ▸ hb)) e, F₅.change hs₆ hDL hD₀,
            (hoC.ns zC).sameBut hs₆ (Ne.symm hDC), fun p hp => ?_, fun p hp => ⟨(off₅ p hp).1, (off₅ p hp).2.1, fun hb => ?_⟩, hS₅, ?_⟩
          · rcases List.mem_cons.mp hp with rfl | hp
            · exact ⟨hD₆.trans (congrArg some (lst_snoc ys y)), hDL, hD₀⟩
            · exact ⟨hs₆.extBut _ _ (off₅ p hp).2.1 (N₅' p hp).1, (N₅' p hp).2⟩
          · rw [← hown] at hb
            obtain ⟨q, hq, e⟩ := List.mem_map.mp hb
            exact (off₅ p hp).2.2 q hq e.symm
          · rw [show n - (i + 1) = j by omega]
            exact R₅
        · rintro s₅ ⟨h₅, tk₅, news₅, rfl, F₅, N₅, off₅, hS₅, R₅⟩
          have zC := (N₅ _ (.head _)).1
          have N₅o : ∀ q ∈ own, h₅.get? q.1 = some q.2 := fun q hq => (N₅ q (.tail _ (.tail _ (List.mem_append_left _ hq)))).1
          have N₅' : News h₀ L h₅ news₅ := fun p hp => N₅ p (.tail _ (.tail _ (List.mem_append_right _ hp)))
          have hst₅ : St (i + 1) h₅ := W.st _ _ _ own _ hst₄ hown hget N₅o F₅.keep N₅' hS₅
          refine ⟨n + 1 - (i + 1), by omega, h₅, tk₅, i + 1, ys, _, news₅, rfl, hlt, rfl, Nat.le_succ_of_le hyl, hst₅, F₅, hoC.ns zC, fun p hp => ?_, fun p hp => ⟨(off₅ p hp).1, (off₅ p hp).2.1, fun hb => ?_⟩, hS₅, ?_⟩
          · rcases List.mem_cons.mp hp with rfl | hp
            · exact N₅ _ (.tail _ (.head _))
            · exact N₅' p hp
          · rw [← hown] at hb
            obtain ⟨q, hq, e⟩ := List.mem_map.mp hb
            exact (off₅ p hp).2.2 q hq e.symm
          · rw [show n - (i + 1) = j by omega]
            exact R₅
      · obtain rfl : i = n := Nat.le_antisymm hi (Nat.not_lt.mp hlt)
        rw [Nat.sub_self] at R'
        refine W.k.done _ _ _ hst' fun h₂ tk₂ hk₂ => ?_
        have off1 : ∀ l : List (Addr × Obj), (∀ p ∈ l, p.1 ≠ s₂.heap.objs.size) → Off1 s₂.heap.objs.size l := fun l => by
          induction l with
          | nil => intro _; trivial
          | cons q l ih => intro h; exact ⟨h q (.head _), ih fun p hp => h p (.tail _ hp)⟩
        exact hRR _ _ h₂ tk₂ _ ys news' (frK _ _ F' hk₂) (nwK _ _ N' hk₂) (off1 _ fun p hp => (off' p hp).2.1) (hn'.at' fun o e => hk₂ _ o hCw e) hC₀ hD₀ hCL hDL (Ne.symm hDC) (fun p hp => (off' p hp).1) R'
    · rcases List.mem_cons.mp hp with rfl | hp
      · exact ⟨hacc, hDL, hD₀⟩
      · exact ⟨old _ _ (N p hp).1, (N p hp).2⟩
  exact codeAny_compStart_list (loop _ rfl) (W.self 0 _ _ _ hst₁ (loop _ rfl))
/-- where the iterable has been read -/
noncomputable def CSrcG (prog : Program) (w : World) (A : Around) (h₀ : Heap) (L : Addr) (m : Str → Option Value) (env : Env) (cts : Option Expr) (elt : Expr) (ns : List (Str × Pos)) (kk : Nat) (tp : Pos) (scope : Scope) (cl : List (Str × Addr)) (Fin : Shared → List Value → List (Addr × Obj) → Prop) (xv : Value) (s₁ : Shared) : Prop :=
  ∃ n P S news, Fr h₀ L s₁.heap m ∧ News h₀ L s₁.heap news ∧ S news ∧ n ≤ sizeLine ∧ A.handled = none ∧ (∀ i vals, P i vals → ns.length = vals.length) ∧
    (∀ (Q : Value → Shared → Prop) (E : Value → Shared → Prop), (∀ I fp wr ws Md St h', GT prog w A (.Tuple (ns.map fun q => Expr.Name q.1 q.2) kk tp) I fp wr ws n P Md St h₀ L S → St 0 h' → (∀ b ∈ fp, b < h'.objs.size) → (∀ p ∈ news, p.1 ∉ ws) → (∀ b o, s₁.heap.get? b = some o → h'.get? b = some o) →
      Q (.ref I) { s₁ with heap := h' }) → wpAny (model prog w) A (pyIter xv) Q E s₁) ∧
    ∀ g, RestG prog w A h₀ L m env cts elt (ns.map (·.1)) scope cl { s₁ with heap := g } S P (Fin { s₁ with heap := g }) n 0 [] news
theorem comp_G {cts : Option Expr} {elt iter : Expr} (ns : List (Str × Pos)) {kk : Nat} {tp : Pos} {scope : Scope} {cl : List (Str × Addr)} {pos : Pos} {Q : Value → Shared → Prop} (_F₀ : Fr h₀ L s.heap m)
    (hclos : closureFor scope env = pure cl) (hcell : ∀ y ∈ scope.names, y.2 ≠ .cell) (hkind : scope.kind = .function)
    (hnames : ∀ y ∈ scope.names, y.2 = .local → scope.names.lookup y.1 = some .local) (hx : ∀ q ∈ ns, scope.names.lookup q.1 = some .local)
    (h : wpAny (model prog w) A (eval iter env) (CSrcG prog w A h₀ L m env cts elt ns kk tp scope cl fun s₁ => FinE h₀ L m s₁ Q) E s)
    (hs : ∀ x, foldedSetIterable iter env x = pure x := by intro _; rfl) :
    wpAny (model prog w) A (eval (.ListComp elt [⟨.Tuple (ns.map fun q => Expr.Name q.1 q.2) kk tp, iter, cts.toList, 0⟩] scope pos) env) Q E s := by
  rw [eval_ListComp]
  refine wpAny_comprehension_free (use := none) rfl hs hclos hkind hnames (wpAny_mono h (fun xv s₁ h₁ => ?_) fun _ _ e => e)
  obtain ⟨n, P, S, news, F, N, hS, hsz, hh, hlen, It, R⟩ := h₁
  refine It _ _ fun I fp wr ws Md St h' W hst hfp off hk => ?_
  refine block_G hh W hsz hlen hcell hkind hx hst hfp (F.keeps hk) (N.grown hk) off hS (R _) ?_
  intro D C h' tk m' ys news' F' N' o1 hn hC₀ hD₀ hCL hDL hCD offC fin
  refine ⟨m', hn, fun h'' hs'' => fin D h'' tk (F'.change hs'' hCL hC₀) (fun p hp => ?_) o1⟩
  refine ⟨hs''.extBut _ _ ?_ (N' p hp).1, (N' p hp).2⟩
  rcases List.mem_cons.mp hp with rfl | hp
  · exact Ne.symm hCD
  · exact offC p hp
end
theorem turns_mono {prog : Program} {w : World} {A : Around} {target : Expr} {I : Addr} {fp wr : List Addr} {n : Nat} {P P' Md : Nat → Value → Heap → Prop} {St : Nat → Heap → Prop} (W : KTurns prog w A target I fp wr n P Md St) (hP : ∀ i v h, P i v h → P' i v h) : KTurns prog w A target I fp wr n P' Md St where
  sub := W.sub
  frame := W.frame
  item := W.item
  go := fun i v s Q E hm hQ => W.go i v s Q E hm fun h' p => hQ h' (hP _ _ _ p)
  done := W.done
theorem turns_keep {prog : Program} {w : World} {A : Around} {target : Expr} {I : Addr} {fp wr : List Addr} {n : Nat} {P Md : Nat → Value → Heap → Prop} {St : Nat → Heap → Prop} (W : KTurns prog w A target I fp wr n P Md St) (tup : List (Addr × Obj)) (ht : ∀ p ∈ tup, p.1 ∉ wr) :
    KTurns prog w A target I (fp ++ tup.map (·.1)) wr n (fun i v h => P i v h ∧ ∀ p ∈ tup, h.get? p.1 = some p.2) (fun i v h => Md i v h ∧ ∀ p ∈ tup, h.get? p.1 = some p.2) (fun i h => St i h ∧ ∀ p ∈ tup, h.get? p.1 = some p.2) where
  sub := fun b hb => List.mem_append_left _ (W.sub b hb)
  frame := fun i h h' st hk => ⟨W.frame i h h' st.1 fun b hb => hk b (List.mem_append_left _ hb), fun p hp => hk _ (List.mem_append_right _ (List.mem_map_of_mem hp)) _ (st.2 p hp)⟩
  item := fun i s Q E hi st hQ => W.item i s Q E hi st.1 fun v h' tk hM hk => hQ v h' tk ⟨hM, fun p hp => hk _ _ (ht p hp) (st.2 p hp)⟩ hk
  go := fun i v s Q E hm hQ => W.go i v s Q E hm.1 fun h' p st hk => hQ h' ⟨p, fun q hq => hk _ _ (ht q hq) (hm.2 q hq)⟩ ⟨st, fun q hq => hk _ _ (ht q hq) (hm.2 q hq)⟩ hk
  done := fun s Q E st hQ => W.done s Q E st.1 hQ
section
variable {prog : Program} {w : World} {A : Around} {E : Value → Shared → Prop} {s : Shared} {h₀ : Heap} {L : Addr} {m : Str → Option Value} {env : Env}
theorem zip_G {cts : Option Expr} {elt : Expr} {ns : List (Str × Pos)} {kk : Nat} {tp : Pos} {scope : Scope} {cl : List (Str × Addr)} {Fin : Shared → List Value → List (Addr × Obj) → Prop} {l1 l2 : Addr} {lo1 lo2 : Obj} {xs ys : List Value} {n1 n2 : Nat} {news : List (Addr × Obj)}
    (hh : A.handled = none) (F : Fr h₀ L s.heap m) (N : News h₀ L s.heap news) (hm1 : (l1, lo1) ∈ news) (hc1 : lo1.cls = .type "list") (hd1 : lo1.data = .seq xs.toArray n1) (hm2 : (l2, lo2) ∈ news) (hc2 : lo2.cls = .type "list") (hd2 : lo2.data = .seq ys.toArray n2)
    (hlen : ns.length = 2) (hsz : min xs.length ys.length ≤ sizeLine)
    (R : ∀ g, RestG prog w A h₀ L m env cts elt (ns.map (·.1)) scope cl { s with heap := g } (fun nw => (l1, lo1) ∈ nw ∧ (l2, lo2) ∈ nw) (fun i vals => ∃ x y, xs[i]? = some x ∧ ys[i]? = some y ∧ vals = [x, y]) (Fin { s with heap := g }) (min xs.length ys.length) 0 [] news) :
    wpAny (model prog w) A (call (.type "zip") [.ref l1, .ref l2]) (CSrcG prog w A h₀ L m env cts elt ns kk tp scope cl Fin) E s := by
  have hax1 := N _ hm1
  have hax2 := N _ hm2
  have hl1 : s.heap.IsList l1 xs.toArray := ⟨lo1, hax1.1, hc1, n1, hd1⟩
  have hl2 : s.heap.IsList l2 ys.toArray := ⟨lo2, hax2.1, hc2, n2, hd2⟩
  have hlt1 : l1 < s.heap.objs.size := Heap.lt_size hax1.1
  have hlt2 : l2 < s.heap.objs.size := Heap.lt_size hax2.1
  have hLs : L < s.heap.objs.size := F.ns.lt
  have D : ZipApart (s.heap.objs.size + 4) (s.heap.objs.size + 2) (s.heap.objs.size + 3) s.heap.objs.size (s.heap.objs.size + 1) l1 l2 := ktu_apart _ _ _ hlt1 hlt2
  refine call_zip_2 hl1 hl2 fun h' hz hTI hTO hi1 hi2 hsz' hk => ?_
  refine ⟨_, _, _, news, F.keeps hk, N.grown hk, ⟨hm1, hm2⟩, hsz, hh, ?_, ?_, fun g => R g⟩
  · rintro i vals ⟨x, y, _, _, rfl⟩
    exact hlen
  intro Q' E' hQ
  refine wpAny_pyIter_zip hz ?_
  have WT := (WalksT.zip2 (prog := prog) (w := w) hh _ _ _ _ _ _ _ D xs.toArray ys.toArray).toU
  have hmin : min xs.toArray.size ys.toArray.size = min xs.length ys.length := by simp
  rw [hmin] at WT
  refine hQ (s.heap.objs.size + 4) _ _ [s.heap.objs.size + 4, s.heap.objs.size + 2, s.heap.objs.size + 3, s.heap.objs.size, s.heap.objs.size + 1] _ _ h' ⟨turns_mono (KTurns.ofWalksU WT) ?_, WT.self, ?_, ?_, ?_, ?_, ?_⟩ ⟨hz, hTI, ⟨_, _, hTO⟩, hi1, hi2, hl1.at fun o e => hk l1 o e, hl2.at fun o e => hk l2 o e⟩ ?_ ?_ fun _ _ e => e
  · rintro i v h ⟨T, vals, rfl, ⟨x, y, hx, hy, rfl⟩, hT⟩
    exact ⟨T, [x, y], rfl, ⟨x, y, by simpa using hx, by simpa using hy, rfl⟩, hT⟩
  · intro b hb
    have hb' : b = s.heap.objs.size + 4 ∨ b = s.heap.objs.size + 3 ∨ b = s.heap.objs.size ∨ b = s.heap.objs.size + 1 := by simpa using hb
    rcases hb' with rfl | rfl | rfl | rfl <;> simp
  · intro b hb
    have hb' : b = s.heap.objs.size + 4 ∨ b = s.heap.objs.size + 2 ∨ b = s.heap.objs.size + 3 ∨ b = s.heap.objs.size ∨ b = s.heap.objs.size + 1 := by simpa using hb
    rcases hb' with rfl | rfl | rfl | rfl | rfl
    · exact ⟨by simp, ktu_new F (Nat.le_add_right _ _)⟩
    · exact ⟨by simp, ktu_new F (Nat.le_add_right _ _)⟩
    · exact ⟨by simp, ktu_new F (Nat.le_add_right _ _)⟩
    · exact ⟨by simp, ktu_new F (Nat.le_refl _)⟩
    · exact ⟨by simp, ktu_new F (Nat.le_add_right _ _)⟩
  · intro hI'
    have hb' : L = s.heap.objs.size + 4 ∨ L = s.heap.objs.size + 2 ∨ L = s.heap.objs.size + 3 ∨ L = s.heap.objs.size ∨ L = s.heap.objs.size + 1 ∨ L = l1 ∨ L = l2 := by simpa using hI'
    have n1 := hax1.2.1
    have n2 := hax2.2.1
    rcases hb' with e | e | e | e | e | e | e
    · exact ktu_ne 4 hLs e
    · exact ktu_ne 2 hLs e
    · exact ktu_ne 3 hLs e
    · exact Nat.ne_of_lt hLs e
    · exact ktu_ne 1 hLs e
    · exact n1 e.symm
    · exact n2 e.symm
  · rintro i h ⟨hz, hTI, ⟨a, b, hTO⟩, ⟨o1, ho1, hc1, _⟩, ⟨o2, ho2, hc2, _⟩, _⟩
    obtain ⟨q1, g1⟩ : ∃ o, h.get? (s.heap.objs.size + 4) = some o := ⟨_, hz⟩
    obtain ⟨q2, g2⟩ : ∃ o, h.get? (s.heap.objs.size + 2) = some o := ⟨_, hTI⟩
    obtain ⟨q3, g3⟩ : ∃ o, h.get? (s.heap.objs.size + 3) = some o := ⟨_, hTO⟩
    refine ⟨[(s.heap.objs.size + 4, q1), (s.heap.objs.size + 2, q2), (s.heap.objs.size + 3, q3), (s.heap.objs.size, o1), (s.heap.objs.size + 1, o2)], rfl, fun p hp => ?_⟩
    rcases List.mem_cons.mp hp with rfl | hp
    · exact g1
    rcases List.mem_cons.mp hp with rfl | hp
    · exact g2
    rcases List.mem_cons.mp hp with rfl | hp
    · exact g3
    rcases List.mem_cons.mp hp with rfl | hp
    · exact ho1
    rw [List.mem_singleton.mp hp]
    exact ho2
  · rintro i h h'' own nw ⟨hz, hTI, ⟨a, b, hTO⟩, ⟨o1, ho1, r1⟩, ⟨o2, ho2, r2⟩, _⟩ hown hg hg' hk' N' ⟨q1, q2⟩
    have key : ∀ b ∈ [s.heap.objs.size + 4, s.heap.objs.size + 2, s.heap.objs.size + 3, s.heap.objs.size, s.heap.objs.size + 1], ∀ o, h.get? b = some o → h''.get? b = some o := by
      intro b hb o e
      have hb2 : b ∈ own.map (·.1) := by rw [hown]; exact hb
      obtain ⟨q, hq, rfl⟩ := List.mem_map.mp hb2
      rw [hg' q hq, ← hg q hq, e]
    exact ⟨key _ (by simp) _ hz, key _ (by simp) _ hTI, ⟨a, b, key _ (by simp) _ hTO⟩, ⟨o1, key _ (by simp) _ ho1, r1⟩, ⟨o2, key _ (by simp) _ ho2, r2⟩, ⟨lo1, (N' _ q1).1, hc1, n1, hd1⟩, ⟨lo2, (N' _ q2).1, hc2, n2, hd2⟩⟩
  · intro b hb
    have hb' : b = s.heap.objs.size + 4 ∨ b = s.heap.objs.size + 2 ∨ b = s.heap.objs.size + 3 ∨ b = s.heap.objs.size ∨ b = s.heap.objs.size + 1 ∨ b = l1 ∨ b = l2 := by simpa using hb
    rw [hsz']
    have g1 : l1 < s.heap.objs.size := hlt1
    have g2 : l2 < s.heap.objs.size := hlt2
    rcases hb' with rfl | rfl | rfl | rfl | rfl | rfl | rfl <;> first | exact Nat.lt_succ_self _ | exact Nat.add_lt_add_left (by decide) _ | exact Nat.lt_add_of_pos_right (by decide) | exact Nat.lt_of_lt_of_le g1 (Nat.le_add_right _ _) | exact Nat.lt_of_lt_of_le g2 (Nat.le_add_right _ _)
  · intro p hp hI'
    have hb' : p.1 = s.heap.objs.size + 4 ∨ p.1 = s.heap.objs.size + 2 ∨ p.1 = s.heap.objs.size + 3 ∨ p.1 = s.heap.objs.size ∨ p.1 = s.heap.objs.size + 1 := by simpa using hI'
    have hlp := Heap.lt_size (N p hp).1
    rcases hb' with e | e | e | e | e
    · exact ktu_ne 4 hlp e
    · exact ktu_ne 2 hlp e
    · exact ktu_ne 3 hlp e
    · exact Nat.ne_of_lt hlp e
    · exact ktu_ne 1 hlp e
/-- a list of tuples of the ledger -/
theorem list_G {cts : Option Expr} {elt : Expr} {ns : List (Str × Pos)} {kk : Nat} {tp : Pos} {scope : Scope} {cl : List (Str × Addr)} {Fin : Shared → List Value → List (Addr × Obj) → Prop} {l : Addr} {lo : Obj} {vs : List Value} {n1 : Nat} {news tup : List (Addr × Obj)} {P : Nat → List Value → Prop}
    (hh : A.handled = none) (F : Fr h₀ L s.heap m) (N : News h₀ L s.heap news) (hm : (l, lo) ∈ news) (hc : lo.cls = .type "list") (hd : lo.data = .seq vs.toArray n1)
    (htup : ∀ p ∈ tup, p ∈ news) (hv : ∀ i v, vs[i]? = some v → ∃ T to vals k, v = .ref T ∧ P i vals ∧ (T, to) ∈ tup ∧ to.cls = .type "tuple" ∧ to.data = .seq vals.toArray k)
    (hlen : ∀ i vals, P i vals → ns.length = vals.length) (hsz : vs.length ≤ sizeLine)
    (R : ∀ g, RestG prog w A h₀ L m env cts elt (ns.map (·.1)) scope cl { s with heap := g } (fun nw => (l, lo) ∈ nw ∧ ∀ p ∈ tup, p ∈ nw) P (Fin { s with heap := g }) vs.length 0 [] news) :
    CSrcG prog w A h₀ L m env cts elt ns kk tp scope cl Fin (.ref l) s := by
  have hax := N _ hm
  have hl : s.heap.IsList l vs.toArray := ⟨lo, hax.1, hc, n1, hd⟩
  have hlt : l < s.heap.objs.size := Heap.lt_size hax.1
  have hne : l ≠ s.heap.objs.size := Nat.ne_of_lt hlt
  refine ⟨_, _, _, news, F, N, ⟨hm, htup⟩, hsz, hh, hlen, ?_, fun g => R g⟩
  intro Q' E' hQ
  refine wpAny_pyIter_list hl ?_
  have W := Walks.list (prog := prog) (w := w) hh s.heap.objs.size l hne vs.toArray
  have hn : vs.toArray.size = vs.length := by simp
  rw [hn] at W
  have WK : KTurns prog w A (.Tuple (ns.map fun q => Expr.Name q.1 q.2) kk tp) s.heap.objs.size _ _ vs.length _ _ _ := KTurns.ofWalks W fun i v s Q E st q => letGo_listiter st.1 q
  have ht : ∀ p ∈ tup, p.1 ∉ [s.heap.objs.size] := fun p hp hm => Nat.ne_of_lt (Heap.lt_size (N p (htup p hp)).1) (List.mem_singleton.mp hm)
  refine hQ s.heap.objs.size _ _ [s.heap.objs.size] _ _ _ ⟨turns_mono (turns_keep WK tup ht) ?_, fun i s Q E st q => W.self i s Q E st.1 q, fun b hb => hb, ?_, ?_, ?_, ?_⟩ ⟨⟨⟨_, Heap.get?_push_size _ rfl, rfl, rfl⟩, hl.push _⟩, fun p hp => Heap.get?_push_of_some _ (N p (htup p hp)).1⟩ ?_ ?_ fun _ _ e => Heap.get?_push_of_some _ e
  · rintro i v h ⟨hP, hK⟩
    have hP' : vs[i]? = some v := by simpa using hP
    obtain ⟨T, to, vals, k, rfl, hp, hm, hc, hd⟩ := hv i v hP'
    exact ⟨T, vals, rfl, hp, to, hK _ hm, hc, k, hd⟩
  · intro b hb
    rw [List.mem_singleton.mp hb]
    exact ⟨by simp, next_is_new F⟩
  · intro hI'
    rcases List.mem_append.mp hI' with h | h
    · rcases List.mem_cons.mp h with e | h
      · exact absurd F.ns.lt (e ▸ Nat.lt_irrefl _)
      · exact hax.2.1 (List.mem_singleton.mp h).symm
    · obtain ⟨p, hp, e⟩ := List.mem_map.mp h
      exact (N p (htup p hp)).2.1 e
  · rintro i h ⟨⟨⟨o, ho, r⟩, _⟩, _⟩
    exact ⟨[(s.heap.objs.size, o)], rfl, fun q hq => by rw [List.mem_singleton.mp hq]; exact ho⟩
  · rintro i h h'' own nw ⟨⟨⟨o, ho, r⟩, _⟩, _⟩ hown hg hg' hk' N' ⟨q1, q2⟩
    have hb2 : s.heap.objs.size ∈ own.map (·.1) := by rw [hown]; simp
    obtain ⟨q, hq, e⟩ := List.mem_map.mp hb2
    have g1 := hg q hq
    have g2 := hg' q hq
    rw [e] at g1 g2
    rw [ho] at g1
    cases g1
    exact ⟨⟨⟨_, g2, r⟩, ⟨lo, (N' _ q1).1, hc, n1, hd⟩⟩, fun p hp => (N' p (q2 p hp)).1⟩
  · intro b hb
    rw [Heap.size_push]
    rcases List.mem_append.mp hb with h | h
    · rcases List.mem_cons.mp h with rfl | h
      · exact Nat.lt_succ_self _
      · rw [List.mem_singleton.mp h]; exact Nat.lt_succ_of_lt hlt
    · obtain ⟨p, hp, rfl⟩ := List.mem_map.mp h
      exact Nat.lt_succ_of_lt (Heap.lt_size (N p (htup p hp)).1)
  · intro p hp hI'
    exact Nat.ne_of_lt (Heap.lt_size (N p hp).1) (List.mem_singleton.mp hI')
end
theorem bind2 {x y : Str} (h : x ≠ y) (a b : Value) (m : Str → Option Value) : bindL [x, y] [a, b] m x = some a ∧ bindL [x, y] [a, b] m y = some b := by
  simp only [bindL]
  exact ⟨by simp [h], by simp⟩
theorem bind3 {x y z : Str} (h1 : x ≠ y) (h2 : x ≠ z) (h3 : y ≠ z) (a b c : Value) (m : Str → Option Value) : bindL [x, y, z] [a, b, c] m x = some a ∧ bindL [x, y, z] [a, b, c] m y = some b ∧ bindL [x, y, z] [a, b, c] m z = some c := by
  simp only [bindL]
  exact ⟨by simp [h1, h2], by simp [h3], by simp⟩
section
variable {prog : Program} {w : World} {A : Around} {E : Value → Shared → Prop} {s : Shared} {h₀ : Heap} {L : Addr} {m : Str → Option Value} {env : Env}
theorem restG_map {α : Type} {elt : Expr} {ns : List Str} {scope : Scope} {cl : List (Str × Addr)} {S : List (Addr × Obj) → Prop} {P : Nat → List Value → Prop} {Fin : List Value → List (Addr × Obj) → Prop} {news : List (Addr × Obj)} {n : Nat}
    (xs : List α) (V : α → List Value → Prop) (R : α → Value → Prop) (hn : xs.length = n) (hP : ∀ i v, i < n → P i v → ∃ a, xs[i]? = some a ∧ V a v) (hS : S news)
    (turn : ∀ a vals C oC D tail m₁ m₂ ys h tk (E' : Value → Shared → Prop), a ∈ xs → V a vals → NsObj oC m₂ → m₂ = bindL ns vals m₁ → Fr h₀ L h m → (∀ p ∈ news, p ∈ tail) → News h₀ L h ((C, oC) :: (D, lst ys) :: tail) →
      wpAny (model prog w) A (eval elt (compEnvC scope cl C env)) (ElEnd h₀ L m s ((C, oC) :: (D, lst ys) :: tail) (R a)) E' { s with heap := h, toks := tk })
    (fin : ∀ ys, Paired R xs ys → Fin ys news) : RestG prog w A h₀ L m env none elt ns scope cl s S P Fin n 0 [] news := by
  have key : ∀ (j i : Nat) (ys : List Value), i + j = n → Paired R (xs.take i) ys → RestG prog w A h₀ L m env none elt ns scope cl s S P Fin j i ys news := by
    intro j
    induction j with
    | zero =>
      intro i ys hi hy
      have e : i = xs.length := by omega
      subst e
      rw [List.take_length] at hy
      exact fin ys hy
    | succ j ih =>
      intro i ys hi hy
      show ∀ vals C oC D own m₁ m₂ h tk E', _
      intro vals C oC D own m₁ m₂ h tk E' hv hC hm F N off ownO ne
      obtain ⟨a, ha, hV⟩ := hP i vals (by omega) hv
      refine wpAny_mono (turn a vals C oC D (own ++ news) m₁ m₂ ys h tk E' (List.mem_of_getElem? ha) hV hC hm F (fun p hp => List.mem_append_right _ hp) N) (fun y s₂ hq => ?_) fun _ _ e => e
      obtain ⟨h', tk', e, F', N', hR⟩ := hq
      refine ⟨h', tk', news, e, F', N', off, hS, ?_⟩
      refine ih (i + 1) _ (by omega) ?_
      rw [List.take_add_one, ha]
      exact Paired.snoc hy hR
  exact key n 0 [] (by omega) (by simpa using Paired.nil)
theorem restG_filter {α : Type} {ct elt : Expr} {ns : List Str} {scope : Scope} {cl : List (Str × Addr)} {S : List (Addr × Obj) → Prop} {P : Nat → List Value → Prop} {Fin : List Value → List (Addr × Obj) → Prop} {news : List (Addr × Obj)} {n : Nat}
    (xs : List α) (V : α → List Value → Prop) (pz : α → Bool) (R : α → Value → Prop) (hn : xs.length = n) (hP : ∀ i v, i < n → P i v → ∃ a, xs[i]? = some a ∧ V a v) (hS : S news)
    (test : ∀ a vals C oC D tail m₁ m₂ ys h tk (E' : Value → Shared → Prop), a ∈ xs → V a vals → NsObj oC m₂ → m₂ = bindL ns vals m₁ → Fr h₀ L h m → (∀ p ∈ news, p ∈ tail) → News h₀ L h ((C, oC) :: (D, lst ys) :: tail) →
      wpAny (model prog w) A (isTrue ct (compEnvC scope cl C env) (eval ct (compEnvC scope cl C env))) (TsEnd h₀ L m s ((C, oC) :: (D, lst ys) :: tail) (pz a)) E' { s with heap := h, toks := tk })
    (turn : ∀ a vals C oC D tail m₁ m₂ ys h tk (E' : Value → Shared → Prop), a ∈ xs → V a vals → pz a = true → NsObj oC m₂ → m₂ = bindL ns vals m₁ → Fr h₀ L h m → (∀ p ∈ news, p ∈ tail) → News h₀ L h ((C, oC) :: (D, lst ys) :: tail) →
      wpAny (model prog w) A (eval elt (compEnvC scope cl C env)) (ElEnd h₀ L m s ((C, oC) :: (D, lst ys) :: tail) (R a)) E' { s with heap := h, toks := tk })
    (fin : ∀ ys, Paired R (xs.filter pz) ys → Fin ys news) : RestG prog w A h₀ L m env (some ct) elt ns scope cl s S P Fin n 0 [] news := by
  have key : ∀ (j i : Nat) (ys : List Value), i + j = n → Paired R ((xs.take i).filter pz) ys → RestG prog w A h₀ L m env (some ct) elt ns scope cl s S P Fin j i ys news := by
    intro j
    induction j with
    | zero =>
      intro i ys hi hy
      have e : i = xs.length := by omega
      subst e
      rw [List.take_length] at hy
      exact fin ys hy
    | succ j ih =>
      intro i ys hi hy
      show ∀ vals C oC D own m₁ m₂ h tk E', _
      intro vals C oC D own m₁ m₂ h tk E' hv hC hm F N off ownO ne
      obtain ⟨a, ha, hV⟩ := hP i vals (by omega) hv
      refine wpAny_mono (test a vals C oC D (own ++ news) m₁ m₂ ys h tk E' (List.mem_of_getElem? ha) hV hC hm F (fun p hp => List.mem_append_right _ hp) N) (fun ok s₂ hq => ?_) fun _ _ e => e
      obtain ⟨rfl, h₁, tk₁, rfl, F₁, N₁⟩ := hq
      cases hp : pz a with
      | true =>
        simp only [if_true]
        refine wpAny_mono (turn a vals C oC D (own ++ news) m₁ m₂ ys h₁ tk₁ E' (List.mem_of_getElem? ha) hV hp hC hm F₁ (fun p hp => List.mem_append_right _ hp) N₁) (fun y s₂ hq => ?_) fun _ _ e => e
        obtain ⟨h', tk', e, F', N', hR⟩ := hq
        refine ⟨h', tk', news, e, F', N', off, hS, ?_⟩
        refine ih (i + 1) _ (by omega) ?_
        rw [List.take_add_one, ha, List.filter_append]
        simpa [hp] using Paired.snoc hy hR
      | false =>
        simp only [Bool.false_eq_true, if_false]
        refine ⟨h₁, tk₁, news, rfl, F₁, N₁, off, hS, ?_⟩
        refine ih (i + 1) _ (by omega) ?_
        rw [List.take_add_one, ha, List.filter_append]
        simpa [hp] using hy
  exact key n 0 [] (by omega) (by simpa using Paired.nil)
end
/-- rows of three ints -/
noncomputable def Tri (l : List (Int × Int × Int)) (i : Nat) (vals : List Value) : Prop := ∃ a t1 t2 t3, l[i]? = some a ∧ vals = [.int a.1 t1, .int a.2.1 t2, .int a.2.2 t3]
noncomputable def TriV (a : Int × Int × Int) (vals : List Value) : Prop := ∃ t1 t2 t3, vals = [.int a.1 t1, .int a.2.1 t2, .int a.2.2 t3]
end Gc
theorem ne_of_below {l : List (Addr × Obj)} {I : Addr} (h : ∀ p ∈ l, p.1 < I) : ∀ p ∈ l, p.1 ≠ I := fun p hp => Nat.ne_of_lt (h p hp)
theorem ne_of_belowE {l : List (Addr × Obj)} {I c : Addr} (h : ∀ p ∈ l, p.1 < I) (k : @LE.le Nat _ I c) : ∀ p ∈ l, p.1 ≠ c := fun p hp => Nat.ne_of_lt (Nat.lt_of_lt_of_le (h p hp) k)
theorem row66 : True := by (k_with "Q k_all" => exact ne_of_belowE (by assumption) (by (first | exact Nat.le_refl _ | exact Nat.le_succ _ | exact Nat.le_add_right _ _ | omega))); trivial
theorem row67 : True := by (k_with "MY toComp" => (repeat' (fail_if_success (with_reducible show wpAny _ _ (eval (Expr.ListComp _ _ _ _) _) _ _ _)); walk_at "MY one")); trivial
theorem row68 : True := by (k_with "MY led" => first | k_asm | (rename News _ _ _ _ => N7; exact fun p hp => N7 p (by (repeat (first | exact hp | refine List.Mem.tail _ ?_))))); trivial
theorem row69 : True := by (k_with "Q exec While" => (k_here; k_dflt (refine whl_start 3 ?_))); trivial
theorem row70 : True := by (k_with "MY off" => first | exact ne_of_below (by assumption) | exact allLt_ne (by assumption) (Nat.le_refl _) | exact off_two (by assumption)); trivial

-- P14
section
variable {prog : Program} {w : World} {p : Program} {loose : List Str} {mean : ExcName → Option Value} {mg mb : Str → Option Value}
theorem c_seven (t : Tok) : Ctr prog w p loose mean mg mb 522 4 30 (fun _ => True) [.bytes #[120] t] (fun r => r = .bool true) := by
  intro dp un gd cn cs a' ccd cl outer A₀ base h₀ L m news s Q E B F X N T hk hR hd hu hret
  refine wpAny_call ?_
  k_dflt cell_enter
  k_steps
  refine ⟨_, _, _, _, rfl, by k_asm, by walk_at "MY led", ?_, ?_⟩
  · walk_at "MY off"
  walk_at "MY toComp"
  refine Gc.comp_G (cts := some _) [(Str.ofString "first", _), (Str.ofString "last", _), (Str.ofString "behind", _)] (by k_asm) (by with_unfolding_all rfl) (by decide) rfl (by decide) (by decide) ?_ (by intro _; rfl)
  k_steps
  rename Fr _ _ _ _ => F9
  rename News _ _ _ _ => N9
  refine Gc.list_G (vs := [_]) (tup := [_]) (P := Gc.Tri [(0, 1, 1)]) rfl F9 N9 (.tail _ (.head _)) rfl rfl (fun p hp => by rw [List.mem_singleton.mp hp]; exact .head _) ?_ ?_ (by rw [sizeLine_eq]; simp) fun g => ?_
  · intro i v hv
    match i with
    | 0 => cases hv; exact ⟨_, _, _, _, rfl, ⟨_, _, _, _, rfl, rfl⟩, .head _, rfl, rfl⟩
    | _ + 1 => simp at hv
  · rintro i vals ⟨_, _, _, _, _, rfl⟩; rfl
  refine Gc.restG_filter [(0, 1, 1)] Gc.TriV (fun _ => false) (fun _ _ => False) rfl (fun i v hi ⟨a, t1, t2, t3, e, hv⟩ => ⟨a, e, t1, t2, t3, hv⟩) ⟨.tail _ (.head _), fun p hp => by rw [List.mem_singleton.mp hp]; exact .head _⟩ ?_ ?_ ?_
  · rintro a vals C oC D tail m₁ m₂ ys h tk E' ha ⟨t1, t2, t3, rfl⟩ hC hm F hsub N
    cases List.mem_singleton.mp ha
    obtain ⟨e1, e2, e3⟩ := Gc.bind3 (x := Str.ofString "first") (y := Str.ofString "last") (z := Str.ofString "behind") (by decide) (by decide) (by decide) (.int 0 t1) (.int 1 t2) (.int 1 t3) m₁
    have e1' : m₂ (Str.ofString "first") = some (.int 0 t1) := hm ▸ e1
    have e2' : m₂ (Str.ofString "last") = some (.int 1 t2) := hm ▸ e2
    k_steps
    exact TsEnd.intro (by k_asm) (by k_asm) (by decide)
  · intro a vals C oC D tail m₁ m₂ ys h tk E' ha _ hp
    cases hp
  · intro ys hP
    cases hP
    k_steps
    refine Bt.eq_nil (News.isList (by k_asm) (by k_mem)) (News.isList (by k_asm) (by k_mem)) (by ktr_units) ?_
    k_steps
    exact hret _ _ _ (by k_asm) (by walk_at "MY led") rfl
end
theorem row71 : True := by (k_with "Q call ref" => (k_here; (with_reducible show wpAny _ _ (call (Value.ref 522) [Value.bytes _ _]) _ _ _); k_dflt (refine' Ctr.use (c_seven _) ?k1 ?k2 ?k3 ?k4 ?k5 ?kK ?kR ?kd ?ku ?_; walk_at "MY use"); walk_at "MY got0")); trivial
section
variable {prog : Program} {w : World} {p : Program} {loose : List Str} {mean : ExcName → Option Value} {mg mb : Str → Option Value}
theorem c_choose (t : Tok) (q : Bool) : Ctr prog w p loose mean mg mb 529 5 34 (fun _ => True) [.bytes #[120] t, .bool q] (fun r => ∃ u, r = .str (Str.ofString "7bit") u) := by
  intro dp un gd cn cs a' ccd cl outer A₀ base h₀ L m news s Q E B F X N T hk hR hd hu hret
  refine wpAny_call ?_
  k_dflt cell_enter
  k_steps
  exact hret _ _ _ (by k_asm) (by walk_at "MY led") ⟨_, rfl⟩
theorem c_inenc (b : Array UInt8) (t u : Tok) (q : Bool) : Ctr prog w p loose mean mg mb 536 2 10 (fun _ => True) [.str (Str.ofString "7bit") u, .bytes b t, .bool q] (fun r => ∃ u, r = .bytes b u) := by
  intro dp un gd cn cs a' ccd cl outer A₀ base h₀ L m news s Q E B F X N T hk hR hd hu hret
  refine wpAny_call ?_
  k_dflt cell_enter
  k_steps
  exact hret _ _ _ (by k_asm) (by walk_at "MY led") ⟨_, rfl⟩
end

-- P15
/-- the body of a leaf without fields -/
noncomputable abbrev leafB : Array UInt8 := #[67, 111, 110, 116, 101, 110, 116, 45, 84, 121, 112, 101, 58, 32, 116, 101, 120, 116, 47, 112, 108, 97, 105, 110, 13, 10, 13, 10, 120]
noncomputable abbrev markB : Array UInt8 := #[45, 45, 61, 95, 112, 97, 114, 116, 48]
section
variable {prog : Program} {w : World} {p : Program} {loose : List Str} {mean : ExcName → Option Value} {mg mb : Str → Option Value}
theorem c_begins (t u : Tok) : Ctr prog w p loose mean mg mb 541 4 30 (fun _ => True) [.bytes leafB t, .bytes markB u] (fun r => r = .bool false) := by
  intro dp un gd cn cs a' ccd cl outer A₀ base h₀ L m news s Q E B F X N T hk hR hd hu hret
  refine wpAny_call ?_
  k_dflt (walk_at "MY enterC")
  walk_at "MY toComp"
  refine Gc.comp_G (cts := some _) [(Str.ofString "first", _), (Str.ofString "last", _), (Str.ofString "behind", _)] (by k_asm) (by with_unfolding_all rfl) (by decide) rfl (by decide) (by decide) ?_ (by intro _; rfl)
  k_steps
  rename Fr _ _ _ _ => F9
  rename News _ _ _ _ => N9
  refine Gc.list_G (vs := [_, _, _]) (tup := _) (P := Gc.Tri [(0, 24, 26), (26, 26, 28), (28, 29, 29)]) rfl F9 N9 (by k_mem) rfl rfl (fun p hp => hp) ?_ ?_ (by rw [sizeLine_eq]; simp) fun g => ?_
  · intro i v hv
    match i with
    | 0 => cases hv; exact ⟨_, _, _, _, rfl, ⟨_, _, _, _, rfl, rfl⟩, by k_mem, rfl, rfl⟩
    | 1 => cases hv; exact ⟨_, _, _, _, rfl, ⟨_, _, _, _, rfl, rfl⟩, by k_mem, rfl, rfl⟩
    | 2 => cases hv; exact ⟨_, _, _, _, rfl, ⟨_, _, _, _, rfl, rfl⟩, by k_mem, rfl, rfl⟩
    | _ + 3 => simp at hv
  · rintro i vals ⟨_, _, _, _, _, rfl⟩; rfl
  refine Gc.restG_filter [(0, 24, 26), (26, 26, 28), (28, 29, 29)] Gc.TriV (fun _ => false) (fun _ _ => False) rfl (fun i v hi ⟨a, t1, t2, t3, e, hv⟩ => ⟨a, e, t1, t2, t3, hv⟩) ⟨by k_mem, fun p hp => hp⟩ ?_ ?_ ?_
  · rintro a vals C oC D tail m₁ m₂ ys h tk E' ha ⟨t1, t2, t3, rfl⟩ hC hm F hsub N
    obtain ⟨e1, e2, e3⟩ := Gc.bind3 (x := Str.ofString "first") (y := Str.ofString "last") (z := Str.ofString "behind") (by decide) (by decide) (by decide) (.int a.1 t1) (.int a.2.1 t2) (.int a.2.2 t3) m₁
    have e1' : m₂ (Str.ofString "first") = some (.int a.1 t1) := hm ▸ e1
    have e2' : m₂ (Str.ofString "last") = some (.int a.2.1 t2) := hm ▸ e2
    have hc1 := hsub _ (.tail _ (.tail _ (.tail _ (.tail _ (.head _)))))
    have hc2 := hsub _ (.tail _ (.tail _ (.tail _ (.tail _ (.tail _ (.head _))))))
    rcases List.mem_cons.mp ha with rfl | ha
    · k_steps
      exact TsEnd.intro (by k_asm) (by k_asm) (by decide +kernel)
    rcases List.mem_cons.mp ha with rfl | ha
    · k_steps
      exact TsEnd.intro (by k_asm) (by k_asm) (by decide +kernel)
    cases List.mem_singleton.mp ha
    k_steps
    exact TsEnd.intro (by k_asm) (by k_asm) (by decide +kernel)
  · intro a vals C oC D tail m₁ m₂ ys h tk E' ha _ hp
    cases hp
  · intro ys hP
    cases hP
    k_steps
    refine Bt.ne_nil (News.isList (by k_asm) (by k_mem)) (News.isList (by k_asm) (by k_mem)) (by ktr_units) ?_
    k_steps
    exact hret _ _ _ (by k_asm) (by walk_at "MY led") rfl
end
theorem row72 : True := by (k_with "Q call ref" => (k_here; (with_reducible show wpAny _ _ (call (Value.ref 541) [Value.bytes _ _, Value.bytes _ _]) _ _ _); k_dflt (refine' Ctr.use (c_begins _ _) ?k1 ?k2 ?k3 ?k4 ?k5 ?kK ?kR ?kd ?ku ?_; walk_at "MY use"); walk_at "MY got0")); trivial
section
variable {prog : Program} {w : World} {p : Program} {loose : List Str} {mean : ExcName → Option Value} {mg mb : Str → Option Value}
theorem c_boundary (l : Addr) (k : Nat) (t : Tok) : Ctr prog w p loose mean mg mb 546 6 40 (fun news => (l, W.listOf #[.bytes leafB t] k) ∈ news) [.ref l] (fun r => ∃ u, r = .str bText u) := by
  intro dp un gd cn cs a' ccd cl outer A₀ base h₀ L m news s Q E B F X N T hk hR hd hu hret
  refine wpAny_call ?_
  k_dflt (walk_at "MY enterC")
  k_steps
  refine ⟨_, _, _, _, by k_asm, by k_asm, src_str rfl _ _, trivial, by rw [sizeLine_eq]; decide +kernel, fun g => ?_⟩
  refine rest_map bText.cps.toList (fun c v => ∃ u, v = .str ⟨#[c]⟩ u) (fun (c : Nat) y => ∃ u, y = .int (c : Int) u) (by simp) ?_ trivial ?_ ?_
  · rintro i v hi ⟨c, u, hc, rfl⟩
    exact ⟨c, by simpa using hc, u, rfl⟩
  · rintro c v I oI C oC D m₂ ys h tk E' ha ⟨u, rfl⟩ hC hx F N off ne
    k_steps
    exact ElEnd.intro (by k_asm) (by k_asm) ⟨_, rfl⟩
  · intro ys3 hP3
    k_steps
    refine bytes_codes (by k_asm) (by k_asm) (News.isList (by k_asm) (by k_mem)) hP3 (by decide +kernel) (by decide +kernel) rfl ?_
    intro h17 t17 k17 F17 N17
    rw [show octs bText.cps.toList = #[61, 95, 112, 97, 114, 116, 48] from by decide +kernel]
    k_steps
    refine ⟨_, _, _, _, by k_asm, by k_asm, src_list rfl _ #[_], Or.inr ⟨_, by k_mem, rfl, _, rfl⟩, by rw [sizeLine_eq]; simp, fun g => ?_⟩
    refine rest_filter [()] (fun _ v => ∃ u, v = .bytes leafB u) (fun _ => false) (fun _ _ => False) rfl ?_ (Or.inr ⟨_, by k_mem, rfl, _, rfl⟩) ?_ ?_ ?_
    · intro i v hi hv
      match i, hi with
      | 0, _ => cases hv; exact ⟨(), rfl, _, rfl⟩
    · rintro _ v I oI C oC D m₂ ys h tk E' _ ⟨u, rfl⟩ hC hx F N off ne
      k_steps
      exact TsEnd.intro (by k_asm) (by k_asm) rfl
    · intro a v I oI C oC D m₂ ys h tk E' ha _ hp
      cases hp
    · intro ys4 hP4
      cases hP4
      k_steps
      refine Bt.eq_nil (News.isList (by k_asm) (by k_mem)) (News.isList (by k_asm) (by k_mem)) (by ktr_units) ?_
      k_steps
      exact hret _ _ _ (by k_asm) (by walk_at "MY led") ⟨_, rfl⟩
theorem c_joined (l : Addr) (k : Nat) (t u : Tok) : Ctr prog w p loose mean mg mb 570 6 40 (fun news => (l, W.listOf #[.bytes leafB t] k) ∈ news) [.ref l, .str bText u] (fun r => ∃ u, r = .bytes (markB ++ #[13, 10] ++ leafB ++ #[13, 10] ++ markB ++ #[45, 45] ++ #[13, 10]) u) := by
  intro dp un gd cn cs a' ccd cl outer A₀ base h₀ L m news s Q E B F X N T hk hR hd hu hret
  refine wpAny_call ?_
  k_dflt (walk_at "MY enterC")
  k_steps
  refine ⟨_, _, _, _, by k_asm, by k_asm, src_str rfl _ _, trivial, by rw [sizeLine_eq]; decide +kernel, fun g => ?_⟩
  refine rest_map bText.cps.toList (fun c v => ∃ u, v = .str ⟨#[c]⟩ u) (fun (c : Nat) y => ∃ u, y = .int (c : Int) u) (by simp) ?_ trivial ?_ ?_
  · rintro i v hi ⟨c, u, hc, rfl⟩
    exact ⟨c, by simpa using hc, u, rfl⟩
  · rintro c v I oI C oC D m₂ ys h tk E' ha ⟨u, rfl⟩ hC hx F N off ne
    k_steps
    exact ElEnd.intro (by k_asm) (by k_asm) ⟨_, rfl⟩
  · intro ys3 hP3
    k_steps
    refine bytes_codes (by k_asm) (by k_asm) (News.isList (by k_asm) (by k_mem)) hP3 (by decide +kernel) (by decide +kernel) rfl ?_
    intro h17 t17 k17 F17 N17
    rw [show octs bText.cps.toList = #[61, 95, 112, 97, 114, 116, 48] from by decide +kernel]
    k_steps
    refine ⟨_, _, _, _, by k_asm, by k_asm, src_list rfl _ #[_], Or.inr ⟨_, by k_mem, rfl, _, rfl⟩, by rw [sizeLine_eq]; simp, fun g => ?_⟩
    refine rest_map [()] (fun _ v => ∃ u, v = .bytes leafB u) (fun _ y => ∃ u, y = Value.bytes (markB ++ #[13, 10] ++ leafB ++ #[13, 10]) u) rfl ?_ (Or.inr ⟨_, by k_mem, rfl, _, rfl⟩) ?_ ?_
    · intro i v hi hv
      match i, hi with
      | 0, _ => cases hv; exact ⟨(), rfl, _, rfl⟩
    · rintro _ v I oI C oC D m₂ ys h tk E' _ ⟨u, rfl⟩ hC hx F N off ne
      k_steps
      exact ElEnd.intro (by k_asm) (by k_asm) ⟨_, rfl⟩
    · intro ys5 hP5
      k_steps
      refine Bt.join_empty (News.isList (by k_asm) (by k_mem)) (bytes_of_paired hP5) (by decide +kernel) fun tj2 kj2 => ?_
      rw [show Bt.cat ([()].map fun _ => markB ++ #[13, 10] ++ leafB ++ #[13, 10]) = markB ++ #[13, 10] ++ leafB ++ #[13, 10] from by decide +kernel]
      k_steps
      exact hret _ _ _ (by k_asm) (by walk_at "MY led") ⟨_, rfl⟩
end

-- P16
/-- the octets of a head -/
noncomputable abbrev ctName : Array UInt8 := #[67, 111, 110, 116, 101, 110, 116, 45, 84, 121, 112, 101]
noncomputable def headB (fs : List (Array UInt8 × Array UInt8)) (kb : Array UInt8) : Array UInt8 := Bt.cat (((ctName, #[32] ++ kb) :: fs).map fldBytes) ++ #[13, 10]
theorem FieldAt.mono {news news' : List (Addr × Obj)} {f : Array UInt8 × Array UInt8} {v : Value} (h : FieldAt news f v) (hs : ∀ p ∈ news, p ∈ news') : FieldAt news' f v := by
  obtain ⟨a, e, h⟩ := h
  exact ⟨a, e, h.mono hs⟩
theorem fields_mono {news news' : List (Addr × Obj)} : ∀ {fs : List (Array UInt8 × Array UInt8)} {vs : List Value}, Paired (FieldAt news) fs vs → (∀ p ∈ news, p ∈ news') → Paired (FieldAt news') fs vs
  | _, _, .nil, _ => .nil
  | _, _, .cons h r, hs => .cons (h.mono hs) (fields_mono r hs)
theorem cat_fields (fs : List (Array UInt8 × Array UInt8)) (hs : ∀ f ∈ fs, SoundF f.1 f.2) : (Bt.cat (fs.map fldBytes)).size ≤ fs.length * 2003 :=
  cat_size_le (g := fldBytes) (B := 2003) fs fun f hf => by
    obtain ⟨z1, _, _, z2, _⟩ := hs f hf
    unfold fldBytes
    simp only [Array.size_append, List.size_toArray, List.length_cons, List.length_nil]
    omega
theorem row73 : True := by (k_with "Q call type:list" => (k_here; (with_reducible show wpAny _ _ (call (Value.type _) [Value.ref _]) _ _ _); (rename Fr _ _ _ _ => zF8); (rename News _ _ _ _ => zN8); (refine' list_copyKT zF8 zN8 (TupN.tup (TupN.mono (by assumption) (by walk_at "MY sub")) (by k_asm) zF8 zN8) ?_ ?z; (case z => rw [PySem.sizeLine_eq]; simp only [List.size_toArray]; omega)); intro zD' zc' zh' zF' zN' zl1; (try k_lt zl1))); trivial
theorem row74 : True := by (k_with "MY to553" => (repeat' (fail_if_success (with_reducible show wpAny _ _ (call (Value.ref 553) _) _ _ _)); walk_at "MY one")); trivial
theorem row75 : True := by (k_with "MY to197" => (repeat' (fail_if_success (with_reducible show wpAny _ _ (call (Value.ref 197) _) _ _ _)); walk_at "MY one")); trivial
theorem row76 : True := by (k_with "MY to347" => (repeat' (fail_if_success (with_reducible show wpAny _ _ (call (Value.ref 347) _) _ _ _)); walk_at "MY one")); trivial
section
variable {prog : Program} {w : World} {p : Program} {loose : List Str} {mean : ExcName → Option Value} {mg mb : Str → Option Value}
theorem c_head (a k : Addr) (vs : List Value) (fs : List (Array UInt8 × Array UInt8)) (kb : Array UInt8) (t : Tok) (RelK : List (Addr × Obj) → Prop) (hs : ∀ f ∈ fs, SoundF f.1 f.2) (hlen : fs.length ≤ 6) (hkb : SoundF ctName (#[32] ++ kb)) (hkz : kb.size ≤ 900)
    (hmono : ∀ news news', RelK news → (∀ p ∈ news, p ∈ news') → RelK news') (hK : Ctr prog w p loose mean mg mb 347 10 80 RelK [.ref k] (fun r => ∃ t, r = .bytes kb t)) :
    CtrR prog w p loose mean mg mb 558 14 120 (fun news => (TupN w news a vs ∧ Paired (FieldAt news) fs vs) ∧ RelK news) [.ref a, .ref k, .str (Str.ofString "7bit") t] (fun r => (∃ u, r = .bytes (headB fs kb) u) ∧ ∀ f ∈ fs, barred f = false) (∃ f ∈ fs, barred f = true) := by
  intro dp un gd cn cs a' ccd cl outer A₀ base h₀ L m news s Q E B F X N T hk hR hd hu hret hrai
  obtain ⟨⟨hT, hP⟩, hRK⟩ := hR
  have hvl := hP.length
  refine wpAny_call ?_
  k_dflt cell_enter
  walk_at "MY to553"
  refine CtrR.use (c_check a vs fs hs (by omega)) (by k_asm) (by k_asm) (by k_asm) (by k_asm) (by k_asm) rfl ⟨hT, hP⟩ (by ktr_room) (by ktr_units) ?_ ?_
  · rintro r h1 tk1 F1 N1 ⟨rfl, hno⟩
    walk_at "MY to347"
    refine Ctr.use hK (by k_asm) (by k_asm) (by k_asm) (by k_asm) (by k_asm) rfl (hmono _ _ hRK (by walk_at "MY sub")) (by ktr_room) (by ktr_units) ?_
    rintro r h2 tk2 F2 N2 ⟨u2, rfl⟩
    walk_at "MY to197"
    rename News _ _ _ _ => N8
    refine Ctr.use (c_write_fields _ _ (_ :: vs) ((ctName, #[32] ++ kb) :: fs) (fun f hf => ?_) (by simp only [List.length_cons]; omega)) (by k_asm) (by k_asm) (by k_asm) N8 (by k_asm) rfl ⟨.head _, .cons ⟨_, rfl, _, _, _, _, _, _, _, by k_mem, by k_mem⟩ (fields_mono hP (by walk_at "MY sub"))⟩ (by ktr_room) (by ktr_units) ?_
    · rcases List.mem_cons.mp hf with rfl | hf
      · exact hkb
      · exact hs f hf
    rintro r h3 tk3 F3 N3 ⟨u3, rfl⟩
    have hB := cat_fields ((ctName, #[32] ++ kb) :: fs) (fun f hf => by
      rcases List.mem_cons.mp hf with rfl | hf
      · exact hkb
      · exact hs f hf)
    simp only [List.length_cons] at hB
    k_steps
    exact hret _ _ _ (by k_asm) (by walk_at "MY led") ⟨⟨_, rfl⟩, hno⟩
  · intro hb e t ws g1 h1 tk1 F1 U1 R1
    k_unfold
    refine Xc.leave_onX rfl (by k_asm) F1 R1 U1 ?_
    intro h6 R6 U6
    exact hrai hb _ _ _ _ _ _ (by k_asm) U6 (Xc.RaisedS.sub R6 (by walk_at "MY sub"))
end

-- P17
theorem row77 : True := by (k_with "MY to558" => (repeat' (fail_if_success (with_reducible show wpAny _ _ (call (Value.ref 558) _) _ _ _)); walk_at "MY one")); trivial
section
variable {prog : Program} {w : World} {p : Program} {loose : List Str} {mean : ExcName → Option Value} {mg mb : Str → Option Value}
theorem Ctr.weak {f : Addr} {d u d' u' : Nat} {Rel : List (Addr × Obj) → Prop} {vs : List Value} {Out : Value → Prop} (C : Ctr prog w p loose mean mg mb f d u Rel vs Out) (hd : d ≤ d') (hu : u ≤ u') : Ctr prog w p loose mean mg mb f d' u' Rel vs Out := by
  intro dp un gd cn cs a ccd cl outer A₀ base h₀ L m news s Q E B F X N T hk hR h1 h2 hret
  exact C dp un gd cn cs a ccd cl outer A₀ base h₀ L m news s Q E B F X N T hk hR (by omega) (by omega) hret
noncomputable abbrev textB : Array UInt8 := #[116, 101, 120, 116, 47, 112, 108, 97, 105, 110]
noncomputable abbrev rfcB : Array UInt8 := #[109, 101, 115, 115, 97, 103, 101, 47, 114, 102, 99, 56, 50, 50]
noncomputable abbrev mixB : Array UInt8 := #[109, 117, 108, 116, 105, 112, 97, 114, 116, 47, 109, 105, 120, 101, 100]
theorem kw_text : KWord (Str.ofString "text") := ⟨by decide +kernel, by decide +kernel, by decide +kernel, by decide +kernel⟩
theorem kw_plain : KWord (Str.ofString "plain") := ⟨by decide +kernel, by decide +kernel, by decide +kernel, by decide +kernel⟩
theorem kw_message : KWord (Str.ofString "message") := ⟨by decide +kernel, by decide +kernel, by decide +kernel, by decide +kernel⟩
theorem kw_rfc : KWord (Str.ofString "rfc822") := ⟨by decide +kernel, by decide +kernel, by decide +kernel, by decide +kernel⟩
theorem kw_multi : KWord (Str.ofString "multipart") := ⟨by decide +kernel, by decide +kernel, by decide +kernel, by decide +kernel⟩
theorem kw_mixed : KWord (Str.ofString "mixed") := ⟨by decide +kernel, by decide +kernel, by decide +kernel, by decide +kernel⟩
theorem c_kind_text (k pr : Addr) (po : Obj) (hp : DictF prog w pr po [] []) : Ctr prog w p loose mean mg mb 347 10 80 (fun news => KindIn news k (Str.ofString "text") (Str.ofString "plain") pr ∧ (pr, po) ∈ news) [.ref k] (fun r => ∃ t, r = .bytes textB t) :=
  c_kind k pr _ _ po textB kw_text kw_plain fun t => by
    rw [show octs (Str.ofString "text").cps.toList ++ #[47] ++ octs (Str.ofString "plain").cps.toList = textB from by decide +kernel]
    exact (c_params0 pr po textB t (by decide) hp).weak (by decide) (by decide)
theorem c_kind_rfc (k pr : Addr) (po : Obj) (hp : DictF prog w pr po [] []) : Ctr prog w p loose mean mg mb 347 10 80 (fun news => KindIn news k (Str.ofString "message") (Str.ofString "rfc822") pr ∧ (pr, po) ∈ news) [.ref k] (fun r => ∃ t, r = .bytes rfcB t) :=
  c_kind k pr _ _ po rfcB kw_message kw_rfc fun t => by
    rw [show octs (Str.ofString "message").cps.toList ++ #[47] ++ octs (Str.ofString "rfc822").cps.toList = rfcB from by decide +kernel]
    exact (c_params0 pr po rfcB t (by decide) hp).weak (by decide) (by decide)
noncomputable abbrev mixKB : Array UInt8 := mixB ++ #[59, 13, 10] ++ #[32, 98, 111, 117, 110, 100, 97, 114, 121, 61, 34, 61, 95, 112, 97, 114, 116, 48, 34]
theorem c_kind_mix (k pr : Addr) (po : Obj) (tb : Tok) (hp : DictF prog w pr po [(bWord, .str bText tb)] [(.str bWord, .str bText)]) : Ctr prog w p loose mean mg mb 347 10 80 (fun news => KindIn news k (Str.ofString "multipart") (Str.ofString "mixed") pr ∧ (pr, po) ∈ news) [.ref k] (fun r => ∃ t, r = .bytes mixKB t) :=
  c_kind k pr _ _ po mixKB kw_multi kw_mixed fun t => by
    rw [show octs (Str.ofString "multipart").cps.toList ++ #[47] ++ octs (Str.ofString "mixed").cps.toList = mixB from by decide +kernel]
    exact c_params1 pr po mixB t tb (by decide) hp
theorem KindIn.mono {news news' : List (Addr × Obj)} {k pr : Addr} {a b : Str} (h : KindIn news k a b pr) (hs : ∀ p ∈ news, p ∈ news') : KindIn news' k a b pr := by
  obtain ⟨dx, h1, t1, t2, h2, t3, t4, h3, t5, m1, m2⟩ := h
  exact ⟨dx, h1, t1, t2, h2, t3, t4, h3, t5, hs _ m1, hs _ m2⟩
theorem sound_ct {r : Array UInt8} (hr : r.size ≤ 1000) (h : Bt.findI r #[10] 0 ((KBw.bInts r).length : Int) = -1 ∨ r = #[32, 98, 13, 10, 32, 99] ∨ r = kindMulti) : SoundF ctName r := ⟨by decide, by decide, by decide +kernel, hr, h⟩
theorem sound_text : SoundF ctName (#[32] ++ textB) := sound_ct (by decide) (.inl (by decide +kernel))
theorem sound_rfc : SoundF ctName (#[32] ++ rfcB) := sound_ct (by decide) (.inl (by decide +kernel))
theorem sound_mix : SoundF ctName (#[32] ++ mixKB) := sound_ct (by decide) (.inr (.inr (by decide +kernel)))
noncomputable def LeafIn (news : List (Addr × Obj)) (lf k fa : Addr) : Prop :=
  ∃ dx h1 t1 h2 t2 t3 h3 t4, (lf, instObj 443 dx) ∈ news ∧ (dx, dictOf [⟨h1, .str (Str.ofString "kind") t1, .ref k⟩, ⟨h2, .str (Str.ofString "octets") t2, .bytes #[120] t3⟩, ⟨h3, .str (Str.ofString "fields") t4, .ref fa⟩] 3) ∈ news
/-- a leaf of text/plain, its octets b'x', with these fields -/
noncomputable def LeafR (prog : Program) (w : World) (news : List (Addr × Obj)) (lf : Addr) (vs : List Value) (fs : List (Array UInt8 × Array UInt8)) : Prop :=
  ∃ k pr po fa, LeafIn news lf k fa ∧ (KindIn news k (Str.ofString "text") (Str.ofString "plain") pr ∧ (pr, po) ∈ news) ∧ DictF prog w pr po [] [] ∧ TupN w news fa vs ∧ Paired (FieldAt news) fs vs
theorem LeafR.mono {news news' : List (Addr × Obj)} {lf : Addr} {vs : List Value} {fs : List (Array UInt8 × Array UInt8)} (h : LeafR prog w news lf vs fs) (hs : ∀ p ∈ news, p ∈ news') : LeafR prog w news' lf vs fs := by
  obtain ⟨k, pr, po, fa, ⟨dx, h1, t1, h2, t2, t3, h3, t4, m1, m2⟩, ⟨a1, a2⟩, a3, a4, a5⟩ := h
  exact ⟨k, pr, po, fa, ⟨dx, h1, t1, h2, t2, t3, h3, t4, hs _ m1, hs _ m2⟩, ⟨a1.mono hs, hs _ a2⟩, a3, a4.mono hs, fields_mono a5 hs⟩
noncomputable def leafO (fs : List (Array UInt8 × Array UInt8)) : Array UInt8 := headB fs textB ++ #[120]
theorem c_leaf (lf : Addr) (vs : List Value) (fs : List (Array UInt8 × Array UInt8)) (hs : ∀ f ∈ fs, SoundF f.1 f.2) (hlen : fs.length ≤ 6) :
    CtrR prog w p loose mean mg mb 565 18 160 (fun news => LeafR prog w news lf vs fs) [.ref lf] (fun r => (∃ u, r = .bytes (leafO fs) u) ∧ ∀ f ∈ fs, barred f = false) (∃ f ∈ fs, barred f = true) := by
  intro dp un gd cn cs a' ccd cl outer A₀ base h₀ L m news s Q E B F X N T hk hR hd hu hret hrai
  obtain ⟨k, pr, po, fa, ⟨dx, h1, t1, h2, t2, t3, h3, t4, m1, m2⟩, hKI, hD, hT, hP⟩ := hR
  have hKI2 := hKI.1
  obtain ⟨kx, g1, u1, u2, g2, u3, u4, g3, u5, n1, n2⟩ := hKI2
  have hvl := hP.length
  have hB : (headB fs textB).size ≤ 20000 := by
    have h1 := cat_fields ((ctName, #[32] ++ textB) :: fs) (fun f hf => by
      rcases List.mem_cons.mp hf with rfl | hf
      · exact sound_text
      · exact hs f hf)
    have h2 : ((ctName, #[32] ++ textB) :: fs).length * 2003 ≤ 7 * 2003 := Nat.mul_le_mul_right _ (by simp; omega)
    unfold headB
    simp only [Array.size_append, List.size_toArray, List.length_cons, List.length_nil]
    omega
  refine wpAny_call ?_
  k_dflt cell_enter
  walk_at "MY to558"
  refine CtrR.use (c_head fa k vs fs textB _ (fun news => KindIn news k (Str.ofString "text") (Str.ofString "plain") pr ∧ (pr, po) ∈ news) hs hlen sound_text (by decide) (fun _ _ h hsub => ⟨h.1.mono hsub, hsub _ h.2⟩) (c_kind_text k pr po hD)) (by k_asm) (by k_asm) (by k_asm) (by k_asm) (by k_asm) rfl ⟨⟨hT, hP⟩, hKI⟩ (by ktr_room) (by ktr_units) ?_ ?_
  · rintro r h1 tk1 F1 N1 ⟨⟨u, rfl⟩, hno⟩
    k_steps
    exact hret _ _ _ (by k_asm) (by walk_at "MY led") ⟨⟨_, rfl⟩, hno⟩
  · intro hb e t ws g1 h1 tk1 F1 U1 R1
    k_unfold
    refine Xc.leave_onX rfl (by k_asm) F1 R1 U1 ?_
    intro h6 R6 U6
    exact hrai hb _ _ _ _ _ _ (by k_asm) U6 (Xc.RaisedS.sub R6 (by walk_at "MY sub"))
end

-- P18
section
variable {prog : Program} {w : World} {p : Program} {loose : List Str} {mean : ExcName → Option Value} {mg mb : Str → Option Value}
theorem CtrR.toCtr {f : Addr} {d u : Nat} {Rel : List (Addr × Obj) → Prop} {vs : List Value} {Out : Value → Prop} {Bad : Prop} (C : CtrR prog w p loose mean mg mb f d u Rel vs Out Bad) (hb : ¬ Bad) : Ctr prog w p loose mean mg mb f d u Rel vs Out := by
  intro dp un gd cn cs a ccd cl outer A₀ base h₀ L m news s Q E B F X N T hk hR h1 h2 hret
  exact C dp un gd cn cs a ccd cl outer A₀ base h₀ L m news s Q E B F X N T hk hR h1 h2 hret fun h => absurd h hb
theorem Ctr.mono {f : Addr} {d u : Nat} {Rel : List (Addr × Obj) → Prop} {vs : List Value} {Out Out' : Value → Prop} (C : Ctr prog w p loose mean mg mb f d u Rel vs Out) (ho : ∀ r, Out r → Out' r) : Ctr prog w p loose mean mg mb f d u Rel vs Out' := by
  intro dp un gd cn cs a ccd cl outer A₀ base h₀ L m news s Q E B F X N T hk hR h1 h2 hret
  exact C dp un gd cn cs a ccd cl outer A₀ base h₀ L m news s Q E B F X N T hk hR h1 h2 fun r h' tk' F' N' o => hret r h' tk' F' N' (ho r o)
theorem c_leaf0 (lf : Addr) : Ctr prog w p loose mean mg mb 565 18 160 (fun news => LeafR prog w news lf [] []) [.ref lf] (fun r => ∃ u, r = .bytes leafB u) := by
  have C := (c_leaf (prog := prog) (w := w) (p := p) (loose := loose) (mean := mean) (mg := mg) (mb := mb) lf [] [] (by simp) (by simp)).toCtr (by rintro ⟨f, hf, _⟩; cases hf)
  refine C.mono fun r ⟨⟨u, e⟩, _⟩ => ⟨u, ?_⟩
  rw [e, show leafO [] = leafB from by decide +kernel]
end
theorem row78 : True := by (k_with "Q call ref" => (k_here; (with_reducible show wpAny _ _ (call (Value.ref 565) [Value.ref _]) _ _ _); k_dflt (refine' Ctr.use (c_leaf0 _) ?k1 ?k2 ?k3 ?k4 ?k5 ?kK ?kR ?kd ?ku ?_; walk_at "MY useR"; (case kR => first | assumption | exact LeafR.mono (by assumption) (by walk_at "MY sub"))); walk_at "MY got1")); trivial
section
variable {prog : Program} {w : World} {p : Program} {loose : List Str} {mean : ExcName → Option Value} {mg mb : Str → Option Value}
theorem c_built (lf : Addr) : Ctr prog w p loose mean mg mb 589 20 180 (fun news => LeafR prog w news lf [] []) [.ref lf] (fun r => ∃ u, r = .bytes leafB u) := by
  intro dp un gd cn cs a' ccd cl outer A₀ base h₀ L m news s Q E B F X N T hk hR hd hu hret
  have hR2 := hR
  obtain ⟨k, pr, po, fa, ⟨dx, h1, t1, h2, t2, t3, h3, t4, m1, m2⟩, -⟩ := hR2
  refine wpAny_call ?_
  k_dflt cell_enter
  k_steps
  exact hret _ _ _ (by k_asm) (by walk_at "MY led") ⟨_, rfl⟩
end
theorem row79 : True := by (k_with "Q call ref" => (k_here; (with_reducible show wpAny _ _ (call (Value.ref 589) [Value.ref _]) _ _ _); k_dflt (refine' Ctr.use (c_built _) ?k1 ?k2 ?k3 ?k4 ?k5 ?kK ?kR ?kd ?ku ?_; walk_at "MY useR"; (case kR => first | assumption | exact LeafR.mono (by assumption) (by walk_at "MY sub"))); walk_at "MY got1")); trivial
theorem row80 : True := by (k_with "Q call ref" => (k_here; (with_reducible show wpAny _ _ (call (Value.ref 546) [Value.ref _]) _ _ _); k_dflt (refine' Ctr.use (c_boundary _ _ _) ?k1 ?k2 ?k3 ?k4 ?k5 ?kK ?kR ?kd ?ku ?_; walk_at "MY useR"; (case kR => k_mem)); walk_at "MY got1")); trivial
theorem row81 : True := by (k_with "Q call ref" => (k_here; (with_reducible show wpAny _ _ (call (Value.ref 570) [Value.ref _, Value.str _ _]) _ _ _); k_dflt (refine' Ctr.use (c_joined _ _ _ _) ?k1 ?k2 ?k3 ?k4 ?k5 ?kK ?kR ?kd ?ku ?_; walk_at "MY useR"; (case kR => k_mem)); walk_at "MY got1")); trivial
section
variable {prog : Program} {w : World} {p : Program} {loose : List Str} {mean : ExcName → Option Value} {mg mb : Str → Option Value}
/-- a multipart of one leaf, with these fields -/
noncomputable def ManyR (prog : Program) (w : World) (news : List (Addr × Obj)) (mo : Addr) (vs : List Value) (fs : List (Array UInt8 × Array UInt8)) : Prop :=
  ∃ dx h1 t1 t2 h2 t3 pl h3 t4 fa lf k, (mo, instObj 476 dx) ∈ news ∧ (dx, dictOf [⟨h1, .str (Str.ofString "sub") t1, .str (Str.ofString "mixed") t2⟩, ⟨h2, .str (Str.ofString "pieces") t3, .ref pl⟩, ⟨h3, .str (Str.ofString "fields") t4, .ref fa⟩] 3) ∈ news ∧
    (pl, W.listOf #[.ref lf] k) ∈ news ∧ LeafR prog w news lf [] [] ∧ TupN w news fa vs ∧ Paired (FieldAt news) fs vs
noncomputable def manyO (fs : List (Array UInt8 × Array UInt8)) : Array UInt8 := headB fs mixKB ++ (markB ++ #[13, 10] ++ leafB ++ #[13, 10] ++ markB ++ #[45, 45] ++ #[13, 10])
theorem headB_size {fs : List (Array UInt8 × Array UInt8)} {kb : Array UInt8} (hs : ∀ f ∈ fs, SoundF f.1 f.2) (hlen : fs.length ≤ 6) (hk : SoundF ctName (#[32] ++ kb)) : (headB fs kb).size ≤ 20000 := by
  have h1 := cat_fields ((ctName, #[32] ++ kb) :: fs) (fun f hf => by
    rcases List.mem_cons.mp hf with rfl | hf
    · exact hk
    · exact hs f hf)
  have h2 : ((ctName, #[32] ++ kb) :: fs).length * 2003 ≤ 7 * 2003 := Nat.mul_le_mul_right _ (by simp; omega)
  unfold headB
  simp only [Array.size_append, List.size_toArray, List.length_cons, List.length_nil]
  omega
theorem c_head_mix {a k pr : Addr} {po : Obj} {tb t : Tok} {vs : List Value} {fs : List (Array UInt8 × Array UInt8)} (hD : DictF prog w pr po [(bWord, .str bText tb)] [(.str bWord, .str bText)]) (hs : ∀ f ∈ fs, SoundF f.1 f.2) (hlen : fs.length ≤ 6) :
    CtrR prog w p loose mean mg mb 558 14 120 (fun news => (TupN w news a vs ∧ Paired (FieldAt news) fs vs) ∧ KindIn news k (Str.ofString "multipart") (Str.ofString "mixed") pr ∧ (pr, po) ∈ news) [.ref a, .ref k, .str (Str.ofString "7bit") t] (fun r => (∃ u, r = .bytes (headB fs mixKB) u) ∧ ∀ f ∈ fs, barred f = false) (∃ f ∈ fs, barred f = true) :=
  c_head a k vs fs mixKB t (fun news => KindIn news k (Str.ofString "multipart") (Str.ofString "mixed") pr ∧ (pr, po) ∈ news) hs hlen sound_mix (by decide) (fun _ _ h hsub => ⟨h.1.mono hsub, hsub _ h.2⟩) (c_kind_mix k pr po tb hD)
theorem c_head_rfc {a k pr : Addr} {po : Obj} {t : Tok} {vs : List Value} {fs : List (Array UInt8 × Array UInt8)} (hD : DictF prog w pr po [] []) (hs : ∀ f ∈ fs, SoundF f.1 f.2) (hlen : fs.length ≤ 6) :
    CtrR prog w p loose mean mg mb 558 14 120 (fun news => (TupN w news a vs ∧ Paired (FieldAt news) fs vs) ∧ KindIn news k (Str.ofString "message") (Str.ofString "rfc822") pr ∧ (pr, po) ∈ news) [.ref a, .ref k, .str (Str.ofString "7bit") t] (fun r => (∃ u, r = .bytes (headB fs rfcB) u) ∧ ∀ f ∈ fs, barred f = false) (∃ f ∈ fs, barred f = true) :=
  c_head a k vs fs rfcB t (fun news => KindIn news k (Str.ofString "message") (Str.ofString "rfc822") pr ∧ (pr, po) ∈ news) hs hlen sound_rfc (by decide) (fun _ _ h hsub => ⟨h.1.mono hsub, hsub _ h.2⟩) (c_kind_rfc k pr po hD)
theorem c_many (mo : Addr) (vs : List Value) (fs : List (Array UInt8 × Array UInt8)) (hs : ∀ f ∈ fs, SoundF f.1 f.2) (hlen : fs.length ≤ 6) :
    CtrR prog w p loose mean mg mb 575 24 220 (fun news => ManyR prog w news mo vs fs) [.ref mo] (fun r => (∃ u, r = .bytes (manyO fs) u) ∧ ∀ f ∈ fs, barred f = false) (∃ f ∈ fs, barred f = true) := by
  intro dp un gd cn cs a' ccd cl outer A₀ base h₀ L m news s Q E B F X N T hk hR hd hu hret hrai
  obtain ⟨dx, h1, t1, t2, h2, t3, pl, h3, t4, fa, lf, k, m1, m2, m3, hL, hT, hP⟩ := hR
  have hB := headB_size hs hlen sound_mix
  refine wpAny_call ?_
  k_dflt cell_enter
  k_steps
  refine ⟨_, _, _, _, by k_asm, by k_asm, src_list rfl _ #[_], Or.inr ⟨_, by k_mem, rfl, _, rfl⟩, by rw [sizeLine_eq]; simp, fun g => ?_⟩
  refine rest_map [()] (fun _ v => v = .ref lf) (fun _ y => ∃ u, y = Value.bytes leafB u) rfl ?_ (Or.inr ⟨_, by k_mem, rfl, _, rfl⟩) ?_ ?_
  · intro i v hi hv
    match i, hi with
    | 0, _ => cases hv; exact ⟨(), rfl, rfl⟩
  · rintro _ v I oI C oC D m₂ ys h tk E' _ rfl hC hx F N off ne
    k_steps
    exact ElEnd.intro (by k_asm) (by walk_at "MY led") ⟨_, rfl⟩
  · intro ys hP2
    obtain ⟨u5, rfl⟩ := paired_one hP2
    walk_at "MY to558"
    rename Obj.IsDictOf _ _ _ => hdX
    rename PyProof.V.FlatPairs _ _ _ => hfX
    rename (_ == sysModules) = false => hsX
    have hD : DictF prog w _ _ [(bWord, .str bText _)] [(.str bWord, .str bText)] := ⟨hsX, hdX, hfX⟩
    k_dflt (refine' CtrR.use (c_head_mix hD hs hlen) ?B ?F ?X ?N ?T ?kK ?kR ?kd ?ku ?_ ?_)
    case B => k_asm
    case F => k_asm
    case X => k_asm
    case N => k_asm
    case T => k_asm
    case kK => exact rfl
    case kd => ktr_room
    case ku => ktr_units
    case kR => exact ⟨⟨TupN.mono hT (by walk_at "MY sub"), fields_mono hP (by walk_at "MY sub")⟩, ⟨_, _, _, _, _, _, _, _, _, by k_mem, by k_mem⟩, by k_mem⟩
    · rintro r h1 tk1 F1 N1 ⟨⟨u, rfl⟩, hno⟩
      k_steps
      exact hret _ _ _ (by k_asm) (by walk_at "MY led") ⟨⟨_, rfl⟩, hno⟩
    · intro hb e t ws g1 h1 tk1 F1 U1 R1
      k_unfold
      refine Xc.leave_onX rfl (by k_asm) F1 R1 U1 ?_
      intro h6 R6 U6
      exact hrai hb _ _ _ _ _ _ (by k_asm) U6 (Xc.RaisedS.sub R6 (by walk_at "MY sub"))
end

-- P19
theorem row82 : True := by (k_with "MY to596" => (repeat' (fail_if_success (with_reducible show wpAny _ _ (call (Value.ref 596) _) _ _ _)); walk_at "MY one")); trivial
noncomputable abbrev mvName : Array UInt8 := #[77, 73, 77, 69, 45, 86, 101, 114, 115, 105, 111, 110]
noncomputable abbrev mvRaw : Array UInt8 := #[32, 49, 46, 48]
noncomputable def wholeO (fs : List (Array UInt8 × Array UInt8)) : Array UInt8 := Bt.cat ((fs ++ [(mvName, mvRaw)]).map fldBytes) ++ leafB
theorem sound_mv : SoundF mvName mvRaw := ⟨by decide, by decide, by decide +kernel, by decide, .inl (by decide +kernel)⟩
noncomputable def WholeR (prog : Program) (w : World) (news : List (Addr × Obj)) (lf fa : Addr) (vs : List Value) (fs : List (Array UInt8 × Array UInt8)) : Prop := LeafR prog w news lf [] [] ∧ TupN w news fa vs ∧ Paired (FieldAt news) fs vs
theorem WholeR.mono {prog : Program} {w : World} {news news' : List (Addr × Obj)} {lf fa : Addr} {vs : List Value} {fs : List (Array UInt8 × Array UInt8)} (h : WholeR prog w news lf fa vs fs) (hs : ∀ p ∈ news, p ∈ news') : WholeR prog w news' lf fa vs fs :=
  ⟨h.1.mono hs, h.2.1.mono hs, fields_mono h.2.2 hs⟩
section
variable {prog : Program} {w : World} {p : Program} {loose : List Str} {mean : ExcName → Option Value} {mg mb : Str → Option Value}
theorem c_whole (lf fa : Addr) (vs : List Value) (fs : List (Array UInt8 × Array UInt8)) (hs : ∀ f ∈ fs, SoundF f.1 f.2) (hlen : fs.length ≤ 6) :
    CtrR prog w p loose mean mg mb 596 24 220 (fun news => WholeR prog w news lf fa vs fs) [.ref lf, .ref fa] (fun r => (∃ u, r = .bytes (wholeO fs) u) ∧ ∀ f ∈ fs, barred f = false) (∃ f ∈ fs, barred f = true) := by
  intro dp un gd cn cs a' ccd cl outer A₀ base h₀ L m news s Q E B F X N T hk hR hd hu hret hrai
  obtain ⟨hL, hT, hP⟩ := hR
  have hvl := hP.length
  have hs2 : ∀ f ∈ fs ++ [(mvName, mvRaw)], SoundF f.1 f.2 := fun f hf => by
    rcases List.mem_append.mp hf with hf | hf
    · exact hs f hf
    · rw [List.mem_singleton.mp hf]; exact sound_mv
  have hB := cat_fields (fs ++ [(mvName, mvRaw)]) hs2
  have hB2 : (fs ++ [(mvName, mvRaw)]).length * 2003 ≤ 7 * 2003 := Nat.mul_le_mul_right _ (by simp; omega)
  refine wpAny_call ?_
  k_dflt cell_enter
  walk_at "MY to553"
  refine CtrR.use (c_check fa vs fs hs (by omega)) (by k_asm) (by k_asm) (by k_asm) (by k_asm) (by k_asm) rfl ⟨hT, hP⟩ (by ktr_room) (by ktr_units) ?_ ?_
  · rintro r h1 tk1 F1 N1 ⟨rfl, hno⟩
    walk_at "MY to197"
    rename News _ _ _ _ => N8
    refine Ctr.use (c_write_fields _ _ (vs ++ [_]) (fs ++ [(mvName, mvRaw)]) hs2 (by simp; omega)) (by k_asm) (by k_asm) (by k_asm) N8 (by k_asm) rfl ⟨.head _, Paired.snoc (fields_mono hP (by walk_at "MY sub")) ⟨_, rfl, _, _, _, _, _, _, _, by k_mem, by k_mem⟩⟩ (by ktr_room) (by ktr_units) ?_
    rintro r h3 tk3 F3 N3 ⟨u3, rfl⟩
    k_steps
    exact hret _ _ _ (by k_asm) (by walk_at "MY led") ⟨⟨_, rfl⟩, hno⟩
  · intro hb e t ws g1 h1 tk1 F1 U1 R1
    k_unfold
    refine Xc.leave_onX rfl (by k_asm) F1 R1 U1 ?_
    intro h6 R6 U6
    exact hrai hb _ _ _ _ _ _ (by k_asm) U6 (Xc.RaisedS.sub R6 (by walk_at "MY sub"))
/-- a letter around a leaf, with these fields -/
noncomputable def LetterR (prog : Program) (w : World) (news : List (Addr × Obj)) (lo : Addr) (vs : List Value) (fs : List (Array UInt8 × Array UInt8)) : Prop :=
  ∃ dx h1 t1 lf h2 t2 fa, (lo, instObj 513 dx) ∈ news ∧ (dx, dictOf [⟨h1, .str (Str.ofString "piece") t1, .ref lf⟩, ⟨h2, .str (Str.ofString "fields") t2, .ref fa⟩] 2) ∈ news ∧ WholeR prog w news lf fa vs fs
noncomputable def letterO (fs : List (Array UInt8 × Array UInt8)) : Array UInt8 := headB [] rfcB ++ wholeO fs
theorem wholeO_size {fs : List (Array UInt8 × Array UInt8)} (hs : ∀ f ∈ fs, SoundF f.1 f.2) (hlen : fs.length ≤ 6) : (wholeO fs).size ≤ 20000 := by
  have hB := cat_fields (fs ++ [(mvName, mvRaw)]) (fun f hf => by
    rcases List.mem_append.mp hf with hf | hf
    · exact hs f hf
    · rw [List.mem_singleton.mp hf]; exact sound_mv)
  have hB2 : (fs ++ [(mvName, mvRaw)]).length * 2003 ≤ 7 * 2003 := Nat.mul_le_mul_right _ (by simp; omega)
  unfold wholeO
  simp only [Array.size_append, List.size_toArray, List.length_cons, List.length_nil]
  omega
theorem c_letter (lo : Addr) (vs : List Value) (fs : List (Array UInt8 × Array UInt8)) (hs : ∀ f ∈ fs, SoundF f.1 f.2) (hlen : fs.length ≤ 6) :
    CtrR prog w p loose mean mg mb 582 28 250 (fun news => LetterR prog w news lo vs fs) [.ref lo] (fun r => (∃ u, r = .bytes (letterO fs) u) ∧ ∀ f ∈ fs, barred f = false) (∃ f ∈ fs, barred f = true) := by
  intro dp un gd cn cs a' ccd cl outer A₀ base h₀ L m news s Q E B F X N T hk hR hd hu hret hrai
  obtain ⟨dx, h1, t1, lf, h2, t2, fa, m1, m2, hW⟩ := hR
  have hB := wholeO_size hs hlen
  have hB2 := headB_size (fs := []) (kb := rfcB) (by simp) (by simp) sound_rfc
  refine wpAny_call ?_
  k_dflt cell_enter
  walk_at "MY to558"
  rename Obj.IsDictOf (PySem.strKind _ _) _ _ => hdX
  rename PyProof.V.FlatPairs PyData.str _ _ => hfX
  rename (_ == sysModules) = false => hsX
  have hD : DictF prog w _ _ [] [] := ⟨hsX, hdX, hfX⟩
  k_dflt (refine' Ctr.use ((c_head_rfc (vs := []) (fs := []) hD (by simp) (by simp)).toCtr (by rintro ⟨f, hf, _⟩; cases hf)) ?B ?F ?X ?N ?T ?kK ?kR ?kd ?ku ?_)
  case B => k_asm
  case F => k_asm
  case X => k_asm
  case N => k_asm
  case T => k_asm
  case kK => exact rfl
  case kd => ktr_room
  case ku => ktr_units
  case kR => exact ⟨⟨.inl ⟨_, _, by k_mem, rfl, rfl⟩, .nil⟩, ⟨_, _, _, _, _, _, _, _, _, by k_mem, by k_mem⟩, by k_mem⟩
  rintro r h3 tk3 F3 N3 ⟨⟨u3, rfl⟩, -⟩
  walk_at "MY to596"
  k_dflt (refine' CtrR.use (c_whole lf fa vs fs hs hlen) ?B ?F ?X ?N ?T ?kK ?kR ?kd ?ku ?_ ?_)
  case B => k_asm
  case F => k_asm
  case X => k_asm
  case N => k_asm
  case T => k_asm
  case kK => exact rfl
  case kd => ktr_room
  case ku => ktr_units
  case kR => exact hW.mono (by walk_at "MY sub")
  · rintro r h4 tk4 F4 N4 ⟨⟨u4, rfl⟩, hno⟩
    k_steps
    exact hret _ _ _ (by k_asm) (by walk_at "MY led") ⟨⟨_, rfl⟩, hno⟩
  · intro hb e t ws g1 h1 tk1 F1 U1 R1
    k_unfold
    refine Xc.leave_onX rfl (by k_asm) F1 R1 U1 ?_
    intro h6 R6 U6
    exact hrai hb _ _ _ _ _ _ (by k_asm) U6 (Xc.RaisedS.sub R6 (by walk_at "MY sub"))
theorem c_message (lf fa : Addr) (vs : List Value) (fs : List (Array UInt8 × Array UInt8)) (hs : ∀ f ∈ fs, SoundF f.1 f.2) (hlen : fs.length ≤ 6) :
    CtrR prog w p loose mean mg mb 610 28 250 (fun news => WholeR prog w news lf fa vs fs) [.ref lf, .ref fa] (fun r => (∃ u, r = .bytes (wholeO fs) u) ∧ ∀ f ∈ fs, barred f = false) (∃ f ∈ fs, barred f = true) := by
  intro dp un gd cn cs a' ccd cl outer A₀ base h₀ L m news s Q E B F X N T hk hR hd hu hret hrai
  have hW := hR
  obtain ⟨⟨k, pr, po, fb, ⟨dx, h1, t1, h2, t2, t3, h3, t4, m1, m2⟩, -⟩, -⟩ := hR
  refine wpAny_call ?_
  k_dflt cell_enter
  walk_at "MY to596"
  k_dflt (refine' CtrR.use (c_whole lf fa vs fs hs hlen) ?B ?F ?X ?N ?T ?kK ?kR ?kd ?ku ?_ ?_)
  case B => k_asm
  case F => k_asm
  case X => k_asm
  case N => k_asm
  case T => k_asm
  case kK => exact rfl
  case kd => ktr_room
  case ku => ktr_units
  case kR => exact hW.mono (by walk_at "MY sub")
  · rintro r h4 tk4 F4 N4 ⟨⟨u4, rfl⟩, hno⟩
    k_steps
    exact hret _ _ _ (by k_asm) (by walk_at "MY led") ⟨⟨_, rfl⟩, hno⟩
  · intro hb e t ws g1 h1 tk1 F1 U1 R1
    k_unfold
    refine Xc.leave_onX rfl (by k_asm) F1 R1 U1 ?_
    intro h6 R6 U6
    exact hrai hb _ _ _ _ _ _ (by k_asm) U6 (Xc.RaisedS.sub R6 (by walk_at "MY sub"))
end

-- P20
theorem row83 : True := by (k_with "Q k_all" => (k_dflt assumption)); trivial
section
variable {prog : Program} {w : World} {p : Program} {loose : List Str} {mean : ExcName → Option Value} {mg mb : Str → Option Value}
theorem c_draw {l D : Addr} {k c : Nat} {pl : Int} {ta tl : Tok} {lim : Int} {ws : List Value} {ns : List Int} (hI : IntsAre ws ns) (h0 : 0 < ns.length) (h30 : ns.length ≤ 30) (hlo : 0 ≤ pl) (hhi : pl ≤ 20) (hl0 : 0 < lim) (hl1 : lim ≤ 10)
    {dp un : Nat} {gd : Option (List Code)} {cn : Str} {cs : Scope} {a : Addr} {ccd : Value} {cl : List (Str × Addr)} {outer : List Env} {A₀ : Around} {base h₀ : Heap} {L : Addr} {m : Str → Option Value} {rest : List (Addr × Obj)} {s : Shared}
    {Q E : Value → Shared → Prop} (B : Below A₀ base outer h₀) (F : Fr h₀ L s.heap m) (X : (layK.heap_1 w.params).In h₀) (N : News h₀ L s.heap ((l, W.listOf #[.ref D, .int pl ta] k) :: (D, W.listOf ws.toArray c) :: rest)) (hne : D ≠ l) (off : ∀ q ∈ rest, q.1 ≠ l)
    (T : Top p loose mean mg mb h₀) (hk : cs.kind = .function) (hd : dp + 3 < recursionLimit) (hu : un + 20 < cLine)
    (hret : ∀ n t t' k' h' tk', Fr h₀ L h' m → News h₀ L h' ((l, W.listOf #[.ref D, .int (pl + 1) t'] k') :: (D, W.listOf ws.toArray c) :: rest) → 0 ≤ n → n < lim → Q (.int n t) { s with heap := h', toks := tk' }) :
    wpAny (model prog w) (ktrTop dp un gd cn cs L a ccd cl outer) (call (.ref 617) [.ref l, .int lim tl]) Q E s := by
  have off2 : ∀ q ∈ (D, W.listOf ws.toArray c) :: rest, q.1 ≠ l := List.forall_mem_cons.mpr ⟨hne, off⟩
  refine wpAny_call ?_
  k_dflt cell_enter
  k_steps
  exact hret _ _ _ _ _ _ (by k_asm) (by walk_at "MY led") (Int.fmod_nonneg_of_pos _ hl0) (Int.fmod_lt_of_pos _ hl0)
end

-- P21
open LCg
section
variable {prog : Program} {w : World} {A : Around} {E : Value → Shared → Prop} {s : Shared} {h₀ : Heap} {L : Addr} {m : Str → Option Value} {env : Env}
/-- a comprehension whose turns change the ledger -/
noncomputable def TurnS (h₀ : Heap) (L : Addr) (m : Str → Option Value) (s : Shared) (I C D : Addr) (oI oC oD : Obj) (S : List (Addr × Obj) → Prop) (J : Value → List (Addr × Obj) → Prop) (y : Value) (s₂ : Shared) : Prop :=
  ∃ h' tk' news', s₂ = { s with heap := h', toks := tk' } ∧ Fr h₀ L h' m ∧ News h₀ L h' ((I, oI) :: (C, oC) :: (D, oD) :: news') ∧ Off3 I C D news' ∧ S news' ∧ J y news'
theorem rest_state {elt : Expr} {x : Str} {scope : Scope} {cl : List (Str × Addr)} {S : List (Addr × Obj) → Prop} {P : Nat → Value → Prop} {Fin : List Value → List (Addr × Obj) → Prop} {news : List (Addr × Obj)} {n : Nat} (J : Nat → List Value → List (Addr × Obj) → Prop)
    (turn : ∀ i ys news v I oI C oC D m₂ h tk (E' : Value → Shared → Prop), i < n → J i ys news → P i v → NsObj oC m₂ → m₂ x = some v → Fr h₀ L h m → News h₀ L h ((I, oI) :: (C, oC) :: (D, lst ys) :: news) → Off3 I C D news → ((@Ne Nat I C) ∧ (@Ne Nat I D) ∧ (@Ne Nat C D)) →
      wpAny (model prog w) A (eval elt (compEnvC scope cl C env)) (TurnS h₀ L m s I C D oI oC (lst ys) S fun y news' => J (i + 1) (ys ++ [y]) news') E' { s with heap := h, toks := tk })
    (fin : ∀ ys news, J n ys news → Fin ys news) (h0 : J 0 [] news) : CompRest prog w A h₀ L m env elt x scope cl s S P Fin n 0 [] news := by
  have key : ∀ (j i : Nat) (ys : List Value) (news : List (Addr × Obj)), i + j = n → J i ys news → CompRest prog w A h₀ L m env elt x scope cl s S P Fin j i ys news := by
    intro j
    induction j with
    | zero =>
      intro i ys news hi hy
      have e : i = n := by omega
      subst e
      exact CompRest.zero (fin ys news hy)
    | succ j ih =>
      intro i ys news hi hy
      refine CompRest.succ ?_
      intro v I oI C oC D m₂ h tk E' hv hC hx F N off ne
      refine wpAny_mono (turn i ys news v I oI C oC D m₂ h tk E' (by omega) hy hv hC hx F N off ne) (fun y s₂ hq => ?_) fun _ _ e => e
      obtain ⟨h', tk', news', e, F', N', off', hS', hJ⟩ := hq
      exact ⟨h', tk', news', e, F', N', off', hS', ih (i + 1) _ news' (by omega) hJ⟩
  exact key n 0 [] news (by omega) h0
end
/-- the tape of the draws, and its list -/
noncomputable def tapeN (l D : Addr) (pl : Int) (t : Tok) (k c : Nat) (ws : List Value) (rest : List (Addr × Obj)) : List (Addr × Obj) := (l, W.listOf #[.ref D, .int pl t] k) :: (D, W.listOf ws.toArray c) :: rest
/-- ints drawn below b -/
noncomputable def Drawn (b : Int) (ys : List Value) (ps : List Int) : Prop := IntsAre ys ps ∧ ∀ q ∈ ps, 0 ≤ q ∧ q < b
theorem ints_snoc : ∀ {ys : List Value} {ps : List Int} {n : Int} {t : Tok}, IntsAre ys ps → IntsAre (ys ++ [.int n t]) (ps ++ [n])
  | _, _, _, _, .nil => .cons _ _ .nil
  | _, _, _, _, .cons n t r => .cons n t (ints_snoc r)
theorem Drawn.snoc {b : Int} {ys : List Value} {ps : List Int} {n : Int} {t : Tok} (h : Drawn b ys ps) (h0 : 0 ≤ n) (h1 : n < b) : Drawn b (ys ++ [.int n t]) (ps ++ [n]) :=
  ⟨ints_snoc h.1, fun q hq => by
    rcases List.mem_append.mp hq with hq | hq
    · exact h.2 q hq
    · rw [List.mem_singleton.mp hq]; exact ⟨h0, h1⟩⟩
theorem off3_tape {I C D l l2 : Addr} {o o' o2 : Obj} {rest : List (Addr × Obj)} (h : Off3 I C D ((l, o) :: (l2, o2) :: rest)) : Off3 I C D ((l, o') :: (l2, o2) :: rest) := ⟨h.1, h.2⟩

-- P22
open LCg
/-- after the first statement: the tape stands -/
noncomputable def MidTape (h₀ : Heap) (L : Addr) (m : Str → Option Value) (s : Shared) (p1 p2 p3 p4 : Addr) (o2 o3 o4 : Obj) (q : Addr × Obj) (f : Flow) (s' : Shared) : Prop :=
  f = .next ∧ ∃ l D k c tk ws ns o1' h tk', s' = { s with heap := h, toks := tk' } ∧ Fr h₀ L h m ∧ News h₀ L h [(l, W.listOf #[.ref D, .int 0 tk] k), (D, W.listOf ws.toArray c), (p4, o4), (p3, o3), (p2, o2), (p1, o1'), q] ∧ o1'.data = .cell (some (.ref l)) ∧
      IntsAre ws ns ∧ 0 < ns.length ∧ ns.length ≤ 30 ∧ @LT.lt Nat _ D l ∧ @LT.lt Nat _ p4 D
theorem MidTape.intro {h₀ : Heap} {L : Addr} {m : Str → Option Value} {s : Shared} {p1 p2 p3 p4 : Addr} {o2 o3 o4 : Obj} {q : Addr × Obj} {l D : Addr} {k c : Nat} {tk : Tok} {ws : List Value} {ns : List Int} {o1' : Obj} {h : Heap} {tk' : Nat} {all : List (Addr × Obj)}
    (F : Fr h₀ L h m) (N : News h₀ L h all) (hs : ∀ p ∈ [(l, W.listOf #[.ref D, .int 0 tk] k), (D, W.listOf ws.toArray c), (p4, o4), (p3, o3), (p2, o2), (p1, o1'), q], p ∈ all) (a1 : o1'.data = .cell (some (.ref l)))
    (a2 : IntsAre ws ns) (a3 : 0 < ns.length) (a4 : ns.length ≤ 30) (a5 : @LT.lt Nat _ D l) (a6 : @LT.lt Nat _ p4 D) : MidTape h₀ L m s p1 p2 p3 p4 o2 o3 o4 q .next { s with heap := h, toks := tk' } :=
  ⟨rfl, l, D, k, c, tk, ws, ns, o1', h, tk', rfl, F, fun p hp => N p (hs p hp), a1, a2, a3, a4, a5, a6⟩
theorem cut_tape {prog : Program} {w : World} {A : Around} {E : Value → Shared → Prop} {Q : Flow → Shared → Prop} {s : Shared} {h₀ : Heap} {L p1 p2 p3 p4 : Addr} {o1 o2 o3 o4 : Obj} {q : Addr × Obj} {m : Str → Option Value} {t : Sem Flow}
    (_F : Fr h₀ L s.heap m) (_N : News h₀ L s.heap [(p4, o4), (p3, o3), (p2, o2), (p1, o1), q])
    (h1 : wpAny (model prog w) A t (MidTape h₀ L m s p1 p2 p3 p4 o2 o3 o4 q) E s)
    (h2 : ∀ l D k c tk ws ns o1' h tk', Fr h₀ L h m → News h₀ L h [(l, W.listOf #[.ref D, .int 0 tk] k), (D, W.listOf ws.toArray c), (p4, o4), (p3, o3), (p2, o2), (p1, o1'), q] → o1'.data = .cell (some (.ref l)) →
      IntsAre ws ns → 0 < ns.length → ns.length ≤ 30 → @LT.lt Nat _ D l → @LT.lt Nat _ p4 D → Q .next { s with heap := h, toks := tk' }) : wpAny (model prog w) A t Q E s := by
  refine wpAny_mono h1 (fun f s' hq => ?_) fun _ _ e => e
  obtain ⟨rfl, l, D, k, c, tk, ws, ns, o1', h, tk', rfl, F, N, a1, a2, a3, a4, a5, a6⟩ := hq
  exact h2 l D k c tk ws ns o1' h tk' F N a1 a2 a3 a4 a5 a6
noncomputable def DrawJ (l D : Addr) (pl : Int) (c : Nat) (ws : List Value) (rest : List (Addr × Obj)) (b : Int) (i : Nat) (ys : List Value) (nw : List (Addr × Obj)) : Prop :=
  ∃ t k ps, nw = (l, W.listOf #[.ref D, .int (pl + (i : Int)) t] k) :: (D, W.listOf ws.toArray c) :: rest ∧ Drawn b ys ps ∧ ps.length = i
theorem DrawJ.start {l D : Addr} {pl : Int} {c : Nat} {ws : List Value} {rest : List (Addr × Obj)} {b : Int} {t : Tok} {k : Nat} : DrawJ l D pl c ws rest b 0 [] ((l, W.listOf #[.ref D, .int pl t] k) :: (D, W.listOf ws.toArray c) :: rest) :=
  ⟨t, k, [], by simp, ⟨.nil, by simp⟩, rfl⟩
/-- the tape's next place, and what the comprehension has made -/
noncomputable def DrawK (l D : Addr) (pl : Int) (c : Nat) (ws : List Value) (rest : List (Addr × Obj)) (K : Nat → List Value → Prop) (i : Nat) (ys : List Value) (nw : List (Addr × Obj)) : Prop :=
  ∃ t k, nw = (l, W.listOf #[.ref D, .int (pl + (i : Int)) t] k) :: (D, W.listOf ws.toArray c) :: rest ∧ K i ys
theorem DrawK.start {l D : Addr} {pl : Int} {c : Nat} {ws : List Value} {rest : List (Addr × Obj)} {K : Nat → List Value → Prop} {t : Tok} {k : Nat} (h : K 0 []) : DrawK l D pl c ws rest K 0 [] ((l, W.listOf #[.ref D, .int pl t] k) :: (D, W.listOf ws.toArray c) :: rest) :=
  ⟨t, k, by simp, h⟩
noncomputable abbrev wA : Array UInt8 := #[32, 97]
noncomputable abbrev wB : Array UInt8 := #[32, 98, 13, 10, 32, 99]
noncomputable abbrev wC : Array UInt8 := #[]
noncomputable def WorthK (i : Nat) (ys : List Value) : Prop := ∃ bs, Paired (fun (b : Array UInt8) y => ∃ u, y = Value.bytes b u) bs ys ∧ (∀ b ∈ bs, b = wA ∨ b = wB ∨ b = wC) ∧ bs.length = i
theorem WorthK.snoc {i : Nat} {ys : List Value} {b : Array UInt8} {u : Tok} (h : WorthK i ys) (hb : b = wA ∨ b = wB ∨ b = wC) : WorthK (i + 1) (ys ++ [.bytes b u]) := by
  obtain ⟨bs, h1, h2, h3⟩ := h
  refine ⟨bs ++ [b], h1.snoc ⟨u, rfl⟩, fun x hx => ?_, by simp [h3]⟩
  rcases List.mem_append.mp hx with hx | hx
  · exact h2 x hx
  · rw [List.mem_singleton.mp hx]; exact hb
theorem news_rot {h₀ h : Heap} {L : Addr} {a b c : Addr × Obj} {rest : List (Addr × Obj)} (N : News h₀ L h (a :: b :: c :: rest)) : News h₀ L h (b :: c :: a :: rest) :=
  fun p hp => N p (by simp only [List.mem_cons] at hp ⊢; rcases hp with h | h | h | h <;> simp [h])
theorem news_front {h₀ h : Heap} {L I C D' l D : Addr} {oI oC oD o1 o2 : Obj} {rest : List (Addr × Obj)} (N : News h₀ L h ((I, oI) :: (C, oC) :: (D', oD) :: (l, o1) :: (D, o2) :: rest)) : News h₀ L h ((l, o1) :: (D, o2) :: (I, oI) :: (C, oC) :: (D', oD) :: rest) :=
  fun p hp => N p (by simp only [List.mem_cons] at hp ⊢; rcases hp with h | h | h | h | h | h <;> simp [h])
theorem news_back {h₀ h : Heap} {L I C D' l D : Addr} {oI oC oD o1 o2 : Obj} {rest : List (Addr × Obj)} (N : News h₀ L h ((l, o1) :: (D, o2) :: (I, oI) :: (C, oC) :: (D', oD) :: rest)) : News h₀ L h ((I, oI) :: (C, oC) :: (D', oD) :: (l, o1) :: (D, o2) :: rest) :=
  fun p hp => N p (by simp only [List.mem_cons] at hp ⊢; rcases hp with h | h | h | h | h | h <;> simp [h])
theorem news_front4 {h₀ h : Heap} {L : Addr} {a b c d e f : Addr × Obj} {rest : List (Addr × Obj)} (N : News h₀ L h (a :: b :: c :: d :: e :: f :: rest)) : News h₀ L h (e :: f :: a :: b :: c :: d :: rest) :=
  fun p hp => N p (by simp only [List.mem_cons] at hp ⊢; rcases hp with h | h | h | h | h | h | h <;> simp [h])
theorem news_back4 {h₀ h : Heap} {L : Addr} {a b c d e f : Addr × Obj} {rest : List (Addr × Obj)} (N : News h₀ L h (e :: f :: a :: b :: c :: d :: rest)) : News h₀ L h (b :: c :: d :: e :: f :: rest) :=
  fun p hp => N p (by simp only [List.mem_cons] at hp ⊢; rcases hp with h | h | h | h | h | h <;> simp [h])
theorem off_front {I C D' l : Addr} {oI oC oD o1 : Obj} {rest more : List (Addr × Obj)} (off : Off3 I C D' ((l, o1) :: more)) (hr : ∀ q ∈ rest, q.1 ≠ l) : ∀ q ∈ (I, oI) :: (C, oC) :: (D', oD) :: rest, q.1 ≠ l := fun q hq => by
  rcases List.mem_cons.mp hq with rfl | hq
  · exact Ne.symm off.1.1
  rcases List.mem_cons.mp hq with rfl | hq
  · exact Ne.symm off.1.2.1
  rcases List.mem_cons.mp hq with rfl | hq
  · exact Ne.symm off.1.2.2
  · exact hr q hq
theorem row84 : True := by (k_with "MY pick" => ((repeat ((with_reducible refine List.forall_mem_cons.mpr ⟨?_, ?_⟩); focus k_mem)); exact List.forall_mem_nil _)); trivial
theorem row85 : True := by (k_with "MY allne" => ((repeat ((with_reducible refine List.forall_mem_cons.mpr ⟨?_, ?_⟩); focus k_ne)); exact List.forall_mem_nil _)); trivial

-- P23
open LCg
/-- the ten names, as the law has them -/
noncomputable def nmL : List (Array UInt8) := [#[67, 111, 110, 116, 101, 110, 116, 45, 84, 121, 112, 101], #[99, 111, 110, 116, 101, 110, 116, 45, 84, 89, 80, 69], #[67, 111, 110, 116, 101, 110, 116, 45, 84, 114, 97, 110, 115, 102, 101, 114, 45, 69, 110, 99, 111, 100, 105, 110, 103], #[77, 73, 77, 69, 45, 86, 101, 114, 115, 105, 111, 110], #[109, 105, 109, 101, 45, 118, 101, 114, 115, 105, 111, 110], #[67, 111, 110, 116, 101, 110, 116, 45, 68, 105, 115, 112, 111, 115, 105, 116, 105, 111, 110], #[88, 45, 67, 111, 110, 116, 101, 110, 116, 45, 84, 121, 112, 101], #[67, 111, 110, 116, 101, 110, 116, 45, 84, 121, 112], #[83, 117, 98, 106, 101, 99, 116], #[77, 73, 77, 69]]
noncomputable def nmB (k : Int) : Array UInt8 := nmL.getD k.toNat #[]
section
variable {prog : Program} {w : World} {A : Around} {E : Value → Shared → Prop} {s : Shared} {h₀ : Heap} {L : Addr} {m : Str → Option Value}
theorem name_item {value slice : Expr} {k : Int} {u : Tok} {Q : Value → Shared → Prop} (X : (layK.heap_1 w.params).In h₀) (F : Fr h₀ L s.heap m) (h0 : 0 ≤ k) (h1 : k < 10) (h : ∀ t, Q (.bytes (nmB k) t) s)
    (hs : subscripted slice false (.ref 618) (.int k u) = operate [.ref 618, .int k u] (getItem (.ref 618) (.int k u))) :
    wpAny (model prog w) A (subscriptTail value slice (.ref 618) (.int k u)) Q E s := by
  have hk : k = 0 ∨ k = 1 ∨ k = 2 ∨ k = 3 ∨ k = 4 ∨ k = 5 ∨ k = 6 ∨ k = 7 ∨ k = 8 ∨ k = 9 := by omega
  rcases hk with rfl | rfl | rfl | rfl | rfl | rfl | rfl | rfl | rfl | rfl
  all_goals (refine' item_tupleT (tup_of_K X F ?k1) ?k2 ?k3 ?k4 ?k5 (h _) hs; (case k1 => k_dflt k_is); (case k2 => decide); (case k3 => decide); (case k4 => rfl); (case k5 => rfl))
end
section
variable {prog : Program} {w : World} {p : Program} {loose : List Str} {mean : ExcName → Option Value} {mg mb : Str → Option Value}
theorem c_field {n r : Array UInt8} {t u : Tok}
    {dp un : Nat} {gd : Option (List Code)} {cn : Str} {cs : Scope} {a : Addr} {ccd : Value} {cl : List (Str × Addr)} {outer : List Env} {A₀ : Around} {base h₀ : Heap} {L : Addr} {m : Str → Option Value} {news : List (Addr × Obj)} {s : Shared}
    {Q E : Value → Shared → Prop} (B : Below A₀ base outer h₀) (F : Fr h₀ L s.heap m) (X : (layK.heap_1 w.params).In h₀) (N : News h₀ L s.heap news) (T : Top p loose mean mg mb h₀) (hk : cs.kind = .function) (hd : dp + 3 < recursionLimit) (hu : un + 20 < cLine)
    (hret : ∀ x dx h1 h2 t1 t3 h' tk', Fr h₀ L h' m → News h₀ L h' ((x, instObj 148 dx) :: (dx, dictOf [⟨h1, .str (Str.ofString "name") t1, .bytes n t⟩, ⟨h2, .str (Str.ofString "raw") t3, .bytes r u⟩] 2) :: news) → (∀ q ∈ news, q.1 < x) → (∀ q ∈ news, q.1 < dx) → @Ne Nat x dx → Q (.ref x) { s with heap := h', toks := tk' }) :
    wpAny (model prog w) (ktrTop dp un gd cn cs L a ccd cl outer) (call (.ref 148) [.bytes n t, .bytes r u]) Q E s := by
  k_dflt (refine' call_cls ?k1 ?k2 ?k3 ?k4 ?k5 ?k6 ?_; (case k1 => k_asm); (case k2 => k_asm); (case k3 => k_asm); (case k4 => k_is); (case k5 => k_is); (case k6 => k_is); k_whole; intro x' d' h' F' N' l1 l2; have l1b := l1; have l2b := l2; (try k_lt l1); (try k_lt2 l2); (try k_sweep); walk_at "MY enter")
  k_steps
  exact hret _ _ _ _ _ _ _ _ (by k_asm) (by k_asm) (fun q hq => Nat.lt_trans (l1b q hq) l2b) l1b (Nat.ne_of_gt l2b)
end
section
variable {prog : Program} {w : World} {A : Around} {E : Value → Shared → Prop} {s : Shared} {h₀ : Heap} {L : Addr} {m : Str → Option Value} {env : Env}
/-- a comprehension over tuples whose turns change the ledger -/
theorem restG_state {elt : Expr} {ns : List Str} {scope : Scope} {cl : List (Str × Addr)} {S : List (Addr × Obj) → Prop} {P : Nat → List Value → Prop} {Fin : List Value → List (Addr × Obj) → Prop} {news : List (Addr × Obj)} {n : Nat} (J : Nat → List Value → List (Addr × Obj) → Prop)
    (turn : ∀ i ys news vals C oC D own m₁ m₂ h tk (E' : Value → Shared → Prop), i < n → J i ys news → P i vals → NsObj oC m₂ → m₂ = Gc.bindL ns vals m₁ → Fr h₀ L h m → News h₀ L h ((C, oC) :: (D, lst ys) :: (own ++ news)) → (∀ p ∈ news, p.1 ≠ C ∧ p.1 ≠ D ∧ ∀ q ∈ own, p.1 ≠ q.1) → (∀ q ∈ own, q.1 ≠ C ∧ q.1 ≠ D) → C ≠ D →
      wpAny (model prog w) A (eval elt (compEnvC scope cl C env)) (Gc.EndG h₀ L m { s with heap := h, toks := tk } C oC D (lst ys) own S fun y news' => J (i + 1) (ys ++ [y]) news') E' { s with heap := h, toks := tk })
    (fin : ∀ ys news, J n ys news → Fin ys news) (h0 : J 0 [] news) : Gc.RestG prog w A h₀ L m env none elt ns scope cl s S P Fin n 0 [] news := by
  have key : ∀ (j i : Nat) (ys : List Value) (news : List (Addr × Obj)), i + j = n → J i ys news → Gc.RestG prog w A h₀ L m env none elt ns scope cl s S P Fin j i ys news := by
    intro j
    induction j with
    | zero =>
      intro i ys news hi hy
      have e : i = n := by omega
      subst e
      exact fin ys news hy
    | succ j ih =>
      intro i ys news hi hy
      show ∀ vals C oC D own m₁ m₂ h tk E', _
      intro vals C oC D own m₁ m₂ h tk E' hv hC hm F N off ownO ne
      refine wpAny_mono (turn i ys news vals C oC D own m₁ m₂ h tk E' (by omega) hy hv hC hm F N off ownO ne) (fun y s₂ hq => ?_) fun _ _ e => e
      obtain ⟨h', tk', news', e, F', N', off', hS, hJ⟩ := hq
      exact ⟨h', tk', news', e, F', N', off', hS, ih (i + 1) _ news' (by omega) hJ⟩
  exact key n 0 [] news (by omega) h0
end
/-- the fields made so far -/
noncomputable def FieldsJ (base : List (Addr × Obj)) (lb : Addr) (fs : List (Array UInt8 × Array UInt8)) (i : Nat) (ys : List Value) (nw : List (Addr × Obj)) : Prop :=
  ∃ fl, nw = fl ++ base ∧ Paired (FieldAt fl) (fs.take i) ys ∧ ∀ q ∈ fl, @LT.lt Nat _ lb q.1
theorem FieldsJ.start {base : List (Addr × Obj)} {lb : Addr} {fs : List (Array UInt8 × Array UInt8)} : FieldsJ base lb fs 0 [] base := ⟨[], rfl, .nil, by simp⟩
theorem FieldsJ.turn {h₀ h' : Heap} {L lb : Addr} {m : Str → Option Value} {s₁ : Shared} {C D x dx : Addr} {oC oD lo : Obj} {own base nw : List (Addr × Obj)} {fs : List (Array UInt8 × Array UInt8)} {i : Nat} {ys : List Value} {n r : Array UInt8} {h1 h2 : Int} {t t1 t3 u : Tok} {tk' : Nat} {S : List (Addr × Obj) → Prop}
    (J : FieldsJ base lb fs i ys nw) (hlb : (lb, lo) ∈ base) (hf : fs[i]? = some (n, r)) (F : Fr h₀ L h' m)
    (N : News h₀ L h' ((x, instObj 148 dx) :: (dx, dictOf [⟨h1, .str (Str.ofString "name") t1, .bytes n t⟩, ⟨h2, .str (Str.ofString "raw") t3, .bytes r u⟩] 2) :: (C, oC) :: (D, oD) :: (own ++ nw)))
    (hx : ∀ q ∈ (C, oC) :: (D, oD) :: (own ++ nw), q.1 < x) (hdx : ∀ q ∈ (C, oC) :: (D, oD) :: (own ++ nw), q.1 < dx) (off : ∀ p ∈ nw, p.1 ≠ C ∧ p.1 ≠ D ∧ ∀ q ∈ own, p.1 ≠ q.1) (hS : ∀ more, S (more ++ nw)) :
    Gc.EndG h₀ L m s₁ C oC D oD own S (fun y news' => FieldsJ base lb fs (i + 1) (ys ++ [y]) news') (.ref x) { s₁ with heap := h', toks := tk' } := by
  obtain ⟨fl, rfl, hP, hl⟩ := J
  refine ⟨h', tk', (x, instObj 148 dx) :: (dx, dictOf [⟨h1, .str (Str.ofString "name") t1, .bytes n t⟩, ⟨h2, .str (Str.ofString "raw") t3, .bytes r u⟩] 2) :: (fl ++ base), rfl, F, fun p hp => N p ?_, ?_, hS [_, _], _ :: _ :: fl, rfl, ?_, ?_⟩
  · simp only [List.mem_cons, List.mem_append] at hp ⊢
    rcases hp with h | h | h | h | h | h | h <;> simp [h]
  · have key : ∀ z, (∀ q ∈ (C, oC) :: (D, oD) :: (own ++ (fl ++ base)), q.1 < z) → z ≠ C ∧ z ≠ D ∧ ∀ q ∈ own, z ≠ q.1 := fun z hz =>
      ⟨Nat.ne_of_gt (hz _ (.head _)), Nat.ne_of_gt (hz _ (.tail _ (.head _))), fun q hq => Nat.ne_of_gt (hz q (.tail _ (.tail _ (List.mem_append_left _ hq))))⟩
    intro p hp
    rcases List.mem_cons.mp hp with rfl | hp
    · exact key _ hx
    rcases List.mem_cons.mp hp with rfl | hp
    · exact key _ hdx
    · exact off p hp
  · rw [List.take_add_one, hf]
    refine Paired.snoc (fields_mono hP fun p hp => .tail _ (.tail _ hp)) ⟨x, rfl, dx, h1, t1, t, h2, t3, u, .head _, .tail _ (.head _)⟩
  · have hb : (lb, lo) ∈ (C, oC) :: (D, oD) :: (own ++ (fl ++ base)) := .tail _ (.tail _ (List.mem_append_right _ (List.mem_append_right _ hlb)))
    intro q hq
    rcases List.mem_cons.mp hq with rfl | hq
    · exact hx _ hb
    rcases List.mem_cons.mp hq with rfl | hq
    · exact hdx _ hb
    · exact hl q hq
theorem picks_at {b : Int} : ∀ {ys : List Value} {ps : List Int}, Drawn b ys ps → ∀ {i : Nat} {x : Value}, ys[i]? = some x → ∃ k t, ps[i]? = some k ∧ x = .int k t ∧ 0 ≤ k ∧ k < b := by
  intro ys ps ⟨hI, hb⟩ i x e
  have key : ∀ {ys : List Value} {ps : List Int}, IntsAre ys ps → ∀ (i : Nat) (x : Value), ys[i]? = some x → ∃ k t, ps[i]? = some k ∧ x = .int k t := by
    intro ys ps h
    induction h with
    | nil => intro i x e; simp at e
    | cons n t r ih =>
      intro i x e
      cases i with
      | zero => cases e; exact ⟨n, t, rfl, rfl⟩
      | succ i => simpa using ih i x (by simpa using e)
  obtain ⟨k, t, h1, h2⟩ := key hI i x e
  exact ⟨k, t, h1, h2, hb k (List.mem_of_getElem? h1)⟩
/-- the fields that the law builds -/
noncomputable def fldsOf (ps : List Int) (bs : List (Array UInt8)) : List (Array UInt8 × Array UInt8) := (ps.zip bs).map fun q => (nmB q.1, q.2)
theorem fldsOf_get {ps : List Int} {bs : List (Array UInt8)} {i : Nat} {k : Int} {b : Array UInt8} (h1 : ps[i]? = some k) (h2 : bs[i]? = some b) : (fldsOf ps bs)[i]? = some (nmB k, b) := by
  unfold fldsOf
  rw [List.getElem?_map, List.getElem?_zip_eq_some (z := (k, b)) |>.mpr ⟨h1, h2⟩]
  rfl
theorem row86 : True := by (k_with "Q subscriptTail" => (k_here; (with_reducible show wpAny _ _ (subscriptTail _ _ (Value.ref 618) (Value.int _ _)) _ _ _); k_dflt (refine' name_item ?k1 ?k2 ?k3 ?k4 ?_ ?k5; (case k1 => k_asm); (case k2 => k_asm); (case k3 => assumption); (case k4 => assumption); (case k5 => with_unfolding_all rfl)); intro zt9)); trivial

-- P24
open LCg
theorem off1_mem {D : Addr} : ∀ {l : List (Addr × Obj)}, Off1 D l → ∀ p ∈ l, p.1 ≠ D
  | [], _, _, h => nomatch h
  | _ :: _, x, p, h => by
    rcases List.mem_cons.mp h with rfl | h
    · exact x.1
    · exact off1_mem x.2 p h
theorem off1_right {D : Addr} : ∀ {a b : List (Addr × Obj)}, Off1 D (a ++ b) → Off1 D b
  | [], _, h => h
  | _ :: _, _, h => off1_right h.2
theorem news_swap {h₀ h : Heap} {L : Addr} {a : Addr × Obj} {fl base : List (Addr × Obj)} (N : News h₀ L h (a :: (fl ++ base))) : News h₀ L h (a :: (base ++ fl)) := fun p hp => N p (by
  simp only [List.mem_cons, List.mem_append] at hp ⊢
  rcases hp with h | h | h <;> simp [h])
theorem ne_of_above {l : List (Addr × Obj)} {I c : Addr} (h : ∀ p ∈ l, @LT.lt Nat _ I p.1) (k : @LE.le Nat _ c I) : ∀ p ∈ l, p.1 ≠ c := fun p hp => Nat.ne_of_gt (Nat.lt_of_le_of_lt k (h p hp))
/-- the fields stand -/
noncomputable def MidFields (h₀ : Heap) (L : Addr) (m : Str → Option Value) (s : Shared) (Dp Dw p2 p3 p4 : Addr) (ys ys2 : List Value) (o3 o4 : Obj) (q : Addr × Obj) (fs : List (Array UInt8 × Array UInt8)) (f : Flow) (s' : Shared) : Prop :=
  f = .next ∧ ∃ Tf zs nT o2' fl h tk', s' = { s with heap := h, toks := tk' } ∧ Fr h₀ L h m ∧ News h₀ L h ((Tf, ({ cls := .type "tuple", data := .seq zs.toArray nT } : Obj)) :: (Dp, lst ys) :: (Dw, lst ys2) :: (p4, o4) :: (p3, o3) :: (p2, o2') :: q :: fl) ∧ o2'.data = .cell (some (.ref Tf)) ∧
      Paired (FieldAt fl) fs zs ∧ (∀ e ∈ fl, @LT.lt Nat _ p4 e.1) ∧ @LT.lt Nat _ p4 Tf
theorem cut_fields {prog : Program} {w : World} {A : Around} {E : Value → Shared → Prop} {Q : Flow → Shared → Prop} {s : Shared} {h₀ : Heap} {L p2 p3 p4 Dp Dw l D p1 : Addr} {ol oD o1 o2 o3 o4 : Obj} {ys ys2 : List Value} {q : Addr × Obj} {m : Str → Option Value} {t : Sem Flow} (fs : List (Array UInt8 × Array UInt8))
    (_F : Fr h₀ L s.heap m) (_N : News h₀ L s.heap [(Dw, lst ys2), (l, ol), (D, oD), (Dp, lst ys), (p4, o4), (p3, o3), (p2, o2), (p1, o1), q])
    (h1 : wpAny (model prog w) A t (MidFields h₀ L m s Dp Dw p2 p3 p4 ys ys2 o3 o4 q fs) E s)
    (h2 : ∀ Tf zs nT o2' fl h tk', Fr h₀ L h m → News h₀ L h ((Tf, ({ cls := .type "tuple", data := .seq zs.toArray nT } : Obj)) :: (Dp, lst ys) :: (Dw, lst ys2) :: (p4, o4) :: (p3, o3) :: (p2, o2') :: q :: fl) → o2'.data = .cell (some (.ref Tf)) →
      Paired (FieldAt fl) fs zs → (∀ e ∈ fl, @LT.lt Nat _ p4 e.1) → @LT.lt Nat _ p4 Tf → Q .next { s with heap := h, toks := tk' }) : wpAny (model prog w) A t Q E s := by
  refine wpAny_mono h1 (fun f s' hq => ?_) fun _ _ e => e
  obtain ⟨rfl, Tf, zs, nT, o2', fl, h, tk', rfl, F, N, a1, a2, a3, a4⟩ := hq
  exact h2 Tf zs nT o2' fl h tk' F N a1 a2 a3 a4
theorem fr_congr {h₀ h : Heap} {L : Addr} {m m' : Str → Option Value} (F : Fr h₀ L h m) (e : ∀ z, m' z = m z) : Fr h₀ L h m' := (funext e : m' = m) ▸ F
/-- a name is stored, the ledger stays -/
noncomputable def MidSame (h₀ : Heap) (L : Addr) (m : Str → Option Value) (s : Shared) (news : List (Addr × Obj)) (x : Str) (V : Value → Prop) (f : Flow) (s' : Shared) : Prop :=
  f = .next ∧ ∃ v h tk', s' = { s with heap := h, toks := tk' } ∧ Fr h₀ L h (fun z => if z = x then some v else m z) ∧ News h₀ L h news ∧ V v
theorem cut_same {prog : Program} {w : World} {A : Around} {E : Value → Shared → Prop} {Q : Flow → Shared → Prop} {s : Shared} {h₀ : Heap} {L : Addr} {m : Str → Option Value} {t : Sem Flow} {news : List (Addr × Obj)} (x : Str) (V : Value → Prop) (_F : Fr h₀ L s.heap m) (_N : News h₀ L s.heap news)
    (h1 : wpAny (model prog w) A t (MidSame h₀ L m s news x V) E s)
    (h2 : ∀ v h tk', Fr h₀ L h (fun z => if z = x then some v else m z) → News h₀ L h news → V v → Q .next { s with heap := h, toks := tk' }) : wpAny (model prog w) A t Q E s := by
  refine wpAny_mono h1 (fun f s' hq => ?_) fun _ _ e => e
  obtain ⟨rfl, v, h, tk', rfl, F, N, a⟩ := hq
  exact h2 v h tk' F N a
/-- nothing is stored; the ledger is what is kept of it -/
noncomputable def MidPass (h₀ : Heap) (L : Addr) (m : Str → Option Value) (s : Shared) (news : List (Addr × Obj)) (f : Flow) (s' : Shared) : Prop :=
  f = .next ∧ ∃ h tk', s' = { s with heap := h, toks := tk' } ∧ Fr h₀ L h m ∧ News h₀ L h news
theorem cut_pass {prog : Program} {w : World} {A : Around} {E : Value → Shared → Prop} {Q : Flow → Shared → Prop} {s : Shared} {h₀ : Heap} {L : Addr} {m : Str → Option Value} {t : Sem Flow} {news : List (Addr × Obj)} (_F : Fr h₀ L s.heap m) (_N : News h₀ L s.heap news)
    (h1 : wpAny (model prog w) A t (MidPass h₀ L m s news) E s)
    (h2 : ∀ h tk', Fr h₀ L h m → News h₀ L h news → Q .next { s with heap := h, toks := tk' }) : wpAny (model prog w) A t Q E s := by
  refine wpAny_mono h1 (fun f s' hq => ?_) fun _ _ e => e
  obtain ⟨rfl, h, tk', rfl, F, N⟩ := hq
  exact h2 h tk' F N
theorem nmB_size (k : Int) : (nmB k).size ≤ 30 := by
  unfold nmB
  rw [List.getD_eq_getElem?_getD]
  cases e : nmL[k.toNat]? with
  | none => decide
  | some b =>
    have h : ∀ b ∈ nmL, b.size ≤ 30 := by decide
    exact h b (List.mem_of_getElem? e)
/-- the law's own numbers -/
noncomputable def ownI (q : Int) : Bool := ([0, 1, 2, 3, 4] : List Int).any (· == q)
/-- a field that the law builds -/
noncomputable def LawF (f : Array UInt8 × Array UInt8) : Prop := ∃ k, 0 ≤ k ∧ k < 10 ∧ f.1 = nmB k ∧ (f.2 = wA ∨ f.2 = wB ∨ f.2 = wC)
theorem lawF_size {b : Array UInt8} (h : b = wA ∨ b = wB ∨ b = wC) : b.size ≤ 6 := by
  rcases h with rfl | rfl | rfl <;> decide
theorem fldBytes_size {f : Array UInt8 × Array UInt8} (h : LawF f) : (fldBytes f).size ≤ 40 := by
  obtain ⟨k, _, _, h1, h2⟩ := h
  have h3 := nmB_size k
  have h4 := lawF_size h2
  unfold fldBytes
  simp only [Array.size_append, List.size_toArray, List.length_cons, List.length_nil, h1]
  omega
theorem lawF_sound {f : Array UInt8 × Array UInt8} (h : LawF f) : SoundF f.1 f.2 := by
  obtain ⟨k, h0, h1, e1, e2⟩ := h
  have hz := nmB_size k
  have hz2 := lawF_size e2
  refine ⟨by rw [e1]; omega, ?_, ?_, by omega, ?_⟩
  · rw [e1]
    have hk : k = 0 ∨ k = 1 ∨ k = 2 ∨ k = 3 ∨ k = 4 ∨ k = 5 ∨ k = 6 ∨ k = 7 ∨ k = 8 ∨ k = 9 := by omega
    rcases hk with rfl | rfl | rfl | rfl | rfl | rfl | rfl | rfl | rfl | rfl <;> decide
  · rw [e1]
    have hk : k = 0 ∨ k = 1 ∨ k = 2 ∨ k = 3 ∨ k = 4 ∨ k = 5 ∨ k = 6 ∨ k = 7 ∨ k = 8 ∨ k = 9 := by omega
    rcases hk with rfl | rfl | rfl | rfl | rfl | rfl | rfl | rfl | rfl | rfl <;> decide +kernel
  · rcases e2 with h | h | h
    · exact .inl (by rw [h]; decide +kernel)
    · exact .inr (.inl h)
    · exact .inl (by rw [h]; decide +kernel)
/-- barred just where the law's own numbers stand -/
theorem barred_own {k : Int} (h0 : 0 ≤ k) (h1 : k < 10) (b : Array UInt8) : barred (nmB k, b) = ownI k := by
  have hk : k = 0 ∨ k = 1 ∨ k = 2 ∨ k = 3 ∨ k = 4 ∨ k = 5 ∨ k = 6 ∨ k = 7 ∨ k = 8 ∨ k = 9 := by omega
  have e : barred (nmB k, b) = ownW.any (· == wordOf (nmB k)) := rfl
  rw [e]
  rcases hk with rfl | rfl | rfl | rfl | rfl | rfl | rfl | rfl | rfl | rfl <;> decide +kernel
theorem fldsOf_lawF {ps : List Int} {bs : List (Array UInt8)} (h1 : ∀ q ∈ ps, 0 ≤ q ∧ q < 10) (h2 : ∀ b ∈ bs, b = wA ∨ b = wB ∨ b = wC) : ∀ f ∈ fldsOf ps bs, LawF f := fun f hf => by
  obtain ⟨q, hq, rfl⟩ := List.mem_map.mp hf
  obtain ⟨a, b⟩ := List.of_mem_zip hq
  exact ⟨q.1, (h1 _ a).1, (h1 _ a).2, rfl, h2 _ b⟩
theorem fldsOf_len3 {ps : List Int} {bs : List (Array UInt8)} {n : Int} (h : ps.length = n.toNat) (h1 : n < 4) : (fldsOf ps bs).length ≤ 3 := by simp [fldsOf]; omega
theorem barred_all : ∀ {ps : List Int} {bs : List (Array UInt8)}, (∀ q ∈ ps, 0 ≤ q ∧ q < 10) → ps.length = bs.length → (!((ps.filter ownI).length == 0)) = decide (∃ f ∈ fldsOf ps bs, barred f = true)
  | [], [], _, _ => by simp [fldsOf]
  | q :: ps, b :: bs, h, hl => by
    have ih := barred_all (ps := ps) (bs := bs) (fun x hx => h x (.tail _ hx)) (by simpa using hl)
    have e : fldsOf (q :: ps) (b :: bs) = (nmB q, b) :: fldsOf ps bs := rfl
    have hb := barred_own (h q (.head _)).1 (h q (.head _)).2 b
    rw [e, List.filter_cons]
    cases hq : ownI q with
    | true => simp [hb, hq]
    | false =>
      rw [hq] at hb
      rw [if_neg (by decide), ih]
      simp [hb]
  | [], _ :: _, _, hl => by simp at hl
  | _ :: _, [], _, hl => by simp at hl
theorem row87 : True := by (k_with "Q k_all" => exact ne_of_above (by assumption) (by (first | exact Nat.le_refl _ | omega))); trivial
theorem row88 : True := by (k_with "MY pickT" => ((repeat ((with_reducible refine List.forall_mem_cons.mpr ⟨?_, ?_⟩); focus k_mem)); walk_at "MY sub")); trivial

-- P25
namespace Xc
open PySem.Spec
section
variable {prog : Program} {w : World} {A₀ : Around} {E : Value → Shared → Prop} {s' : Shared} {h₀ h : Heap} {L a e t C : Addr} {m : Str → Option Value} {name : Str} {scope : Scope} {cd : Value} {cl : List (Str × Addr)}
  {vs : List Value} {b₀ : Stmt} {suite : List Stmt} {pos np : Pos} {rest : List ExceptHandler} {Q : Flow → Shared → Prop} {news : List (Addr × Obj)} {KF : Frag}
  {p : Program} {loose : List Str} {mg mb : Str → Option Value} {x : Str}
/-- an own exception with an __init__, caught by its own name in the outermost frame -/
theorem caught_top (K : Below A₀ h₀ [] h₀) (F : Fr h₀ L h m) (hsm : h.UpToSlots s'.heap) (R : RaisedK h₀ [envX name scope L a cd cl] e (.ref C) t vs news s'.heap)
    (X : KF.In h₀) (T : TopRead p loose mg mb h₀) (ex : nsIn KF mainGlobals x = some (some (.ref C))) (q : ktsIn KF C "BaseException" = true)
    (k : ∀ h', Fr h₀ L h' m → News h₀ L h' news →
      wpAny (model prog w) ((A₀.deeper (envX name scope L a cd cl)).mark (some (.ref e))) (execs (b₀ :: suite) (envX name scope L a cd cl)) Q E { s' with heap := h' })
    (hk : scope.kind = .function) (hx : (envX name scope L a cd cl).kindOf x = some .globalImplicit) (hd : (x == ("__debug__" : Str)) = false)
    (hE : PassesOwnAt (model prog w) ((A₀.deeper (envX name scope L a cd cl)).mark (some (.ref e))) (A₀.deeper (envX name scope L a cd cl)) (envX name scope L a cd cl) E) :
    wpAny (model prog w) (A₀.deeper (envX name scope L a cd cl)) (noteFrame (.ref e) (envX name scope L a cd cl))
      (fun _ s₂ => wpAny (model prog w) (A₀.deeper (envX name scope L a cd cl)) (setFlight (.ref e) none) (fun _ s₃ =>
        wpAny (model prog w) (A₀.deeper (envX name scope L a cd cl)) (handleBy (.ref e) (envX name scope L a cd cl) (.ExceptHandler (some (.Name x np)) none (b₀ :: suite) pos :: rest)) Q E s₃) E s₂) E s' := by
  obtain ⟨⟨B, hB, hl, hfl, hnew⟩, htup⟩ := R
  have hL : B.get? L = none := by
    obtain ⟨_, ⟨L', _, hf', hn', _⟩, _⟩ := hfl.2.2.1
    cases hf'
    exact hn'
  refine wpAny_looks_onW (Around.frames_deeper K.stack) rfl hfl fun h₁ held₁ up₁ => wpAny_landsW held₁ fun h₂ held₂ up₂ => ?_
  have up := up₁.trans up₂
  have F₂ : Fr h₀ L h₂ m := F.of_stays (flyingW_base hB held₂).1 (hsm.trans up)
  obtain ⟨ob, hob, hcls⟩ := held₂.there
  obtain ⟨nm, qn, Ns, bs, bm, hdct, sn, sub, ab, col, dd, k0, k1, k2, k3, k5, newId, hC, hbase, -⟩ := kts_cls X q
  refine wpAny_handleBy_cons (codeAny_handlers_test (nameX_K F₂ X T ex ?_ hk hx hd)) (by intro z; cases z)
  refine wpAny_excMatches_sub_self (F₂.keep _ _ hC) hob hcls hbase (codeAny_handlers_suite ?_)
  refine lands_againW held₂ fun h₃ fly₃ up₃ => wpAny_passesOwnAt hE (k h₃ (F.of_stays (flyingW_base hB fly₃).1 ((hsm.trans up).trans up₃)) fun z hz => ?_)
  exact ⟨fly₃.1 _ _ (hl z hz).1, (fun y => by have := (hl z hz).1; rw [y, hL] at this; cases this), (hl z hz).2⟩
end
end Xc

-- P26
namespace Xc
open PySem.Spec
section
variable {prog : Program} {w : World} {A₀ A : Around} {s : Shared} {base h₀ : Heap} {L : Addr} {m : Str → Option Value} {env : Env} {news : List (Addr × Obj)} {K : Frag} {p : Program} {loose : List Str} {mean : ExcName → Option Value} {mg mb : Str → Option Value}
    {R : Result → Shared → Prop} {name qual : Str} {params : Arguments} {body : List Stmt} {scope : Scope} {dV kV doc pm cdv ct oc : Value} {an od : Option Addr} {osl : Array (Option Value)} {f : Addr} {args : Args} {binds : List (Str × Value)}
/-- the way back over a ground of which one frame has turned -/
theorem back_turned {g : Heap} {v : Value} {s' : Shared} (FG : Fr h₀ L g m) (hl : LeaveS0 [L] h₀ L m g R v s') : R (.ok (.ret v)) s' := by
  obtain ⟨g', L', m', news', T', F', N', k⟩ := hl
  have hL₀ : h₀.get? L = none := kts_self FG
  obtain ⟨oL, es, ep, hL, hd, hkeys, hfind⟩ := FG.ns
  obtain ⟨sl, hs⟩ := T'.up hL
  have stay : ∀ b o, h₀.get? b = some o → g'.get? b = some o := fun b o e => T'.other b o (FG.keep b o e) fun q => by
    rw [List.mem_singleton.mp q, hL₀] at e; cases e
  refine k ⟨⟨_, es, ep, F'.keep _ _ hs, hd, hkeys, hfind⟩, fun b o e => F'.keep b o (stay b o e), FG.above⟩ fun q hq => ⟨(N' q hq).1, fun z => ?_, ?_⟩
  · have e := (N' q hq).2.2
    rw [z, hs] at e; cases e
  · cases e : h₀.get? q.1 with
    | none => rfl
    | some o =>
      have e2 := (N' q hq).2.2
      rw [stay _ _ e] at e2; cases e2
/-- a def that catches, called from the outermost frame -/
theorem code_defT (B : Below A₀ base [] h₀) (F : Fr h₀ L s.heap m) (X₀ : K.In h₀) (N : News h₀ L s.heap news) (T : Top p loose mean mg mb h₀) (hA : A.frames = some [env]) (hf : env.frame = some L) (hke : env.scope.kind = .function)
    (ho : K.lookup f = some ⟨oc, od, .func (fnOf name qual params body scope dV kV doc pm an cdv ct), osl⟩) (hcd : codeIn K cdv qual = true) (hroom : A.depth < recursionLimit)
    (hbind : BindsTo s (fnOf name qual params body scope dV kV doc pm an cdv ct) args binds) (hloc : ∀ y ∈ binds, scope.names.lookup y.1 = some .local)
    (h : ∀ g L' h₁, Fr h₀ L g m → Fr g L' h₁ (fun y => binds.reverse.lookup y) → News g L' h₁ news → Below A base [env] g → K.In g → Top p loose mean mg mb g → KtsDicts [L] g →
      wpAny (model prog w) (A.deeper (envOf qual scope L' f cdv)) (execs body (envOf qual scope L' f cdv))
        (fun fl s' => LeaveS0 [L] h₀ L m g R (match fl with | .ret v => v | _ => .none) s')
        (fun e s' => wpAny (model prog w) (A.deeper (envOf qual scope L' f cdv)) (leaving (envOf qual scope L' f cdv) e) (fun _ s'' => R (.error e) s'') (fun e' s'' => R (.error e') s'') s')
        { s with heap := h₁, toks := s.toks + binds.length })
    (hco : scope.isCoroutine = false) (hgen : scope.isGenerator = false) (hk : scope.kind = .function)
    (hcell : ∀ x ∈ scope.names, x.2 ≠ .cell) : codeAny (model prog w) A (.call (.ref f) args) R s := by
  obtain ⟨FG, BG, st, -⟩ := groundX (R := R) B F N hA hf hke
  refine codeAny_call_def (fd := fnOf name qual params body scope dV kV doc pm an cdv ct) (body := body) (binds := binds) hroom ((X₀.keeps F.keep) _ _ ho) rfl (T.nolimit.keeps F.keep) (codeRec_of (X₀.keeps F.keep) hcd) rfl hbind hcell hloc (fun h₁ hns hk₁ => ?_) hco hgen hk
  refine wpAny_mono (h _ s.heap.objs.size h₁ FG ⟨hns, fun b o e => hk₁ b o (of_hideAll _ e), Nat.le_of_eq (hideAll_size _ _)⟩
    (fun q hq => ⟨hk₁ _ _ (N q hq).1, Nat.ne_of_lt (Heap.lt_size (N q hq).1), hideAll_none _ (List.mem_map_of_mem hq)⟩) BG (X₀.keeps st) (T.keeps st) (fun b hb => ?_)) (fun fl s' hl => back_turned FG hl) fun _ _ y => y
  obtain ⟨oL, es, ep, hL, hd, _⟩ := FG.ns
  rw [List.mem_singleton.mp hb]
  exact ⟨oL, es, ep, hL, hd⟩
end
end Xc
section
variable {prog : Program} {w : World} {p : Program} {loose : List Str} {mean : ExcName → Option Value} {mg mb : Str → Option Value}
theorem c_made {f : Addr} {Rel : List (Addr × Obj) → Prop} {Out : Value → Prop} {Bad : Prop} (C : CtrR prog w p loose mean mg mb f 40 400 Rel [] Out Bad) (hfn : ∀ nw, Rel nw → ∃ oc od fd sl, (f, (⟨oc, od, .func fd, sl⟩ : Obj)) ∈ nw)
    {dp un : Nat} {gd : Option (List Code)} {cn : Str} {cs : Scope} {a : Addr} {ccd : Value} {cl : List (Str × Addr)} {A₀ : Around} {base h₀ : Heap} {L : Addr} {m : Str → Option Value} {news : List (Addr × Obj)} {s : Shared}
    {Q E : Value → Shared → Prop} (B : Below A₀ base [] h₀) (F : Fr h₀ L s.heap m) (X : (layK.heap_1 w.params).In h₀) (N : News h₀ L s.heap news) (T : Top p loose mean mg mb h₀) (XB : (layK.heap_1 w.params).In base) (TB : Top p loose mean mg mb base) (hk : cs.kind = .function) (hR : Rel news)
    (hd : dp + 60 < recursionLimit) (hu : un + 500 < cLine)
    (hret : ∀ r h' tk', Fr h₀ L h' m → News h₀ L h' news → (Out r ∨ (Bad ∧ r = .none)) → Q r { s with heap := h', toks := tk' }) :
    wpAny (model prog w) (ktrTop dp un gd cn cs L a ccd cl []) (call (.ref 626) [.ref f]) Q E s := by
  refine wpAny_call ?_
  k_dflt (refine' Xc.code_defT ?k1 ?k2 ?k3 ?k4 ?k5 ?kA ?kF ?kK ?k6 ?k7 ?k8 ?k9 ?kB ?_ ?c2 ?c3 ?c4 ?c5; (case kA => exact rfl); (case kF => exact rfl); (case kK => first | exact rfl | assumption); (case k1 => k_asm); (case k2 => k_asm); (case k3 => k_asm); (case k4 => k_asm); (case k5 => k_asm); (case k6 => k_is); (case k7 => k_is); (case k8 => ktr_room); (case k9 => first | exact BindsTo.of_eq rfl | exact binds_K (by k_in) rfl (by k_is) rfl rfl rfl); (case c5 => decide); (case kB => exact locs rfl); (case c2 => exact rfl); (case c3 => exact rfl); (case c4 => exact rfl); k_whole)
  intro g L' h1 FG F' N' B' X' T' D'
  (try dsimp only)
  (try k_lift B')
  (try k_fold)
  obtain ⟨oc, od, fd, sl, hmf⟩ := hfn _ hR
  repeat' (fail_if_success (with_reducible show wpAny _ _ (callWith _ (Value.ref _) _ _ _) _ _ _)); first | (k_unfold; (try dsimp only)) | walk1 | (dsimp only; walk1)
  refine callWith_F0 (FnAt.of (by k_asm) hmf) ?_
  k_dflt (refine' CtrR.use C ?B ?F ?X ?N ?T ?kK ?kR ?kd ?ku ?_ ?_)
  case B => exact B'
  case F => k_asm
  case X => exact X'
  case N => k_asm
  case T => exact T'
  case kK => exact rfl
  case kd => ktr_room
  case ku => ktr_units
  case kR => exact hR
  · intro r h4 tk4 F4 N4 ho
    k_steps
    exact hret _ _ _ (by k_asm) (by k_asm) (.inl ho)
  · intro hb e t ws g1 h4 tk4 F4 U4 R4
    k_dflt (refine' caught_SO0 R4 F4 B' U4 XB TB ?D KtsTurn.refl ?ex ?q ?_; (case D => exact D'); (case ex => k_is); (case q => kts_isx))
    intro h5 g5 n5 T5 F5 N5 G5 N6 B5 X5 P5 D5
    k_steps
    exact hret _ _ _ (by k_asm) (by k_asm) (.inr ⟨hb, rfl⟩)
end

-- P27
/-- a leaf is made and stored in a cell -/
noncomputable def MidLeaf (prog : Program) (w : World) (h₀ : Heap) (L : Addr) (m : Str → Option Value) (s : Shared) (P : Obj → List (Addr × Obj)) (more : List (Addr × Obj)) (lb : Addr) (vs : List Value) (fs : List (Array UInt8 × Array UInt8)) (f : Flow) (s' : Shared) : Prop :=
  f = .next ∧ ∃ lf oc more' h tk', s' = { s with heap := h, toks := tk' } ∧ Fr h₀ L h m ∧ News h₀ L h (P oc ++ more') ∧ oc.data = .cell (some (.ref lf)) ∧ (∀ e ∈ more, e ∈ more') ∧ LeafR prog w more' lf vs fs ∧ ∀ e ∈ more', @LT.lt Nat _ lb e.1
theorem news_plain {h₀ h : Heap} {L : Addr} {a b c d4 d3 d2 q : Addr × Obj} {fl : List (Addr × Obj)} (N : News h₀ L h (a :: b :: c :: d4 :: d3 :: d2 :: q :: fl)) : News h₀ L h (d4 :: d3 :: d2 :: q :: a :: fl) :=
  fun p hp => N p (by simp only [List.mem_cons] at hp ⊢; rcases hp with h | h | h | h | h | h <;> simp [h])
theorem above_cons {lb Tf : Addr} {o : Obj} {fl : List (Addr × Obj)} (h1 : @LT.lt Nat _ lb Tf) (h2 : ∀ e ∈ fl, @LT.lt Nat _ lb e.1) : ∀ e ∈ (Tf, o) :: fl, @LT.lt Nat _ lb e.1 := fun e he => by
  rcases List.mem_cons.mp he with rfl | he
  · exact h1
  · exact h2 e he
theorem cut_plain {prog : Program} {w : World} {A : Around} {E : Value → Shared → Prop} {Q : Flow → Shared → Prop} {s : Shared} {h₀ : Heap} {L p4 : Addr} {m : Str → Option Value} {t : Sem Flow} {o4 : Obj} {a3 a2 q : Addr × Obj} {more : List (Addr × Obj)} (_F : Fr h₀ L s.heap m) (_N : News h₀ L s.heap ((p4, o4) :: a3 :: a2 :: q :: more))
    (h1 : wpAny (model prog w) A t (MidLeaf prog w h₀ L m s (fun o => [(p4, o), a3, a2, q]) more p4 [] []) E s)
    (h2 : ∀ lf oc more' h tk', Fr h₀ L h m → News h₀ L h ((p4, oc) :: a3 :: a2 :: q :: more') → oc.data = .cell (some (.ref lf)) → (∀ e ∈ more, e ∈ more') → LeafR prog w more' lf [] [] → (∀ e ∈ more', @LT.lt Nat _ p4 e.1) → Q .next { s with heap := h, toks := tk' }) : wpAny (model prog w) A t Q E s := by
  refine wpAny_mono h1 (fun f s' hq => ?_) fun _ _ e => e
  obtain ⟨rfl, lf, oc, more', h, tk', rfl, F, N, a1, a2, a3, a4⟩ := hq
  exact h2 lf oc more' h tk' F N a1 a2 a3 a4
theorem cut_lent {prog : Program} {w : World} {A : Around} {E : Value → Shared → Prop} {Q : Flow → Shared → Prop} {s : Shared} {h₀ : Heap} {L p4 p3 : Addr} {m : Str → Option Value} {t : Sem Flow} {o4 o3 : Obj} {a2 q : Addr × Obj} {more : List (Addr × Obj)} (vs : List Value) (fs : List (Array UInt8 × Array UInt8)) (_F : Fr h₀ L s.heap m) (_N : News h₀ L s.heap ((p4, o4) :: (p3, o3) :: a2 :: q :: more))
    (h1 : wpAny (model prog w) A t (MidLeaf prog w h₀ L m s (fun o => [(p4, o4), (p3, o), a2, q]) more p4 vs fs) E s)
    (h2 : ∀ lf oc more' h tk', Fr h₀ L h m → News h₀ L h ((p4, o4) :: (p3, oc) :: a2 :: q :: more') → oc.data = .cell (some (.ref lf)) → (∀ e ∈ more, e ∈ more') → LeafR prog w more' lf vs fs → (∀ e ∈ more', @LT.lt Nat _ p4 e.1) → Q .next { s with heap := h, toks := tk' }) : wpAny (model prog w) A t Q E s := by
  refine wpAny_mono h1 (fun f s' hq => ?_) fun _ _ e => e
  obtain ⟨rfl, lf, oc, more', h, tk', rfl, F, N, a1, a2, a3, a4⟩ := hq
  exact h2 lf oc more' h tk' F N a1 a2 a3 a4
theorem news_leaf5 {h₀ h : Heap} {L : Addr} {a b c d e x4 x3 x2 q : Addr × Obj} {more : List (Addr × Obj)} (N : News h₀ L h (a :: b :: c :: d :: e :: x4 :: x3 :: x2 :: q :: more)) : News h₀ L h (x4 :: x3 :: x2 :: q :: a :: b :: c :: d :: e :: more) :=
  fun p hp => N p (by simp only [List.mem_cons] at hp ⊢; rcases hp with h | h | h | h | h | h | h | h | h | h <;> simp [h])
theorem mem5 {a b c d e : Addr × Obj} {more : List (Addr × Obj)} : ∀ x ∈ more, x ∈ a :: b :: c :: d :: e :: more := fun _ h => .tail _ (.tail _ (.tail _ (.tail _ (.tail _ h))))
theorem mid_plain {prog : Program} {w : World} {h₀ h : Heap} {L p4 lf : Addr} {m : Str → Option Value} {s : Shared} {oc : Obj} {a b c d e a3 a2 q : Addr × Obj} {more : List (Addr × Obj)} {vs : List Value} {fs : List (Array UInt8 × Array UInt8)} {tk' : Nat}
    (N : News h₀ L h (a :: b :: c :: d :: e :: (p4, oc) :: a3 :: a2 :: q :: more)) (F : Fr h₀ L h m) (hc : oc.data = .cell (some (.ref lf))) (hR : LeafR prog w (a :: b :: c :: d :: e :: more) lf vs fs) (ho : ∀ x ∈ a :: b :: c :: d :: e :: more, @LT.lt Nat _ p4 x.1) :
    MidLeaf prog w h₀ L m s (fun o => [(p4, o), a3, a2, q]) more p4 vs fs .next { s with heap := h, toks := tk' } := ⟨rfl, lf, oc, _, h, tk', rfl, F, news_leaf5 N, hc, mem5, hR, ho⟩
theorem mid_lent {prog : Program} {w : World} {h₀ h : Heap} {L p4 p3 lf : Addr} {m : Str → Option Value} {s : Shared} {o4 oc : Obj} {a b c d e a2 q : Addr × Obj} {more : List (Addr × Obj)} {vs : List Value} {fs : List (Array UInt8 × Array UInt8)} {tk' : Nat}
    (N : News h₀ L h (a :: b :: c :: d :: e :: (p4, o4) :: (p3, oc) :: a2 :: q :: more)) (F : Fr h₀ L h m) (hc : oc.data = .cell (some (.ref lf))) (hR : LeafR prog w (a :: b :: c :: d :: e :: more) lf vs fs) (ho : ∀ x ∈ a :: b :: c :: d :: e :: more, @LT.lt Nat _ p4 x.1) :
    MidLeaf prog w h₀ L m s (fun o => [(p4, o4), (p3, o), a2, q]) more p4 vs fs .next { s with heap := h, toks := tk' } := ⟨rfl, lf, oc, _, h, tk', rfl, F, news_leaf5 N, hc, mem5, hR, ho⟩
/-- what _law_made hands back -/
noncomputable def pickV (b : Bool) (B : Array UInt8) (u : Tok) : Value := match b with
  | true => .none
  | false => .bytes B u
theorem made_out {fs : List (Array UInt8 × Array UInt8)} {bb : Bool} {B : Array UInt8} {r : Value} (hbb : decide (∃ f ∈ fs, barred f = true) = bb) (h : ((∃ u, r = .bytes B u) ∧ ∀ f ∈ fs, barred f = false) ∨ ((∃ f ∈ fs, barred f = true) ∧ r = .none)) : ∃ u, r = pickV bb B u := by
  rcases h with ⟨⟨u, rfl⟩, hno⟩ | ⟨hb, rfl⟩
  · have e : decide (∃ f ∈ fs, barred f = true) = false := decide_eq_false (by rintro ⟨f, hf, hq⟩; rw [hno f hf] at hq; cases hq)
    rw [e] at hbb
    subst hbb
    exact ⟨u, rfl⟩
  · rw [decide_eq_true hb] at hbb
    subst hbb
    exact ⟨0, rfl⟩
section
variable {prog : Program} {w : World} {p : Program} {loose : List Str} {mean : ExcName → Option Value} {mg mb : Str → Option Value}
theorem c_madeL {f : Addr} {fs : List (Array UInt8 × Array UInt8)} {bb : Bool} (O : Array UInt8) {dp un : Nat} {gd : Option (List Code)} {cn : Str} {cs : Scope} {a : Addr} {ccd : Value} {cl : List (Str × Addr)} {A₀ : Around} {base h₀ : Heap} {L : Addr} {m : Str → Option Value} {news : List (Addr × Obj)} {s : Shared}
    {Q E : Value → Shared → Prop} {A : Around} (hA : A = ktrTop dp un gd cn cs L a ccd cl []) (N : News h₀ L s.heap news) (hbb : decide (∃ f ∈ fs, barred f = true) = bb) (hfn : ∃ oc od fd sl, (f, (⟨oc, od, .func fd, sl⟩ : Obj)) ∈ news)
    (B : Below A₀ base [] h₀) (F : Fr h₀ L s.heap m) (X : (layK.heap_1 w.params).In h₀) (T : Top p loose mean mg mb h₀) (XB : (layK.heap_1 w.params).In base) (TB : Top p loose mean mg mb base) (hk : cs.kind = .function)
    (hd : dp + 60 < recursionLimit) (hu : un + 500 < cLine)
    (C : CtrR prog w p loose mean mg mb f 40 400 (fun nw => ∀ p ∈ news, p ∈ nw) [] (fun r => (∃ u, r = .bytes O u) ∧ ∀ f ∈ fs, barred f = false) (∃ f ∈ fs, barred f = true))
    (hret : ∀ u h' tk', Fr h₀ L h' m → News h₀ L h' news → Q (pickV bb O u) { s with heap := h', toks := tk' }) :
    wpAny (model prog w) A (call (.ref 626) [.ref f]) Q E s := by
  subst hA
  refine c_made C (fun nw h => ?_) B F X N T XB TB hk (fun _ h => h) hd hu fun r h' tk' F' N' ho => ?_
  · obtain ⟨oc, od, fd, sl, hm⟩ := hfn
    exact ⟨oc, od, fd, sl, h _ hm⟩
  · obtain ⟨u, rfl⟩ := made_out hbb ho
    exact hret u h' tk' F' N'
end
/-- the four answers stand in a list -/
noncomputable def MidFound (h₀ : Heap) (L : Addr) (m : Str → Option Value) (s : Shared) (tb : Addr) (bb : Bool) (A B C D : Array UInt8) (f : Flow) (s' : Shared) : Prop :=
  f = .next ∧ ∃ Df k ps u1 u2 u3 u4 h tk', s' = { s with heap := h, toks := tk' } ∧ Fr h₀ L h (fun z => if z = Str.ofString "found" then some (.ref Df) else m z) ∧ News h₀ L h [(Df, W.listOf #[pickV bb A u1, pickV bb B u2, pickV bb C u3, pickV bb D u4] k), (tb, tabObj ps)] ∧ @LT.lt Nat _ tb Df
theorem cut_found {prog : Program} {w : World} {A : Around} {E : Value → Shared → Prop} {Q : Flow → Shared → Prop} {s : Shared} {h₀ : Heap} {L : Addr} {m : Str → Option Value} {t : Sem Flow} (tb : Addr) (bb : Bool) (A1 B1 C1 D1 : Array UInt8) (_F : Fr h₀ L s.heap m)
    (h1 : wpAny (model prog w) A t (MidFound h₀ L m s tb bb A1 B1 C1 D1) E s)
    (h2 : ∀ Df k ps u1 u2 u3 u4 h tk', Fr h₀ L h (fun z => if z = Str.ofString "found" then some (.ref Df) else m z) → News h₀ L h [(Df, W.listOf #[pickV bb A1 u1, pickV bb B1 u2, pickV bb C1 u3, pickV bb D1 u4] k), (tb, tabObj ps)] → @LT.lt Nat _ tb Df → Q .next { s with heap := h, toks := tk' }) : wpAny (model prog w) A t Q E s := by
  refine wpAny_mono h1 (fun f s' hq => ?_) fun _ _ e => e
  obtain ⟨rfl, Df, k, ps, u1, u2, u3, u4, h, tk', rfl, F, N, l⟩ := hq
  exact h2 Df k ps u1 u2 u3 u4 h tk' F N l
theorem row89 : True := by (k_with "Q callWith ref" => (k_here; (with_reducible show wpAny _ _ (callWith _ (Value.ref _) _ _ _) _ _ _); k_dflt (refine' callWith_K ?k1 ?k2 ?_; (case k1 => k_asm); (case k2 => k_is); k_whole))); trivial
theorem row90 : True := by (k_with "MY to626" => (repeat' (fail_if_success (with_reducible show wpAny _ _ (call (Value.ref 626) _) _ _ _)); walk_at "MY one")); trivial
theorem row91 : True := by (k_with "MY to565" => (repeat' (fail_if_success (with_reducible show wpAny _ _ (call (Value.ref 565) _) _ _ _)); walk_at "MY one")); trivial
theorem row92 : True := by (k_with "MY to575" => (repeat' (fail_if_success (with_reducible show wpAny _ _ (call (Value.ref 575) _) _ _ _)); walk_at "MY one")); trivial
theorem row93 : True := by (k_with "MY to582" => (repeat' (fail_if_success (with_reducible show wpAny _ _ (call (Value.ref 582) _) _ _ _)); walk_at "MY one")); trivial
theorem row94 : True := by (k_with "MY to610" => (repeat' (fail_if_success (with_reducible show wpAny _ _ (call (Value.ref 610) _) _ _ _)); walk_at "MY one")); trivial
theorem row95 : True := by (k_with "MY lamEnter" => (k_dflt (refine' kla_code ?k1 ?k2 ?k3 ?k4 ?k5 ?kA ?kF ?kK ?k6 ?k7 ?k8 ?k9 ?kB ?_ ?c2 ?c3 ?c4 ?c5; (case kA => exact rfl); (case kF => exact rfl); (case kK => first | exact rfl | assumption); (case k1 => k_asm); (case k2 => k_asm); (case k3 => k_asm); (case k4 => k_asm); (case k5 => k_asm); (case k6 => k_mem); (case k7 => exact codeRec_news (by k_asm) (by k_mem) (by assumption) (by assumption)); (case k8 => ktr_room); (case k9 => exact rfl); (case c5 => decide); (case kB => exact locs rfl); (case c2 => exact rfl); (case c3 => exact rfl); (case c4 => exact rfl); k_whole); intro g' L' h' FG' F' N' B' X' T'; (try dsimp only); (try k_lift B'); (try k_fold))); trivial

-- P28
theorem extract_pre (a b : Array UInt8) : (a ++ b).extract 0 a.size = a := by
  apply Array.ext'
  simp
theorem cat_cons (x : Array UInt8) (l : List (Array UInt8)) : Bt.cat (x :: l) = x ++ Bt.cat l := by
  apply Array.ext'
  simp [Bt.cat]
theorem cat_app (l r : List (Array UInt8)) : Bt.cat (l ++ r) = Bt.cat l ++ Bt.cat r := by
  apply Array.ext'
  simp [Bt.cat]
noncomputable abbrev rowsB (fs : List (Array UInt8 × Array UInt8)) : Array UInt8 := Bt.cat (fs.map fldBytes)
theorem headB_eq (fs : List (Array UInt8 × Array UInt8)) (kb : Array UInt8) : headB fs kb = fldBytes (ctName, #[32] ++ kb) ++ rowsB fs ++ #[13, 10] := by
  unfold headB
  rw [List.map_cons, cat_cons]
theorem leafO_eq (fs : List (Array UInt8 × Array UInt8)) : leafO fs = fldBytes (ctName, #[32] ++ textB) ++ rowsB fs ++ #[13, 10, 120] := by
  unfold leafO
  rw [headB_eq, Array.append_assoc, Array.append_assoc, Array.append_assoc]
  rfl
theorem wholeO_eq (fs : List (Array UInt8 × Array UInt8)) : wholeO fs = rowsB fs ++ fldBytes (mvName, mvRaw) ++ leafB := by
  unfold wholeO
  rw [List.map_append, cat_app]
  congr 1
noncomputable abbrev bg1 : Array UInt8 := #[67, 111, 110, 116, 101, 110, 116, 45, 84, 121, 112, 101, 58, 32, 116, 101, 120, 116, 47, 112, 108, 97, 105, 110, 13, 10]
noncomputable abbrev bg2 : Array UInt8 := #[67, 111, 110, 116, 101, 110, 116, 45, 84, 121, 112, 101, 58, 32, 109, 117, 108, 116, 105, 112, 97, 114, 116, 47, 109, 105, 120, 101, 100, 59, 13, 10, 32, 98, 111, 117, 110, 100, 97, 114, 121, 61, 34, 61, 95, 112, 97, 114, 116, 48, 34, 13, 10]
noncomputable abbrev bg3 : Array UInt8 := #[67, 111, 110, 116, 101, 110, 116, 45, 84, 121, 112, 101, 58, 32, 109, 101, 115, 115, 97, 103, 101, 47, 114, 102, 99, 56, 50, 50, 13, 10, 13, 10]
noncomputable abbrev en1 : Array UInt8 := #[13, 10, 120]
noncomputable abbrev en2 : Array UInt8 := #[13, 10, 45, 45, 61, 95, 112, 97, 114, 116, 48, 13, 10]
noncomputable abbrev en3 : Array UInt8 := #[77, 73, 77, 69, 45, 86, 101, 114, 115, 105, 111, 110, 58, 32, 49, 46, 48, 13, 10]
theorem leaf_form (fs : List (Array UInt8 × Array UInt8)) : leafO fs = bg1 ++ rowsB fs ++ en1 := leafO_eq fs
theorem many_form (fs : List (Array UInt8 × Array UInt8)) : manyO fs = bg2 ++ rowsB fs ++ en2 ++ (leafB ++ #[13, 10] ++ markB ++ #[45, 45] ++ #[13, 10]) := by
  unfold manyO
  rw [headB_eq, show fldBytes (ctName, #[32] ++ mixKB) = bg2 from by decide +kernel, show en2 = #[13, 10] ++ (markB ++ #[13, 10]) from by decide +kernel]
  simp only [Array.append_assoc]
theorem whole_form (fs : List (Array UInt8 × Array UInt8)) : wholeO fs = #[] ++ rowsB fs ++ en3 ++ leafB := by
  rw [wholeO_eq, show fldBytes (mvName, mvRaw) = en3 from by decide +kernel, Array.empty_append]
theorem letter_form (fs : List (Array UInt8 × Array UInt8)) : letterO fs = bg3 ++ rowsB fs ++ en3 ++ leafB := by
  unfold letterO
  rw [whole_form, show headB [] rfcB = bg3 from by decide +kernel, Array.empty_append]
  simp only [Array.append_assoc]
/-- an answer opens with what the law asks -/
noncomputable def Opens (X b R e : Array UInt8) : Prop := X.size ≤ 1000 ∧ ∀ n : Nat, n = b.size + R.size + e.size → X.extract 0 n = b ++ R ++ e
theorem Opens.of {X b R e z : Array UInt8} (h : X = b ++ R ++ e ++ z) (hs : b.size + R.size + e.size + z.size ≤ 1000) : Opens X b R e := by
  subst h
  refine ⟨by simp only [Array.size_append]; omega, ?_⟩
  rintro n rfl
  have h := extract_pre (b ++ R ++ e) z
  simp only [Array.size_append] at h
  exact h
theorem opens_all {fs : List (Array UInt8 × Array UInt8)} (hL : ∀ f ∈ fs, LawF f) (hlen : fs.length ≤ 3) : (rowsB fs).size ≤ 120 ∧ Opens (leafO fs) bg1 (rowsB fs) en1 ∧ Opens (manyO fs) bg2 (rowsB fs) en2 ∧ Opens (letterO fs) bg3 (rowsB fs) en3 ∧ Opens (wholeO fs) #[] (rowsB fs) en3 := by
  have hB := cat_size_le (g := fldBytes) (B := 40) fs fun f hf => fldBytes_size (hL f hf)
  have hB2 : fs.length * 40 ≤ 3 * 40 := Nat.mul_le_mul_right _ hlen
  have hR : (rowsB fs).size ≤ 120 := by show (Bt.cat (fs.map fldBytes)).size ≤ 120; omega
  refine ⟨hR, Opens.of (z := #[]) (by rw [leaf_form, Array.append_empty]) ?_, Opens.of (many_form fs) ?_, Opens.of (letter_form fs) ?_, Opens.of (whole_form fs) ?_⟩
  all_goals (simp only [Array.size_append, List.size_toArray, List.length_cons, List.length_nil]; omega)
theorem pick_opens {X b R e : Array UInt8} (h : Opens X b R e) {n : Int} (hn : n = (b.size : Int) + (R.size : Int) + (e.size : Int)) : KBy.picked X none (some n) = b ++ R ++ e := by
  have h1 := h.2 _ rfl
  have h2 : b.size + R.size + e.size ≤ X.size := by
    have h3 := congrArg Array.size h1
    simp only [Array.size_append, Array.size_extract] at h3
    omega
  have e1 : n = ((b.size + R.size + e.size : Nat) : Int) := by omega
  rw [KBc.picked_eq, e1]
  simp only [Option.elim, clipAt_nat, List.drop_zero, Nat.sub_zero]
  rw [Nat.min_eq_left h2, ← h1]
  apply Array.ext'
  simp

-- PZ
/-! ### zip over three lists of the ledger -/
namespace Zt
open Builtin SmallTypes
noncomputable abbrev zipO (n : Nat) (f0 : Value) : Obj := { cls := .type "zip", dict := none, data := .fields #[f0, .bool false, .bool false, .ref (n + 3), .ref (n + 4)], slots := #[] }
noncomputable abbrev tupO (xs : Array Value) : Obj := { cls := .type "tuple", data := .seq xs }
/-- a zip at n + 5 over the iterators n, n + 1, n + 2 -/
structure Z3 (n l1 l2 l3 : Nat) (xs ys zs : Array Value) (h : Heap) (k1 k2 k3 : Nat) (f0 a b c : Value) : Prop where
  z : h.get? (n + 5) = some (zipO n f0)
  ti : h.get? (n + 3) = some (tupO #[.ref n, .ref (n + 1), .ref (n + 2)])
  to : h.get? (n + 4) = some (tupO #[a, b, c])
  i1 : h.IsListIter n l1 k1
  i2 : h.IsListIter (n + 1) l2 k2
  i3 : h.IsListIter (n + 2) l3 k3
  L1 : h.IsList l1 xs
  L2 : h.IsList l2 ys
  L3 : h.IsList l3 zs
  b1 : l1 < n
  b2 : l2 < n
  b3 : l3 < n
section
variable {n l1 l2 l3 : Nat} {xs ys zs : Array Value} {h h' : Heap} {k1 k2 k3 : Nat} {f0 a b c : Value}
theorem ne' {a b : Nat} (h : a ≠ b) : @Ne Addr a b := h
theorem Z3.setz {f : Value} (H : Z3 n l1 l2 l3 xs ys zs h k1 k2 k3 f0 a b c) (hs : Heap.SameBut (n + 5) h h') (hz : h'.get? (n + 5) = some (zipO n f)) : Z3 n l1 l2 l3 xs ys zs h' k1 k2 k3 f a b c :=
  have b1 := H.b1; have b2 := H.b2; have b3 := H.b3
  ⟨hz, hs.extBut _ _ (ne' (by omega)) H.ti, hs.extBut _ _ (ne' (by omega)) H.to, H.i1.extBut hs.extBut (ne' (by omega)), H.i2.extBut hs.extBut (ne' (by omega)), H.i3.extBut hs.extBut (ne' (by omega)),
    H.L1.extBut hs.extBut (ne' (by omega)), H.L2.extBut hs.extBut (ne' (by omega)), H.L3.extBut hs.extBut (ne' (by omega)), b1, b2, b3⟩
theorem Z3.setto {a' b' c' : Value} (H : Z3 n l1 l2 l3 xs ys zs h k1 k2 k3 f0 a b c) (hs : Heap.SameBut (n + 4) h h') (ht : h'.get? (n + 4) = some (tupO #[a', b', c'])) : Z3 n l1 l2 l3 xs ys zs h' k1 k2 k3 f0 a' b' c' :=
  have b1 := H.b1; have b2 := H.b2; have b3 := H.b3
  ⟨hs.extBut _ _ (ne' (by omega)) H.z, hs.extBut _ _ (ne' (by omega)) H.ti, ht, H.i1.extBut hs.extBut (ne' (by omega)), H.i2.extBut hs.extBut (ne' (by omega)), H.i3.extBut hs.extBut (ne' (by omega)),
    H.L1.extBut hs.extBut (ne' (by omega)), H.L2.extBut hs.extBut (ne' (by omega)), H.L3.extBut hs.extBut (ne' (by omega)), b1, b2, b3⟩
theorem Z3.set1 {k : Nat} (H : Z3 n l1 l2 l3 xs ys zs h k1 k2 k3 f0 a b c) (hs : Heap.SameBut n h h') (hi : h'.IsListIter n l1 k) : Z3 n l1 l2 l3 xs ys zs h' k k2 k3 f0 a b c :=
  have b1 := H.b1; have b2 := H.b2; have b3 := H.b3
  ⟨hs.extBut _ _ (ne' (by omega)) H.z, hs.extBut _ _ (ne' (by omega)) H.ti, hs.extBut _ _ (ne' (by omega)) H.to, hi, H.i2.extBut hs.extBut (ne' (by omega)), H.i3.extBut hs.extBut (ne' (by omega)),
    H.L1.extBut hs.extBut (ne' (by omega)), H.L2.extBut hs.extBut (ne' (by omega)), H.L3.extBut hs.extBut (ne' (by omega)), b1, b2, b3⟩
theorem Z3.set2 {k : Nat} (H : Z3 n l1 l2 l3 xs ys zs h k1 k2 k3 f0 a b c) (hs : Heap.SameBut (n + 1) h h') (hi : h'.IsListIter (n + 1) l2 k) : Z3 n l1 l2 l3 xs ys zs h' k1 k k3 f0 a b c :=
  have b1 := H.b1; have b2 := H.b2; have b3 := H.b3
  ⟨hs.extBut _ _ (ne' (by omega)) H.z, hs.extBut _ _ (ne' (by omega)) H.ti, hs.extBut _ _ (ne' (by omega)) H.to, H.i1.extBut hs.extBut (ne' (by omega)), hi, H.i3.extBut hs.extBut (ne' (by omega)),
    H.L1.extBut hs.extBut (ne' (by omega)), H.L2.extBut hs.extBut (ne' (by omega)), H.L3.extBut hs.extBut (ne' (by omega)), b1, b2, b3⟩
theorem Z3.set3 {k : Nat} (H : Z3 n l1 l2 l3 xs ys zs h k1 k2 k3 f0 a b c) (hs : Heap.SameBut (n + 2) h h') (hi : h'.IsListIter (n + 2) l3 k) : Z3 n l1 l2 l3 xs ys zs h' k1 k2 k f0 a b c :=
  have b1 := H.b1; have b2 := H.b2; have b3 := H.b3
  ⟨hs.extBut _ _ (ne' (by omega)) H.z, hs.extBut _ _ (ne' (by omega)) H.ti, hs.extBut _ _ (ne' (by omega)) H.to, H.i1.extBut hs.extBut (ne' (by omega)), H.i2.extBut hs.extBut (ne' (by omega)), hi,
    H.L1.extBut hs.extBut (ne' (by omega)), H.L2.extBut hs.extBut (ne' (by omega)), H.L3.extBut hs.extBut (ne' (by omega)), b1, b2, b3⟩
theorem Z3.grown (H : Z3 n l1 l2 l3 xs ys zs h k1 k2 k3 f0 a b c) (o : Obj) : Z3 n l1 l2 l3 xs ys zs (h.push o) k1 k2 k3 f0 a b c :=
  ⟨Heap.get?_push_of_some _ H.z, Heap.get?_push_of_some _ H.ti, Heap.get?_push_of_some _ H.to, H.i1.at fun _ e => Heap.get?_push_of_some _ e, H.i2.at fun _ e => Heap.get?_push_of_some _ e, H.i3.at fun _ e => Heap.get?_push_of_some _ e,
    H.L1.push _, H.L2.push _, H.L3.push _, H.b1, H.b2, H.b3⟩
end
section
variable {prog : Program} {w : World} {A : Around} {E : Value → Shared → Prop} {s : Shared} {n l1 l2 l3 : Nat} {xs ys zs : Array Value}
theorem upd3 {T : Addr} {a b c x : Value} {k : Nat} {Q : Unit → Shared → Prop} (hT : s.heap.get? T = some (tupO #[a, b, c]))
    (h : ∀ h', h'.get? T = some (tupO ((#[a, b, c] : Array Value).setIfInBounds k x)) → Heap.SameBut T s.heap h' → Q () { s with heap := h' }) :
    wpAny (model prog w) A (updateSeq T (·.setIfInBounds k x)) Q E s := by
  refine wpAny_updateSeq hT rfl (h _ ?_ (Heap.SameBut.update ..))
  rw [Heap.get?_update_self _ hT rfl]
  simp [Obj.mapSeq]
/-- one more row -/
theorem next_row {k : Nat} {a b c x y v : Value} {Q : Value → Shared → Prop} (H : Z3 n l1 l2 l3 xs ys zs s.heap k k k .none a b c) (hx : xs[k]? = some x) (hy : ys[k]? = some y) (hv : zs[k]? = some v)
    (hQ : ∀ h', Z3 n l1 l2 l3 xs ys zs h' (k + 1) (k + 1) (k + 1) (rawInt s.heap.objs.size) x y v → h'.get? s.heap.objs.size = some (tupO #[x, y, v]) →
      (∀ d o, d ∉ [n + 5, n + 4, n, n + 1, n + 2] → s.heap.get? d = some o → h'.get? d = some o) → Q (.ref s.heap.objs.size) { s with heap := h' }) :
    wpAny (model prog w) A (Builtin.«zip.__next__» ⟨[.ref (n + 5)], []⟩) (fun fin s' => ∃ v, fin = .done (.ret v) ∧ Q v s') E s := by
  show wpAny _ _ (field (.ref (n + 5)) 2 >>= _) _ _ _
  refine wpAny_bind (wpAny_field H.z rfl (x := .bool false) rfl ?_)
  show wpAny _ _ (field (.ref (n + 5)) 3 >>= _) _ _ _
  refine wpAny_bind (wpAny_field H.z rfl (x := .ref (n + 3)) rfl (wpAny_bind (wpAny_seqItems H.ti rfl ?_)))
  show wpAny _ _ (ownedTupleIsFree (.ref (n + 5)) >>= _) _ _ _
  refine wpAny_bind ?_
  unfold ownedTupleIsFree
  refine wpAny_bind (wpAny_field H.z rfl (x := .none) rfl (wpAny_pure ?_))
  simp only [if_true]
  refine wpAny_bind (wpAny_rule (wpAny_bind (wpAny_field H.z rfl (x := .ref (n + 4)) rfl ?_)))
  refine wpAny_bind (wpAny_setField_rec H.z (by simp) fun g1 z1 s1 => ?_)
  have H1 := H.setz (f := .ellipsis) s1 z1
  refine wpAny_bind ?_
  simp only [List.zipIdx_cons, List.zipIdx_nil, List.forIn_cons, List.forIn_nil]
  refine wpAny_bind (wpAny_bind (wpAny_onRaise ?_))
  show wpAny _ _ (nextOf (.ref n) >>= _) _ _ _
  refine wpAny_bind (wpAny_nextOf_list_item H1.i1 H1.L1 hx fun g2 j2 s2 => wpAny_pure ?_)
  have H2 := H1.set1 s2 j2
  refine wpAny_bind (wpAny_seqItems H2.to rfl (wpAny_bind (upd3 H2.to fun g3 t3 s3 => wpAny_bind (wpAny_letGo (wpAny_pure ?_)))))
  have H3 := H2.setto (a' := x) (b' := b) (c' := c) s3 t3
  refine wpAny_bind (wpAny_bind (wpAny_onRaise ?_))
  show wpAny _ _ (nextOf (.ref (n + 1)) >>= _) _ _ _
  refine wpAny_bind (wpAny_nextOf_list_item H3.i2 H3.L2 hy fun g4 j4 s4 => wpAny_pure ?_)
  have H4 := H3.set2 s4 j4
  refine wpAny_bind (wpAny_seqItems H4.to rfl (wpAny_bind (upd3 H4.to fun g5 t5 s5 => wpAny_bind (wpAny_letGo (wpAny_pure ?_)))))
  have H5 := H4.setto (a' := x) (b' := y) (c' := c) s5 t5
  refine wpAny_bind (wpAny_bind (wpAny_onRaise ?_))
  show wpAny _ _ (nextOf (.ref (n + 2)) >>= _) _ _ _
  refine wpAny_bind (wpAny_nextOf_list_item H5.i3 H5.L3 hv fun g6 j6 s6 => wpAny_pure ?_)
  have H6 := H5.set3 s6 j6
  refine wpAny_bind (wpAny_seqItems H6.to rfl (wpAny_bind (upd3 H6.to fun g7 t7 s7 => wpAny_bind (wpAny_letGo (wpAny_pure (wpAny_pure ?_))))))
  have H7 := H6.setto (a' := x) (b' := y) (c' := v) s7 t7
  have size7 : g7.objs.size = s.heap.objs.size := by rw [s7.1, s6.1, s5.1, s4.1, s3.1, s2.1, s1.1]
  refine wpAny_bind (wpAny_seqItems H7.to rfl (wpAny_bind (wpAny_newTuple ?_)))
  show wpAny _ _ (ownedTupleHandOut (.ref (n + 5)) (.ref g7.objs.size) >>= _) _ _ _
  refine wpAny_bind ?_
  unfold ownedTupleHandOut
  have H8 := H7.grown (tupO #[x, y, v])
  refine wpAny_bind (wpAny_setField_rec H8.z (by simp) fun g9 z9 s9 => ?_)
  have H9 := H8.setz (f := rawInt g7.objs.size) s9 z9
  refine wpAny_setField_rec H9.z (by simp) fun g10 z10 s10 => ?_
  have H10 := H9.setz (f := rawInt g7.objs.size) s10 z10
  have hlt : n + 5 < g7.objs.size := Heap.lt_size H7.z
  have row : g10.get? g7.objs.size = some (tupO #[x, y, v]) := s10.extBut _ _ (ne' (by omega)) (s9.extBut _ _ (ne' (by omega)) (Heap.get?_push_size _ rfl))
  refine wpAny_pure ⟨_, rfl, ?_⟩
  show Q (.ref g7.objs.size) _
  rw [size7] at H10 row ⊢
  refine hQ g10 H10 row fun d o hd e => ?_
  simp only [List.mem_cons, List.not_mem_nil, or_false, not_or] at hd
  obtain ⟨d1, d2, d3, d4, d5⟩ := hd
  exact s10.extBut _ _ d1 (s9.extBut _ _ d1 (Heap.get?_push_of_some _ (s7.extBut _ _ d2 (s6.extBut _ _ d5 (s5.extBut _ _ d2 (s4.extBut _ _ d4 (s3.extBut _ _ d2 (s2.extBut _ _ d3 (s1.extBut _ _ d1 e)))))))))
end
end Zt
namespace Zt
open Builtin SmallTypes
section
variable {prog : Program} {w : World} {A : Around} {E : Value → Shared → Prop} {s : Shared} {n l1 l2 l3 : Nat} {xs ys zs : Array Value}
theorem pull {k : Nat} {a b c x y v : Value} {Q : Option Value → Shared → Prop} (H : Z3 n l1 l2 l3 xs ys zs s.heap k k k .none a b c) (hx : xs[k]? = some x) (hy : ys[k]? = some y) (hv : zs[k]? = some v)
    (hQ : ∀ h', Z3 n l1 l2 l3 xs ys zs h' (k + 1) (k + 1) (k + 1) (rawInt s.heap.objs.size) x y v → h'.get? s.heap.objs.size = some (tupO #[x, y, v]) →
      (∀ d o, d ∉ [n + 5, n + 4, n, n + 1, n + 2] → s.heap.get? d = some o → h'.get? d = some o) → Q (some (.ref s.heap.objs.size)) { s with heap := h' }) :
    wpAny (model prog w) A (pyNext (.ref (n + 5))) Q E s := by
  have hT : s.TypeIs (.ref (n + 5)) "zip" := ⟨_, H.z, rfl⟩
  unfold pyNext
  exact wpAny_bind (wpAny_attempt (wpAny_callSpecial?_slot (name := Str.ofString "__next__") hT F.slot_zip_next
    (wpAny_call_entry F.slot_zip_next hT F.entry_zip_next (next_row H hx hy hv fun h' a1 a2 a3 => wpAny_pure (hQ h' a1 a2 a3)) (F.args_zip_next_1 _))))
/-- no more rows: the first list is at its end -/
theorem ended {k : Nat} {a b c : Value} {Q : Option Value → Shared → Prop} (hh : A.handled = none) (H : Z3 n l1 l2 l3 xs ys zs s.heap k k k .none a b c) (hx : xs[k]? = none)
    (hQ : ∀ h', (∀ d o, d ∉ [n + 5, n + 4, n, n + 1, n + 2] → s.heap.get? d = some o → h'.get? d = some o) → Q none { s with heap := h' }) : wpAny (model prog w) A (pyNext (.ref (n + 5))) Q E s := by
  have hT : s.TypeIs (.ref (n + 5)) "zip" := ⟨_, H.z, rfl⟩
  unfold pyNext
  refine wpAny_bind (wpAny_attempt (wpAny_callSpecial?_slot (name := Str.ofString "__next__") hT F.slot_zip_next
    (wpAny_call_entry F.slot_zip_next hT F.entry_zip_next ?_ (F.args_zip_next_1 _))))
  show wpAny _ _ (field (.ref (n + 5)) 2 >>= _) _ _ _
  refine wpAny_bind (wpAny_field H.z rfl (x := .bool false) rfl ?_)
  show wpAny _ _ (field (.ref (n + 5)) 3 >>= _) _ _ _
  refine wpAny_bind (wpAny_field H.z rfl (x := .ref (n + 3)) rfl (wpAny_bind (wpAny_seqItems H.ti rfl ?_)))
  show wpAny _ _ (ownedTupleIsFree (.ref (n + 5)) >>= _) _ _ _
  refine wpAny_bind ?_
  unfold ownedTupleIsFree
  refine wpAny_bind (wpAny_field H.z rfl (x := .none) rfl (wpAny_pure ?_))
  simp only [if_true]
  refine wpAny_bind (wpAny_rule (wpAny_bind (wpAny_field H.z rfl (x := .ref (n + 4)) rfl ?_)))
  refine wpAny_bind (wpAny_setField_rec H.z (by simp) fun g1 z1 s1 => ?_)
  have H1 := H.setz (f := .ellipsis) s1 z1
  refine wpAny_bind ?_
  simp only [List.zipIdx_cons, List.zipIdx_nil, List.forIn_cons, List.forIn_nil]
  refine wpAny_bind (wpAny_bind (wpAny_onRaise ?_))
  show wpAny _ _ (nextOf (.ref n) >>= _) _ _ _
  refine wpAny_bind (wpAny_nextOf_list_end hh H1.i1 H1.L1 hx fun g2 e s2 he => ?_)
  obtain ⟨oe, hoe, hce⟩ := he
  have z2 := s2 _ _ (ne' (by omega)) H1.z
  have hez : e ≠ n + 5 := fun q => by subst q; rw [z2] at hoe; cases hoe; simp at hce
  refine wpAny_setField_rec z2 (by simp) fun g3 _ s3 => ?_
  refine wpAny_bind (wpAny_isInstance (T := "StopIteration") (b := true) ⟨oe, s3.extBut _ _ hez hoe, hce⟩ isSubtype_stop (wpAny_pure (hQ g3 fun d o hd q => ?_)))
  simp only [List.mem_cons, List.not_mem_nil, or_false, not_or] at hd
  obtain ⟨d1, _, d3, _, _⟩ := hd
  exact s3.extBut _ _ d1 (s2 _ _ d3 (s1.extBut _ _ d1 q))
theorem freed {elts : List Expr} {x1} {pos : Pos} {T : Addr} {k1 k2 k3 : Nat} {a b c : Value} {Q : Unit → Shared → Prop} (H : Z3 n l1 l2 l3 xs ys zs s.heap k1 k2 k3 (rawInt T) a b c)
    (hQ : ∀ h', Z3 n l1 l2 l3 xs ys zs h' k1 k2 k3 .none a b c → Heap.SameBut (n + 5) s.heap h' → Q () { s with heap := h' }) :
    wpAny (model prog w) A (letOwnedTupleGo (.Tuple elts x1 pos) (.ref (n + 5)) (.ref T)) Q E s := by
  unfold letOwnedTupleGo
  refine wpAny_bind (wpAny_load H.z ?_)
  show wpAny _ _ (if (["enumerate", "zip", "dict_itemiterator", "dict_reverseitemiterator", "odict_iterator", "itertools.zip_longest", "itertools.pairwise"].contains "zip" &&
      (#[rawInt T, .bool false, .bool false, .ref (n + 3), .ref (n + 4)] : Array Value)[0]? == some (rawInt T)) = true then _ else _) Q E s
  rw [if_pos (by simp)]
  refine wpAny_bind (wpAny_rule ?_)
  show wpAny _ _ (setField (.ref (n + 5)) 0 .none) Q E s
  exact wpAny_setField_rec H.z (by simp) fun h' hz' hs' => hQ h' (H.setz hs' hz') hs'
theorem itself {f0 : Value} {k1 k2 k3 : Nat} {a b c : Value} {Q : Value → Shared → Prop} (H : Z3 n l1 l2 l3 xs ys zs s.heap k1 k2 k3 f0 a b c) (h : Q (.ref (n + 5)) s) : wpAny (model prog w) A (pyIter (.ref (n + 5))) Q E s := by
  have hT : s.TypeIs (.ref (n + 5)) "zip" := ⟨_, H.z, rfl⟩
  refine wpAny_pyIter_slot hT F.slot_zip_iter (wpAny_call_entry F.slot_zip_iter hT F.entry_zip_iter ?_ (F.args_zip_iter_1 _))
  show wpAny _ _ (ret (.ref (n + 5))) _ _ s
  exact wpAny_pure ⟨_, rfl, "zip", _, hT, F.slot_zip_next.lookup, h⟩
/-- it takes turns -/
theorem turns (hh : A.handled = none) {elts : List Expr} {k : Nat} {pos : Pos} (hy : ys.size = xs.size) (hz : zs.size = xs.size) :
    KTurns prog w A (.Tuple elts k pos) (n + 5) [n + 5, n + 4, n + 3, n, n + 1, n + 2, l1, l2, l3] [n + 5, n + 4, n, n + 1, n + 2] xs.size
      (fun i v h => ∃ T x y z, v = .ref T ∧ xs[i]? = some x ∧ ys[i]? = some y ∧ zs[i]? = some z ∧ h.IsTuple T #[x, y, z])
      (fun i v h => ∃ T x y z, v = .ref T ∧ xs[i]? = some x ∧ ys[i]? = some y ∧ zs[i]? = some z ∧ h.IsTuple T #[x, y, z] ∧ T ≠ n + 5 ∧ Z3 n l1 l2 l3 xs ys zs h (i + 1) (i + 1) (i + 1) (rawInt T) x y z)
      (fun i h => ∃ a b c, Z3 n l1 l2 l3 xs ys zs h i i i .none a b c) where
  sub := fun b hb => by
    simp only [List.mem_cons, List.not_mem_nil, or_false] at hb ⊢
    rcases hb with h | h | h | h | h <;> simp [h]
  frame := fun i h h' ⟨a, b, c, H⟩ hk => by
    have g : ∀ d ∈ [n + 5, n + 4, n + 3, n, n + 1, n + 2, l1, l2, l3], ∀ o, h.get? d = some o → h'.get? d = some o := fun d hd o e => hk d hd o e
    exact ⟨a, b, c, g _ (by simp) _ H.z, g _ (by simp) _ H.ti, g _ (by simp) _ H.to, H.i1.at fun o e => g _ (by simp) o e, H.i2.at fun o e => g _ (by simp) o e, H.i3.at fun o e => g _ (by simp) o e,
      H.L1.at fun o e => g _ (by simp) o e, H.L2.at fun o e => g _ (by simp) o e, H.L3.at fun o e => g _ (by simp) o e, H.b1, H.b2, H.b3⟩
  item := fun i s Q E hi ⟨a, b, c, H⟩ hQ => by
    have hi2 : i < ys.size := by omega
    have hi3 : i < zs.size := by omega
    refine pull H (Array.getElem?_eq_getElem hi) (Array.getElem?_eq_getElem hi2) (Array.getElem?_eq_getElem hi3) fun h' H' row hk => ?_
    have hne : s.heap.objs.size ≠ n + 5 := Nat.ne_of_gt (Heap.lt_size H.z)
    exact hQ _ h' s.toks ⟨_, _, _, _, rfl, Array.getElem?_eq_getElem hi, Array.getElem?_eq_getElem hi2, Array.getElem?_eq_getElem hi3, ⟨_, row, rfl, _, rfl⟩, hne, H'⟩ hk
  go := fun i v s Q E hm hQ => by
    obtain ⟨T, x, y, z, rfl, hx, hy, hz, ⟨o, ho, r⟩, hne, H⟩ := hm
    refine freed H fun h' H' hs => hQ h' ⟨T, x, y, z, rfl, hx, hy, hz, o, hs.extBut _ _ hne ho, r⟩ ⟨_, _, _, H'⟩ fun b o hb e => hs.extBut _ _ (fun q => hb (by simp [q])) e
  done := fun s Q E ⟨a, b, c, H⟩ hQ => ended hh H (Array.getElem?_eq_none (Nat.le_refl _)) fun h' hk => hQ h' s.toks hk
end
end Zt
namespace Zt
open Builtin SmallTypes
noncomputable abbrev itO (l : Nat) : Obj := { cls := .type "list_iterator", data := .fields #[.ref l, .int 0 0] }
theorem typeCall3 (a b c : Value) : checkTypeCall "zip" ⟨[a, b, c], []⟩ = pure () := by kernel_rfl
theorem newCall3 (a b c : Value) : checkBuiltinCall "zip.__new__" ⟨[.type "zip", a, b, c], []⟩ = pure () := by kernel_rfl
theorem initArgs3 (o a b c : Value) : argsOk "object.__init__" ⟨[o, a, b, c], []⟩ := by
  unfold argsOk; rw [signature?_of (id := "object.__init__") (n := ['_', '_', 't', 'i', 'n', 'i', '_', '_']) (o := ['t', 'c', 'e', 'j', 'b', 'o']) (by kernel_rfl) F.owner_object]; kernel_rfl
noncomputable abbrev h3 (h : Heap) (l1 l2 l3 : Nat) : Heap := ((h.push (itO l1)).push (itO l2)).push (itO l3)
noncomputable abbrev h4 (h : Heap) (l1 l2 l3 : Nat) : Heap := (h3 h l1 l2 l3).push (tupO #[.ref h.objs.size, .ref (h.push (itO l1)).objs.size, .ref ((h.push (itO l1)).push (itO l2)).objs.size])
noncomputable abbrev h5 (h : Heap) (l1 l2 l3 : Nat) : Heap := (h4 h l1 l2 l3).push (tupO #[.none, .none, .none])
noncomputable abbrev h6 (h : Heap) (l1 l2 l3 : Nat) : Heap := (h5 h l1 l2 l3).push { cls := .type "zip", data := .fields #[.none, .bool false, .bool false, .ref (h3 h l1 l2 l3).objs.size, .ref (h4 h l1 l2 l3).objs.size] }
theorem meets_new (l1 l2 l3 : Nat) (xs ys zs : Array Value) :
    Meets (Builtin.«zip.__new__» ⟨[.type "zip", .ref l1, .ref l2, .ref l3], []⟩) (fun _ R s => s.heap.IsList l1 xs ∧ s.heap.IsList l2 ys ∧ s.heap.IsList l3 zs ∧
      R (.ok (.ret (.ref (h5 s.heap l1 l2 l3).objs.size))) { s with heap := h6 s.heap l1 l2 l3 }) :=
  .of_wp fun prog w A R s h => by
    obtain ⟨hp, g, d, tk, os⟩ := s; obtain ⟨hl1, hl2, hl3, h⟩ := h
    have hsub := sub_zip
    have hL1 : Heap.IsList (Shared.heap ⟨hp, g, d, tk, os⟩) l1 xs := hl1
    have hL2 : Heap.IsList (Shared.heap ⟨hp.push (itO l1), g, d, tk, os⟩) l2 ys := Heap.IsList.push hl2 _
    have hL3 : Heap.IsList (Shared.heap ⟨(hp.push (itO l1)).push (itO l2), g, d, tk, os⟩) l3 zs := Heap.IsList.push (Heap.IsList.push hl3 _) _
    wp_walk using wpAny_pyIter_list hL1, wpAny_pyIter_list hL2, wpAny_pyIter_list hL3
    exact ⟨_, rfl, h⟩
section
variable {prog : Program} {w : World} {A : Around} {E : Value → Shared → Prop} {s : Shared} {l1 l2 l3 : Nat} {xs ys zs : Array Value}
theorem call_new {Q : Value → Shared → Prop} (hl1 : s.heap.IsList l1 xs) (hl2 : s.heap.IsList l2 ys) (hl3 : s.heap.IsList l3 zs)
    (h : ∀ h', Z3 s.heap.objs.size l1 l2 l3 xs ys zs h' 0 0 0 .none .none .none .none → h'.objs.size = s.heap.objs.size + 6 → (∀ c o, s.heap.get? c = some o → h'.get? c = some o) → Q (.ref (s.heap.objs.size + 5)) { s with heap := h' }) :
    wpAny (model prog w) A (call (.type "zip") [.ref l1, .ref l2, .ref l3]) Q E s := by
  refine callType_new F.called_zip (by decide) (typeCall3 _ _ _) (newCall3 _ _ _) (fun obj => initArgs3 obj _ _ _) F.entry_zip_new (meets_new l1 l2 l3 xs ys zs) ⟨hl1, hl2, hl3, ?_⟩
  have b1 : l1 < s.heap.objs.size := by obtain ⟨_, e, _⟩ := hl1; exact Heap.lt_size e
  have b2 : l2 < s.heap.objs.size := by obtain ⟨_, e, _⟩ := hl2; exact Heap.lt_size e
  have b3 : l3 < s.heap.objs.size := by obtain ⟨_, e, _⟩ := hl3; exact Heap.lt_size e
  have z1 : (s.heap.push (itO l1)).objs.size = s.heap.objs.size + 1 := Heap.size_push ..
  have z2 : ((s.heap.push (itO l1)).push (itO l2)).objs.size = s.heap.objs.size + 2 := by rw [Heap.size_push, z1]
  have z3 : (h3 s.heap l1 l2 l3).objs.size = s.heap.objs.size + 3 := by rw [Heap.size_push, z2]
  have z4 : (h4 s.heap l1 l2 l3).objs.size = s.heap.objs.size + 4 := by rw [Heap.size_push, z3]
  have z5 : (h5 s.heap l1 l2 l3).objs.size = s.heap.objs.size + 5 := by rw [Heap.size_push, z4]
  have z6 : (h6 s.heap l1 l2 l3).objs.size = s.heap.objs.size + 6 := by rw [Heap.size_push, z5]
  have up3 : ∀ c o, (h3 s.heap l1 l2 l3).get? c = some o → (h6 s.heap l1 l2 l3).get? c = some o := fun c o e => Heap.get?_push_of_some _ (Heap.get?_push_of_some _ (Heap.get?_push_of_some _ e))
  have g6 : (h6 s.heap l1 l2 l3).get? (h5 s.heap l1 l2 l3).objs.size = some _ := Heap.get?_push_size _ rfl
  have g5 : (h6 s.heap l1 l2 l3).get? (h4 s.heap l1 l2 l3).objs.size = some _ := Heap.get?_push_of_some _ (Heap.get?_push_size _ rfl)
  have g4 : (h6 s.heap l1 l2 l3).get? (h3 s.heap l1 l2 l3).objs.size = some _ := Heap.get?_push_of_some _ (Heap.get?_push_of_some _ (Heap.get?_push_size _ rfl))
  have g3 : (h6 s.heap l1 l2 l3).get? ((s.heap.push (itO l1)).push (itO l2)).objs.size = some _ := up3 _ _ (Heap.get?_push_size _ rfl)
  have g2 : (h6 s.heap l1 l2 l3).get? (s.heap.push (itO l1)).objs.size = some _ := up3 _ _ (Heap.get?_push_of_some _ (Heap.get?_push_size _ rfl))
  have g1 : (h6 s.heap l1 l2 l3).get? s.heap.objs.size = some _ := up3 _ _ (Heap.get?_push_of_some _ (Heap.get?_push_of_some _ (Heap.get?_push_size _ rfl)))
  have up : ∀ c o, s.heap.get? c = some o → (h6 s.heap l1 l2 l3).get? c = some o := fun c o e => up3 _ _ (Heap.get?_push_of_some _ (Heap.get?_push_of_some _ (Heap.get?_push_of_some _ e)))
  show _ ∧ _
  rw [z3, z4, z5] at g6
  rw [z1, z2, z3] at g4
  rw [z4] at g5
  rw [z2] at g3
  rw [z1] at g2
  rw [z5]
  exact ⟨⟨_, g6, rfl⟩, h _ ⟨g6, g4, g5, ⟨_, g1, rfl, rfl⟩, ⟨_, g2, rfl, rfl⟩, ⟨_, g3, rfl, rfl⟩, hl1.at fun o e => up _ o e, hl2.at fun o e => up _ o e, hl3.at fun o e => up _ o e, b1, b2, b3⟩ z6 up⟩
end
end Zt

-- PY
/-! ### a for loop over zip of three lists, that stores nothing but its names -/
namespace Zt
theorem bind_same : ∀ (xs : List Str) (vs : List Value) {m₁ m : Str → Option Value}, xs.length = vs.length → (∀ q, q ∉ xs → m₁ q = m q) → Gc.bindL xs vs m₁ = Gc.bindL xs vs m
  | [], _, _, _, _, h => by
    have e := funext fun q => h q (by simp)
    rw [e]
  | a :: xs, [], _, _, hl, _ => by simp at hl
  | a :: xs, v :: vs, m₁, m, hl, h => by
    show Gc.bindL xs vs _ = Gc.bindL xs vs _
    refine bind_same xs vs (by simpa using hl) fun q hq => ?_
    by_cases e : q = a
    · simp only [e, if_true]
    · simp only [e, if_false]
      exact h q (by simp [e, hq])
/-- a turn's end -/
noncomputable def TurnN (h₀ : Heap) (L : Addr) (m : Str → Option Value) (s : Shared) (all : List (Addr × Obj)) (f : Flow) (s' : Shared) : Prop :=
  f = .next ∧ ∃ h' tk', s' = { s with heap := h', toks := tk' } ∧ Fr h₀ L h' m ∧ News h₀ L h' all
section
variable {prog : Program} {w : World} {A : Around} {E : Value → Shared → Prop} {s : Shared} {env : Env} {h₀ : Heap} {body : List Stmt} {Q : Flow → Shared → Prop} {m : Str → Option Value} {news : List (Addr × Obj)}
theorem for_zip {ns : List (Str × Pos)} {kk : Nat} {tp : Pos} {l1 l2 l3 : Nat} {o1 o2 o3 : Obj} {xs ys zs : List Value} {n1 n2 n3 : Nat} (hh : A.handled = none) (F : Fr h₀ env.locals s.heap m) (N : News h₀ env.locals s.heap news)
    (m1 : ((l1 : Addr), o1) ∈ news) (c1 : o1.cls = .type "list") (d1 : o1.data = .seq xs.toArray n1) (m2 : ((l2 : Addr), o2) ∈ news) (c2 : o2.cls = .type "list") (d2 : o2.data = .seq ys.toArray n2) (m3 : ((l3 : Addr), o3) ∈ news) (c3 : o3.cls = .type "list") (d3 : o3.data = .seq zs.toArray n3)
    (e2 : ys.length = xs.length) (e3 : zs.length = xs.length) (hns : ns.length = 3) (hk : ∀ q ∈ ns, env.kindOf q.1 = some .local) (hp : (env.scope.kind == .class || (env.scope.kind == .module && env.locals != env.globals)) = false)
    (turn : ∀ (i : Nat) x y z h tk all, xs[i]? = some x → ys[i]? = some y → zs[i]? = some z → Fr h₀ env.locals h (Gc.bindL (ns.map (·.1)) [x, y, z] m) → News h₀ env.locals h all →
      wpAny (model prog w) A (execs body env) (TurnN h₀ env.locals (Gc.bindL (ns.map (·.1)) [x, y, z] m) { s with heap := h, toks := tk } all) E { s with heap := h, toks := tk })
    (done : ∀ h tk m', (∀ q, q ∉ ns.map (·.1) → m' q = m q) → Fr h₀ env.locals h m' → News h₀ env.locals h news → Q .next { s with heap := h, toks := tk }) :
    wpAny (model prog w) A (call (.type "zip") [.ref l1, .ref l2, .ref l3]) (fun xv s₁ => wpAny (model prog w) A (pyIter xv) (fun it s₂ => TurnsAt prog w A h₀ env (.Tuple (ns.map fun q => Expr.Name q.1 q.2) kk tp) body Q E it s₂) E s₁) E s := by
  have hl1 : s.heap.IsList l1 xs.toArray := ⟨o1, (N _ m1).1, c1, n1, d1⟩
  have hl2 : s.heap.IsList l2 ys.toArray := ⟨o2, (N _ m2).1, c2, n2, d2⟩
  have hl3 : s.heap.IsList l3 zs.toArray := ⟨o3, (N _ m3).1, c3, n3, d3⟩
  refine call_new hl1 hl2 hl3 fun h' H hsz up => ?_
  refine itself H ?_
  have hLs : env.locals < s.heap.objs.size := F.ns.lt
  have fresh : ∀ b, s.heap.objs.size ≤ b → h₀.get? b = none := fun b hb => by
    cases e : h₀.get? b with
    | none => rfl
    | some o => exact absurd (Heap.lt_size (F.keep b o e)) (Nat.not_lt.mpr hb)
  have F' : Fr h₀ env.locals h' m := F.keeps up
  have N' : News h₀ env.locals h' news := N.grown up
  have hlt : ∀ p ∈ news, p.1 < s.heap.objs.size := fun p hp => Heap.lt_size (N p hp).1
  refine ⟨_, _, _, _, _, _, _, m, news, (fun _ m' nw => nw = news ∧ ∀ q, q ∉ ns.map (·.1) → m' q = m q), rfl, turns hh (by simp [e2]) (by simp [e3]), ?_, ?_, ?_, ⟨_, _, _, H⟩, F', N', ⟨rfl, fun _ _ => rfl⟩, ?_, ?_⟩
  · intro hm
    simp only [List.mem_cons, List.not_mem_nil, or_false] at hm
    have q1 := (N _ m1).2.1
    have q2 := (N _ m2).2.1
    have q3 := (N _ m3).2.1
    have hL2 : @LT.lt Nat _ env.locals s.heap.objs.size := hLs
    rcases hm with h | h | h | h | h | h | h | h | h
    all_goals first | exact q1 h.symm | exact q2 h.symm | exact q3 h.symm | (have h2 : @Eq Nat env.locals _ := h; omega)
  · intro b hb
    simp only [List.mem_cons, List.not_mem_nil, or_false] at hb
    refine fresh b ?_
    rcases hb with rfl | rfl | rfl | rfl | rfl
    all_goals first | exact Nat.le_refl _ | exact Nat.le_add_right _ _
  · intro p hp hm
    have h1 := hlt p hp
    have h2 : @LT.lt Nat _ p.1 s.heap.objs.size := h1
    simp only [List.mem_cons, List.not_mem_nil, or_false] at hm
    rcases hm with h | h | h | h | h
    all_goals (have h3 : @Eq Nat p.1 _ := h; omega)
  · rintro i v m₁ news₁ h₁ tk₁ own hi ⟨T, x, y, z, rfl, hx, hy, hz, hT⟩ ⟨rfl, hm₁⟩ hoff hown hget hall hst F₁ N₁
    obtain ⟨a1, a2, a3⟩ := Gc.each_names env ns
    refine Gc.assign_tuple (vs := [x, y, z]) hp hh hns a1 a2 a3 hT hk F₁.ns fun h₂ tk₂ hn₂ hk₂ => ?_
    have hL₀ : h₀.get? env.locals = none := Heap.get?_none_of_le F₁.above
    have F₂ : Fr h₀ env.locals h₂ (Gc.bindL (ns.map (·.1)) [x, y, z] m₁) := ⟨hn₂, fun b o e => hk₂ b o (fun q => by rw [q, hL₀] at e; cases e) (F₁.keep b o e), F₁.above⟩
    have N₂ : News h₀ env.locals h₂ (own ++ news₁) := fun p hp => ⟨hk₂ _ _ (N₁ p hp).2.1 (N₁ p hp).1, (N₁ p hp).2⟩
    rw [bind_same _ [x, y, z] (by simp [hns]) hm₁] at F₂
    refine wpAny_mono (turn i x y z h₂ tk₂ (own ++ news₁) (by simpa using hx) (by simpa using hy) (by simpa using hz) F₂ N₂) (fun f s₃ hq => ?_) fun _ _ e => e
    obtain ⟨rfl, h₃, tk₃, rfl, F₃, N₃⟩ := hq
    refine .next ⟨rfl, h₃, tk₃, _, news₁, rfl, F₃, N₃, hoff, rfl, fun q hq => ?_⟩
    have key : ∀ (xs : List Str) (vs : List Value) (m₁ : Str → Option Value), q ∉ xs → Gc.bindL xs vs m₁ q = m₁ q := by
      intro xs
      induction xs with
      | nil => intro vs m₁ _; cases vs <;> rfl
      | cons a xs ih =>
        intro vs m₁ hq
        cases vs with
        | nil => rfl
        | cons v vs =>
          show Gc.bindL xs vs _ q = _
          rw [ih vs _ (fun h => hq (.tail _ h))]
          exact if_neg (fun e : q = a => hq (by rw [e]; exact .head _))
    rw [key _ _ _ hq]
  · rintro h9 tk m9 news9 F9 N9 _ ⟨e9, hm9⟩
    rw [e9] at N9
    exact done h9 tk m9 hm9 F9 N9
end
end Zt

-- P30
open LCg
theorem importsT : importsNone viewQ = true := by rw [PySem.W.Fast.te2458874890965802552]; kernel_rfl
theorem namesT : namesOk viewQ (looseW viewQ looseL) (namesW viewQ looseL) = true := by rw [lwE, PySem.W.Fast.te17448422675489707002]; kernel_rfl
theorem row96 : True := by (k_with "Q k_qdec" => first | exact importsT | exact namesT); trivial
theorem row97 : True := by (k_with "MY to617" => (repeat' (fail_if_success (with_reducible show wpAny _ _ (call (Value.ref 617) _) _ _ _)); walk_at "MY one")); trivial
theorem row98 : True := by (k_with "MY toRange" => (repeat' (fail_if_success (with_reducible show wpAny _ _ (call (Value.type _) _) _ _ _)); walk_at "MY one")); trivial
theorem row99 : True := by (k_with "MY assignU" => (refine' LCg.Assign_ListComp_U (by k_asm) ?a8 ?a9 ?a1 ?a2 ?a3 ?a4 ?a5 ?a10 ?a11 ?_ ?a7; (case a8 => rfl); (case a9 => with_unfolding_all rfl); (case a1 => with_unfolding_all rfl); (case a2 => decide); (case a3 => rfl); (case a4 => decide); (case a5 => rfl); (case a10 => rfl); (case a11 => rfl); (case a7 => intro _; rfl))); trivial
theorem row100 : True := by (k_with "MY to148" => (repeat' (fail_if_success (with_reducible show wpAny _ _ (call (Value.ref 148) _) _ _ _)); walk_at "MY one")); trivial
theorem row101 : True := by (k_with "MY toJoin" => (repeat' (fail_if_success (with_reducible show wpAny _ _ (call (Value.builtin _) _) _ _ _)); walk_at "MY one")); trivial
theorem row102 : True := by (k_with "MY toCmp" => (repeat' (fail_if_success (with_reducible show wpAny _ _ (compareOp _ _ _) _ _ _)); walk_at "MY one")); trivial
theorem row103 : True := by (k_with "MY toSub" => (repeat' (fail_if_success (with_reducible show wpAny _ _ (subscriptTail _ _ _ _) _ _ _)); walk_at "MY one")); trivial
theorem row104 : True := by (k_with "MY om" => first | ((repeat (first | (rename (_ ≠ _) => zz; clear zz) | (rename (_ ≠ _ ∧ _) => zz; clear zz))); omega) | omega); trivial
set_option maxHeartbeats 40000000 in
theorem law_walk : PySem.Challenge.rw_or0068_01.Holds := hd (by
  k_go0
  (all_goals try k_fold)
  walk1
  rename Fr _ _ _ _ => F0
  rename News _ _ _ _ => N0
  rename World => ww
  refine cut_tape F0 N0 ?_ ?_
  ·
    k_steps
    all_goals (rename News _ _ _ _ => N1)
    · exact MidTape.intro (by k_asm) N1 (by walk_at "MY pick") (by assumption) (by assumption) (by assumption) (by walk_at "MY om") (by walk_at "MY om") (by walk_at "MY om")
    · exact MidTape.intro (ws := [_]) (by k_asm) N1 (by walk_at "MY pick") (by assumption) (.cons _ _ .nil) (by decide) (by decide) (by walk_at "MY om") (by walk_at "MY om")
  intro l D k c tk ws ns o1 h tk' F1 N1 dT hI hn0 hn30 lD lp
  clear F0 N0
  (try (rename Ground _ _ _ _ _ _ _ _ _ => xx; clear xx))
  (try (rename Hook.says _ _ _ => xx; clear xx))
  (try (rename Flt.MathXP _ _ _ => xx; clear xx))
  (try (rename LooseAre _ _ _ => xx; clear xx))
  (try (rename Top viewQ _ _ _ _ _ => xx; clear xx))
  (try (rename Tables _ _ _ _ => xx; clear xx))
  (try (rename TopE _ _ _ _ => xx; clear xx))
  (try (rename TopW _ _ _ => xx; clear xx))
  (try (rename TabsAt _ _ => xx; clear xx))
  (try (rename Heap.CodeRec _ _ _ => xx; clear xx))
  (try (rename Dflts _ _ _ _ _ _ => xx; clear xx))
  (try (rename Well _ _ _ _ => xx; clear xx))
  (try (rename Reads _ _ _ _ => xx; clear xx))
  (try (rename ReadsAll _ _ _ _ => xx; clear xx))
  (try (rename ReadsAllW _ _ _ _ _ _ => xx; clear xx))
  (try (rename CellsAre _ _ _ => xx; clear xx))
  (try (rename Spec.Shape.has _ _ = true => xx; clear xx))
  (try (rename WShape.hasAll _ _ _ = true => xx; clear xx))
  (try (rename WData.layableAll _ = true => xx; clear xx))
  (try (rename PyData.layableAll0 _ = true => xx; clear xx))
  (try (rename PyData.layable0 _ = true => xx; clear xx))
  dsimp only
  walk1
  walk_at "MY assignU"
  walk_at "MY to617"
  k_dflt (refine' c_draw hI hn0 hn30 ?n1 ?n2 ?n3 ?n4 ?B ?F ?X ?N ?ne ?off ?T ?kK ?kd ?ku ?_)
  case B => k_asm
  case F => k_asm
  case X => k_asm
  case N => exact N1
  case ne => exact Nat.ne_of_lt lD
  case T => k_asm
  case kK => exact rfl
  case kd => ktr_room
  case ku => ktr_units
  case n1 => decide
  case n2 => decide
  case n3 => decide
  case n4 => decide
  case off => walk_at "MY allne"
  intro n t t' k2 h2 tk2 F2 N2 hm0 hm1
  walk_at "MY toRange"
  refine range1_rows F2 N2 ?_
  intro h3 tk3 t1 u1 v1 hr F3 N3 hk3
  have e3 : Builtin.Range.rangeSize 0 n 1 = ((n.toNat : Nat) : Int) := by rw [rangeSize_nat]; simp
  refine LCg.CompSrc.range (n := n.toNat) rfl F3 N3 hr (small_one (by walk_at "MY om") (by walk_at "MY om") (by walk_at "MY om") (by walk_at "MY om")) e3 (by rw [sizeLine_eq]; walk_at "MY om") fun g => ?_
  refine rest_state (DrawJ l D 1 c ws [_, _, _, _, _] 10) ?_ ?_ DrawJ.start
  ·
    intro i ys nw v I oI C oC D' m₂ h tk E' hi hJ hv hC hx F N off ne
    obtain ⟨t, k, ps, rfl, hps, hpl⟩ := hJ
    walk_at "MY to617"
    k_dflt (refine' c_draw hI hn0 hn30 ?n1 ?n2 ?n3 ?n4 ?B ?F ?X ?N ?ne ?off ?T ?kK ?kd ?ku ?_)
    case B => k_asm
    case F => k_asm
    case X => k_asm
    case N => exact news_front (by k_asm)
    case ne => exact Nat.ne_of_lt lD
    case T => k_asm
    case kK => exact rfl
    case kd => ktr_room
    case ku => ktr_units
    case n1 => walk_at "MY om"
    case n2 => walk_at "MY om"
    case n3 => decide
    case n4 => decide
    case off => exact off_front off (by walk_at "MY allne")
    intro n t1 t2 k3 h5 tk5 F5 N5 hq0 hq1
    exact ⟨h5, tk5, _, rfl, F5, news_back N5, off3_tape off, trivial, _, _, _, by rw [Int.add_assoc]; rfl, hps.snoc hq0 hq1, by simp [hpl]⟩
  · intro ys nw hJ
    obtain ⟨t, k, ps, rfl, hps, hpl⟩ := hJ
    intro Dp h6 tk6 F6 N6 off6
    dsimp only
    walk1
    walk_at "MY assignU"
    repeat' (fail_if_success (with_reducible show LCg.CompSrc _ _ _ _ _ _ _ _ _ _ _ _ _ _)); first | (k_unfold; (try dsimp only)) | walk1 | (dsimp only; walk1)
    have hl1 := IntsAre.length hps.1
    refine CompSrc.ledger rfl F6 (news_rot N6) (.tail _ (.tail _ (.head _))) (by rw [sizeLine_eq]; simp; walk_at "MY om") fun g => ?_
    refine rest_state (DrawK l D (1 + (n.toNat : Int)) c ws ((Dp, lst ys) :: _) WorthK) ?_ ?_ (DrawK.start ⟨[], .nil, by simp, rfl⟩)
    ·
      intro i ys2 nw v I oI C oC D' m₂ h tk E' hi hJ hv hC hx F N off ne
      obtain ⟨t, k, rfl, hK⟩ := hJ
      have hi2 : i < ys.length := by simpa using hi
      walk_at "MY to617"
      k_dflt (refine' c_draw hI hn0 hn30 ?n1 ?n2 ?n3 ?n4 ?B ?F ?X ?N ?ne ?off ?T ?kK ?kd ?ku ?_)
      case B => k_asm
      case F => k_asm
      case X => k_asm
      case N => exact news_front4 (by k_asm)
      case ne => exact Nat.ne_of_lt lD
      case T => k_asm
      case kK => exact rfl
      case kd => ktr_room
      case ku => ktr_units
      case n1 => walk_at "MY om"
      case n2 => walk_at "MY om"
      case n3 => decide
      case n4 => decide
      case off =>
        refine List.forall_mem_cons.mpr ⟨by k_ne, off_front off ?_⟩
        exact List.forall_mem_cons.mpr ⟨Ne.symm off6.1, by walk_at "MY allne"⟩
      intro n2 t1 t2 k3 h5 tk5 F5 N5 hq0 hq1
      have hq2 : n2 = 0 ∨ n2 = 1 ∨ n2 = 2 := by walk_at "MY om"
      rcases hq2 with rfl | rfl | rfl
      all_goals k_steps
      · exact ⟨h5, tk5, _, rfl, F5, news_back4 N5, off3_tape off, .inr ⟨_, .tail _ (.tail _ (.head _)), rfl, _, rfl⟩, _, _, by rw [Int.add_assoc]; rfl, hK.snoc (.inl rfl)⟩
      · exact ⟨h5, tk5, _, rfl, F5, news_back4 N5, off3_tape off, .inr ⟨_, .tail _ (.tail _ (.head _)), rfl, _, rfl⟩, _, _, by rw [Int.add_assoc]; rfl, hK.snoc (.inr (.inl rfl))⟩
      · exact ⟨h5, tk5, _, rfl, F5, news_back4 N5, off3_tape off, .inr ⟨_, .tail _ (.tail _ (.head _)), rfl, _, rfl⟩, _, _, by rw [Int.add_assoc]; rfl, hK.snoc (.inr (.inr rfl))⟩
    · intro ys2 nw hJ
      obtain ⟨t, k, rfl, hK⟩ := hJ
      intro Dw h7 tk7 F7 N7 off7
      dsimp only
      walk1
      obtain ⟨bs, hb1, hb2, hb3⟩ := hK
      have hl2 := hb1.length
      refine cut_fields (fldsOf ps bs) F7 N7 ?_ ?_
      rotate_left
      · intro Tf zs nT o2' fl h8 tk8 F8 N8 d8 hPf hlf hTf
        have hlf3 : (fldsOf ps bs).length ≤ 3 := fldsOf_len3 hpl hm1
        have hlf2 := hPf.length
        simp only [Off1] at off6 off7
        clear F6 N6 F7 N7 F1 N1 F2 N2 F3 N3
        dsimp only
        walk1
        have hLF := fldsOf_lawF hps.2 hb2
        refine cut_same (Str.ofString "rows") (fun v => ∃ u, v = .bytes (Bt.cat ((fldsOf ps bs).map fldBytes)) u) F8 N8 ?_ ?_
        ·
          walk_at "MY toComp"
          refine Gc.comp_G (cts := none) [(Str.ofString "pick", _), (Str.ofString "worth", _)] (by k_asm) (by with_unfolding_all rfl) (by decide) rfl (by decide) (by decide) ?_ (by intro _; rfl)
          walk_at "MY toRange"
          refine Gc.zip_G rfl F8 N8 (.tail _ (.head _)) rfl rfl (.tail _ (.tail _ (.head _))) rfl rfl rfl (by rw [sizeLine_eq]; walk_at "MY om") fun g => ?_
          refine Gc.restG_map (fldsOf ps bs) (fun f vals => LawF f ∧ ∃ k b t u, vals = [.int k t, .bytes b u] ∧ 0 ≤ k ∧ k < 10 ∧ f = (nmB k, b)) (fun f y => ∃ u, y = Value.bytes (fldBytes f) u) ?_ ?_ ⟨.tail _ (.head _), .tail _ (.tail _ (.head _))⟩ ?_ ?_
          · simp [fldsOf]; walk_at "MY om"
          · rintro i vals hi ⟨x, y, hx, hy, rfl⟩
            obtain ⟨k, t, hk1, rfl, hk2, hk3⟩ := picks_at hps hx
            obtain ⟨b, hb4, u, rfl⟩ := paired_at hb1 i y hy
            have e := fldsOf_get hk1 hb4
            exact ⟨_, e, hLF _ (List.mem_of_getElem? e), k, b, t, u, rfl, hk2, hk3, rfl⟩
          · rintro f vals C oC D' tail m₁ m₂ zs2 h tk E' hf ⟨hl, k, b, t, u, rfl, hk2, hk3, rfl⟩ hC hm F hsub N
            obtain ⟨e1, e2⟩ := Gc.bind2 (x := Str.ofString "pick") (y := Str.ofString "worth") (by decide) (.int k t) (.bytes b u) m₁
            have e1' : m₂ (Str.ofString "pick") = some (.int k t) := hm ▸ e1
            have e2' : m₂ (Str.ofString "worth") = some (.bytes b u) := hm ▸ e2
            have z1 := nmB_size k
            have z2 : b.size ≤ 6 := by obtain ⟨_, _, _, _, h2⟩ := hl; exact lawF_size h2
            k_steps
            exact ElEnd.intro (by k_asm) (by k_asm) ⟨_, rfl⟩
          · intro zs2 hP2
            walk_at "MY toJoin"
            have hB := cat_size_le (g := fldBytes) (B := 40) (fldsOf ps bs) fun f hf => fldBytes_size (hLF f hf)
            have hB2 : (fldsOf ps bs).length * 40 ≤ 3 * 40 := Nat.mul_le_mul_right _ hlf3
            refine Bt.join_empty (News.isList (by k_asm) (by k_mem)) (bytes_of_paired hP2) (by walk_at "MY om") fun tj kj => ?_
            k_steps
            exact ⟨rfl, _, _, _, rfl, by k_asm, by walk_at "MY led", _, rfl⟩
        rintro _ h9 tk9 F9 N9 ⟨uR, rfl⟩
        clear F8 N8
        dsimp only
        walk1
        refine cut_same (Str.ofString "is_barred") (fun v => v = .bool (!((ps.filter ownI).length == 0))) F9 N9 ?_ ?_
        ·
          k_steps
          refine ⟨_, _, _, _, by k_asm, by k_asm, src_list rfl _ ys.toArray, Or.inr ⟨_, by k_mem, rfl, _, rfl⟩, by rw [sizeLine_eq]; simp; walk_at "MY om", fun g => ?_⟩
          refine rest_filter ps (fun q v => ∃ t, v = .int q t) ownI (fun q v => ∃ t, v = .int q t) (by simp [hl1]) ?_ (Or.inr ⟨_, by k_mem, rfl, _, rfl⟩) ?_ ?_ ?_
          · intro i v hi hv
            obtain ⟨k, t, h1, rfl, _, _⟩ := picks_at hps (by simpa using hv)
            exact ⟨k, h1, t, rfl⟩
          · rintro q v I oI C oC D' m₂ zs3 h tk E' hq ⟨t, rfl⟩ hC hx F N off ne
            k_steps
            exact TsEnd.intro (by k_asm) (by k_asm) rfl
          · rintro q v I oI C oC D' m₂ zs3 h tk E' hq ⟨t, rfl⟩ hpz hC hx F N off ne
            k_steps
            exact ElEnd.intro (by k_asm) (by k_asm) ⟨_, rfl⟩
          · intro zs3 hP3
            walk_at "MY toCmp"
            refine Bt.ne_nil (News.isList (by k_asm) (by k_mem)) (News.isList (by k_asm) (by k_mem)) (by ktr_units) ?_
            k_steps
            exact ⟨rfl, _, _, _, rfl, by k_asm, by walk_at "MY led", by rw [hP3.length]; simp⟩
        rintro _ h10 tk10 F10 N10 rfl
        clear F9 N9
        dsimp only
        walk1
        refine cut_same (Str.ofString "caught") (fun v => v = .bool false) F10 N10 ?_ ?_
        ·
          k_steps
          exact ⟨rfl, _, _, _, rfl, by k_asm, by walk_at "MY led", rfl⟩
        rintro _ h11 tk11 F11 N11 rfl
        clear F10 N10
        dsimp only
        walk1
        refine cut_same (Str.ofString "caught") (fun v => v = .bool (decide (∃ f ∈ fldsOf ps bs, barred f = true))) F11 N11 ?_ ?_
        ·
          refine wpAny_Try_except ?_
          walk_at "MY to553"
          k_dflt (refine' CtrR.use (c_check Tf zs (fldsOf ps bs) (fun f hf => lawF_sound (hLF f hf)) (by walk_at "MY om")) ?B ?F ?X ?N ?T ?kK ?kR ?kd ?ku ?_ ?_)
          case B => k_asm
          case F => exact F11
          case X => k_asm
          case N => exact N11
          case T => k_asm
          case kK => exact rfl
          case kd => ktr_room
          case ku => ktr_units
          case kR => exact ⟨.inl ⟨_, _, .head _, rfl, rfl⟩, fields_mono hPf (by walk_at "MY sub")⟩
          · rintro _ h12 tk12 F12 N12 ⟨rfl, hno⟩
            clear F11 N11
            k_steps
            exact ⟨rfl, _, _, _, rfl, fr_congr F12 (fun z => by by_cases hz : z = Str.ofString "caught" <;> simp only [hz, if_true, if_false] <;> rfl), N12, by rw [decide_eq_false]; rintro ⟨f, hf, hq⟩; rw [hno f hf] at hq; cases hq⟩
          · intro hb e t ws g1 h12 tk12 F12 U12 R12
            k_dflt (refine' Xc.caught_top ?K F12 U12 R12.toK ?X ?T ?ex ?q ?_ ?hk ?hx ?hd ?hE; (case K => k_asm); (case X => k_asm); (case T => exact topRead_of (by assumption)); (case ex => k_is); (case q => kts_isx); (case hk => exact rfl); (case hx => exact rfl); (case hd => decide))
            · intro h13 F13 N13
              clear F11 N11 F12
              k_steps
              exact ⟨rfl, _, _, _, rfl, by k_asm, by k_asm, by rw [decide_eq_true hb]⟩
            · passes_own
        rintro _ h12 tk12 F12 N12 rfl
        clear F11 N11
        dsimp only
        rw [barred_all (bs := bs) hps.2 (by have := hb3; simp at this; walk_at "MY om")] at F12
        generalize hbb : decide (∃ f ∈ fldsOf ps bs, barred f = true) = bb at F12
        walk1
        refine cut_pass F12 N12 ?_ ?_
        ·
          cases bb
          · k_steps
            exact ⟨rfl, _, _, rfl, by k_asm, by walk_at "MY led"⟩
          · k_steps
            exact ⟨rfl, _, _, rfl, by k_asm, by walk_at "MY led"⟩
        intro h13 tk13 F13 N13
        clear F12 N12
        have N14 := news_plain N13
        have hab := above_cons (o := ({ cls := .type "tuple", data := .seq zs.toArray nT } : Obj)) hTf hlf
        clear N13
        dsimp only
        walk1
        refine cut_plain F13 N14 ?_ ?_
        ·
          k_steps
          rename Obj.IsDictOf (PySem.strKind _ _) _ _ => hdX
          rename PyProof.V.FlatPairs PyData.str _ _ => hfX
          rename (_ == sysModules) = false => hsX
          rename News _ _ _ _ => N9
          refine mid_plain N9 (by k_asm) (by assumption) ?_ ?_
          · exact ⟨_, _, _, _, ⟨_, _, _, _, _, _, _, _, .head _, .tail _ (.head _)⟩, ⟨⟨_, _, _, _, _, _, _, _, _, .tail _ (.tail _ (.head _)), .tail _ (.tail _ (.tail _ (.head _)))⟩, .tail _ (.tail _ (.tail _ (.tail _ (.head _))))⟩, ⟨hsX, hdX, hfX⟩, .inr ⟨_, _, _, by k_dflt k_is⟩, .nil⟩
          · exact above_cons (by walk_at "MY om") (above_cons (by walk_at "MY om") (above_cons (by walk_at "MY om") (above_cons (by walk_at "MY om") (above_cons (by walk_at "MY om") hab))))
        intro lp oP more4 h14 tk14 F14 N15 dP hsub4 hLp hab4
        clear F13 N14
        dsimp only
        walk1
        refine cut_lent zs (fldsOf ps bs) F14 N15 ?_ ?_
        ·
          k_steps
          rename Obj.IsDictOf (PySem.strKind _ _) _ _ => hdX
          rename PyProof.V.FlatPairs PyData.str _ _ => hfX
          rename (_ == sysModules) = false => hsX
          rename News _ _ _ _ => N9
          refine mid_lent N9 (by k_asm) (by assumption) ?_ ?_
          · exact ⟨_, _, _, _, ⟨_, _, _, _, _, _, _, _, .head _, .tail _ (.head _)⟩, ⟨⟨_, _, _, _, _, _, _, _, _, .tail _ (.tail _ (.head _)), .tail _ (.tail _ (.tail _ (.head _)))⟩, .tail _ (.tail _ (.tail _ (.tail _ (.head _))))⟩, ⟨hsX, hdX, hfX⟩, .inl ⟨_, _, mem5 _ (hsub4 _ (.head _)), rfl, rfl⟩, fields_mono hPf fun e he => mem5 _ (hsub4 _ (.tail _ he))⟩
          · exact above_cons (by walk_at "MY om") (above_cons (by walk_at "MY om") (above_cons (by walk_at "MY om") (above_cons (by walk_at "MY om") (above_cons (by walk_at "MY om") hab4))))
        intro ll oL more5 h15 tk15 F15 N16 dL hsub5 hLl hab5
        clear F14 N15 hab hab4
        dsimp only
        walk1
        have hsnd : ∀ f ∈ fldsOf ps bs, SoundF f.1 f.2 := fun f hf => lawF_sound (hLF f hf)
        refine cut_found 628 bb (leafO (fldsOf ps bs)) (manyO (fldsOf ps bs)) (letterO (fldsOf ps bs)) (wholeO (fldsOf ps bs)) F15 ?_ ?_
        ·
          walk_at "MY to626"
          rename News _ _ _ _ => N17
          k_dflt (refine' c_madeL (leafO (fldsOf ps bs)) ?hA ?N hbb ?fn ?B ?F ?X ?T ?XB ?TB ?kK ?kd ?ku ?_ ?_)
          case hA => exact rfl
          case N => exact N17
          case B => k_asm
          case F => k_asm
          case X => k_asm
          case T => k_asm
          case XB => k_asm
          case TB => k_asm
          case kK => exact rfl
          case kd => ktr_room
          case ku => ktr_units
          case fn => exact ⟨_, _, _, _, .head _⟩
          ·
            intro dp un gd cn cs a ccd cl outer A₀ base h₀ L' m' news' s' Q E B' F' X' N' T' hk hR hd' hu hret hrai
            have q1 := hR _ (.head _)
            have q2 := hR _ (.tail _ (.head _))
            have q3 := hR _ (.tail _ (.tail _ (.head _)))
            have q4 := hR _ (.tail _ (.tail _ (.tail _ (.head _))))
            have q5 := hR _ (.tail _ (.tail _ (.tail _ (.tail _ (.head _)))))
            have q6 := hR _ (.tail _ (.tail _ (.tail _ (.tail _ (.tail _ (.head _))))))
            have hpl : LeafR _ _ news' lp [] [] := hLp.mono fun e he => hR e ((by walk_at "MY sub" : ∀ p ∈ more5, p ∈ _) e (hsub5 e he))
            have hln : LeafR _ _ news' ll zs (fldsOf ps bs) := hLl.mono fun e he => hR e ((by walk_at "MY sub" : ∀ p ∈ more5, p ∈ _) e he)
            clear N17 N16 F15
            refine wpAny_call ?_
            walk_at "MY lamEnter"
            walk_at "MY to565"
            k_dflt (refine' CtrR.use (c_leaf ll zs (fldsOf ps bs) hsnd (by walk_at "MY om")) ?B ?F ?X ?N ?T ?kK ?kR ?kd ?ku ?_ ?_)
            case B => k_asm
            case F => k_asm
            case X => k_asm
            case N => k_asm
            case T => k_asm
            case kK => exact rfl
            case kd => ktr_room
            case ku => ktr_units
            case kR => exact hln.mono (by walk_at "MY sub")
            · rintro r h4 tk4 F4 N4 ⟨⟨u4, rfl⟩, hno⟩
              k_steps
              exact hret _ _ _ (by k_asm) (by walk_at "MY led") ⟨⟨_, rfl⟩, hno⟩
            · intro hb e t ws g1 h1 tk1 F1 U1 R1
              k_unfold
              refine Xc.leave_onX rfl (by k_asm) F1 R1 U1 ?_
              intro h6 R6 U6
              exact hrai hb _ _ _ _ _ _ (by k_asm) U6 (Xc.RaisedS.sub R6 (by walk_at "MY sub"))
          intro u1 h21 tk21 F21 N21
          walk_at "MY to626"
          rename News _ _ _ _ => N17
          k_dflt (refine' c_madeL (manyO (fldsOf ps bs)) ?hA ?N hbb ?fn ?B ?F ?X ?T ?XB ?TB ?kK ?kd ?ku ?_ ?_)
          case hA => exact rfl
          case N => exact N17
          case B => k_asm
          case F => k_asm
          case X => k_asm
          case T => k_asm
          case XB => k_asm
          case TB => k_asm
          case kK => exact rfl
          case kd => ktr_room
          case ku => ktr_units
          case fn => exact ⟨_, _, _, _, .head _⟩
          ·
            intro dp un gd cn cs a ccd cl outer A₀ base h₀ L' m' news' s' Q E B' F' X' N' T' hk hR hd' hu hret hrai
            have q1 := hR _ (.head _)
            have q2 := hR _ (.tail _ (.head _))
            have q3 := hR _ (.tail _ (.tail _ (.head _)))
            have q4 := hR _ (.tail _ (.tail _ (.tail _ (.head _))))
            have q5 := hR _ (.tail _ (.tail _ (.tail _ (.tail _ (.head _)))))
            have q6 := hR _ (.tail _ (.tail _ (.tail _ (.tail _ (.tail _ (.head _))))))
            have q7 := hR _ (.tail _ (.tail _ (.tail _ (.tail _ (.tail _ (.tail _ (.head _)))))))
            have q8 := hR _ (.tail _ (.tail _ (.tail _ (.tail _ (.tail _ (.tail _ (.tail _ (.head _))))))))
            have hpl : LeafR _ _ news' lp [] [] := hLp.mono fun e he => hR e ((by walk_at "MY sub" : ∀ p ∈ more5, p ∈ _) e (hsub5 e he))
            have hln : LeafR _ _ news' ll zs (fldsOf ps bs) := hLl.mono fun e he => hR e ((by walk_at "MY sub" : ∀ p ∈ more5, p ∈ _) e he)
            have hT9 : TupN ww news' Tf zs := .inl ⟨_, _, hR _ ((by walk_at "MY sub" : ∀ p ∈ more5, p ∈ _) _ (hsub5 _ (hsub4 _ (.head _)))), rfl, rfl⟩
            have hP9 : Paired (FieldAt news') (fldsOf ps bs) zs := fields_mono hPf fun e he => hR e ((by walk_at "MY sub" : ∀ p ∈ more5, p ∈ _) e (hsub5 _ (hsub4 _ (.tail _ he))))
            clear N17 N16 F15
            refine wpAny_call ?_
            walk_at "MY lamEnter"
            walk_at "MY to575"
            k_dflt (refine' CtrR.use (c_many _ zs (fldsOf ps bs) hsnd (by walk_at "MY om")) ?B ?F ?X ?N ?T ?kK ?kR ?kd ?ku ?_ ?_)
            case B => k_asm
            case F => k_asm
            case X => k_asm
            case N => k_asm
            case T => k_asm
            case kK => exact rfl
            case kd => ktr_room
            case ku => ktr_units
            case kR => exact ⟨_, _, _, _, _, _, _, _, _, _, _, _, by k_mem, by k_mem, by k_mem, hpl.mono (by walk_at "MY sub"), hT9.mono (by walk_at "MY sub"), fields_mono hP9 (by walk_at "MY sub")⟩
            · rintro r h4 tk4 F4 N4 ⟨⟨u4, rfl⟩, hno⟩
              k_steps
              exact hret _ _ _ (by k_asm) (by walk_at "MY led") ⟨⟨_, rfl⟩, hno⟩
            · intro hb e t ws g1 h1 tk1 F1 U1 R1
              k_unfold
              refine Xc.leave_onX rfl (by k_asm) F1 R1 U1 ?_
              intro h6 R6 U6
              exact hrai hb _ _ _ _ _ _ (by k_asm) U6 (Xc.RaisedS.sub R6 (by walk_at "MY sub"))
          intro u2 h22 tk22 F22 N22
          walk_at "MY to626"
          rename News _ _ _ _ => N17
          k_dflt (refine' c_madeL (letterO (fldsOf ps bs)) ?hA ?N hbb ?fn ?B ?F ?X ?T ?XB ?TB ?kK ?kd ?ku ?_ ?_)
          case hA => exact rfl
          case N => exact N17
          case B => k_asm
          case F => k_asm
          case X => k_asm
          case T => k_asm
          case XB => k_asm
          case TB => k_asm
          case kK => exact rfl
          case kd => ktr_room
          case ku => ktr_units
          case fn => exact ⟨_, _, _, _, .head _⟩
          ·
            intro dp un gd cn cs a ccd cl outer A₀ base h₀ L' m' news' s' Q E B' F' X' N' T' hk hR hd' hu hret hrai
            have q1 := hR _ (.head _)
            have q2 := hR _ (.tail _ (.head _))
            have q3 := hR _ (.tail _ (.tail _ (.head _)))
            have q4 := hR _ (.tail _ (.tail _ (.tail _ (.head _))))
            have q5 := hR _ (.tail _ (.tail _ (.tail _ (.tail _ (.head _)))))
            have q6 := hR _ (.tail _ (.tail _ (.tail _ (.tail _ (.tail _ (.head _))))))
            have q7 := hR _ (.tail _ (.tail _ (.tail _ (.tail _ (.tail _ (.tail _ (.head _)))))))
            have q8 := hR _ (.tail _ (.tail _ (.tail _ (.tail _ (.tail _ (.tail _ (.tail _ (.head _))))))))
            have q9 := hR _ (.tail _ (.tail _ (.tail _ (.tail _ (.tail _ (.tail _ (.tail _ (.tail _ (.head _)))))))))
            have q10 := hR _ (.tail _ (.tail _ (.tail _ (.tail _ (.tail _ (.tail _ (.tail _ (.tail _ (.tail _ (.head _))))))))))
            have hpl : LeafR _ _ news' lp [] [] := hLp.mono fun e he => hR e ((by walk_at "MY sub" : ∀ p ∈ more5, p ∈ _) e (hsub5 e he))
            have hln : LeafR _ _ news' ll zs (fldsOf ps bs) := hLl.mono fun e he => hR e ((by walk_at "MY sub" : ∀ p ∈ more5, p ∈ _) e he)
            have hT9 : TupN ww news' Tf zs := .inl ⟨_, _, hR _ ((by walk_at "MY sub" : ∀ p ∈ more5, p ∈ _) _ (hsub5 _ (hsub4 _ (.head _)))), rfl, rfl⟩
            have hP9 : Paired (FieldAt news') (fldsOf ps bs) zs := fields_mono hPf fun e he => hR e ((by walk_at "MY sub" : ∀ p ∈ more5, p ∈ _) e (hsub5 _ (hsub4 _ (.tail _ he))))
            clear N17 N16 F15
            refine wpAny_call ?_
            walk_at "MY lamEnter"
            walk_at "MY to582"
            k_dflt (refine' CtrR.use (c_letter _ zs (fldsOf ps bs) hsnd (by walk_at "MY om")) ?B ?F ?X ?N ?T ?kK ?kR ?kd ?ku ?_ ?_)
            case B => k_asm
            case F => k_asm
            case X => k_asm
            case N => k_asm
            case T => k_asm
            case kK => exact rfl
            case kd => ktr_room
            case ku => ktr_units
            case kR => exact ⟨_, _, _, _, _, _, _, by k_mem, by k_mem, hpl.mono (by walk_at "MY sub"), hT9.mono (by walk_at "MY sub"), fields_mono hP9 (by walk_at "MY sub")⟩
            · rintro r h4 tk4 F4 N4 ⟨⟨u4, rfl⟩, hno⟩
              k_steps
              exact hret _ _ _ (by k_asm) (by walk_at "MY led") ⟨⟨_, rfl⟩, hno⟩
            · intro hb e t ws g1 h1 tk1 F1 U1 R1
              k_unfold
              refine Xc.leave_onX rfl (by k_asm) F1 R1 U1 ?_
              intro h6 R6 U6
              exact hrai hb _ _ _ _ _ _ (by k_asm) U6 (Xc.RaisedS.sub R6 (by walk_at "MY sub"))
          intro u3 h23 tk23 F23 N23
          walk_at "MY to626"
          rename News _ _ _ _ => N17
          k_dflt (refine' c_madeL (wholeO (fldsOf ps bs)) ?hA ?N hbb ?fn ?B ?F ?X ?T ?XB ?TB ?kK ?kd ?ku ?_ ?_)
          case hA => exact rfl
          case N => exact N17
          case B => k_asm
          case F => k_asm
          case X => k_asm
          case T => k_asm
          case XB => k_asm
          case TB => k_asm
          case kK => exact rfl
          case kd => ktr_room
          case ku => ktr_units
          case fn => exact ⟨_, _, _, _, .head _⟩
          ·
            intro dp un gd cn cs a ccd cl outer A₀ base h₀ L' m' news' s' Q E B' F' X' N' T' hk hR hd' hu hret hrai
            have q1 := hR _ (.head _)
            have q2 := hR _ (.tail _ (.head _))
            have q3 := hR _ (.tail _ (.tail _ (.head _)))
            have q4 := hR _ (.tail _ (.tail _ (.tail _ (.head _))))
            have q5 := hR _ (.tail _ (.tail _ (.tail _ (.tail _ (.head _)))))
            have q6 := hR _ (.tail _ (.tail _ (.tail _ (.tail _ (.tail _ (.head _))))))
            have q7 := hR _ (.tail _ (.tail _ (.tail _ (.tail _ (.tail _ (.tail _ (.head _)))))))
            have q8 := hR _ (.tail _ (.tail _ (.tail _ (.tail _ (.tail _ (.tail _ (.tail _ (.head _))))))))
            have q9 := hR _ (.tail _ (.tail _ (.tail _ (.tail _ (.tail _ (.tail _ (.tail _ (.tail _ (.head _)))))))))
            have q10 := hR _ (.tail _ (.tail _ (.tail _ (.tail _ (.tail _ (.tail _ (.tail _ (.tail _ (.tail _ (.head _))))))))))
            have q11 := hR _ (.tail _ (.tail _ (.tail _ (.tail _ (.tail _ (.tail _ (.tail _ (.tail _ (.tail _ (.tail _ (.head _)))))))))))
            have q12 := hR _ (.tail _ (.tail _ (.tail _ (.tail _ (.tail _ (.tail _ (.tail _ (.tail _ (.tail _ (.tail _ (.tail _ (.head _))))))))))))
            have hpl : LeafR _ _ news' lp [] [] := hLp.mono fun e he => hR e ((by walk_at "MY sub" : ∀ p ∈ more5, p ∈ _) e (hsub5 e he))
            have hln : LeafR _ _ news' ll zs (fldsOf ps bs) := hLl.mono fun e he => hR e ((by walk_at "MY sub" : ∀ p ∈ more5, p ∈ _) e he)
            have hT9 : TupN ww news' Tf zs := .inl ⟨_, _, hR _ ((by walk_at "MY sub" : ∀ p ∈ more5, p ∈ _) _ (hsub5 _ (hsub4 _ (.head _)))), rfl, rfl⟩
            have hP9 : Paired (FieldAt news') (fldsOf ps bs) zs := fields_mono hPf fun e he => hR e ((by walk_at "MY sub" : ∀ p ∈ more5, p ∈ _) e (hsub5 _ (hsub4 _ (.tail _ he))))
            clear N17 N16 F15
            refine wpAny_call ?_
            walk_at "MY lamEnter"
            walk_at "MY to610"
            k_dflt (refine' CtrR.use (c_message lp Tf zs (fldsOf ps bs) hsnd (by walk_at "MY om")) ?B ?F ?X ?N ?T ?kK ?kR ?kd ?ku ?_ ?_)
            case B => k_asm
            case F => k_asm
            case X => k_asm
            case N => k_asm
            case T => k_asm
            case kK => exact rfl
            case kd => ktr_room
            case ku => ktr_units
            case kR => exact ⟨hpl.mono (by walk_at "MY sub"), hT9.mono (by walk_at "MY sub"), fields_mono hP9 (by walk_at "MY sub")⟩
            · rintro r h4 tk4 F4 N4 ⟨⟨u4, rfl⟩, hno⟩
              k_steps
              exact hret _ _ _ (by k_asm) (by walk_at "MY led") ⟨⟨_, rfl⟩, hno⟩
            · intro hb e t ws g1 h1 tk1 F1 U1 R1
              k_unfold
              refine Xc.leave_onX rfl (by k_asm) F1 R1 U1 ?_
              intro h6 R6 U6
              exact hrai hb _ _ _ _ _ _ (by k_asm) U6 (Xc.RaisedS.sub R6 (by walk_at "MY sub"))
          intro u4 h24 tk24 F24 N24
          k_steps
          rename News _ _ _ _ => N25
          exact ⟨rfl, _, _, _, u1, u2, u3, u4, _, _, rfl, by k_asm, fun p hp => N25 p ((by walk_at "MY pick" : ∀ p ∈ _, p ∈ _) p hp), by walk_at "MY om"⟩
        intro Dd kd psT u1 u2 u3 u4 h16 tk16 F16 N26 lDd
        clear F15 N16
        dsimp only
        cases bb with
        | true =>
          simp only [pickV] at N26
          k_steps
        | false =>
          simp only [pickV] at N26
          obtain ⟨hRz, hO1, hO2, hO3, hO4⟩ := opens_all hLF hlf3
          simp only [rowsB] at hRz hO1 hO2 hO3 hO4
          generalize leafO (fldsOf ps bs) = A1 at N26 hO1
          generalize manyO (fldsOf ps bs) = A2 at N26 hO2
          generalize letterO (fldsOf ps bs) = A3 at N26 hO3
          generalize wholeO (fldsOf ps bs) = A4 at N26 hO4
          generalize Bt.cat ((fldsOf ps bs).map fldBytes) = R at F16 hRz hO1 hO2 hO3 hO4
          walk1
          refine cut_pass F16 N26 ?_ ?_
          ·
            k_steps
            exact ⟨rfl, _, _, rfl, by k_asm, by walk_at "MY led"⟩
          intro h17 tk17 F17 N27
          clear F16 N26
          dsimp only
          repeat' (fail_if_success (with_reducible show wpAny _ _ (exec (Stmt.For _ _ _ _ _) _) _ _ _)); first | (k_unfold; (try dsimp only)) | walk1 | (dsimp only; walk1)
          rename News _ _ _ _ => N28
          rename Fr _ _ _ _ => F18
          k_dflt (refine' For_turns F18 ?_ ?hsFor ?hEFor)
          case hsFor => intro _; rfl
          case hEFor => passes_own
          walk_at "MY toRange"
          refine Zt.for_zip (ns := [(Str.ofString "octets", _), (Str.ofString "begin", _), (Str.ofString "end", _)]) rfl F18 N28 (.tail _ (.tail _ (.head _))) rfl rfl (.tail _ (.head _)) rfl rfl (.head _) rfl rfl rfl rfl rfl (by intro q hq; simp only [List.mem_cons, List.not_mem_nil, or_false] at hq; rcases hq with rfl | rfl | rfl <;> rfl) rfl ?_ ?_
          · intro i x y z h tk all hx hy hz F29 N29
            rcases i with _ | _ | _ | _ | i
            · cases hx; cases hy; cases hz
              walk_at "MY toSub"
              rename News _ _ _ _ => N30
              rename Fr _ _ _ _ => F30
              refine KBc.slice_K (s := ⟨_, _, _, _, _⟩) F30 N30 rfl (by constructor) (by constructor) (by rw [KBw.ints_length]; have := hO1.1; walk_at "MY om") ?_
              intro h31 t31 k31 F31 N31 _
              rw [pick_opens hO1 (by simp only [List.size_toArray, List.length_cons, List.length_nil] <;> walk_at "MY om")]
              k_steps
              · rename (_ != _) = true => hq
                exact absurd hq (Bool.eq_false_iff.mp (bne_self_eq_false _))
              · exact ⟨rfl, _, _, rfl, by k_asm, by k_asm⟩
            · cases hx; cases hy; cases hz
              walk_at "MY toSub"
              rename News _ _ _ _ => N30
              rename Fr _ _ _ _ => F30
              refine KBc.slice_K (s := ⟨_, _, _, _, _⟩) F30 N30 rfl (by constructor) (by constructor) (by rw [KBw.ints_length]; have := hO2.1; walk_at "MY om") ?_
              intro h31 t31 k31 F31 N31 _
              rw [pick_opens hO2 (by simp only [List.size_toArray, List.length_cons, List.length_nil] <;> walk_at "MY om")]
              k_steps
              · rename (_ != _) = true => hq
                exact absurd hq (Bool.eq_false_iff.mp (bne_self_eq_false _))
              · exact ⟨rfl, _, _, rfl, by k_asm, by k_asm⟩
            · cases hx; cases hy; cases hz
              walk_at "MY toSub"
              rename News _ _ _ _ => N30
              rename Fr _ _ _ _ => F30
              refine KBc.slice_K (s := ⟨_, _, _, _, _⟩) F30 N30 rfl (by constructor) (by constructor) (by rw [KBw.ints_length]; have := hO3.1; walk_at "MY om") ?_
              intro h31 t31 k31 F31 N31 _
              rw [pick_opens hO3 (by simp only [List.size_toArray, List.length_cons, List.length_nil] <;> walk_at "MY om")]
              k_steps
              · rename (_ != _) = true => hq
                exact absurd hq (Bool.eq_false_iff.mp (bne_self_eq_false _))
              · exact ⟨rfl, _, _, rfl, by k_asm, by k_asm⟩
            · cases hx; cases hy; cases hz
              walk_at "MY toSub"
              rename News _ _ _ _ => N30
              rename Fr _ _ _ _ => F30
              refine KBc.slice_K (s := ⟨_, _, _, _, _⟩) F30 N30 rfl (by constructor) (by constructor) (by rw [KBw.ints_length]; have := hO4.1; walk_at "MY om") ?_
              intro h31 t31 k31 F31 N31 _
              rw [pick_opens hO4 (by simp only [List.size_toArray, List.length_cons, List.length_nil] <;> walk_at "MY om")]
              k_steps
              · rename (_ != _) = true => hq
                exact absurd hq (Bool.eq_false_iff.mp (bne_self_eq_false _))
              · exact ⟨rfl, _, _, rfl, by k_asm, by k_asm⟩
            · simp at hx
          · intro h19 tk19 m19 hm19 F19 N29
            k_steps
      walk_at "MY toComp"
      refine Gc.comp_G (cts := none) [(Str.ofString "pick", _), (Str.ofString "worth", _)] (by k_asm) (by with_unfolding_all rfl) (by decide) rfl (by decide) (by decide) ?_ (by intro _; rfl)
      walk_at "MY toRange"
      refine Gc.zip_G rfl F7 N7 (.tail _ (.tail _ (.tail _ (.head _)))) rfl rfl (.head _) rfl rfl rfl (by rw [sizeLine_eq]; walk_at "MY om") fun g => ?_
      refine restG_state (FieldsJ _ D (fldsOf ps bs)) ?_ ?_ FieldsJ.start
      · rintro i zs nw vals C oC D' own m₁ m₂ h tk E' hi hJ ⟨x, y, hx, hy, rfl⟩ hC hm F N off offO ne
        obtain ⟨k, t, hk1, rfl, hk2, hk3⟩ := picks_at hps hx
        obtain ⟨b, hb4, u, rfl⟩ := paired_at hb1 i y hy
        obtain ⟨e1, e2⟩ := Gc.bind2 (x := Str.ofString "pick") (y := Str.ofString "worth") (by decide) (.int k t) (.bytes b u) m₁
        have e1' : m₂ (Str.ofString "pick") = some (.int k t) := hm ▸ e1
        have e2' : m₂ (Str.ofString "worth") = some (.bytes b u) := hm ▸ e2
        walk_at "MY to148"
        k_dflt (refine' c_field ?B ?F ?X ?N ?T ?kK ?kd ?ku ?_)
        case B => k_asm
        case F => k_asm
        case X => k_asm
        case N => exact N
        case T => k_asm
        case kK => exact rfl
        case kd => ktr_room
        case ku => ktr_units
        intro x dx h1 h2 t3 t4 h9 tk9 F9 N9 l9 l10 _
        refine FieldsJ.turn hJ (by k_mem) (fldsOf_get hk1 hb4) F9 N9 l9 l10 off ?_
        intro more
        obtain ⟨fl, rfl, -, -⟩ := hJ
        exact ⟨List.mem_append_right _ (List.mem_append_right _ (by k_mem)), List.mem_append_right _ (List.mem_append_right _ (by k_mem))⟩
      · intro zs nw hJ
        obtain ⟨fl, rfl, hPf, hlf⟩ := hJ
        intro Df h10 tk10 F10 N10 off10
        have N11 := news_swap N10
        simp only [List.cons_append, List.nil_append] at N11
        have off11 := off1_right off10
        simp only [Off1] at off6 off7 off11
        clear N10
        have hlf2 := hPf.length
        have hlf3 : (fldsOf ps bs).length ≤ 3 := fldsOf_len3 hpl hm1
        rw [List.take_of_length_le (by simp [fldsOf]; walk_at "MY om")] at hPf hlf2
        walk_at "MY toRange"
        refine kde_tupleOf (zs := zs) F10 N11 (News.isList N11 (.head _)) (by simp; walk_at "MY om") (by simp) ?_
        intro Tf h12 F12 N12 l12
        clear F10 N11
        k_lt l12
        k_steps
        rename News _ _ _ _ => N13
        exact ⟨rfl, Tf, zs, _, _, fl, _, _, rfl, by k_asm, fun p hp => N13 p ((by walk_at "MY pickT" : ∀ p ∈ _, p ∈ _) p hp), by assumption, hPf, fun e he => Nat.lt_trans lp (hlf e he), by walk_at "MY om"⟩
      )

end Mine
theorem PySem.Challenge.cw_or0068_01_holds : PySem.Challenge.rw_or0068_01.Holds :=
  Mine.law_walk
