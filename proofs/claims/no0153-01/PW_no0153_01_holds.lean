import PyProof.Rows.All
import Wide.All
import OpenK.AllK
import Wide.FinOn
import Lean
import PySem.Challenge.RW_no0153_01
set_option Elab.async false

section
open PySem PySem.W PySem.Calls PyProof.Rows
set_option maxRecDepth 100000
set_option maxHeartbeats 8000000
namespace Mine
/-! the head: the law's look as the kit shows it; the top's run in two steps (the run to its last heap, the looks at that heap), each by the kernel -/
/-- the view: the text without the rows that bind no name of its own -/
noncomputable def hd.view_39 : Program := { PySem.Challenge.pw_no0153_01 with main := { PySem.Challenge.pw_no0153_01.main with body := List.take 64 (List.drop 1 PySem.Challenge.pw_no0153_01.main.body) ++ List.drop 66 PySem.Challenge.pw_no0153_01.main.body } }
theorem two {A B C : Prop} (f : A → B → C) (h : A ∧ B) : C := f h.1 h.2
local macro_rules | `(tactic| o_head $H) => `(tactic| refine two (A := LeftO PySem.Challenge.rw_no0153_01.row.toRowW.prog hd.view_39 [] (fun s => xlAt hd.view_39 [] s && recOk (RowW.records PySem.Challenge.rw_no0153_01.row.toRowW) s) (Hook.obs $H) (Hook.val $H) 2876) (B := WalkO hd.view_39 [] (XL hd.view_39 []) (Hook.says $H) PySem.Challenge.rw_no0153_01.row.toRowW _ _ _) (fun hl hc => holds_open (q := hd.view_39) (loose := []) (XP := XL hd.view_39 []) hl (Hook.of $H) (Hook.keeps $H) (fun s e => xl_of s (Bool.and_eq_true_iff.mp e).1) XL.keeps (by rfl) (by rfl) (by rfl) (fun s e => recFacts_of (Bool.and_eq_true_iff.mp e).2) (by rfl) (by first | assumption | decide +kernel) (by decide +kernel) ⟨rfl, rfl, rfl, rfl, rfl, by decide +kernel⟩ ?hw hc) ?_)
open_top hd for PySem.Challenge.rw_no0153_01

/-! the last heap of the top's run: what the fragment holds (at1), the start's own, the defs' bare copies, the rest written -/
noncomputable def at1 (P : Params) (a : Nat) : Obj := match (hd.heap_39 P).find? fun p => Nat.beq p.1 a with | some p => p.2 | none => ⟨.none, none, .plain, #[]⟩
noncomputable def bare (o : Obj) : Obj := match o.data with
  | .func ⟨a, b, c, d, e, _, _, _, _, _, _, _, _, _, _⟩ => ⟨.none, none, .func ⟨a, b, c, d, e, 0, [], .none, .none, .none, .none, none, .none, .none, 0⟩, #[]⟩
  | _ => o
noncomputable def husk : Obj := ⟨.none, none, .fields (List.toArray []), #[]⟩
/-- the module's names ahead of a boundary: the first k, with the name that the second file bears -/
noncomputable def cutD (k : Nat) (o : Obj) : Obj := match o.data with
  | .dict es _ => match es.toList.take k with
    | ⟨h, x, _⟩ :: r => ⟨.type "dict", none, .dict (List.toArray (⟨h, x, .str (Str.ofString "clausemill.symbols") 187⟩ :: r)) k, #[]⟩
    | [] => o
  | _ => o
noncomputable def cutF (k : Nat) (o : Obj) : Obj := match o.data with
  | .fields vs => ⟨.none, none, .fields (List.toArray (vs.toList.take k)), #[]⟩
  | _ => o
noncomputable def w11 : Params → Obj := fun _ => (Obj.mk (Value.type "tuple") none (Data.seq (List.toArray []) 0) #[])
noncomputable def w12 : Params → Obj := fun _ => (Obj.mk Value.none none (Data.fields (List.toArray (List.cons (Value.int 63 0) (List.cons (Value.int 0 0) (List.cons (Value.ref 20) (List.cons (Value.int 65 0) (List.cons (Value.int 0 0) (List.cons (Value.ref 27) (List.cons (Value.int 67 0) (List.cons (Value.int 0 0) (List.cons (Value.ref 34) (List.cons (Value.int 126 0) (List.cons (Value.int 0 0) (List.cons (Value.ref 125) (List.cons (Value.int 139 0) (List.cons (Value.int 0 0) (List.cons (Value.ref 132) (List.cons (Value.int 141 0) (List.cons (Value.int 0 0) (List.cons (Value.ref 139) (List.cons (Value.int 143 0) (List.cons (Value.int 0 0) (List.cons (Value.ref 144) (List.cons (Value.int 147 0) (List.cons (Value.int 0 0) (List.cons (Value.ref 149) (List.cons (Value.int 152 0) (List.cons (Value.int 0 0) (List.cons (Value.ref 156) (List.cons (Value.int 156 0) (List.cons (Value.int 0 0) (List.cons (Value.ref 161) [])))))))))))))))))))))))))))))))) #[])
noncomputable def w13 : Params → Obj := fun _ => (Obj.mk (Value.type "code") none (Data.fields (List.toArray (List.cons (Value.str (Str.ofString "<module>") 182) (List.cons (Value.str (Str.ofString "<module>") 183) (List.cons (Value.str (Str.ofString "/claim/cut.py") 184) (List.cons (Value.int 1 0) (List.cons (Value.int 0 0) (List.cons (Value.int 0 0) (List.cons (Value.int 0 0) (List.cons (Value.int 0 0) (List.cons (Value.ref 11) (List.cons (Value.bool Bool.false) (List.cons (Value.int 181 0) (List.cons (Value.ref 12) (List.cons Value.none (List.cons Value.none (List.cons Value.none (List.cons Value.none (List.cons (Value.int 185 0) (List.cons (Value.int 1 0) (List.cons (Value.str (Str.ofString "/claim/cut.py") 186) []))))))))))))))))))))) #[])
noncomputable def w14 : Params → Obj := fun _ => (Obj.mk (Value.type "frame") none Data.plain (List.toArray (List.cons (some (Value.ref 13)) (List.cons (some (Value.ref 3)) (List.cons (some (Value.ref 3)) (List.cons (@Option.none Value) (List.cons (some (Value.str (Str.ofString "__main__") 164)) (List.cons (@Option.none Value) (List.cons (some (Value.ref 0)) [])))))))))
noncomputable def w29 : Params → Obj := fun _ => (Obj.mk (Value.type "tuple") none (Data.seq (List.toArray []) 0) #[])
noncomputable def w30 : Params → Obj := fun _ => (Obj.mk (Value.type "builtin_function_or_method") none (Data.fields (List.toArray (List.cons (Value.builtin "type.__prepare__") (List.cons (Value.type "type") [])))) #[])
noncomputable def w31 : Params → Obj := fun P => (Obj.mk (Value.type "dict") none (Data.dict (List.toArray (List.cons (DictEntry.mk (PyData.keyHash P (Str.ofString "__module__")) (Value.str (Str.ofString "__module__") 330) (Value.str (Str.ofString "clausemill.symbols") 187)) (List.cons (DictEntry.mk (PyData.keyHash P (Str.ofString "__qualname__")) (Value.str (Str.ofString "__qualname__") 332) (Value.str (Str.ofString "Symbols") 331)) (List.cons (DictEntry.mk (PyData.keyHash P (Str.ofString "__firstlineno__")) (Value.str (Str.ofString "__firstlineno__") 334) (Value.int 67 333)) (List.cons (DictEntry.mk (PyData.keyHash P (Str.ofString "__init__")) (Value.str (Str.ofString "__init__") 343) (Value.ref 42)) (List.cons (DictEntry.mk (PyData.keyHash P (Str.ofString "atom")) (Value.str (Str.ofString "atom") 353) (Value.ref 49)) (List.cons (DictEntry.mk (PyData.keyHash P (Str.ofString "text")) (Value.str (Str.ofString "text") 361) (Value.ref 56)) (List.cons (DictEntry.mk (PyData.keyHash P (Str.ofString "functor")) (Value.str (Str.ofString "functor") 373) (Value.ref 63)) (List.cons (DictEntry.mk (PyData.keyHash P (Str.ofString "func")) (Value.str (Str.ofString "func") 382) (Value.ref 70)) (List.cons (DictEntry.mk (PyData.keyHash P (Str.ofString "name")) (Value.str (Str.ofString "name") 390) (Value.ref 77)) (List.cons (DictEntry.mk (PyData.keyHash P (Str.ofString "arity")) (Value.str (Str.ofString "arity") 398) (Value.ref 84)) (List.cons (DictEntry.mk (PyData.keyHash P (Str.ofString "label")) (Value.str (Str.ofString "label") 407) (Value.ref 91)) (List.cons (DictEntry.mk (PyData.keyHash P (Str.ofString "count")) (Value.str (Str.ofString "count") 414) (Value.ref 98)) (List.cons (DictEntry.mk (PyData.keyHash P (Str.ofString "functor_count")) (Value.str (Str.ofString "functor_count") 421) (Value.ref 105)) (List.cons (DictEntry.mk (PyData.keyHash P (Str.ofString "known")) (Value.str (Str.ofString "known") 431) (Value.ref 112)) (List.cons (DictEntry.mk (PyData.keyHash P (Str.ofString "__static_attributes__")) (Value.str (Str.ofString "__static_attributes__") 436) (Value.ref 113)) [])))))))))))))))) 15) #[])
noncomputable def w32 : Params → Obj := fun _ => (Obj.mk (Value.type "tuple") none (Data.seq (List.toArray []) 0) #[])
noncomputable def w33 : Params → Obj := fun _ => (Obj.mk Value.none none (Data.fields (List.toArray (List.cons (Value.int 69 0) (List.cons (Value.int 4 0) (List.cons (Value.ref 41) (List.cons (Value.int 79 0) (List.cons (Value.int 4 0) (List.cons (Value.ref 48) (List.cons (Value.int 88 0) (List.cons (Value.int 4 0) (List.cons (Value.ref 55) (List.cons (Value.int 91 0) (List.cons (Value.int 4 0) (List.cons (Value.ref 62) (List.cons (Value.int 101 0) (List.cons (Value.int 4 0) (List.cons (Value.ref 69) (List.cons (Value.int 104 0) (List.cons (Value.int 4 0) (List.cons (Value.ref 76) (List.cons (Value.int 107 0) (List.cons (Value.int 4 0) (List.cons (Value.ref 83) (List.cons (Value.int 110 0) (List.cons (Value.int 4 0) (List.cons (Value.ref 90) (List.cons (Value.int 114 0) (List.cons (Value.int 4 0) (List.cons (Value.ref 97) (List.cons (Value.int 117 0) (List.cons (Value.int 4 0) (List.cons (Value.ref 104) (List.cons (Value.int 120 0) (List.cons (Value.int 4 0) (List.cons (Value.ref 111) []))))))))))))))))))))))))))))))))))) #[])
noncomputable def w34 : Params → Obj := fun _ => (Obj.mk (Value.type "code") none (Data.fields (List.toArray (List.cons (Value.str (Str.ofString "Symbols") 325) (List.cons (Value.str (Str.ofString "Symbols") 326) (List.cons (Value.str (Str.ofString "/claim/cut.py") 327) (List.cons (Value.int 67 0) (List.cons (Value.int 0 0) (List.cons (Value.int 0 0) (List.cons (Value.int 0 0) (List.cons (Value.int 0 0) (List.cons (Value.ref 32) (List.cons (Value.bool Bool.false) (List.cons (Value.int 181 0) (List.cons (Value.ref 33) (List.cons Value.none (List.cons Value.none (List.cons Value.none (List.cons Value.none (List.cons (Value.int 328 0) (List.cons (Value.int 67 0) (List.cons (Value.str (Str.ofString "/claim/cut.py") 329) []))))))))))))))))))))) #[])
noncomputable def w35 : Params → Obj := fun _ => (Obj.mk (Value.type "frame") none Data.plain (List.toArray (List.cons (some (Value.ref 34)) (List.cons (some (Value.ref 3)) (List.cons (some (Value.ref 31)) (List.cons (@Option.none Value) (List.cons (some (Value.str (Str.ofString "clausemill.symbols") 187)) (List.cons (@Option.none Value) (List.cons (some (Value.ref 0)) [])))))))))
noncomputable def w118 : Params → Obj := fun _ => (Obj.mk (Value.type "super") none (Data.fields (List.toArray (List.cons (Value.ref 115) (List.cons (Value.ref 115) (List.cons (Value.ref 115) []))))) #[])
noncomputable def w119 : Params → Obj := fun _ => (Obj.mk (Value.type "builtin_function_or_method") none (Data.fields (List.toArray (List.cons (Value.builtin "object.__init_subclass__") (List.cons (Value.ref 115) [])))) #[])
noncomputable def lifeE : Life := (Life.mk (@List.nil Nat) (@List.nil Nat) (@List.nil Nat) 0 (@List.nil (Prod @Nat @Nat)) (@List.nil Nat) Bool.false (@List.toArray Nat (@List.nil Nat)) (@List.nil Nat) 0 Bool.false Bool.false Bool.false 0 (@List.cons Int 2000 (@List.cons Int 10 (@List.cons Int 10 (@List.nil Int)))) Bool.false 0 Bool.true (@List.nil Nat) (@List.nil Nat) 0 Bool.false)
noncomputable def heapA : Params → Heap := fun P => ⟨⟨[boot_o_0 P, boot_o_1 P, at1 P 2, boot_o_3 P, boot_o_4 P, boot_o_5 P, boot_o_6 P, boot_o_7 P, boot_o_8 P, boot_o_9 P, boot_o_10 P, w11 P, husk, w13 P, w14 P]⟩, lifeE⟩
noncomputable def heapB : Params → Heap := fun P => ⟨⟨[boot_o_0 P, boot_o_1 P, at1 P 2, cutD 52 (at1 P 3), boot_o_4 P, boot_o_5 P, boot_o_6 P, boot_o_7 P, boot_o_8 P, boot_o_9 P, boot_o_10 P, w11 P, husk, w13 P, w14 P]⟩, lifeE⟩
noncomputable def heapC : Params → Heap := fun P => ⟨⟨[boot_o_0 P, boot_o_1 P, at1 P 2, cutD 72 (at1 P 3), boot_o_4 P, boot_o_5 P, boot_o_6 P, boot_o_7 P, boot_o_8 P, boot_o_9 P, boot_o_10 P, w11 P, cutF 6 (w12 P), w13 P, w14 P, at1 P 15, husk, at1 P 17, at1 P 18, bare (at1 P 21), at1 P 20, at1 P 21, at1 P 22, husk, at1 P 24, at1 P 25, bare (at1 P 28), at1 P 27, at1 P 28]⟩, lifeE⟩
noncomputable def heapD : Params → Heap := fun P => ⟨⟨[boot_o_0 P, boot_o_1 P, at1 P 2, cutD 73 (at1 P 3), boot_o_4 P, boot_o_5 P, boot_o_6 P, boot_o_7 P, boot_o_8 P, boot_o_9 P, boot_o_10 P, w11 P, cutF 9 (w12 P), w13 P, w14 P, at1 P 15, husk, at1 P 17, at1 P 18, bare (at1 P 21), at1 P 20, at1 P 21, at1 P 22, husk, at1 P 24, at1 P 25, bare (at1 P 28), at1 P 27, at1 P 28, w29 P, w30 P, w31 P, w32 P, w33 P, w34 P, w35 P, at1 P 36, husk, at1 P 38, at1 P 39, bare (at1 P 42), at1 P 41, at1 P 42, at1 P 43, husk, at1 P 45, at1 P 46, bare (at1 P 49), at1 P 48, at1 P 49, at1 P 50, husk, at1 P 52, at1 P 53, bare (at1 P 56), at1 P 55, at1 P 56, at1 P 57, husk, at1 P 59, at1 P 60, bare (at1 P 63), at1 P 62, at1 P 63, at1 P 64, husk, at1 P 66, at1 P 67, bare (at1 P 70), at1 P 69, at1 P 70, at1 P 71, husk, at1 P 73, at1 P 74, bare (at1 P 77), at1 P 76, at1 P 77, at1 P 78, husk, at1 P 80, at1 P 81, bare (at1 P 84), at1 P 83, at1 P 84, at1 P 85, husk, at1 P 87, at1 P 88, bare (at1 P 91), at1 P 90, at1 P 91, at1 P 92, husk, at1 P 94, at1 P 95, bare (at1 P 98), at1 P 97, at1 P 98, at1 P 99, husk, at1 P 101, at1 P 102, bare (at1 P 105), at1 P 104, at1 P 105, at1 P 106, husk, at1 P 108, at1 P 109, bare (at1 P 112), at1 P 111, at1 P 112, at1 P 113, at1 P 114, at1 P 115, at1 P 116, at1 P 117, w118 P, w119 P]⟩, lifeE⟩
noncomputable def heapE : Params → Heap := fun P => ⟨⟨[boot_o_0 P, boot_o_1 P, at1 P 2, at1 P 3, boot_o_4 P, boot_o_5 P, boot_o_6 P, boot_o_7 P, boot_o_8 P, boot_o_9 P, boot_o_10 P, w11 P, w12 P, w13 P, w14 P, at1 P 15, husk, at1 P 17, at1 P 18, bare (at1 P 21), at1 P 20, at1 P 21, at1 P 22, husk, at1 P 24, at1 P 25, bare (at1 P 28), at1 P 27, at1 P 28, w29 P, w30 P, w31 P, w32 P, w33 P, w34 P, w35 P, at1 P 36, husk, at1 P 38, at1 P 39, bare (at1 P 42), at1 P 41, at1 P 42, at1 P 43, husk, at1 P 45, at1 P 46, bare (at1 P 49), at1 P 48, at1 P 49, at1 P 50, husk, at1 P 52, at1 P 53, bare (at1 P 56), at1 P 55, at1 P 56, at1 P 57, husk, at1 P 59, at1 P 60, bare (at1 P 63), at1 P 62, at1 P 63, at1 P 64, husk, at1 P 66, at1 P 67, bare (at1 P 70), at1 P 69, at1 P 70, at1 P 71, husk, at1 P 73, at1 P 74, bare (at1 P 77), at1 P 76, at1 P 77, at1 P 78, husk, at1 P 80, at1 P 81, bare (at1 P 84), at1 P 83, at1 P 84, at1 P 85, husk, at1 P 87, at1 P 88, bare (at1 P 91), at1 P 90, at1 P 91, at1 P 92, husk, at1 P 94, at1 P 95, bare (at1 P 98), at1 P 97, at1 P 98, at1 P 99, husk, at1 P 101, at1 P 102, bare (at1 P 105), at1 P 104, at1 P 105, at1 P 106, husk, at1 P 108, at1 P 109, bare (at1 P 112), at1 P 111, at1 P 112, at1 P 113, at1 P 114, at1 P 115, at1 P 116, at1 P 117, w118 P, w119 P, at1 P 120, husk, at1 P 122, at1 P 123, bare (at1 P 126), at1 P 125, at1 P 126, at1 P 127, husk, at1 P 129, at1 P 130, bare (at1 P 133), at1 P 132, at1 P 133, at1 P 134, husk, at1 P 136, at1 P 137, bare (at1 P 140), at1 P 139, at1 P 140, at1 P 141, husk, bare (at1 P 145), at1 P 144, at1 P 145, at1 P 146, husk, bare (at1 P 150), at1 P 149, at1 P 150, at1 P 151, husk, at1 P 153, at1 P 154, bare (at1 P 157), at1 P 156, at1 P 157, at1 P 158, husk, bare (at1 P 162), at1 P 161, at1 P 162]⟩, lifeE⟩
noncomputable def asl : List Addr := [2, 3, 15, 17, 18, 20, 21, 22, 24, 25, 27, 28, 36, 38, 39, 41, 42, 43, 45, 46, 48, 49, 50, 52, 53, 55, 56, 57, 59, 60, 62, 63, 64, 66, 67, 69, 70, 71, 73, 74, 76, 77, 78, 80, 81, 83, 84, 85, 87, 88, 90, 91, 92, 94, 95, 97, 98, 99, 101, 102, 104, 105, 106, 108, 109, 111, 112, 113, 114, 115, 116, 117, 120, 122, 123, 125, 126, 127, 129, 130, 132, 133, 134, 136, 137, 139, 140, 141, 144, 145, 146, 149, 150, 151, 153, 154, 156, 157, 158, 161, 162]
theorem aslEq : ∀ P : Params, asl = (hd.heap_39 P).map (·.1) := fun _ => rfl
noncomputable def prg : Program := PySem.Challenge.rw_no0153_01.row.toRowW.prog
noncomputable def stS (H : Params → Heap) (k : Nat) (w : World) (os : OsState) : Shared := ⟨H w.params, Array.mk [], ⟨0, 0, 0, 0⟩, k, os⟩
noncomputable def bE : List Stmt := behindTheImports prg
noncomputable def envE : Env := { scope := prg.main.scope, locals := mainNs, globals := mainNs, cells := [], code := .ref 13, frame := some 14 }
noncomputable def codE : Code := .body bE envE
noncomputable def g0 : List Stmt := List.take 44 bE
noncomputable def g1 : List Stmt := List.take 20 (List.drop 44 bE)
noncomputable def g2 : List Stmt := List.take 1 (List.drop 64 bE)
noncomputable def g3 : List Stmt := List.drop 65 bE
theorem splitE : bE = g0 ++ (g1 ++ (g2 ++ (g3 ++ []))) := by kernel_rfl
theorem hpre : ∀ (w : World) (os : OsState), topGo treeTable prg w 11 (some (.ref 6)) 12 ⟨boot_heap w.params, Array.mk [], boot_drawn, boot_toks, os⟩ (topStub prg) = some (stS heapA 187 w os, ⟨denote treeTable codE, codE, ⟨0, 0, 0, 0⟩, [topFrame ⟨0, 0, 0, 0⟩]⟩) := by
  intro w os
  kernel_rfl
theorem hblock : ∀ (w : World) (os : OsState), segRun treeTable prg w 11 (some (.ref 6)) 1 1 (stS heapA 187 w os) (blockOf bE envE codE ⟨0, 0, 0, 0⟩ [topFrame ⟨0, 0, 0, 0⟩]) = some (.next, stS heapA 187 w os, codE, ⟨0, 0, 0, 0⟩) := by
  intro w os
  kernel_rfl
theorem hg0 : ∀ (w : World) (os : OsState), segRun treeTable prg w 11 (some (.ref 6)) 1 397 (stS heapA 187 w os) (piecesOf g0 envE codE ⟨0, 0, 0, 0⟩ [topFrame ⟨0, 0, 0, 0⟩]) = some (.next, stS heapB 275 w os, codE, ⟨44, 0, 44, 7⟩) := by
  intro w os
  kernel_rfl
theorem hg1 : ∀ (w : World) (os : OsState), segRun treeTable prg w 11 (some (.ref 6)) 1 219 (stS heapB 275 w os) (piecesOf g1 envE codE ⟨44, 0, 44, 7⟩ [topFrame ⟨0, 0, 0, 0⟩]) = some (.next, stS heapC 323 w os, codE, ⟨65, 0, 66, 389⟩) := by
  intro w os
  kernel_rfl
theorem hg2 : ∀ (w : World) (os : OsState), segRun treeTable prg w 11 (some (.ref 6)) 1 555 (stS heapC 323 w os) (piecesOf g2 envE codE ⟨65, 0, 66, 389⟩ [topFrame ⟨0, 0, 0, 0⟩]) = some (.next, stS heapD 444 w os, codE, ⟨67, 0, 124, 58⟩) := by
  intro w os
  kernel_rfl
theorem hg3 : ∀ (w : World) (os : OsState), segRun treeTable prg w 11 (some (.ref 6)) 1 208 (stS heapD 444 w os) (piecesOf g3 envE codE ⟨67, 0, 124, 58⟩ [topFrame ⟨0, 0, 0, 0⟩]) = some (.next, stS heapE 496 w os, codE, ⟨156, 0, 195, 95⟩) := by
  intro w os
  kernel_rfl
theorem hfin : ∀ (w : World) (os : OsState), topRun treeTable prg w 11 (some (.ref 6)) 2 (stS heapE 496 w os) ⟨doneF .next, codE, ⟨156, 0, 195, 95⟩, [topFrame ⟨0, 0, 0, 0⟩]⟩ = some (stS heapE 496 w os) := by
  intro w os
  kernel_rfl
theorem hrun (w : World) (os : OsState) : topRun treeTable prg w 11 (some (.ref 6)) (12 + (1 + (397 + (219 + (555 + (208 + 2)))))) ⟨boot_heap w.params, Array.mk [], boot_drawn, boot_toks, os⟩ (topStub prg) = some (stS heapE 496 w os) := by
  refine go_top (hpre w os) (piece_block (hblock w os) ?_)
  rw [congrArg (fun b => restOf b envE codE ⟨0, 0, 0, 0⟩ [topFrame ⟨0, 0, 0, 0⟩]) splitE]
  exact piece_app (hg0 w os) (piece_app (hg1 w os) (piece_app (hg2 w os) (piece_app (hg3 w os) (piece_nil (hfin w os)))))

/-! the looks at the last heap, one by one -/
theorem and7 {a b c d e f g : Bool} (h : a = true) (k : (b && c && d && e && f && g) = true) : (a && b && c && d && e && f && g) = true := by
  subst h
  simpa only [Bool.true_and] using k
section
variable (w : World) (os : OsState)
theorem look0 : (staticsOk (importedModules prg.main.body) (boot_heap w.params) (heapE w.params) && namesBound prg (heapE w.params) && gensDone (stS heapE 496 w os) && laidKept (boot_heap w.params) (heapE w.params)) = true := by kernel_rfl
theorem lookH : (Hook.obs (kHook hd.heap_39 asl aslEq) (stS heapE 496 w os)) = Hook.val (kHook hd.heap_39 asl aslEq) w := by kernel_rfl
theorem look1 : (seen ((recsOf hd.view_39).map (·.name)) (ownsOf hd.view_39) [] { (stS heapE 496 w os) with gens := #[] }) = expectedOf hd.view_39 := by kernel_rfl
theorem look2 : ((stS heapE 496 w os).heap.bltView) = bltViewBooted := by kernel_rfl
theorem look3 : ((stS heapE 496 w os).heap.keysOk (looseW hd.view_39 []) ((recsOf hd.view_39).map (·.name)) ((litsOf hd.view_39).map (·.1)) ((clssOf hd.view_39 (looseW hd.view_39 [])).map (·.name))) = true := by kernel_rfl
theorem look3b : ((stS heapE 496 w os).heap.accountedOkI (importedModules prg.main.body) && (stS heapE 496 w os).heap.isNs mainGlobals && (stS heapE 496 w os).heap.isNs builtinsNs && tablesOk hd.view_39 (stS heapE 496 w os).heap && (xlAt hd.view_39 [] (stS heapE 496 w os) && recOk (RowW.records PySem.Challenge.rw_no0153_01.row.toRowW) (stS heapE 496 w os)) && (if true then (stS heapE 496 w os).gens.size == 0 else !leftWithCleanup (stS heapE 496 w os).gens)) = true := by kernel_rfl
theorem look4 : (tabsOk hd.view_39 (stS heapE 496 w os)) = true := by kernel_rfl
theorem look5 : (pinSeenD hd.view_39 (drecsOf hd.view_39) (stS heapE 496 w os)) = pinGoodD (drecsOf hd.view_39) := by kernel_rfl
theorem look6 : (plainSeenE hd.view_39 (looseW hd.view_39 []) (stS heapE 496 w os)) = plainGoodE hd.view_39 (looseW hd.view_39 []) := by kernel_rfl
theorem look7 : (plainSeenD hd.view_39 [] (stS heapE 496 w os)) = plainGoodD hd.view_39 [] := by kernel_rfl
theorem look8 : (wideSeen hd.view_39 (stS heapE 496 w os)) = wideGood hd.view_39 := by kernel_rfl
theorem look9 : (clsSeenW hd.view_39 [] (stS heapE 496 w os)) = clsGoodW hd.view_39 [] := by kernel_rfl
theorem hlooks : (fun os => ((staticsOk (importedModules prg.main.body) (boot_heap w.params) (heapE w.params) && namesBound prg (heapE w.params) && gensDone (stS heapE 496 w os) && laidKept (boot_heap w.params) (heapE w.params)),
    openSeen hd.view_39 [] (importedModules prg.main.body) (fun s => xlAt hd.view_39 [] s && recOk (RowW.records PySem.Challenge.rw_no0153_01.row.toRowW) s) true (stS heapE 496 w os), Hook.obs (kHook hd.heap_39 asl aslEq) (stS heapE 496 w os))) = fun _ : OsState => (true, openGood hd.view_39 [], Hook.val (kHook hd.heap_39 asl aslEq) w) := by
  funext os
  refine looks_pair (look0 w os) (looks_pair ?_ (lookH w os))
  unfold openSeen openGood
  refine looks_pair (look1 w os) (looks_pair (look2 w os) (looks_pair ?_ (looks_pair (look4 w os) (looks_pair (look5 w os) (looks_pair (look6 w os) (looks_pair (look7 w os) (looks_pair (look8 w os) (look9 w os))))))))
  exact and7 (look3 w os) (look3b w os)
end
theorem hsize : ∀ w : World, ((boot_heap w.params).isNs mainGlobals && (Array.mk [] : Array GenState).size == 0, (boot_heap w.params).objs.size, (boot_heap w.params).nsMap mainGlobals "__annotations__") = (true, 11, some (.ref 6)) := by
  intro w
  kernel_rfl
theorem hl : LeftO PySem.Challenge.rw_no0153_01.row.toRowW.prog hd.view_39 [] (fun s => xlAt hd.view_39 [] s && recOk (RowW.records PySem.Challenge.rw_no0153_01.row.toRowW) s) (Hook.obs (kHook hd.heap_39 asl aslEq)) (Hook.val (kHook hd.heap_39 asl aslEq)) 2876 :=
  LeftO.of_pieces (boot_open rfl rfl fun _ => rfl) hsize hrun rfl hlooks
end Mine

end
theorem Mine.top_off : True := by w_top off; trivial
section
open PySem PySem.W PySem.Calls PyProof.Rows
set_option maxRecDepth 100000
namespace Mine

/-- what stands below all our calls -/
structure Here (w : World) (mean : ExcName → Option Value) (mg mb : Str → Option Value) (g : Heap) : Prop where
  X : (hd.heap_39 w.params).In g
  T : Top hd.view_39 (looseW hd.view_39 []) mean mg mb g

theorem Here.keeps {w : World} {mean : ExcName → Option Value} {mg mb : Str → Option Value} {g h : Heap} (H : Here w mean mg mb g) (k : g.StaysIn h) : Here w mean mg mb h :=
  ⟨H.X.keeps k, H.T.keeps k⟩

/-- all of h but the places l stands in h' -/
def Keeps (l : List Addr) (h h' : Heap) : Prop := ∀ b o, h.get? b = some o → b ∉ l → h'.get? b = some o

theorem enter {prog : Program} {w : World} {A : Around} {s : Shared} {K : Frag} {p : Program} {loose : List Str} {mean : ExcName → Option Value} {mg mb : Str → Option Value} {g₀ : Heap}
    {R : Result → Shared → Prop} {name qual : Str} {params : Arguments} {body : List Stmt} {scope : Scope} {dV kV doc pm cdv ct oc : Value} {an od : Option Addr} {osl : Array (Option Value)} {f : Addr} {args : Args} {binds : List (Str × Value)}
    (X : K.In g₀) (T : Top p loose mean mg mb g₀) (ext : g₀.StaysIn s.heap) (led : List (Addr × Obj)) (hled : ∀ q ∈ led, s.heap.get? q.1 = some q.2 ∧ g₀.get? q.1 = none)
    (ho : K.lookup f = some ⟨oc, od, .func (fnOf name qual params body scope dV kV doc pm an cdv ct), osl⟩) (hcd : codeIn K cdv qual = true) (hroom : A.depth < recursionLimit)
    (hbind : BindsTo s (fnOf name qual params body scope dV kV doc pm an cdv ct) args binds) (hloc : ∀ y ∈ binds, scope.names.lookup y.1 = some .local)
    (hco : scope.isCoroutine = false) (hgen : scope.isGenerator = false) (hk : scope.kind = .function) (hcell : ∀ x ∈ scope.names, x.2 ≠ .cell)
    (h : ∀ g L' h₁, Keeps (led.map (·.1)) s.heap g → Fr g L' h₁ (fun y => binds.reverse.lookup y) → News g L' h₁ led → K.In g → Top p loose mean mg mb g → (∀ q ∈ led, q.1 < L') → g₀.StaysIn g →
      wpAny (model prog w) (A.deeper (envOf qual scope L' f cdv)) (execs body (envOf qual scope L' f cdv))
        (fun fl s' => R (.ok (.ret (match fl with | .ret v => v | _ => .none))) s') (fun _ _ => False)
        { s with heap := h₁, toks := s.toks + binds.length }) :
    codeAny (model prog w) A (.call (.ref f) args) R s := by
  have nm : ∀ b o, g₀.get? b = some o → b ∉ led.map (·.1) := fun b o e q => by
    obtain ⟨p, hp, rfl⟩ := List.mem_map.mp q
    rw [(hled p hp).2] at e; cases e
  have st : g₀.StaysIn (hideAll s.heap (led.map (·.1))) := fun b o e => hideAll_get _ (ext b o e) (nm b o e)
  refine codeAny_call_def (fd := fnOf name qual params body scope dV kV doc pm an cdv ct) (body := body) (binds := binds) hroom (ext _ _ (X _ _ ho)) rfl (T.nolimit.keeps ext) (codeRec_of (X.keeps ext) hcd) rfl hbind hcell hloc (fun h₁ hns hk₁ => ?_) hco hgen hk
  exact wpAny_mono (h _ s.heap.objs.size h₁ (fun b o e n => hideAll_get _ e n) ⟨hns, fun b o e => hk₁ b o (of_hideAll _ e), Nat.le_of_eq (hideAll_size _ _)⟩
    (fun p hp => ⟨hk₁ _ _ (hled p hp).1, Nat.ne_of_lt (Heap.lt_size (hled p hp).1), hideAll_none _ (List.mem_map_of_mem hp)⟩) (X.keeps st) (T.keeps st) (fun p hp => Heap.lt_size (hled p hp).1) st) (fun fl s' hl => hl) fun _ _ y => y.elim

end Mine

end
section
open PySem PySem.W PySem.Calls PyProof.Rows
set_option maxRecDepth 100000
namespace Mine

theorem Keeps.refl (l : List Addr) (h : Heap) : Keeps l h h := fun _ _ e _ => e
theorem Keeps.trans {l : List Addr} {h h₁ h₂ : Heap} (x : Keeps l h h₁) (y : Keeps l h₁ h₂) : Keeps l h h₂ := fun b o e n => y b o (x b o e n) n
theorem Keeps.mono {l l' : List Addr} {h h₁ : Heap} (x : Keeps l h h₁) (s : ∀ a ∈ l, a ∈ l') : Keeps l' h h₁ := fun b o e n => x b o e fun q => n (s b q)
theorem Keeps.push (l : List Addr) (h : Heap) (o : Obj) : Keeps l h (h.push o) := fun _ _ e _ => Heap.get?_push_of_some _ e
theorem Keeps.same {a : Addr} {l : List Addr} {h h' : Heap} (x : Heap.SameBut a h h') (m : a ∈ l) : Keeps l h h' := fun b _ e n => (x.2 b fun q => n (q ▸ m)).trans e

/-- no tuple: what may change without touching a key -/
noncomputable def NoTup (o : Obj) : Prop := o.cls ≠ .type "tuple" ∨ ∀ a n, o.data ≠ .seq a n
abbrev NoTups (h : Heap) (S : List Addr) : Prop := ∀ b ∈ S, ∀ o, h.get? b = some o → NoTup o
theorem NoTups.nil (h : Heap) : NoTups h [] := fun b hb => nomatch hb
theorem NoTups.cons {h : Heap} {a : Addr} {S : List Addr} {o : Obj} (e : h.get? a = some o) (n : NoTup o) (x : NoTups h S) : NoTups h (a :: S) := by
  intro b hb o' e'
  rcases List.mem_cons.mp hb with rfl | hb
  · rw [e] at e'; cases e'; exact n
  · exact x b hb o' e'
theorem NoTups.sub {h : Heap} {S T : List Addr} (x : NoTups h S) (hs : ∀ b ∈ T, b ∈ S) : NoTups h T := fun b hb => x b (hs b hb)

theorem NoTups.ns {h : Heap} {L : Addr} {m : Str → Option Value} (x : h.Ns L m) : NoTups h [L] := by
  obtain ⟨oL, es, ep, eL, dL, _⟩ := x
  exact .cons eL (.inr fun a k e => by rw [dL] at e; cases e) (.nil _)

/-- an end that the walk shall leave alone -/
noncomputable def Mid (P : Prop) : Prop := P

abbrev TurnEnd (g : Heap) (L : Addr) (s : Shared) (Q : Flow → Shared → Prop) (J : (Str → Option Value) → Heap → Prop) (C : Heap → Prop) (f : Flow) (s' : Shared) : Prop :=
  match f with
  | .ret v => Q (.ret v) s'
  | .brk => Q .next s'
  | _ => Mid (∃ h' tk' m', s' = { s with heap := h', toks := tk' } ∧ Fr g L h' m' ∧ J m' h' ∧ C h')

section
variable {prog : Program} {w : World} {A : Around} {s : Shared} {env : Env} {g : Heap} {x : Str} {px : Pos} {body : List Stmt} {Q : Flow → Shared → Prop} {E : Value → Shared → Prop}

theorem loopJ {I : Addr} {fp wr : List Addr} {n : Nat} {P : Nat → Value → Prop} {St : Nat → Heap → Prop} {m₀ : Str → Option Value}
    (W : Walks prog w A I fp wr n P St) (hx : env.kindOf x = some .local) (hp : (env.scope.kind == .class || (env.scope.kind == .module && env.locals != env.globals)) = false)
    (hLf : env.locals ∉ fp) (hwr : ∀ b ∈ wr, g.get? b = none) (hst : St 0 s.heap) (hwn : ∀ i h, St i h → NoTups h wr) (F : Fr g env.locals s.heap m₀)
    (J : Nat → (Str → Option Value) → Heap → Prop) (hJ : J 0 m₀ s.heap) (hJk : ∀ i m h h', J i m h → Keeps (env.locals :: wr) h h' → NoTups h (env.locals :: wr) → J i m h')
    (step : ∀ i v m₁ h tk, i < n → P i v → J i m₁ h → St (i + 1) h → Fr g env.locals h (fun y => if y = x then some v else m₁ y) →
      wpAny (model prog w) A (execs body env) (TurnEnd g env.locals s Q (J (i + 1)) (fun h' => ∀ b ∈ fp, ∀ o, h.get? b = some o → h'.get? b = some o)) (fun _ _ => False) { s with heap := h, toks := tk })
    (done : ∀ m' h' tk, Fr g env.locals h' m' → J n m' h' → Q .next { s with heap := h', toks := tk }) :
    codeAny (model prog w) A (.forLoop (.Name x px) (.ref I) body [] env) (fun r s' => match r with | .ok f => Q f s' | .error e => cameBackBy (model prog w) A env (fun _ _ => False) e s') s := by
  have hLw : env.locals ∉ wr := fun h => hLf (W.sub _ h)
  have old : ∀ b o, g.get? b = some o → b ∉ wr := fun b o e hb => by rw [hwr b hb] at e; cases e
  refine codeAny_forLoop
    (fun k s' => ∃ h' tk m' i, s' = { s with heap := h', toks := tk } ∧ St i h' ∧ Fr g env.locals h' m' ∧ J i m' h' ∧ i ≤ n ∧ k = n + 1 - i) ?_ (n + 1)
    ⟨s.heap, s.toks, m₀, 0, rfl, hst, F, hJ, Nat.zero_le _, rfl⟩
  rintro k s' ⟨h', tk, m', i, rfl, hst', F', hJ', hi, rfl⟩
  have ntL : ∀ {h : Heap} {m : Str → Option Value} {i : Nat}, Fr g env.locals h m → St i h → NoTups h (env.locals :: wr) := fun F st => by
    intro b hb o e
    rcases List.mem_cons.mp hb with rfl | hb
    · exact NoTups.ns F.ns _ (.head _) o e
    · exact hwn _ _ st b hb o e
  have next : ∀ h₁ : Heap, (∀ b o, b ∉ wr → h'.get? b = some o → h₁.get? b = some o) → Fr g env.locals h₁ m' ∧ J i m' h₁ := fun h₁ hk₁ =>
    ⟨⟨F'.ns.at' fun o e => hk₁ _ o hLw e, fun b o e => hk₁ b o (old b o e) (F'.keep b o e), F'.above⟩, hJk _ _ _ _ hJ' (fun b o e hn => hk₁ b o (fun q => hn (.tail _ q)) e) (ntL F' hst')⟩
  by_cases hlt : i < n
  · refine W.item i _ _ _ hlt hst' fun v h₁ tk₁ hP hst₁ hk₁ => ?_
    obtain ⟨F₁, J₁⟩ := next h₁ hk₁
    refine wpAny_assign_Name (wpAny_storeName_local hx F₁.ns (fun h₂ hn₂ hs₂ => ?_) hp)
    have F₂ := F₁.set hn₂ hs₂
    have hst₂ : St (i + 1) h₂ := W.frame _ _ _ hst₁ fun b hb o e => (hs₂.2 b fun q => hLf (q ▸ hb)).trans e
    have J₂ : J i m' h₂ := hJk _ _ _ _ J₁ (Keeps.same hs₂ (.head _)) (ntL F₁ hst₁)
    refine wpAny_mono (step i v m' h₂ _ hlt hP J₂ hst₂ F₂) (fun f s₃ h₃ => ?_) fun _ _ e => e.elim
    cases f with
    | ret v => exact h₃
    | brk => exact h₃
    | cont =>
      obtain ⟨h₃', tk₃, m₂, rfl, F₃, J₃, c⟩ := h₃
      exact ⟨n + 1 - (i + 1), by omega, h₃', tk₃, m₂, i + 1, rfl, W.frame _ _ _ hst₂ c, F₃, J₃, hlt, rfl⟩
    | next =>
      obtain ⟨h₃', tk₃, m₂, rfl, F₃, J₃, c⟩ := h₃
      exact ⟨n + 1 - (i + 1), by omega, h₃', tk₃, m₂, i + 1, rfl, W.frame _ _ _ hst₂ c, F₃, J₃, hlt, rfl⟩
  · have hin : i = n := by omega
    subst hin
    refine W.done _ _ _ hst' fun h₁ tk₁ hk₁ => wpAny_execs_nil ?_
    obtain ⟨F₁, J₁⟩ := next h₁ hk₁
    exact done m' h₁ tk₁ F₁ J₁

theorem Fr.fresh {L : Addr} {h : Heap} {m : Str → Option Value} (F : Fr g L h m) : g.get? h.objs.size = none := by
  cases q : g.get? h.objs.size with
  | none => rfl
  | some o => exact absurd (Heap.lt_size (F.keep _ _ q)) (Nat.lt_irrefl _)

theorem ntNew {g h : Heap} {L : Addr} {m : Str → Option Value} (F : Fr g L h m) : NoTups h [L, h.objs.size] := by
  intro b hb o e
  rcases List.mem_cons.mp hb with rfl | hb
  · exact NoTups.ns F.ns _ (.head _) o e
  · rw [List.mem_singleton.mp hb] at e
    exact absurd (Heap.lt_size e) (Nat.lt_irrefl _)

/-- over a list, in the base or not -/
theorem iter_list_J {l : Addr} {items : Array Value} {m₀ : Str → Option Value} (hh : A.handled = none) (hl : s.heap.IsList l items) (hlL : l ≠ env.locals)
    (hx : env.kindOf x = some .local) (hp : (env.scope.kind == .class || (env.scope.kind == .module && env.locals != env.globals)) = false) (F : Fr g env.locals s.heap m₀)
    (J : Nat → (Str → Option Value) → Heap → Prop) (hJ : J 0 m₀ s.heap) (hJk : ∀ i m h h', J i m h → Keeps [env.locals, s.heap.objs.size] h h' → NoTups h [env.locals, s.heap.objs.size] → J i m h')
    (step : ∀ i v m₁ h tk oI, items[i]? = some v → J i m₁ h → Fr g env.locals h (fun y => if y = x then some v else m₁ y) → h.get? s.heap.objs.size = some oI → h.IsList l items →
      wpAny (model prog w) A (execs body env) (TurnEnd g env.locals s Q (J (i + 1)) (fun h' => h'.get? s.heap.objs.size = some oI ∧ ∀ o, h.get? l = some o → h'.get? l = some o)) (fun _ _ => False) { s with heap := h, toks := tk })
    (done : ∀ m' h' tk, Fr g env.locals h' m' → J items.size m' h' → Q .next { s with heap := h', toks := tk }) :
    wpAny (model prog w) A (pyIter (.ref l)) (fun it s₂ => codeAny (model prog w) A (.forLoop (.Name x px) it body [] env) (fun r s' => match r with | .ok f => Q f s' | .error e => cameBackBy (model prog w) A env (fun _ _ => False) e s') s₂) E s := by
  obtain ⟨ol, hol, _⟩ := id hl
  have hne : l ≠ s.heap.objs.size := Nat.ne_of_lt (Heap.lt_size hol)
  refine wpAny_pyIter_list hl ?_
  have W := Walks.list (prog := prog) (w := w) hh s.heap.objs.size l hne items
  refine loopJ W hx hp ?_ ?_ ⟨⟨_, Heap.get?_push_size _ rfl, rfl, rfl⟩, hl.at fun o e => Heap.get?_push_of_some _ e⟩ (fun i h st => by obtain ⟨o, e, hc, _⟩ := st.1; exact .cons e (.inl (by rw [hc]; simp)) (.nil _)) (F.push _) J (hJk _ _ _ _ hJ (Keeps.push _ _ _) (ntNew F)) (fun i m h h' j k nt => hJk i m h h' j k nt) ?_ done
  · intro hm
    rcases List.mem_cons.mp hm with e | hm
    · exact absurd F.ns.lt (e ▸ Nat.lt_irrefl _)
    · exact hlL (List.mem_singleton.mp hm).symm
  · intro b hb
    rw [List.mem_singleton.mp hb]
    exact Fr.fresh F
  · intro i v m₁ h tk hi hP hJi hst F₁
    obtain ⟨⟨oI, hI, r⟩, hl'⟩ := id hst
    refine wpAny_mono (step i v m₁ h tk oI hP hJi F₁ hI hl') (fun f s₂ q => ?_) fun _ _ e => e
    have fin : ∀ {h' : Heap}, (h'.get? s.heap.objs.size = some oI ∧ ∀ o, h.get? l = some o → h'.get? l = some o) → ∀ b ∈ [s.heap.objs.size, l], ∀ o, h.get? b = some o → h'.get? b = some o := by
      intro h' q b hb o e
      rcases List.mem_cons.mp hb with rfl | hb
      · rw [hI] at e; exact (Option.some.inj e) ▸ q.1
      · rw [List.mem_singleton.mp hb] at e ⊢; exact q.2 o e
    cases f with
    | ret v => exact q
    | brk => exact q
    | next => obtain ⟨h', tk', m', e, F', J', c⟩ := q; exact ⟨h', tk', m', e, F', J', fin c⟩
    | cont => obtain ⟨h', tk', m', e, F', J', c⟩ := q; exact ⟨h', tk', m', e, F', J', fin c⟩

/-- over a tuple -/
theorem iter_tuple_J {l : Addr} {items : Array Value} {m₀ : Str → Option Value} (hh : A.handled = none) (hl : s.heap.IsTuple l items) (hlL : l ≠ env.locals)
    (hx : env.kindOf x = some .local) (hp : (env.scope.kind == .class || (env.scope.kind == .module && env.locals != env.globals)) = false) (F : Fr g env.locals s.heap m₀)
    (J : Nat → (Str → Option Value) → Heap → Prop) (hJ : J 0 m₀ s.heap) (hJk : ∀ i m h h', J i m h → Keeps [env.locals, s.heap.objs.size] h h' → NoTups h [env.locals, s.heap.objs.size] → J i m h')
    (step : ∀ i v m₁ h tk oI, items[i]? = some v → J i m₁ h → Fr g env.locals h (fun y => if y = x then some v else m₁ y) → h.get? s.heap.objs.size = some oI → h.IsTuple l items →
      wpAny (model prog w) A (execs body env) (TurnEnd g env.locals s Q (J (i + 1)) (fun h' => h'.get? s.heap.objs.size = some oI ∧ ∀ o, h.get? l = some o → h'.get? l = some o)) (fun _ _ => False) { s with heap := h, toks := tk })
    (done : ∀ m' h' tk, Fr g env.locals h' m' → J items.size m' h' → Q .next { s with heap := h', toks := tk }) :
    wpAny (model prog w) A (pyIter (.ref l)) (fun it s₂ => codeAny (model prog w) A (.forLoop (.Name x px) it body [] env) (fun r s' => match r with | .ok f => Q f s' | .error e => cameBackBy (model prog w) A env (fun _ _ => False) e s') s₂) E s := by
  obtain ⟨ol, hol, _⟩ := id hl
  have hne : l ≠ s.heap.objs.size := Nat.ne_of_lt (Heap.lt_size hol)
  refine wpAny_pyIter_tuple hl ?_
  have W := Walks.tuple (prog := prog) (w := w) hh s.heap.objs.size l hne items
  refine loopJ W hx hp ?_ ?_ ⟨⟨_, Heap.get?_push_size _ rfl, rfl, rfl⟩, hl.at fun o e => Heap.get?_push_of_some _ e⟩ (fun i h st => by obtain ⟨o, e, hc, _⟩ := st.1; exact .cons e (.inl (by rw [hc]; simp)) (.nil _)) (F.push _) J (hJk _ _ _ _ hJ (Keeps.push _ _ _) (ntNew F)) (fun i m h h' j k nt => hJk i m h h' j k nt) ?_ done
  · intro hm
    rcases List.mem_cons.mp hm with e | hm
    · exact absurd F.ns.lt (e ▸ Nat.lt_irrefl _)
    · exact hlL (List.mem_singleton.mp hm).symm
  · intro b hb
    rw [List.mem_singleton.mp hb]
    exact Fr.fresh F
  · intro i v m₁ h tk hi hP hJi hst F₁
    obtain ⟨⟨oI, hI, r⟩, hl'⟩ := id hst
    refine wpAny_mono (step i v m₁ h tk oI hP hJi F₁ hI hl') (fun f s₂ q => ?_) fun _ _ e => e
    have fin : ∀ {h' : Heap}, (h'.get? s.heap.objs.size = some oI ∧ ∀ o, h.get? l = some o → h'.get? l = some o) → ∀ b ∈ [s.heap.objs.size, l], ∀ o, h.get? b = some o → h'.get? b = some o := by
      intro h' q b hb o e
      rcases List.mem_cons.mp hb with rfl | hb
      · rw [hI] at e; exact (Option.some.inj e) ▸ q.1
      · rw [List.mem_singleton.mp hb] at e ⊢; exact q.2 o e
    cases f with
    | ret v => exact q
    | brk => exact q
    | next => obtain ⟨h', tk', m', e, F', J', c⟩ := q; exact ⟨h', tk', m', e, F', J', fin c⟩
    | cont => obtain ⟨h', tk', m', e, F', J', c⟩ := q; exact ⟨h', tk', m', e, F', J', fin c⟩

/-- over a range by ones -/
theorem iter_range_J {r : Addr} {a b : Int} {t u v : Tok} {n : Nat} {m₀ : Str → Option Value} (hh : A.handled = none) (hr : IsRange s.heap r a b 1 t u v) (hsmall : Builtin.Range.small a b 1 = true) (hsz : Builtin.Range.rangeSize a b 1 = (n : Int))
    (hx : env.kindOf x = some .local) (hp : (env.scope.kind == .class || (env.scope.kind == .module && env.locals != env.globals)) = false) (F : Fr g env.locals s.heap m₀)
    (J : Nat → (Str → Option Value) → Heap → Prop) (hJ : J 0 m₀ s.heap) (hJk : ∀ i m h h', J i m h → Keeps [env.locals, s.heap.objs.size] h h' → NoTups h [env.locals, s.heap.objs.size] → J i m h')
    (step : ∀ i t m₁ h tk oI, i < n → J i m₁ h → Fr g env.locals h (fun y => if y = x then some (.int (a + i) t) else m₁ y) → h.get? s.heap.objs.size = some oI →
      wpAny (model prog w) A (execs body env) (TurnEnd g env.locals s Q (J (i + 1)) (fun h' => h'.get? s.heap.objs.size = some oI)) (fun _ _ => False) { s with heap := h, toks := tk })
    (done : ∀ m' h' tk, Fr g env.locals h' m' → J n m' h' → Q .next { s with heap := h', toks := tk }) :
    wpAny (model prog w) A (pyIter (.ref r)) (fun it s₂ => codeAny (model prog w) A (.forLoop (.Name x px) it body [] env) (fun r s' => match r with | .ok f => Q f s' | .error e => cameBackBy (model prog w) A env (fun _ _ => False) e s') s₂) E s := by
  refine wpAny_pyIter_range hr hsmall ?_
  have W : Walks prog w A s.heap.objs.size [s.heap.objs.size] [s.heap.objs.size] n (fun i v => i < n ∧ ∃ t, v = .int (a + i * 1) t)
      (fun i h => IsRangeIter h s.heap.objs.size (a + (i : Nat) * 1) ((n : Int) - (i : Nat)) 1) := (Walks.range hh _ a 1 n).bound
  refine loopJ W hx hp ?_ ?_ (by show IsRangeIter _ _ _ _ _; rw [hsz]; simpa using Heap.get?_push_size _ rfl) (fun i h st => .cons st (.inl (by simp)) (.nil _)) (F.push _) J (hJk _ _ _ _ hJ (Keeps.push _ _ _) (ntNew F)) (fun i m h h' j k nt => hJk i m h h' j k nt) ?_ done
  · intro hm
    exact absurd F.ns.lt ((List.mem_singleton.mp hm) ▸ Nat.lt_irrefl _)
  · intro b hb
    rw [List.mem_singleton.mp hb]
    exact Fr.fresh F
  · rintro i v m₁ h tk hi ⟨_, t', rfl⟩ hJi hst F₁
    have hI := id hst
    rw [Int.mul_one] at F₁
    refine wpAny_mono (step i t' m₁ h tk _ hi hJi F₁ hI) (fun f s₂ q => ?_) fun _ _ e => e
    have fin : ∀ {h' : Heap} {oI : Obj}, h.get? s.heap.objs.size = some oI → h'.get? s.heap.objs.size = some oI → ∀ b ∈ [s.heap.objs.size], ∀ o, h.get? b = some o → h'.get? b = some o := by
      intro h' oI hI q b hb o e
      rw [List.mem_singleton.mp hb] at e ⊢
      rw [hI] at e; exact (Option.some.inj e) ▸ q
    cases f with
    | ret v => exact q
    | brk => exact q
    | next => obtain ⟨h', tk', m', e, F', J', c⟩ := q; exact ⟨h', tk', m', e, F', J', fin hI c⟩
    | cont => obtain ⟨h', tk', m', e, F', J', c⟩ := q; exact ⟨h', tk', m', e, F', J', fin hI c⟩
end

theorem know {m : Str → Option Value} {x : Str} {v : Value} (h : m x = some v) : m = fun y => if y = x then some v else m y := by
  funext y
  by_cases e : y = x
  · rw [if_pos e, e, h]
  · rw [if_neg e]

theorem News.but {g h h' : Heap} {L : Addr} {news : List (Addr × Obj)} {S : List Addr} (N : News g L h news) (k : Keeps S h h') (hs : ∀ p ∈ news, p.1 ∉ S) : News g L h' news :=
  fun p hp => ⟨k _ _ (N p hp).1 (hs p hp), (N p hp).2⟩
theorem News.sub {g h : Heap} {L : Addr} {a b : List (Addr × Obj)} (N : News g L h a) (hs : ∀ p ∈ b, p ∈ a) : News g L h b := fun p hp => N p (hs p hp)
theorem News.cons {g h : Heap} {L : Addr} {a : Addr} {o : Obj} {b : List (Addr × Obj)} (e : h.get? a = some o) (nL : a ≠ L) (ng : g.get? a = none) (N : News g L h b) : News g L h ((a, o) :: b) := by
  intro p hp
  rcases List.mem_cons.mp hp with rfl | hp
  · exact ⟨e, nL, ng⟩
  · exact N p hp
theorem News.lt {g h : Heap} {L : Addr} {news : List (Addr × Obj)} (N : News g L h news) : ∀ p ∈ news, p.1 < h.objs.size := fun p hp => Heap.lt_size (N p hp).1

/-- the end is named: the walk need not carry it -/
theorem opq {M : Model} {A : Around} {α : Type} {x : Sem α} {Q : α → Shared → Prop} {E : Value → Shared → Prop} {s : Shared} (h : ∀ Qx : α → Shared → Prop, (∀ f s', Q f s' → Qx f s') → wpAny M A x Qx E s) : wpAny M A x Q E s := h Q fun _ _ q => q
theorem cut {prog : Program} {w : World} {A : Around} {s : Shared} {env : Env} {st : Stmt} {rest : List Stmt} {Q : Flow → Shared → Prop} {E : Value → Shared → Prop} (M : Shared → Prop)
    (h1 : wpAny (model prog w) A (exec st env) (fun f s' => Mid (f = .next ∧ M s')) E s) (h2 : ∀ s', M s' → wpAny (model prog w) A (execs rest env) Q E s') : wpAny (model prog w) A (execs (st :: rest) env) Q E s := by
  refine wpAny_execs_cons (wpAny_mono h1 (fun f s' q => ?_) fun _ _ e => e)
  obtain ⟨rfl, q⟩ := q
  exact h2 s' q

theorem Fr.but {g h h' : Heap} {L : Addr} {m : Str → Option Value} {S : List Addr} (F : Fr g L h m) (k : Keeps S h h') (hL : L ∉ S) (hS : ∀ b ∈ S, g.get? b = none) : Fr g L h' m :=
  ⟨F.ns.at' fun o e => k _ o e hL, fun b o e => k b o (F.keep b o e) (fun q => by rw [hS b q] at e; exact nomatch e), F.above⟩
/-- behind the entry all stands as the caller left it -/
theorem keeps_enter {g h h₁ : Heap} {L : Addr} {m : Str → Option Value} {led : List (Addr × Obj)} (kg : Keeps (led.map (·.1)) h g) (hl : ∀ q ∈ led, h.get? q.1 = some q.2) (F : Fr g L h₁ m) (N : News g L h₁ led) : Keeps [] h h₁ := by
  intro b o e _
  by_cases hb : b ∈ led.map (·.1)
  · obtain ⟨q, hq, rfl⟩ := List.mem_map.mp hb
    rw [hl q hq] at e
    exact (Option.some.inj e) ▸ (N q hq).1
  · exact F.keep b o (kg b o e hb)

end Mine

end
section
open PySem PySem.W PySem.Calls PyProof.Rows
set_option maxRecDepth 100000
namespace Mine

/-! plain: a list as a numbering -/
noncomputable def ix {α : Type} [DecidableEq α] : List α → α → Nat
  | [], _ => 0
  | y :: r, x => if y = x then 0 else ix r x + 1
theorem ix_self {α : Type} [DecidableEq α] (x : α) (r : List α) : ix (x :: r) x = 0 := by rw [ix, if_pos rfl]
theorem ix_ne {α : Type} [DecidableEq α] {y x : α} (r : List α) (h : y ≠ x) : ix (y :: r) x = ix r x + 1 := by rw [ix, if_neg h]
theorem ix_lt {α : Type} [DecidableEq α] {x : α} : ∀ {ts : List α}, x ∈ ts → ix ts x < ts.length
  | y :: r, h => by
    by_cases e : y = x
    · subst e; rw [ix_self]; simp
    · rw [ix_ne r e, List.length_cons]
      have : x ∈ r := by
        rcases List.mem_cons.mp h with h | h
        · exact absurd h.symm e
        · exact h
      exact Nat.succ_lt_succ (ix_lt this)
theorem ix_get {α : Type} [DecidableEq α] {x : α} : ∀ {ts : List α}, x ∈ ts → ts[ix ts x]? = some x
  | y :: r, h => by
    by_cases e : y = x
    · subst e; rw [ix_self]; rfl
    · rw [ix_ne r e]
      have : x ∈ r := by
        rcases List.mem_cons.mp h with h | h
        · exact absurd h.symm e
        · exact h
      rw [List.getElem?_cons_succ]
      exact ix_get this
theorem ix_first {α : Type} [DecidableEq α] {x : α} : ∀ {ts : List α} {i : Nat}, i < ix ts x → ts[i]? ≠ some x
  | [], i, h => by simp
  | y :: r, i, h => by
    by_cases e : y = x
    · subst e; rw [ix_self] at h; exact absurd h (Nat.not_lt_zero _)
    · rw [ix_ne r e] at h
      cases i with
      | zero => simpa using e
      | succ i => rw [List.getElem?_cons_succ]; exact ix_first (Nat.lt_of_succ_lt_succ h)
theorem ix_append {α : Type} [DecidableEq α] {x : α} : ∀ {ts us : List α}, x ∈ ts → ix (ts ++ us) x = ix ts x
  | y :: r, us, h => by
    by_cases e : y = x
    · subst e; rw [List.cons_append, ix_self, ix_self]
    · have : x ∈ r := by
        rcases List.mem_cons.mp h with h | h
        · exact absurd h.symm e
        · exact h
      rw [List.cons_append, ix_ne _ e, ix_ne _ e, ix_append this]
theorem ix_new {α : Type} [DecidableEq α] {x : α} : ∀ {ts : List α}, x ∉ ts → ix (ts ++ [x]) x = ts.length
  | [], _ => by rw [List.nil_append, ix_self]; rfl
  | y :: r, h => by
    have e : y ≠ x := fun e => h (e ▸ List.mem_cons_self)
    rw [List.cons_append, ix_ne _ e, ix_new (fun q => h (.tail _ q)), List.length_cons]

noncomputable def ins {α : Type} [DecidableEq α] (ts : List α) (x : α) : List α := if x ∈ ts then ts else ts ++ [x]
noncomputable def idxZ {α : Type} [DecidableEq α] (ts : List α) (x : α) : Int := if x ∈ ts then (ix ts x : Int) else -1
noncomputable def NumKV {K : Type} (ks : List K) (kvs : List (K × Value)) : Prop := kvs.map (·.1) = ks ∧ ∀ (i : Nat) p, kvs[i]? = some p → ∃ t, p.2 = Value.int (i : Int) t
noncomputable def pairKey (p : Int × Int) : List Int := [p.1, p.2]

theorem pairKey_inj {p q : Int × Int} (h : pairKey p = pairKey q) : p = q := by
  simp [pairKey] at h
  exact Prod.ext h.1 h.2
theorem mem_pairKey {ps : List (Int × Int)} {p : Int × Int} : pairKey p ∈ ps.map pairKey ↔ p ∈ ps :=
  ⟨fun h => by obtain ⟨q, hq, e⟩ := List.mem_map.mp h; exact pairKey_inj e ▸ hq, fun h => List.mem_map.mpr ⟨p, h, rfl⟩⟩
theorem ix_pairKey (ps : List (Int × Int)) (p : Int × Int) : ix (ps.map pairKey) (pairKey p) = ix ps p := by
  induction ps with
  | nil => rfl
  | cons q r ih =>
    by_cases h : q = p
    · subst h; rw [List.map_cons, ix_self, ix_self]
    · have h' : pairKey q ≠ pairKey p := fun e => h (pairKey_inj e)
      rw [List.map_cons, ix_ne _ h', ix_ne _ h, ih]
theorem idxZ_pairKey (ps : List (Int × Int)) (p : Int × Int) : idxZ (ps.map pairKey) (pairKey p) = idxZ ps p := by
  unfold idxZ
  rw [ix_pairKey]
  by_cases h : p ∈ ps
  · rw [if_pos (mem_pairKey.mpr h), if_pos h]
  · rw [if_neg fun e => h (mem_pairKey.mp e), if_neg h]

theorem ins_mem {α : Type} [DecidableEq α] (ts : List α) (x : α) : x ∈ ins ts x := by
  unfold ins; split <;> simp_all
theorem ins_nodup {α : Type} [DecidableEq α] {ts : List α} (x : α) (h : ts.Nodup) : (ins ts x).Nodup := by
  unfold ins
  split
  · exact h
  · rename_i hx
    rw [List.nodup_append]
    exact ⟨h, by simp, fun a ha b hb => by rw [List.mem_singleton.mp hb]; exact fun e => hx (e ▸ ha)⟩
theorem ins_length {α : Type} [DecidableEq α] (ts : List α) (x : α) : (ins ts x).length ≤ ts.length + 1 := by
  unfold ins; split <;> simp
theorem ins_sub {α : Type} [DecidableEq α] (ts : List α) (x : α) : ∀ y ∈ ts, y ∈ ins ts x := by
  intro y hy; unfold ins; split <;> simp [hy]
theorem ins_cases {α : Type} [DecidableEq α] (ts : List α) (x : α) : ∀ y ∈ ins ts x, y ∈ ts ∨ y = x := by
  intro y hy
  unfold ins at hy
  split at hy
  · exact .inl hy
  · rcases List.mem_append.mp hy with h | h
    · exact .inl h
    · exact .inr (List.mem_singleton.mp h)
theorem le_ins_length {α : Type} [DecidableEq α] (ts : List α) (x : α) : ts.length ≤ (ins ts x).length := by
  unfold ins; split <;> simp

theorem NumKV.at {K : Type} [DecidableEq K] {ks : List K} {kvs : List (K × Value)} (h : NumKV ks kvs) (x : K) :
    (x ∉ ks → valueAt kvs x = none) ∧ (x ∈ ks → ∃ t, valueAt kvs x = some (.int (ix ks x : Int) t)) := by
  obtain ⟨h1, h2⟩ := h
  subst h1
  unfold valueAt
  constructor
  · intro hx
    rw [List.find?_eq_none.mpr ?_]
    · rfl
    · intro p hp e
      exact hx (List.mem_map.mpr ⟨p, hp, by simpa using e⟩)
  · intro hx
    have main : ∀ (l : List (K × Value)) (n : Nat), (∀ (i : Nat) p, l[i]? = some p → ∃ t, p.2 = Value.int ((n + i : Nat) : Int) t) → x ∈ l.map (·.1) → ∃ t, (l.find? fun kv => decide (kv.1 = x)).map (·.2) = some (.int ((n + ix (l.map (·.1)) x : Nat) : Int) t) := by
      intro l
      induction l with
      | nil => intro n _ hm; simp at hm
      | cons p r ih =>
        intro n hn hm
        by_cases e : p.1 = x
        · obtain ⟨t, ht⟩ := hn 0 p rfl
          refine ⟨t, ?_⟩
          rw [List.find?_cons_of_pos (by simpa using e), List.map_cons, e, ix_self]
          simpa using ht
        · have hm' : x ∈ r.map (·.1) := by
            rcases List.mem_cons.mp hm with h | h
            · exact absurd h.symm e
            · exact h
          obtain ⟨t, ht⟩ := ih (n + 1) (fun i q hq => by
            obtain ⟨t, ht⟩ := hn (i + 1) q (by simpa using hq)
            exact ⟨t, by rw [ht]; congr 1; omega⟩) hm'
          refine ⟨t, ?_⟩
          rw [List.find?_cons_of_neg (by simpa using e), List.map_cons, ix_ne _ e, ht]
          congr 2
          congr 1
          omega
    obtain ⟨t, ht⟩ := main kvs 0 (fun i p hp => by simpa using h2 i p hp) hx
    exact ⟨t, by simpa using ht⟩

theorem NumKV.getD {K : Type} [DecidableEq K] {ks : List K} {kvs : List (K × Value)} (h : NumKV ks kvs) (x : K) (t₀ : Tok) : ∃ t, (valueAt kvs x).getD (.int (-1) t₀) = .int (idxZ ks x) t := by
  by_cases hx : x ∈ ks
  · obtain ⟨t, e⟩ := (h.at x).2 hx
    exact ⟨t, by rw [e]; simp [idxZ, hx]⟩
  · exact ⟨t₀, by rw [(h.at x).1 hx]; simp [idxZ, hx]⟩

theorem NumKV.new {K : Type} [DecidableEq K] {ks : List K} {kvs : List (K × Value)} (h : NumKV ks kvs) {x : K} (hx : x ∉ ks) (t : Tok) : stored kvs x (.int (ks.length : Int) t) = kvs ++ [(x, .int (ks.length : Int) t)] ∧ NumKV (ks ++ [x]) (kvs ++ [(x, .int (ks.length : Int) t)]) := by
  obtain ⟨h1, h2⟩ := h
  constructor
  · unfold stored
    rw [if_neg]
    rw [List.any_eq_true]
    rintro ⟨p, hp, e⟩
    exact hx (h1 ▸ List.mem_map.mpr ⟨p, hp, by simpa using e⟩)
  · refine ⟨by simp [h1], fun i p hp => ?_⟩
    have hl : kvs.length = ks.length := by rw [← h1, List.length_map]
    by_cases hi : i < kvs.length
    · rw [List.getElem?_append_left hi] at hp
      exact h2 i p hp
    · rw [List.getElem?_append_right (by omega)] at hp
      have hi' : i - kvs.length = 0 := by
        have := (List.getElem?_eq_some_iff.mp hp).1
        simp at this
        omega
      rw [hi'] at hp
      have e : (x, Value.int (ks.length : Int) t) = p := by simpa using hp
      subst e
      exact ⟨t, by show Value.int _ _ = _; congr 1; omega⟩

/-! the table of symbols on the heap -/
structure SA where
  sg : Addr
  dx : Addr
  tl : Addr
  an : Addr
  fl : Addr
  fn : Addr
noncomputable def SA.all (a : SA) : List Addr := [a.sg, a.dx, a.tl, a.an, a.fl, a.fn]

noncomputable def symEntries (w : World) (a : SA) (t1 t2 t3 t4 : Tok) : List DictEntry :=
  [⟨PyData.keyHash w.params (Str.ofString "texts"), .str (Str.ofString "texts") t1, .ref a.tl⟩, ⟨PyData.keyHash w.params (Str.ofString "atom_numbers"), .str (Str.ofString "atom_numbers") t2, .ref a.an⟩,
   ⟨PyData.keyHash w.params (Str.ofString "functors"), .str (Str.ofString "functors") t3, .ref a.fl⟩, ⟨PyData.keyHash w.params (Str.ofString "functor_numbers"), .str (Str.ofString "functor_numbers") t4, .ref a.fn⟩]

noncomputable def AtomsObj (prog : Program) (w : World) (o : Obj) (ts : List Str) : Prop := ∃ kvs, o.IsDictOf (strKind prog w) kvs ∧ NumKV ts kvs

noncomputable def FunsObj (prog : Program) (w : World) (o : Obj) (xs : List (List Int × Addr × Value)) : Prop :=
  o.ExactDict ∧ ∃ es ep, o.data = .dict es ep ∧ es.toList = xs.map (entryOfKey (tupleKind (intKind prog w)))

noncomputable def FunsAre (prog : Program) (w : World) (h : Heap) (xs : List (List Int × Addr × Value)) (ps : List (Int × Int)) : Prop :=
  NumKV (ps.map pairKey) (kvsOf xs) ∧ ∀ x ∈ xs, IsTupleKey (intKind prog w) h x.1 x.2.1

structure SymAt (prog : Program) (w : World) (g₀ h : Heap) (a : SA) (ts : List Str) (ps : List (Int × Int)) : Prop where
  inst : h.get? a.sg = some (instObj 115 a.dx)
  dict : ∃ t1 t2 t3 t4, h.get? a.dx = some (dictOf (symEntries w a t1 t2 t3 t4) 4)
  texts : ∃ vs n, h.get? a.tl = some (listOf (List.toArray vs) n) ∧ StrsAre vs ts
  atoms : ∃ o, h.get? a.an = some o ∧ AtomsObj prog w o ts
  funs : ∃ xs o n, h.get? a.fl = some (listOf (List.toArray (xs.map fun x => Value.ref x.2.1)) n) ∧ h.get? a.fn = some o ∧ FunsObj prog w o xs ∧ FunsAre prog w h xs ps
  fresh : ∀ b ∈ a.all, g₀.get? b = none
  apart : a.all.Nodup
  lowA : (a.an == sysModules) = false
  lowF : (a.fn == sysModules) = false
  nodA : ts.Nodup
  nodF : ps.Nodup

theorem IsTupleKey.but {prog : Program} {w : World} {h h' : Heap} {ks : List Int} {a : Addr} {S : List Addr} (x : IsTupleKey (intKind prog w) h ks a) (k : Keeps S h h')
    (hS : NoTups h S) : IsTupleKey (intKind prog w) h' ks a := by
  obtain ⟨o, items, n, ho, hc, r⟩ := x
  refine ⟨o, items, n, k _ _ ho fun q => ?_, hc, r⟩
  rcases hS a q o ho with hn | hn
  · exact hn hc
  · exact hn _ _ r.1

section
variable {prog : Program} {w : World} {A : Around} {E : Value → Shared → Prop} {s : Shared} {Q : Value → Shared → Prop}

theorem get_atom {d : Addr} {o : Obj} {ts : List Str} {x : Str} {u u' : Tok} (ho : s.heap.get? d = some o) (ha : AtomsObj prog w o ts) (hd : (d == sysModules) = false)
    (h : ∀ t, Q (.int (idxZ ts x) t) { s with toks := s.toks + 1 }) : wpAny (model prog w) A (call (.builtin "dict.get") [.ref d, .str x u, .int (-1) u']) Q E s := by
  obtain ⟨kvs, hk, hn⟩ := ha
  have hm : s.heap.DictOf (strKind prog w) d kvs := Heap.dictOf_iff.mpr ⟨o, ho, hk⟩
  refine call_meetsIn PySem.F.slot_dict_get hm.typeIs PySem.F.entry_dict_get (PySem.F.args_dict_get_3 _ _ _) (meets_dict_get_default (strKind prog w) d (strKind_is prog w x u) hd (.int (-1) u')) ⟨valueAt kvs, hm.mapOf, ?_⟩
  obtain ⟨t, e⟩ := hn.getD x u'
  rw [e]
  exact h t

theorem DictOfH.of {h : Heap} {d : Addr} {o : Obj} {xs : List (List Int × Addr × Value)} {ps : List (Int × Int)} (ho : h.get? d = some o) (hf : FunsObj prog w o xs) (ha : FunsAre prog w h xs ps) (hn : ps.Nodup) :
    h.DictOfH (tupleKind (intKind prog w)) d xs := by
  obtain ⟨hc, es, ep, hd, he⟩ := hf
  refine ⟨o, es, ep, ho, hc, hd, he, ha.2, ?_⟩
  have e : xs.map (·.1) = ps.map pairKey := by
    have := ha.1.1
    unfold kvsOf at this
    rw [List.map_map] at this
    exact this
  rw [e]
  exact List.Pairwise.map _ (fun a b hab q => hab (pairKey_inj q)) hn

theorem get_fun {d a : Addr} {o : Obj} {xs : List (List Int × Addr × Value)} {ps : List (Int × Int)} {p : Int × Int} {u' : Tok} (hu : A.units + 1 < cLine) (ho : s.heap.get? d = some o) (hf : FunsObj prog w o xs) (ha : FunsAre prog w s.heap xs ps) (hn : ps.Nodup)
    (hd : (d == sysModules) = false) (hk : IsTupleKey (intKind prog w) s.heap (pairKey p) a) (h : ∀ t tk, Q (.int (idxZ ps p) t) { s with toks := tk }) :
    wpAny (model prog w) A (call (.builtin "dict.get") [.ref d, .ref a, .int (-1) u']) Q E s := by
  have hm := DictOfH.of ho hf ha hn
  refine call_meetsIn PySem.F.slot_dict_get hm.typeIs PySem.F.entry_dict_get (PySem.F.args_dict_get_3 _ _ _) (meetsH_dict_get_default (tupleKind (intKind prog w)) d a hd (.int (-1) u')) ⟨tupleKind_room_in1 hu, pairKey p, xs, hk, hm, ?_⟩
  rw [← valueAt_kvsOf]
  obtain ⟨t, e⟩ := ha.1.getD (pairKey p) u'
  rw [e, idxZ_pairKey]
  exact h t _

/-- a text that is not yet there -/
theorem put_atom {d : Addr} {o : Obj} {ts : List Str} {x : Str} {u t : Tok} {Q : Unit → Shared → Prop} (ho : s.heap.get? d = some o) (ha : AtomsObj prog w o ts) (hx : x ∉ ts) (hz : ts.length ≤ 5000)
    (h : ∀ h' o' tk, h'.get? d = some o' → AtomsObj prog w o' (ts ++ [x]) → Heap.SameBut d s.heap h' → Q () { s with heap := h', toks := tk }) : wpAny (model prog w) A (setItem (.ref d) (.str x u) (.int (ts.length : Int) t)) Q E s := by
  obtain ⟨kvs, hk, hn⟩ := ha
  have hm : s.heap.DictOf (strKind prog w) d kvs := Heap.dictOf_iff.mpr ⟨o, ho, hk⟩
  have hl : kvs.length = ts.length := by rw [← hn.1, List.length_map]
  refine wpAny_setItem_pairs (hsz := by rw [sizeLine_eq]; omega) (strKind_is prog w x u) hm fun h' hm' hs => ?_
  obtain ⟨o', ho', hk'⟩ := Heap.dictOf_iff.mp hm'
  rw [(hn.new hx t).1] at hk'
  exact h h' o' _ ho' ⟨_, hk', (hn.new hx t).2⟩ hs

theorem put_fun {d a : Addr} {o : Obj} {xs : List (List Int × Addr × Value)} {ps : List (Int × Int)} {p : Int × Int} {t : Tok} {Q : Unit → Shared → Prop} (hu : A.units + 1 < cLine) (ho : s.heap.get? d = some o) (hf : FunsObj prog w o xs) (ha : FunsAre prog w s.heap xs ps) (hn : ps.Nodup)
    (hk : IsTupleKey (intKind prog w) s.heap (pairKey p) a) (hx : p ∉ ps) (hz : ps.length ≤ 5000)
    (h : ∀ h' o' tk, h'.get? d = some o' → FunsObj prog w o' (xs ++ [(pairKey p, a, .int (ps.length : Int) t)]) → FunsAre prog w h' (xs ++ [(pairKey p, a, .int (ps.length : Int) t)]) (ps ++ [p]) → Heap.SameBut d s.heap h' → Q () { s with heap := h', toks := tk }) :
    wpAny (model prog w) A (setItem (.ref d) (.ref a) (.int (ps.length : Int) t)) Q E s := by
  have hm := DictOfH.of ho hf ha hn
  have hl : xs.length = ps.length := by
    have := congrArg List.length ha.1.1
    simpa [kvsOf] using this
  refine wpAny_setItem_heap (hsz := by rw [sizeLine_eq]; omega) (knd := tupleKind (intKind prog w)) (tupleKind_room_in1 hu) hk hm fun h' hm' hs => ?_
  have hp' : pairKey p ∉ ps.map pairKey := fun q => hx (mem_pairKey.mp q)
  have hnone : atKey xs (pairKey p) = none := by
    have := (ha.1.at (pairKey p)).1 hp'
    rw [valueAt_kvsOf] at this
    cases hq : atKey xs (pairKey p) with
    | none => rfl
    | some _ => rw [hq] at this; cases this
  rw [storedH_new hnone] at hm'
  obtain ⟨o', es', ep', ho', hc', hd', he', his', _⟩ := hm'
  refine h h' o' _ ho' ⟨hc', es', ep', hd', he'⟩ ⟨?_, his'⟩ hs
  have e : kvsOf (xs ++ [(pairKey p, a, Value.int (ps.length : Int) t)]) = kvsOf xs ++ [(pairKey p, Value.int (ps.length : Int) t)] := by simp [kvsOf]
  rw [e, List.map_append, List.map_singleton]
  have := (ha.1.new hp' t).2
  rw [List.length_map] at this
  exact this
end

theorem exact_noDict {h : Heap} {d : Addr} {o : Obj} (ho : h.get? d = some o) (hc : o.ExactDict) : ∀ b, Value.ref d = .ref b → ∃ ob, h.get? b = some ob ∧ ob.dict = none :=
  fun b e => by injection e with e; subst e; exact ⟨o, ho, hc.2.1⟩
theorem meth_get {M : Model} {A : Around} {E : Value → Shared → Prop} {s : Shared} {d : Addr} {o : Obj} {pl : Sem Bool} {Q : Value × List Value → Shared → Prop} (ho : s.heap.get? d = some o) (hc : o.ExactDict) (h : Q (.builtin "dict.get", [.ref d]) s) :
    wpAny M A (getMethod (.ref d) "get" pl) Q E s :=
  getMethod_builtin ⟨o, ho, hc.1⟩ PySem.F.plainAttrs_dict PySem.F.slot_dict_get PySem.F.type_dict_get (exact_noDict ho hc) h
theorem AtomsObj.exact {prog : Program} {w : World} {o : Obj} {ts : List Str} (h : AtomsObj prog w o ts) : o.ExactDict := let ⟨_, ⟨_, _, hc, _⟩, _⟩ := h; hc
theorem FunsObj.exact {prog : Program} {w : World} {o : Obj} {xs : List (List Int × Addr × Value)} (h : FunsObj prog w o xs) : o.ExactDict := h.1

theorem Keeps.drop {S' S : List Addr} {h h' : Heap} (k : Keeps S' h h') (hd : ∀ b ∈ S', b ∉ S → ∀ o, h.get? b = some o → h'.get? b = some o) : Keeps S h h' := fun b o e n => by
  by_cases hb : b ∈ S'
  · exact hd b hb n o e
  · exact k b o e hb

section
variable {prog : Program} {w : World} {g₀ h h' : Heap} {a : SA} {ts ts' : List Str} {ps ps' : List (Int × Int)}

theorem SymAt.noTup (Y : SymAt prog w g₀ h a ts ps) : NoTups h a.all := by
  obtain ⟨Yi, ⟨t1, t2, t3, t4, Yd⟩, ⟨vs, n, Yt, Ys⟩, ⟨oa, Yo, Ya⟩, ⟨xs, of, nf, Yl, Yn, YF, YA⟩, _⟩ := Y
  exact .cons Yi (.inl (by simp)) (.cons Yd (.inl (by simp)) (.cons Yt (.inl (by simp)) (.cons Yo (.inl (by rw [Ya.exact.1]; simp)) (.cons Yl (.inl (by simp)) (.cons Yn (.inl (by rw [YF.exact.1]; simp)) (.nil _))))))

theorem FunsAre.but {xs : List (List Int × Addr × Value)} {S : List Addr} (x : FunsAre prog w h xs ps) (k : Keeps S h h') (hS : NoTups h S) : FunsAre prog w h' xs ps :=
  ⟨x.1, fun y hy => IsTupleKey.but (x.2 y hy) k hS⟩

theorem SymAt.but {S : List Addr} (Y : SymAt prog w g₀ h a ts ps) (k : Keeps S h h') (hS : NoTups h S) (hn : ∀ b ∈ a.all, b ∉ S) : SymAt prog w g₀ h' a ts ps := by
  obtain ⟨Yi, ⟨t1, t2, t3, t4, Yd⟩, ⟨vs, n, Yt, Ys⟩, ⟨oa, Yo, Ya⟩, ⟨xs, of, nf, Yl, Yn, YF, YA⟩, r1, r2, r3, r4, r5, r6⟩ := Y
  exact ⟨k _ _ Yi (hn _ (by simp [SA.all])), ⟨t1, t2, t3, t4, k _ _ Yd (hn _ (by simp [SA.all]))⟩, ⟨vs, n, k _ _ Yt (hn _ (by simp [SA.all])), Ys⟩, ⟨oa, k _ _ Yo (hn _ (by simp [SA.all])), Ya⟩,
    ⟨xs, of, nf, k _ _ Yl (hn _ (by simp [SA.all])), k _ _ Yn (hn _ (by simp [SA.all])), YF, YA.but k hS⟩, r1, r2, r3, r4, r5, r6⟩

theorem SymAt.atoms' (Y : SymAt prog w g₀ h a ts ps) (k : Keeps [a.tl, a.an] h h') (ht : ∃ vs n, h'.get? a.tl = some (listOf (List.toArray vs) n) ∧ StrsAre vs ts') (ha : ∃ o, h'.get? a.an = some o ∧ AtomsObj prog w o ts') (nd : ts'.Nodup) :
    SymAt prog w g₀ h' a ts' ps := by
  have hS : NoTups h [a.tl, a.an] := Y.noTup.sub fun b hb => by simp only [List.mem_cons, List.not_mem_nil, or_false] at hb; rcases hb with rfl | rfl <;> simp [SA.all]
  obtain ⟨Yi, ⟨t1, t2, t3, t4, Yd⟩, _, _, ⟨xs, of, nf, Yl, Yn, YF, YA⟩, fr, ap, lA, lF, nA, nF⟩ := Y
  have ap' := ap
  simp only [SA.all, List.nodup_cons, List.mem_cons, List.not_mem_nil, or_false, not_or, not_false_eq_true, List.nodup_nil, and_true] at ap'
  exact ⟨k _ _ Yi (by grind), ⟨t1, t2, t3, t4, k _ _ Yd (by grind)⟩, ht, ha,
    ⟨xs, of, nf, k _ _ Yl (by grind), k _ _ Yn (by grind), YF, YA.but k hS⟩, fr, ap, lA, lF, nd, nF⟩

theorem SymAt.funs' (Y : SymAt prog w g₀ h a ts ps) (k : Keeps [a.fl, a.fn] h h')
    (hf : ∃ xs o n, h'.get? a.fl = some (listOf (List.toArray (xs.map fun x => Value.ref x.2.1)) n) ∧ h'.get? a.fn = some o ∧ FunsObj prog w o xs ∧ FunsAre prog w h' xs ps') (nd : ps'.Nodup) :
    SymAt prog w g₀ h' a ts ps' := by
  obtain ⟨Yi, ⟨t1, t2, t3, t4, Yd⟩, ⟨vs, n, Yt, Ys⟩, ⟨oa, Yo, Ya⟩, _, fr, ap, lA, lF, nA, nF⟩ := Y
  have ap' := ap
  simp only [SA.all, List.nodup_cons, List.mem_cons, List.not_mem_nil, or_false, not_or, not_false_eq_true, List.nodup_nil, and_true] at ap'
  exact ⟨k _ _ Yi (by grind), ⟨t1, t2, t3, t4, k _ _ Yd (by grind)⟩, ⟨vs, n, k _ _ Yt (by grind), Ys⟩, ⟨oa, k _ _ Yo (by grind), Ya⟩, hf, fr, ap, lA, lF, nA, nd⟩
end
theorem idxZ_neg {α : Type} [DecidableEq α] {ts : List α} {x : α} (h : ¬ 0 ≤ idxZ ts x) : x ∉ ts := fun q => h (by unfold idxZ; rw [if_pos q]; omega)
theorem idxZ_pos {α : Type} [DecidableEq α] {ts : List α} {x : α} (h : 0 ≤ idxZ ts x) : x ∈ ts := by
  by_cases q : x ∈ ts
  · exact q
  · unfold idxZ at h; rw [if_neg q] at h; omega
theorem idxZ_mem {α : Type} [DecidableEq α] {ts : List α} {x : α} (h : x ∈ ts) : idxZ ts x = (ix ts x : Int) := if_pos h
theorem ins_old {α : Type} [DecidableEq α] {ts : List α} {x : α} (h : x ∈ ts) : ins ts x = ts := if_pos h
theorem ins_new {α : Type} [DecidableEq α] {ts : List α} {x : α} (h : x ∉ ts) : ins ts x = ts ++ [x] := if_neg h

abbrev tup2 (x y : Int) (u v : Tok) (n : Nat) : Obj := { cls := .type "tuple", data := .seq #[.int x u, .int y v] n }
theorem pair_key {prog : Program} {w : World} {h : Heap} {a : Addr} {x y : Int} {u v : Tok} {n : Nat} (e : h.get? a = some (tup2 x y u v n)) : IsTupleKey (intKind prog w) h (pairKey (x, y)) a :=
  ⟨_, _, n, e, rfl, rfl, .cons (by simp [intKind, Value.isInt]) (.cons (by simp [intKind, Value.isInt]) .nil)⟩

theorem key_items {prog : Program} {w : World} {h : Heap} {a : Addr} {x y : Int} (e : IsTupleKey (intKind prog w) h (pairKey (x, y)) a) : ∃ t u, IsTup h a #[.int x t, .int y u] := by
  obtain ⟨o, items, n, ho, hc, hd, hi⟩ := e
  obtain ⟨l⟩ := items
  rcases hi with _ | ⟨h1, hi⟩
  rename_i v1 vs1
  rcases hi with _ | ⟨h2, hi⟩
  rename_i v2 vs2
  cases hi
  obtain ⟨t, rfl⟩ := Value.isInt_shape h1
  obtain ⟨u, rfl⟩ := Value.isInt_shape h2
  exact ⟨t, u, o, ho, hc, n, hd⟩

theorem FunsAre.item {prog : Program} {w : World} {h : Heap} {xs : List (List Int × Addr × Value)} {ps : List (Int × Int)} (x : FunsAre prog w h xs ps) {k : Nat} {p : Int × Int} (hk : ps[k]? = some p) :
    ∃ a t u, (xs.map fun x => Value.ref x.2.1)[k]? = some (.ref a) ∧ IsTup h a #[.int p.1 t, .int p.2 u] := by
  have e : xs.map (·.1) = ps.map pairKey := by
    have := x.1.1
    unfold kvsOf at this
    rw [List.map_map] at this
    exact this
  have hl : xs.length = ps.length := by simpa using congrArg List.length e
  have hk' := (List.getElem?_eq_some_iff.mp hk).1
  obtain ⟨z, hz⟩ : ∃ z, xs[k]? = some z := ⟨_, List.getElem?_eq_getElem (by omega)⟩
  have e1 : z.1 = pairKey p := by
    have q := congrArg (fun l => l[k]?) e
    simp only [List.getElem?_map, hz, hk, Option.map_some, Option.some.injEq] at q
    exact q
  have key := x.2 z (List.mem_of_getElem? hz)
  rw [e1] at key
  obtain ⟨t, u, it⟩ := key_items (x := p.1) (y := p.2) key
  exact ⟨z.2.1, t, u, by rw [List.getElem?_map, hz]; rfl, it⟩

end Mine

end
section
open PySem PySem.W PySem.Calls PyProof.Rows PyProof.Rows.LCg
set_option maxRecDepth 100000
namespace Mine

/-! small steps, said once -/
theorem all0 {α : Type} {P : α → Prop} : ∀ x ∈ ([] : List α), P x := fun _ h => nomatch h
theorem allC {α : Type} {P : α → Prop} {a : α} {l : List α} (h : P a) (t : ∀ x ∈ l, P x) : ∀ x ∈ a :: l, P x := List.forall_mem_cons.2 ⟨h, t⟩
theorem Keeps.drop1 {c : Addr} {S : List Addr} {h h' : Heap} {o : Obj} (k : Keeps (c :: S) h h') (e : h.get? c = some o) (e' : h'.get? c = some o) : Keeps S h h' := fun b o' q n => by
  by_cases hb : b = c
  · subst hb; rw [e] at q; exact q ▸ e'
  · exact k b o' q fun m => (List.mem_cons.mp m).elim hb n
/-- the base is kept: what stands in the heap besides the base was in the ledger -/
theorem Keeps.base {S : List Addr} {h g h' : Heap} {L : Addr} {m : Str → Option Value} (kg : Keeps S h g) (F : Fr g L h' m) : Keeps S h h' := fun b o e hn => F.keep _ _ (kg b o e hn)
theorem News.same {g h h' : Heap} {L x : Addr} {led : List (Addr × Obj)} (N : News g L h led) (hs : Heap.SameBut x h h') (hn : ∀ p ∈ led, p.1 ≠ x) : News g L h' led :=
  News.but (S := [x]) N (Keeps.same hs (.head _)) fun p hp q => hn p hp (List.mem_singleton.mp q)

structure SA.Ne (a : SA) : Prop where
  sd : a.sg ≠ a.dx
  st : a.sg ≠ a.tl
  sa : a.sg ≠ a.an
  sf : a.sg ≠ a.fl
  sn : a.sg ≠ a.fn
  dt : a.dx ≠ a.tl
  da : a.dx ≠ a.an
  df : a.dx ≠ a.fl
  dn : a.dx ≠ a.fn
  ta : a.tl ≠ a.an
  tf : a.tl ≠ a.fl
  tn : a.tl ≠ a.fn
  af : a.an ≠ a.fl
  an : a.an ≠ a.fn
  ff : a.fl ≠ a.fn
theorem SA.ne {a : SA} (h : a.all.Nodup) : a.Ne := by
  simp only [SA.all, List.nodup_cons, List.mem_cons, List.not_mem_nil, or_false, not_or, not_false_eq_true, List.nodup_nil, and_true] at h
  obtain ⟨⟨h1, h2, h3, h4, h5⟩, ⟨h6, h7, h8, h9⟩, ⟨h10, h11, h12⟩, ⟨h13, h14⟩, h15⟩ := h
  exact ⟨h1, h2, h3, h4, h5, h6, h7, h8, h9, h10, h11, h12, h13, h14, h15⟩
theorem SA.subF (a : SA) : ∀ b ∈ [a.sg, a.dx, a.fl, a.fn], b ∈ a.all := allC (by simp [SA.all]) (allC (by simp [SA.all]) (allC (by simp [SA.all]) (allC (by simp [SA.all]) all0)))
theorem SA.subA (a : SA) : ∀ b ∈ [a.sg, a.dx, a.tl, a.an], b ∈ a.all := allC (by simp [SA.all]) (allC (by simp [SA.all]) (allC (by simp [SA.all]) (allC (by simp [SA.all]) all0)))

section
variable {prog : Program} {w : World} {g₀ h : Heap} {a : SA} {ts : List Str} {ps : List (Int × Int)}
theorem SymAt.gs (Y : SymAt prog w g₀ h a ts ps) : g₀.get? a.sg = none := Y.fresh _ (by simp [SA.all])
theorem SymAt.gd (Y : SymAt prog w g₀ h a ts ps) : g₀.get? a.dx = none := Y.fresh _ (by simp [SA.all])
theorem SymAt.gt (Y : SymAt prog w g₀ h a ts ps) : g₀.get? a.tl = none := Y.fresh _ (by simp [SA.all])
theorem SymAt.ga (Y : SymAt prog w g₀ h a ts ps) : g₀.get? a.an = none := Y.fresh _ (by simp [SA.all])
theorem SymAt.gf (Y : SymAt prog w g₀ h a ts ps) : g₀.get? a.fl = none := Y.fresh _ (by simp [SA.all])
theorem SymAt.gn (Y : SymAt prog w g₀ h a ts ps) : g₀.get? a.fn = none := Y.fresh _ (by simp [SA.all])
end
end Mine

end
section
open PySem PySem.W PySem.Calls PyProof.Rows PySem.SeqAt
set_option maxRecDepth 100000
namespace Mine

/-- a kind of items, told apart by == -/
structure Kd (D : Type) [DecidableEq D] where
  Is : Heap → Value → D → Prop
  inj : ∀ {h v d d'}, Is h v d → Is h v d' → d = d'
  but : ∀ {h h' v d S}, Is h v d → Keeps S h h' → NoTups h S → Is h' v d
  eqAt : ∀ {A s y x d e}, A.units + 4 < cLine → Is s.heap y d → Is s.heap x e → EqAt A s y x (decide (d = e))

inductive Sits {D : Type} (P : Value → D → Prop) : List Value → List D → Prop
  | nil : Sits P [] []
  | cons {v : Value} {d : D} {vs : List Value} {ds : List D} : P v d → Sits P vs ds → Sits P (v :: vs) (d :: ds)

section
variable {D : Type} {P P' : Value → D → Prop} {vs ws : List Value} {ds es : List D}
theorem Sits.length (h : Sits P vs ds) : vs.length = ds.length := by
  induction h with
  | nil => rfl
  | cons _ _ ih => simp [ih]
theorem Sits.append (h : Sits P vs ds) (k : Sits P ws es) : Sits P (vs ++ ws) (ds ++ es) := by
  induction h with
  | nil => exact k
  | cons p _ ih => exact .cons p ih
theorem Sits.mono (h : Sits P vs ds) (k : ∀ v d, P v d → P' v d) : Sits P' vs ds := by
  induction h with
  | nil => exact .nil
  | cons p _ ih => exact .cons (k _ _ p) ih
theorem Sits.get (h : Sits P vs ds) : ∀ {i : Nat} {d : D}, ds[i]? = some d → ∃ v, vs[i]? = some v ∧ P v d := by
  induction h with
  | nil => intro i d e; simp at e
  | cons p _ ih =>
    intro i d e
    cases i with
    | zero => simp at e; subst e; exact ⟨_, rfl, p⟩
    | succ i => simp at e; simpa using ih e
theorem Sits.get' (h : Sits P vs ds) : ∀ {i : Nat} {v : Value}, vs[i]? = some v → ∃ d, ds[i]? = some d ∧ P v d := by
  induction h with
  | nil => intro i d e; simp at e
  | cons p _ ih =>
    intro i d e
    cases i with
    | zero => simp at e; subst e; exact ⟨_, rfl, p⟩
    | succ i => simp at e; simpa using ih e
theorem Sits.but {D : Type} [DecidableEq D] {K : Kd D} {h h' : Heap} {vs : List Value} {ds : List D} {S : List Addr} (x : Sits (K.Is h) vs ds) (k : Keeps S h h') (hS : NoTups h S) : Sits (K.Is h') vs ds :=
  x.mono fun _ _ p => K.but p k hS
theorem Sits.mem (h : Sits P vs ds) {v : Value} (hv : v ∈ vs) : ∃ d ∈ ds, P v d := by
  obtain ⟨i, hi⟩ := List.mem_iff_getElem?.mp hv
  obtain ⟨d, hd, p⟩ := h.get' hi
  exact ⟨d, List.mem_of_getElem? hd, p⟩
end

section
variable {D : Type} [DecidableEq D] (K : Kd D) {prog : Program} {w : World} {A : Around} {E : Value → Shared → Prop} {s : Shared} {l b : Addr} {vs ws : List Value} {ds es : List D} {x : Value} {e : D} {Q : Value → Shared → Prop}
open Classical in
theorem kd_any (hi : Sits (K.Is s.heap) vs ds) : (vs.toArray.any fun y => decide (K.Is s.heap y e)) = decide (e ∈ ds) := by
  rw [List.any_toArray]
  by_cases h : e ∈ ds
  · rw [decide_eq_true h, List.any_eq_true]
    obtain ⟨i, hi'⟩ := List.mem_iff_getElem?.mp h
    obtain ⟨v, hv, p⟩ := hi.get hi'
    exact ⟨v, List.mem_of_getElem? hv, decide_eq_true p⟩
  · rw [decide_eq_false h, List.any_eq_false]
    intro v hv q
    obtain ⟨d, hd, p⟩ := hi.mem hv
    exact h (K.inj p (of_decide_eq_true q) ▸ hd)
open Classical in
theorem kd_he (hu : A.units + 10 < cLine) (hi : Sits (K.Is s.heap) vs ds) (hx : K.Is s.heap x e) : ∀ y, y ∈ vs.toArray → EqAt A.in1 s y x (decide (K.Is s.heap y e)) := by
  intro y hy
  obtain ⟨d, _, p⟩ := hi.mem (List.mem_toArray.mp hy)
  have q := K.eqAt (A := A.in1) (by show A.units + 1 + 4 < _; omega) p hx
  have e' : decide (d = e) = decide (K.Is s.heap y e) := by
    by_cases h : d = e
    · subst h; rw [decide_eq_true rfl, decide_eq_true p]
    · rw [decide_eq_false h, decide_eq_false fun z => h (K.inj p z)]
  rw [← e']
  exact q
theorem kd_in (hu : A.units + 10 < cLine) (hl : s.heap.IsList l vs.toArray) (hi : Sits (K.Is s.heap) vs ds) (hx : K.Is s.heap x e) (h : Q (.bool (decide (e ∈ ds))) s) : wpAny (model prog w) A (compareOp .In x (.ref l)) Q E s :=
  in_listAt _ hl (kd_he K hu hi hx) (by rw [kd_any K hi]; exact h)
theorem kd_notIn (hu : A.units + 10 < cLine) (hl : s.heap.IsList l vs.toArray) (hi : Sits (K.Is s.heap) vs ds) (hx : K.Is s.heap x e) (h : Q (.bool (!decide (e ∈ ds))) s) : wpAny (model prog w) A (compareOp .NotIn x (.ref l)) Q E s :=
  notIn_listAt _ hl (kd_he K hu hi hx) (by rw [kd_any K hi]; exact h)
open Classical in
theorem kd_index (hu : A.units + 10 < cLine) (hl : s.heap.IsList l vs.toArray) (hi : Sits (K.Is s.heap) vs ds) (hx : K.Is s.heap x e) (hm : e ∈ ds) (hz : ds.length ≤ 100000) (h : Q (.int (ix ds e : Int) s.toks) { s with toks := s.toks + 1 }) :
    wpAny (model prog w) A (call (.builtin "list.index") [.ref l, x]) Q E s := by
  obtain ⟨⟨cls, dd, data, sl⟩, ho, hc, n, hd⟩ := id hl
  simp only at hc hd
  subst hc hd
  have hlen := hi.length
  have hj := ix_lt hm
  obtain ⟨v, hv, p⟩ := hi.get (ix_get hm)
  refine call_meets PySem.F.slot_list_index ⟨_, ho, rfl⟩ PySem.F.entry_list_index (PySem.F.args_list_index_2 _ _)
    (list_indexAt l vs.toArray n dd sl x (fun y => decide (K.Is s.heap y e)) (ix ds e) (by rw [List.size_toArray]; omega) (by omega) ?_ ?_) ⟨ho, kd_he K hu hi hx, h⟩
  · have : vs.toArray[ix ds e]'(by rw [List.size_toArray]; omega) = v := by
      rw [List.getElem_toArray]
      exact (List.getElem?_eq_some_iff.mp hv).2
    rw [this]
    exact decide_eq_true p
  · intro j hjs hlt
    refine decide_eq_false fun q => ?_
    rw [List.getElem_toArray] at q
    rw [List.size_toArray] at hjs
    obtain ⟨d, hd, p'⟩ := hi.get' (List.getElem?_eq_getElem hjs)
    rw [K.inj p' q] at hd
    exact ix_first hlt hd
theorem kd_eq (hu : A.units + 10 < cLine) (hl : s.heap.IsList l vs.toArray) (hi : Sits (K.Is s.heap) vs ds) (hb : s.heap.IsList b ws.toArray) (hj : Sits (K.Is s.heap) ws es) (h : Q (.bool (decide (ds = es))) s) :
    wpAny (model prog w) A (compareOp .Eq (.ref l) (.ref b)) Q E s := by
  have h1 := hi.length
  have h2 := hj.length
  by_cases hs : ds.length = es.length
  · have hsz : vs.toArray.size = ws.toArray.size := by rw [List.size_toArray, List.size_toArray]; omega
    refine eq_listAt (e := fun j => decide (ds[j]? = es[j]?)) hl hb hsz (by omega) ?_ ?_
    · intro j a c
      rw [List.size_toArray] at a c
      rw [List.getElem_toArray, List.getElem_toArray]
      obtain ⟨d, hd, p⟩ := hi.get' (List.getElem?_eq_getElem a)
      obtain ⟨d', hd', p'⟩ := hj.get' (List.getElem?_eq_getElem c)
      have q := K.eqAt (A := A.in1) (by show A.units + 1 + 4 < _; omega) p p'
      have e' : decide (d = d') = decide (ds[j]? = es[j]?) := by rw [hd, hd']; simp
      rw [← e']
      exact q
    · have e' : ((List.range vs.toArray.size).all fun j => decide (ds[j]? = es[j]?)) = decide (ds = es) := by
        by_cases he : ds = es
        · subst he; rw [decide_eq_true rfl, List.all_eq_true]; intro j _; exact decide_eq_true rfl
        · rw [decide_eq_false he]
          apply Bool.eq_false_iff.mpr
          intro q
          rw [List.all_eq_true] at q
          apply he
          apply List.ext_getElem?
          intro j
          by_cases hj' : j < vs.toArray.size
          · exact of_decide_eq_true (q j (List.mem_range.mpr hj'))
          · rw [List.size_toArray] at hj'
            rw [List.getElem?_eq_none (by omega), List.getElem?_eq_none (by omega)]
      rw [e']
      exact h
  · refine eq_list_lengthsAt hl hb (by rw [List.size_toArray, List.size_toArray]; simp; omega) (by omega) ?_
    rw [decide_eq_false fun q => hs (by rw [q])] at h
    exact h
end

noncomputable def kStr : Kd Str where
  Is := fun _ v d => ∃ t, v = .str d t
  inj := fun ⟨_, e⟩ ⟨_, e'⟩ => by rw [e] at e'; injection e'
  but := fun h _ _ => h
  eqAt := fun _ ⟨t, e⟩ ⟨u, e'⟩ => by
    subst e e'
    intro prog w E Q h
    refine eqBool_str ?_
    exact h

theorem itemsAre_any {p p' : Program} {w w' : World} {ks : List Int} {vs : List Value} (h : ItemsAre (intKind p w) ks vs) : ItemsAre (intKind p' w') ks vs := by
  induction h with
  | nil => exact .nil
  | cons a _ ih => exact .cons a ih
theorem isTupleKey_any {p p' : Program} {w w' : World} {h : Heap} {ks : List Int} {a : Addr} (x : IsTupleKey (intKind p w) h ks a) : IsTupleKey (intKind p' w') h ks a := by
  obtain ⟨o, items, n, ho, hc, hd, hi⟩ := x
  exact ⟨o, items, n, ho, hc, hd, itemsAre_any hi⟩

noncomputable def kPair (prog : Program) (w : World) : Kd (Int × Int) where
  Is := fun h v d => ∃ a, v = .ref a ∧ IsTupleKey (intKind prog w) h (pairKey d) a
  inj := fun ⟨a, e, k⟩ ⟨b, e', k'⟩ => by
    rw [e] at e'
    injection e' with e'
    subst e'
    exact pairKey_inj (k.inj k')
  but := fun ⟨a, e, k⟩ hk hS => ⟨a, e, IsTupleKey.but k hk hS⟩
  eqAt := fun {A s y x d e'} hu ⟨a, e, k⟩ ⟨b, e2, k'⟩ => by
    subst e e2
    intro p' w' E Q h
    refine wpAny_eqBool_tuple (knd := intKind p' w') (by omega) (isTupleKey_any k) (isTupleKey_any k') ?_
    have q : decide (pairKey d = pairKey e') = decide (d = e') := by
      by_cases z : d = e'
      · subst z; simp
      · rw [decide_eq_false z, decide_eq_false fun z' => z (pairKey_inj z')]
    rw [q]
    exact h

theorem strs_sits {h : Heap} {vs : List Value} {ts : List Str} (x : StrsAre vs ts) : Sits (kStr.Is h) vs ts := by
  induction x with
  | nil => exact .nil
  | cons y t _ ih => exact .cons ⟨t, rfl⟩ ih
theorem sits_strs {h : Heap} {vs : List Value} {ts : List Str} (x : Sits (kStr.Is h) vs ts) : StrsAre vs ts := by
  induction x with
  | nil => exact .nil
  | cons p _ ih => obtain ⟨t, rfl⟩ := p; exact .cons _ t ih

end Mine

end
section
open PySem PySem.W PySem.Calls PyProof.Rows
set_option maxRecDepth 100000
set_option maxHeartbeats 8000000

namespace Mine

theorem c_next {w : World} {mean : ExcName → Option Value} {mg mb : Str → Option Value} {g₀ : Heap} {dp un : Nat} {fr : Option (List Env)} {gd : Option (List Code)} {s : Shared} {R : Result → Shared → Prop} {row : Addr} {vs : List Value} {ns : List Int} {n : Nat}
    (H : Here w mean mg mb g₀) (ext : g₀.StaysIn s.heap) (hA : dp + 10 < recursionLimit) (hU : un + 200 < cLine)
    (ho : s.heap.get? row = some (listOf (List.toArray vs) n)) (hg : g₀.get? row = none) (hi : IntsAre vs ns) (hlen : ns.length ≤ 120)
    (ret : ∀ h' tk t n', Keeps [row] s.heap h' → h'.get? row = some (listOf (List.toArray vs.dropLast) n') → R (.ok (.ret (.int (ns.getLastD 0) t))) { s with heap := h', toks := tk }) :
    codeAny (model PySem.Challenge.rw_no0153_01.row.toRowW.prog w) ⟨none, dp, fr, gd, un⟩ (.call (.ref 133) ⟨[.ref row], []⟩) R s := by
  have KX := H.X
  revert KX
  k_fill
  intro KX
  have T := H.T
  refine' enter KX T ext [(row, listOf (List.toArray vs) n)] (binds := [((Str.ofString "row"), Value.ref row)]) (by simpa using ⟨ho, hg⟩) ?k6 ?k7 ?k8 ?k9 ?kB ?c2 ?c3 ?c4 ?c5 ?_
  case k6 => k_is
  case k7 => k_is
  case k8 => show dp < _; omega
  case k9 => exact BindsTo.of_eq rfl
  case c5 => decide
  case kB => exact locs rfl
  case c2 => exact rfl
  case c3 => exact rfl
  case c4 => exact rfl
  clear T KX
  intro g L' h₁ kg F' N' X' T' l1 st
  try dsimp only
  k_fold
  repeat' ((fail_if_success (with_reducible show Mid _)); first | (k_unfold; (try dsimp only)) | (k_end; wrow_close) | ((fail_if_success (with_reducible show wpAny _ _ (call (Value.builtin "list.pop") _ _) _ _ _)); walk1) | ((fail_if_success (with_reducible show wpAny _ _ (call (Value.builtin "list.pop") _ _) _ _ _)); dsimp only; walk1))
  · rename_i h2 F2 N2 _ hne
    have e : ns = [] := by simpa using hne
    subst e
    cases hi
    exact ret _ _ _ n (fun b o hb hn => F2.keep _ _ (kg b o hb hn)) (N2.get (.tail _ (.head _)))
  · rename_i h2 F2 N2 _ hne
    have e : ns ≠ [] := by simpa using hne
    have hl := IntsAre.length hi
    refine' kpa_pop F2 N2 ?U hi ?l ?z ?_
    case U => k_upd
    case l => cases ns <;> simp_all
    case z => rw [sizeLine_eq]; omega
    intro h3 t F3 N3 _
    exact ret _ _ _ _ (fun b o hb hn => F3.keep _ _ (kg b o hb hn)) (N3.get (.tail _ (.head _)))
end Mine

end
section
open PySem PySem.W PySem.Calls PyProof.Rows
set_option maxRecDepth 100000
set_option maxHeartbeats 8000000

namespace Mine

theorem ints_reverse : ∀ {vs : List Value} {ns : List Int}, IntsAre vs ns → IntsAre vs.reverse ns.reverse
  | _, _, .nil => .nil
  | _, _, .cons k t r => by
    rw [List.reverse_cons, List.reverse_cons]
    exact (ints_reverse r).append (.cons k t .nil)

theorem c_row {w : World} {mean : ExcName → Option Value} {mg mb : Str → Option Value} {g₀ : Heap} {dp un : Nat} {fr : Option (List Env)} {gd : Option (List Code)} {s : Shared} {R : Result → Shared → Prop} {sc : Addr} {vs : List Value} {ns : List Int}
    (H : Here w mean mg mb g₀) (ext : g₀.StaysIn s.heap) (hA : dp + 10 < recursionLimit) (hU : un + 200 < cLine)
    (hl : s.heap.IsList sc vs.toArray) (hi : IntsAre vs ns) (hlen : ns.length ≤ 63)
    (ret : ∀ h' tk row us ms n', Keeps [] s.heap h' → s.heap.get? row = none → h'.get? row = some (listOf us.toArray n') → IntsAre us ms → ms.length ≤ 120 → (∀ v ∈ ms, 0 ≤ v ∧ v < 1013) → R (.ok (.ret (.ref row))) { s with heap := h', toks := tk }) :
    codeAny (model PySem.Challenge.rw_no0153_01.row.toRowW.prog w) ⟨none, dp, fr, gd, un⟩ (.call (.ref 126) ⟨[.ref sc], []⟩) R s := by
  have KX := H.X
  revert KX
  k_fill
  intro KX
  have T := H.T
  refine' enter KX T ext [] (binds := [((Str.ofString "script"), Value.ref sc)]) (by simp) ?k6 ?k7 ?k8 ?k9 ?kB ?c2 ?c3 ?c4 ?c5 ?_
  case k6 => k_is
  case k7 => k_is
  case k8 => show dp < _; omega
  case k9 => exact BindsTo.of_eq rfl
  case c5 => decide
  case kB => exact locs rfl
  case c2 => exact rfl
  case c3 => exact rfl
  case c4 => exact rfl
  clear T KX
  intro g L' h₁ kg F' N' X' T' l1 st
  try dsimp only
  k_fold
  have hl' : g.IsList sc vs.toArray := hl.at fun o e => kg _ _ e (by simp)
  clear hl
  repeat' ((fail_if_success (with_reducible show Mid _)); first | (k_unfold; (try dsimp only)) | (k_end; wrow_close) | ((fail_if_success (with_reducible show wpAny _ _ (exec (Stmt.For _ _ _ _ _) _) _ _ _)); walk1) | ((fail_if_success (with_reducible show wpAny _ _ (exec (Stmt.For _ _ _ _ _) _) _ _ _)); dsimp only; walk1))
  refine wpAny_For ?_
  repeat' ((fail_if_success (with_reducible show Mid _)); first | (k_unfold; (try dsimp only)) | (k_end; wrow_close) | ((fail_if_success (with_reducible show wpAny _ _ (pyIter _) _ _ _)); walk1) | ((fail_if_success (with_reducible show wpAny _ _ (pyIter _) _ _ _)); dsimp only; walk1))
  rename_i l0 hX1 hX2 hX3 D ws h2 F2 N2 hIw hCw hLw l1w
  have hD : h2.IsList D ws.toArray := News.isList N2 (.head _)
  have nD := N2 _ (.head _)
  have nl := N2 _ (.tail _ (.head _))
  have lz : l0 < h2.objs.size := Heap.lt_size nl.1
  have lzD : D < h2.objs.size := Heap.lt_size nD.1
  refine iter_list_J rfl hD nD.2.1 rfl rfl F2
    (fun i m h => ∃ us n ms, m (Str.ofString "row") = some (.ref l0) ∧ News g L' h [(l0, listOf us.toArray n)] ∧ IntsAre us ms ∧ ms.length ≤ 31 * i ∧ ∀ v ∈ ms, 0 ≤ v ∧ v < 1013)
    ⟨[], 0, [], rfl, News.sub N2 (by kqd_sub), .nil, by simp, by simp⟩ ?_ ?_ ?_
  · rintro i m h h' ⟨us, n, ms, a, b, c⟩ k _
    refine ⟨us, n, ms, a, News.but b k ?_, c⟩
    intro p hp
    have e := b p hp
    simp at hp
    subst hp
    simp
    exact ⟨e.2.1, Nat.ne_of_lt lz⟩
  · rintro i v m₁ h tk oI hv ⟨us, n, ms, hrow, hN, hi3, hl3, hb3⟩ F3 hI hlD
    rw [know hrow] at F3
    have hi40 : i < 40 := by
      have e1 := (Array.getElem?_eq_some_iff.mp hv).1
      have e2 := IntsAre.length hIw
      simp at e1
      omega
    obtain ⟨k, hk⟩ : ∃ k, (List.take 40 ns)[i]? = some k := by
      have e1 := (Array.getElem?_eq_some_iff.mp hv).1
      have e2 := IntsAre.length hIw
      rw [List.size_toArray] at e1
      exact ⟨_, List.getElem?_eq_getElem (by omega)⟩
    obtain ⟨t, ht⟩ := hIw.get i k hk
    have hv' : v = .int k t := by
      rw [List.getElem?_toArray, ht] at hv
      exact (Option.some.inj hv).symm
    subst hv'
    clear hv ht hk
    dsimp only at hI
    obtain ⟨oD, hoD, _⟩ := id hlD
    have NI : News g L' h [(l0, listOf us.toArray n), (h2.objs.size, oI), (D, oD)] :=
      News.cons (hN _ (.head _)).1 nl.2.1 nl.2.2 (News.cons hI (Nat.ne_of_gt (Fr.ns F2).lt) (Fr.fresh F2) (News.cons hoD nD.2.1 nD.2.2 News.nil))
    have hlI := neN (Nat.ne_of_lt lz)
    have hlD1 := neN (Nat.ne_of_lt l1w)
    have hz := IntsAre.length hi3
    clear hI hN N2 F2
    refine cut (fun s' => ∃ h' tk' num t', s' = { s with heap := h', toks := tk' } ∧ 0 ≤ num ∧ Fr g L' h' (fun y => if y = (Str.ofString "number") then some (.int num t') else if y = (Str.ofString "cell") then some (.int k t) else if y = (Str.ofString "row") then some (.ref l0) else m₁ y) ∧
      News g L' h' [(l0, listOf us.toArray n), (h2.objs.size, oI), (D, oD)]) ?_ ?_
    · repeat' ((fail_if_success (with_reducible show Mid _)); first | (k_unfold; (try dsimp only)) | (k_end; wrow_close) | (walk1) | (dsimp only; walk1))
      all_goals (refine ⟨rfl, _, _, _, _, rfl, ?_, (by assumption), (by assumption)⟩; omega)
    · rintro s' ⟨h4, tk4, num, t4, rfl, hnum, F4, N4⟩
      clear F3 NI
      have hz2 : us.toArray.size ≤ sizeLine := by rw [List.size_toArray, sizeLine_eq]; omega
      repeat' ((fail_if_success (with_reducible show Mid _)); first | (k_unfold; (try dsimp only)) | (k_end; wrow_close) | ((fail_if_success (with_reducible show wpAny _ _ (exec (Stmt.For _ _ _ _ _) _) _ _ _)); walk1) | ((fail_if_success (with_reducible show wpAny _ _ (exec (Stmt.For _ _ _ _ _) _) _ _ _)); dsimp only; walk1))
      refine wpAny_For ?_
      repeat' ((fail_if_success (with_reducible show Mid _)); first | (k_unfold; (try dsimp only)) | (k_end; wrow_close) | ((fail_if_success (with_reducible show wpAny _ _ (pyIter _) _ _ _)); walk1) | ((fail_if_success (with_reducible show wpAny _ _ (pyIter _) _ _ _)); dsimp only; walk1))
      rename_i h5 h6 h7 x1 r1 r2 r3 hR F7 N7 k7
      have IL := News.lt N7
      have i1 := neN (Nat.ne_of_lt (IL _ (.head _)))
      have i2 := neN (Nat.ne_of_lt (IL _ (.tail _ (.head _))))
      have i3 := neN (Nat.ne_of_lt (IL _ (.tail _ (.tail _ (.head _)))))
      dsimp only at i1 i2 i3
      clear k7 IL
      rw [List.push_toArray] at N7
      have hI7 : IntsAre (us ++ [Value.int (num.fmod 1013) (tk4 + 1)]) (ms ++ [num.fmod 1013]) := hi3.append (.cons _ _ .nil)
      have fm : ∀ a : Int, 0 ≤ a.fmod 1013 ∧ a.fmod 1013 < 1013 := fun a => ⟨fmod_lo a (by decide), fmod_hi a (by decide)⟩
      refine iter_range_J (n := 30) rfl hR (by rfl) (by rfl) rfl rfl F7
        (fun j m h => ∃ us n ms' num t, m (Str.ofString "row") = some (.ref l0) ∧ m (Str.ofString "number") = some (.int num t) ∧ 0 ≤ num ∧ News g L' h [(l0, listOf us.toArray n), (h2.objs.size, oI), (D, oD)] ∧ IntsAre us ms' ∧ ms'.length ≤ ms.length + 1 + j ∧ ∀ v ∈ ms', 0 ≤ v ∧ v < 1013)
        ⟨_, _, _, num.fdiv 1013, _, rfl, rfl, Int.fdiv_nonneg hnum (by decide), N7, hI7, by simp, ?_⟩ ?_ ?_ ?_
      · intro v hv
        rcases List.mem_append.mp hv with hv | hv
        · exact hb3 v hv
        · rw [List.mem_singleton.mp hv]; exact fm num
      · rintro j m h h' ⟨us, n, ms, num, t, a, b, c, d, e⟩ k _
        refine ⟨us, n, ms, num, t, a, b, c, News.but d k ?_, e⟩
        intro p hp
        have q := (d p hp).2.1
        simp only [List.mem_cons, List.not_mem_nil, or_false, not_or] at hp ⊢
        refine ⟨q, ?_⟩
        rcases hp with rfl | rfl | rfl
        · exact i1
        · exact i2
        · exact i3
      · rintro j t8 m8 h8 tk8 o8 hj ⟨us8, n8, ms8, num8, tn8, a8, b8, c8, d8, e8, f8, g8⟩ F8 hI8
        rw [know a8, know b8] at F8
        dsimp only at hI8
        have e1 := d8 _ (.head _)
        have e2 := d8 _ (.tail _ (.head _))
        have e3 := d8 _ (.tail _ (.tail _ (.head _)))
        have N8 : News g L' h8 [(l0, listOf us8.toArray n8), (h2.objs.size, oI), (D, oD), (h7.objs.size, o8)] :=
          News.cons e1.1 e1.2.1 e1.2.2 (News.cons e2.1 e2.2.1 e2.2.2 (News.cons e3.1 e3.2.1 e3.2.2 (News.cons hI8 (Nat.ne_of_gt (Fr.ns F7).lt) (Fr.fresh F7) News.nil)))
        clear e1 e2 e3
        have z1 := IntsAre.length e8
        have hz8 : us8.toArray.size ≤ sizeLine := by rw [List.size_toArray, sizeLine_eq]; omega
        clear d8 hI8
        repeat' ((fail_if_success (with_reducible show Mid _)); first | (k_unfold; (try dsimp only)) | (k_end; wrow_close) | (walk1) | (dsimp only; walk1))
        · rename_i N9
          rw [List.push_toArray] at N9
          refine ⟨_, _, _, rfl, (by assumption), ⟨_, _, ms8 ++ [num8.fmod 1013], num8.fdiv 1013, _, rfl, rfl, Int.fdiv_nonneg c8 (by decide), News.sub N9 (by kqd_sub), e8.append (.cons _ _ .nil), (by simp; omega), ?_⟩, N9.get (by simp)⟩
          intro v hv
          rcases List.mem_append.mp hv with hv | hv
          · exact g8 v hv
          · rw [List.mem_singleton.mp hv]; exact fm num8
        · exact ⟨_, _, _, rfl, F8, ⟨_, _, ms8, num8, _, rfl, rfl, c8, News.sub N8 (by kqd_sub), e8, (by omega), g8⟩, N8.get (by simp)⟩
      · rintro m9 h9 tk9 F9 ⟨us9, n9, ms9, num9, tn9, a9, b9, c9, d9, e9, f9, g9⟩
        repeat' ((fail_if_success (with_reducible show Mid _)); first | (k_unfold; (try dsimp only)) | (k_end; wrow_close) | (walk1) | (dsimp only; walk1))
        refine ⟨h9, tk9, m9, rfl, F9, ⟨us9, n9, ms9, a9, News.sub d9 (by kqd_sub), e9, by omega, g9⟩, d9.get (.tail _ (.head _)), fun o e => ?_⟩
        rw [hoD] at e
        rw [← Option.some.inj e]
        exact d9.get (.tail _ (.tail _ (.head _)))
  · rintro m9 h9 tk9 F9 ⟨us9, n9, ms9, a9, d9, e9, f9, g9⟩
    rw [know a9] at F9
    have lw := IntsAre.length hIw
    rw [List.size_toArray] at f9
    have hz9 : ms9.length ≤ 1240 := by omega
    have hz9' := IntsAre.length e9
    have hz9'' : us9.toArray.size ≤ sizeLine := by rw [List.size_toArray, sizeLine_eq]; omega
    clear N2 F2 f9 lw hCw hLw hIw
    repeat' ((fail_if_success (with_reducible show Mid _)); first | (k_unfold; (try dsimp only)) | (k_end; wrow_close) | (walk1) | (dsimp only; walk1))
    rename_i D6 ws6 h5 F5 N5 hI5 hC5 hL5 l5 h6 F6 N6
    have hw := IntsAre.length hI5
    refine' kl_reverse (its := ws6.toArray) (l := ws6.reverse) F6 N6 (by simp) ?U ?z ?_
    case U => k_upd
    case z => simp only [sizeLine_eq]; omega
    intro h7 F7 N7
    clear F5 N5 F6 N6
    repeat' ((fail_if_success (with_reducible show Mid _)); first | (k_unfold; (try dsimp only)) | (k_end; wrow_close) | (walk1) | (dsimp only; walk1))
    refine ret _ _ D6 ws6.reverse _ 0 (fun b o e n => F7.keep b o (kg b o e n)) ?_ (N7.get (.head _)) (ints_reverse hI5) ?_ ?_
    · cases q : s.heap.get? D6 with
      | none => rfl
      | some o =>
        have := (N7 _ (.head _)).2.2
        rw [kg _ _ q (by simp)] at this
        cases this
    · rw [List.length_reverse]; omega
    · intro v hv
      exact g9 v (List.mem_of_mem_take (List.mem_reverse.mp hv))
end Mine

end
section
open PySem PySem.W PySem.Calls PyProof.Rows
set_option maxRecDepth 100000
set_option maxHeartbeats 8000000

namespace Mine

theorem c_atom {w : World} {mean : ExcName → Option Value} {mg mb : Str → Option Value} {g₀ : Heap} {dp un : Nat} {fr : Option (List Env)} {gd : Option (List Code)} {s : Shared} {R : Result → Shared → Prop} {a : SA} {ts : List Str} {ps : List (Int × Int)} {x : Str} {u : Tok}
    (H : Here w mean mg mb g₀) (ext : g₀.StaysIn s.heap) (hA : dp + 10 < recursionLimit) (hU : un + 200 < cLine) (Y : SymAt PySem.Challenge.rw_no0153_01.row.toRowW.prog w g₀ s.heap a ts ps) (hz : ts.length ≤ 1000)
    (ret : ∀ h' tk t, Keeps [a.tl, a.an] s.heap h' → SymAt PySem.Challenge.rw_no0153_01.row.toRowW.prog w g₀ h' a (ins ts x) ps → R (.ok (.ret (.int (ix (ins ts x) x : Int) t))) { s with heap := h', toks := tk }) :
    codeAny (model PySem.Challenge.rw_no0153_01.row.toRowW.prog w) ⟨none, dp, fr, gd, un⟩ (.call (.ref 49) ⟨[.ref a.sg, .str x u], []⟩) R s := by
  obtain ⟨t1, t2, t3, t4, Yd⟩ := Y.dict
  obtain ⟨vs, n, Yt, Ys⟩ := Y.texts
  obtain ⟨oa, Yo, Ya⟩ := Y.atoms
  have hled : ∀ q ∈ [(a.sg, instObj 115 a.dx), (a.dx, dictOf (symEntries w a t1 t2 t3 t4) 4), (a.tl, listOf (List.toArray vs) n), (a.an, oa)], s.heap.get? q.1 = some q.2 ∧ g₀.get? q.1 = none := allC ⟨Y.inst, Y.gs⟩ (allC ⟨Yd, Y.gd⟩ (allC ⟨Yt, Y.gt⟩ (allC ⟨Yo, Y.ga⟩ all0)))
  have KX := H.X
  revert KX
  k_fill
  intro KX
  have T := H.T
  refine' enter KX T ext [(a.sg, instObj 115 a.dx), (a.dx, dictOf (symEntries w a t1 t2 t3 t4) 4), (a.tl, listOf (List.toArray vs) n), (a.an, oa)] (binds := [((Str.ofString "self"), Value.ref a.sg), ((Str.ofString "text"), Value.str x u)]) (hled) ?k6 ?k7 ?k8 ?k9 ?kB ?c2 ?c3 ?c4 ?c5 ?_
  case k6 => k_is
  case k7 => k_is
  case k8 => show dp < _; omega
  case k9 => exact BindsTo.of_eq rfl
  case c5 => decide
  case kB => exact locs rfl
  case c2 => exact rfl
  case c3 => exact rfl
  case c4 => exact rfl
  clear T KX
  intro g L' h₁ kg F' N' X' T' l1 st
  try dsimp only
  k_fold
  clear l1 hled
  have yn := SA.ne Y.apart
  repeat' ((fail_if_success (with_reducible show Mid _)); first | (k_unfold; (try dsimp only)) | (k_end; wrow_close) | ((fail_if_success (with_reducible show wpAny _ _ (getMethod _ _ _) _ _ _)); walk1) | ((fail_if_success (with_reducible show wpAny _ _ (getMethod _ _ _) _ _ _)); dsimp only; walk1))
  refine meth_get (N'.get (.tail _ (.tail _ (.tail _ (.head _))))) Ya.exact ?_
  repeat' ((fail_if_success (with_reducible show Mid _)); first | (k_unfold; (try dsimp only)) | (k_end; wrow_close) | ((fail_if_success (with_reducible show wpAny _ _ (call (Value.builtin "dict.get") _ _) _ _ _)); walk1) | ((fail_if_success (with_reducible show wpAny _ _ (call (Value.builtin "dict.get") _ _) _ _ _)); dsimp only; walk1))
  refine get_atom (N'.get (.tail _ (.tail _ (.tail _ (.head _))))) Ya Y.lowA fun t => ?_
  have a1 := neN yn.st
  have a2 := neN yn.dt
  have a3 := neN yn.ta
  have hv := StrsAre.length Ys
  have hz2 : (List.toArray vs).size ≤ sizeLine := by rw [List.size_toArray, sizeLine_eq]; omega
  repeat' ((fail_if_success (with_reducible show Mid _)); first | (k_unfold; (try dsimp only)) | (k_end; wrow_close) | ((fail_if_success (with_reducible show wpAny _ _ (call (Value.builtin "dict.get") _ _) _ _ _)); (fail_if_success (with_reducible show wpAny _ _ (setItem _ _ _) _ _ _)); walk1) | ((fail_if_success (with_reducible show wpAny _ _ (call (Value.builtin "dict.get") _ _) _ _ _)); (fail_if_success (with_reducible show wpAny _ _ (setItem _ _ _) _ _ _)); dsimp only; walk1))
  · rename_i h2 F2 N2 _ hpos
    have hx := idxZ_pos hpos
    rw [idxZ_mem hx]
    have k : Keeps [a.tl, a.an] s.heap h2 := ((kg.base F2).drop1 Y.inst (N2.get (.head _))).drop1 Yd (N2.get (.tail _ (.head _)))
    have r := ret h2 (by assumption) t k (by rw [ins_old hx]; exact Y.atoms' k ⟨_, _, N2.get (.tail _ (.tail _ (.head _))), Ys⟩ ⟨_, N2.get (.tail _ (.tail _ (.tail _ (.head _)))), Ya⟩ Y.nodA)
    rw [ins_old hx] at r
    exact r
  · rename_i h1 _ hneg _ h2 _ h3 F3 N3
    have hx := idxZ_neg hneg
    rw [List.push_toArray] at N3
    have q := N3 _ (.tail _ (.tail _ (.tail _ (.head _))))
    refine put_atom q.1 Ya hx (by omega) fun h4 o4 tk4 ho4 ha4 hs4 => ?_
    have F4 := F3.change hs4 q.2.1 q.2.2
    have N4 := News.same (News.sub N3 (b := [(a.sg, instObj 115 a.dx), (a.dx, dictOf (symEntries w a t1 t2 t3 t4) 4), (a.tl, listOf (List.toArray (vs ++ [Value.str x u])) (n + 1))]) (by kqd_sub)) hs4 (allC yn.sa (allC yn.da (allC yn.ta all0)))
    clear F3 N3 q
    repeat' ((fail_if_success (with_reducible show Mid _)); first | (k_unfold; (try dsimp only)) | (k_end; wrow_close) | (walk1) | (dsimp only; walk1))
    have k : Keeps [a.tl, a.an] s.heap h4 := ((kg.base F4).drop1 Y.inst (N4.get (.head _))).drop1 Yd (N4.get (.tail _ (.head _)))
    rename StrsAre vs ts => Ys
    have nd := ins_nodup x Y.nodA
    rw [ins_new hx] at nd ret
    rw [ix_new hx] at ret
    exact ret h4 _ _ k (Y.atoms' k ⟨_, _, N4.get (.tail _ (.tail _ (.head _))), StrsAre.append' Ys (.cons _ _ .nil)⟩ ⟨_, ho4, ha4⟩ nd)
end Mine

end
section
open PySem PySem.W PySem.Calls PyProof.Rows
set_option maxRecDepth 100000
set_option maxHeartbeats 8000000

namespace Mine

theorem c_functor {w : World} {mean : ExcName → Option Value} {mg mb : Str → Option Value} {g₀ : Heap} {dp un : Nat} {fr : Option (List Env)} {gd : Option (List Code)} {s : Shared} {R : Result → Shared → Prop} {a : SA} {ts : List Str} {ps : List (Int × Int)} {x y : Int} {u v : Tok}
    (H : Here w mean mg mb g₀) (ext : g₀.StaysIn s.heap) (hA : dp + 10 < recursionLimit) (hU : un + 200 < cLine) (Y : SymAt PySem.Challenge.rw_no0153_01.row.toRowW.prog w g₀ s.heap a ts ps) (hz : ps.length ≤ 1000)
    (ret : ∀ h' tk t, Keeps [a.fl, a.fn] s.heap h' → SymAt PySem.Challenge.rw_no0153_01.row.toRowW.prog w g₀ h' a ts (ins ps (x, y)) → R (.ok (.ret (.int (ix (ins ps (x, y)) (x, y) : Int) t))) { s with heap := h', toks := tk }) :
    codeAny (model PySem.Challenge.rw_no0153_01.row.toRowW.prog w) ⟨none, dp, fr, gd, un⟩ (.call (.ref 63) ⟨[.ref a.sg, .int x u, .int y v], []⟩) R s := by
  obtain ⟨t1, t2, t3, t4, Yd⟩ := Y.dict
  obtain ⟨xs, of, n, Yl, Yn, YF, YA⟩ := Y.funs
  have hled : ∀ q ∈ [(a.sg, instObj 115 a.dx), (a.dx, dictOf (symEntries w a t1 t2 t3 t4) 4), (a.fl, listOf (List.toArray (xs.map fun x => Value.ref x.2.1)) n), (a.fn, of)], s.heap.get? q.1 = some q.2 ∧ g₀.get? q.1 = none := allC ⟨Y.inst, Y.gs⟩ (allC ⟨Yd, Y.gd⟩ (allC ⟨Yl, Y.gf⟩ (allC ⟨Yn, Y.gn⟩ all0)))
  have nt := Y.noTup
  have KX := H.X
  revert KX
  k_fill
  intro KX
  have T := H.T
  refine' enter KX T ext [(a.sg, instObj 115 a.dx), (a.dx, dictOf (symEntries w a t1 t2 t3 t4) 4), (a.fl, listOf (List.toArray (xs.map fun x => Value.ref x.2.1)) n), (a.fn, of)] (binds := [((Str.ofString "self"), Value.ref a.sg), ((Str.ofString "atom"), Value.int x u), ((Str.ofString "arity"), Value.int y v)]) (hled) ?k6 ?k7 ?k8 ?k9 ?kB ?c2 ?c3 ?c4 ?c5 ?_
  case k6 => k_is
  case k7 => k_is
  case k8 => show dp < _; omega
  case k9 => exact BindsTo.of_eq rfl
  case c5 => decide
  case kB => exact locs rfl
  case c2 => exact rfl
  case c3 => exact rfl
  case c4 => exact rfl
  clear T KX
  intro g L' h₁ kg F' N' X' T' l1 st
  try dsimp only
  k_fold
  have YA1 : FunsAre PySem.Challenge.rw_no0153_01.row.toRowW.prog w g xs ps := YA.but kg (nt.sub a.subF)
  clear Yl Yn l1 nt hled
  have yn := SA.ne Y.apart
  have a1 := neN yn.sf
  have a2 := neN yn.df
  have a3 := neN yn.ff
  have hxl : (xs.map fun x => Value.ref x.2.1).length = ps.length := by
    have := congrArg List.length YA1.1.1
    simpa [kvsOf] using this
  generalize hL : (xs.map fun x => Value.ref x.2.1) = l at N' hxl
  have hz2 : (List.toArray l).size ≤ sizeLine := by rw [List.size_toArray, sizeLine_eq]; omega
  repeat' ((fail_if_success (with_reducible show Mid _)); first | (k_unfold; (try dsimp only)) | (k_end; wrow_close) | ((fail_if_success (with_reducible show wpAny _ _ (getMethod _ _ _) _ _ _)); walk1) | ((fail_if_success (with_reducible show wpAny _ _ (getMethod _ _ _) _ _ _)); dsimp only; walk1))
  rename_i kk hx1 lk h2 F2 N2
  refine meth_get (N2.get (.tail _ (.tail _ (.tail _ (.tail _ (.head _)))))) YF.exact ?_
  repeat' ((fail_if_success (with_reducible show Mid _)); first | (k_unfold; (try dsimp only)) | (k_end; wrow_close) | ((fail_if_success (with_reducible show wpAny _ _ (call (Value.builtin "dict.get") _ _) _ _ _)); walk1) | ((fail_if_success (with_reducible show wpAny _ _ (call (Value.builtin "dict.get") _ _) _ _ _)); dsimp only; walk1))
  have YA2 : FunsAre PySem.Challenge.rw_no0153_01.row.toRowW.prog w h2 xs ps := YA1.but (S := []) (fun b o e _ => F2.keep b o e) (.nil _)
  have hk2 := pair_key (prog := PySem.Challenge.rw_no0153_01.row.toRowW.prog) (w := w) (N2.get (.head _))
  refine get_fun (p := (x, y)) (by show un + 3 + 1 < cLine; omega) (N2.get (.tail _ (.tail _ (.tail _ (.tail _ (.head _)))))) YF YA2 Y.nodF Y.lowF hk2 fun t tk => ?_
  clear YA2 hk2
  repeat' ((fail_if_success (with_reducible show Mid _)); first | (k_unfold; (try dsimp only)) | (k_end; wrow_close) | ((fail_if_success (with_reducible show wpAny _ _ (call (Value.builtin "len") _ _) _ _ _)); (fail_if_success (with_reducible show wpAny _ _ (setItem _ _ _) _ _ _)); walk1) | ((fail_if_success (with_reducible show wpAny _ _ (call (Value.builtin "len") _ _) _ _ _)); (fail_if_success (with_reducible show wpAny _ _ (setItem _ _ _) _ _ _)); dsimp only; walk1))
  · rename_i h3 F3 N3 _ hpos
    have hx := idxZ_pos hpos
    rw [idxZ_mem hx]
    have k : Keeps [a.fl, a.fn] s.heap h3 := ((kg.base F3).drop1 Y.inst (N3.get (.tail _ (.head _)))).drop1 Yd (N3.get (.tail _ (.tail _ (.head _))))
    have r := ret h3 (by assumption) t k (by
      rw [ins_old hx]
      exact Y.funs' k ⟨xs, of, n, hL ▸ N3.get (.tail _ (.tail _ (.tail _ (.head _)))), N3.get (.tail _ (.tail _ (.tail _ (.tail _ (.head _))))), YF, YA1.but (S := []) (fun b o e _ => F3.keep b o e) (.nil _)⟩ Y.nodF)
    rw [ins_old hx] at r
    exact r
  · rename_i h3 F3 N3 _ hneg
    have hx := idxZ_neg hneg
    refine len_list (News.isList N3 (.tail _ (.tail _ (.tail _ (.head _))))) (by rw [List.size_toArray]; omega) ?_
    rw [List.size_toArray, hxl]
    have a4 := neN (Nat.ne_of_gt lk.2.2.1)
    repeat' ((fail_if_success (with_reducible show Mid _)); first | (k_unfold; (try dsimp only)) | (k_end; wrow_close) | ((fail_if_success (with_reducible show wpAny _ _ (setItem _ _ _) _ _ _)); walk1) | ((fail_if_success (with_reducible show wpAny _ _ (setItem _ _ _) _ _ _)); dsimp only; walk1))
    rename_i h4 _ h5 F5 N5
    rw [List.push_toArray] at N5
    have q := N5 _ (.tail _ (.tail _ (.tail _ (.tail _ (.head _)))))
    have hk5 := pair_key (prog := PySem.Challenge.rw_no0153_01.row.toRowW.prog) (w := w) (N5.get (.head _))
    refine put_fun (p := (x, y)) (by show un + 3 + 1 < cLine; omega) q.1 YF (YA1.but (S := []) (fun b o e _ => F5.keep b o e) (.nil _)) Y.nodF hk5 hx (by omega) fun h6 o6 tk6 ho6 hf6 ha6 hs6 => ?_
    have F6 := F5.change hs6 q.2.1 q.2.2
    have N6 := News.same (News.sub N5 (b := [(a.sg, instObj 115 a.dx), (a.dx, dictOf (symEntries w a t1 t2 t3 t4) 4), (a.fl, listOf (List.toArray (l ++ [Value.ref kk])) (n + 1))]) (by kqd_sub)) hs6 (allC yn.sn (allC yn.dn (allC yn.ff all0)))
    clear F5 N5 q hk5
    repeat' ((fail_if_success (with_reducible show Mid _)); first | (k_unfold; (try dsimp only)) | (k_end; wrow_close) | (walk1) | (dsimp only; walk1))
    have k : Keeps [a.fl, a.fn] s.heap h6 := ((kg.base F6).drop1 Y.inst (N6.get (.head _))).drop1 Yd (N6.get (.tail _ (.head _)))
    have nd := ins_nodup (x, y) Y.nodF
    rw [ins_new hx] at nd ret
    rw [ix_new hx] at ret
    exact ret h6 _ _ k (Y.funs' k ⟨_, o6, _, by rw [List.map_append, hL]; exact N6.get (.tail _ (.tail _ (.head _))), ho6, hf6, ha6⟩ nd)
end Mine

end
section
open PySem PySem.W PySem.Calls PyProof.Rows
set_option maxRecDepth 100000
set_option maxHeartbeats 8000000

namespace Mine

theorem c_func {w : World} {mean : ExcName → Option Value} {mg mb : Str → Option Value} {g₀ : Heap} {dp un : Nat} {fr : Option (List Env)} {gd : Option (List Code)} {s : Shared} {R : Result → Shared → Prop} {a : SA} {ts : List Str} {ps : List (Int × Int)} {x : Str} {y : Int} {u v : Tok}
    (H : Here w mean mg mb g₀) (ext : g₀.StaysIn s.heap) (hA : dp + 50 < recursionLimit) (hU : un + 1000 < cLine) (Y : SymAt PySem.Challenge.rw_no0153_01.row.toRowW.prog w g₀ s.heap a ts ps) (hz : ts.length ≤ 1000) (hz2 : ps.length ≤ 1000)
    (ret : ∀ h' tk t, Keeps [a.tl, a.an, a.fl, a.fn] s.heap h' → SymAt PySem.Challenge.rw_no0153_01.row.toRowW.prog w g₀ h' a (ins ts x) (ins ps ((ix (ins ts x) x : Int), y)) →
      R (.ok (.ret (.int (ix (ins ps ((ix (ins ts x) x : Int), y)) ((ix (ins ts x) x : Int), y) : Int) t))) { s with heap := h', toks := tk }) :
    codeAny (model PySem.Challenge.rw_no0153_01.row.toRowW.prog w) ⟨none, dp, fr, gd, un⟩ (.call (.ref 70) ⟨[.ref a.sg, .str x u, .int y v], []⟩) R s := by
  obtain ⟨sg, dx, tl, an, fl, fn⟩ := a
  obtain ⟨Yi, ⟨t1, t2, t3, t4, Yd⟩, ⟨vs, n, Yt, Ys⟩, ⟨oa, Yo, Ya⟩, ⟨xs, of, n', Yl, Yn, YF, YA⟩, Yfr, Yap, _⟩ := id Y
  dsimp only at Yi Yd Yt Yo Yl Yn ret
  have hled : ∀ q ∈ [(sg, instObj 115 dx), (dx, dictOf (symEntries w ⟨sg, dx, tl, an, fl, fn⟩ t1 t2 t3 t4) 4), (tl, listOf (List.toArray vs) n), (an, oa), (fl, listOf (List.toArray (xs.map fun x => Value.ref x.2.1)) n'), (fn, of)], s.heap.get? q.1 = some q.2 ∧ g₀.get? q.1 = none := by
    intro q hq
    simp only [List.mem_cons, List.not_mem_nil, or_false] at hq
    rcases hq with rfl | rfl | rfl | rfl | rfl | rfl
    · exact ⟨Yi, Yfr _ (by simp [SA.all])⟩
    · exact ⟨Yd, Yfr _ (by simp [SA.all])⟩
    · exact ⟨Yt, Yfr _ (by simp [SA.all])⟩
    · exact ⟨Yo, Yfr _ (by simp [SA.all])⟩
    · exact ⟨Yl, Yfr _ (by simp [SA.all])⟩
    · exact ⟨Yn, Yfr _ (by simp [SA.all])⟩
  have KX := H.X
  revert KX
  k_fill
  intro KX
  have T := H.T
  refine' enter KX T ext [(sg, instObj 115 dx), (dx, dictOf (symEntries w ⟨sg, dx, tl, an, fl, fn⟩ t1 t2 t3 t4) 4), (tl, listOf (List.toArray vs) n), (an, oa), (fl, listOf (List.toArray (xs.map fun x => Value.ref x.2.1)) n'), (fn, of)] (binds := [((Str.ofString "self"), Value.ref sg), ((Str.ofString "text"), Value.str x u), ((Str.ofString "arity"), Value.int y v)]) (hled) ?k6 ?k7 ?k8 ?k9 ?kB ?c2 ?c3 ?c4 ?c5 ?_
  case k6 => k_is
  case k7 => k_is
  case k8 => show dp < _; omega
  case k9 => exact BindsTo.of_eq rfl
  case c5 => decide
  case kB => exact locs rfl
  case c2 => exact rfl
  case c3 => exact rfl
  case c4 => exact rfl
  clear T KX
  intro g L' h₁ kg F' N' X' T' l1 st
  try dsimp only
  k_fold
  have k0 : Keeps [] s.heap h₁ := keeps_enter kg (fun q hq => (hled q hq).1) F' N'
  have Y1 := Y.but (S := []) k0 (.nil _) (by simp)
  have nL : L' ∉ [sg, dx, tl, an, fl, fn] := fun q => by
    have e : ∀ q ∈ [(sg, instObj 115 dx), (dx, dictOf (symEntries w ⟨sg, dx, tl, an, fl, fn⟩ t1 t2 t3 t4) 4), (tl, listOf (List.toArray vs) n), (an, oa), (fl, listOf (List.toArray (xs.map fun x => Value.ref x.2.1)) n'), (fn, of)], L' ≠ q.1 := fun q hq => (N' q hq).2.1.symm
    simp only [List.forall_mem_cons] at e
    simp only [List.mem_cons, List.not_mem_nil, or_false] at q
    grind
  have nG : ∀ b ∈ [sg, dx, tl, an, fl, fn], g.get? b = none := fun b hb => by
    have e := fun q hq => (N' q hq).2.2
    simp only [List.forall_mem_cons] at e
    simp only [List.mem_cons, List.not_mem_nil, or_false] at hb
    grind
  have N1 := News.sub (b := [(sg, instObj 115 dx), (dx, dictOf (symEntries w ⟨sg, dx, tl, an, fl, fn⟩ t1 t2 t3 t4) 4)]) N' (by kqd_sub)
  clear Yi Yd Yt Yo Yl Yn Ys Ya YF YA hled N' l1
  repeat' ((fail_if_success (with_reducible show Mid _)); first | (k_unfold; (try dsimp only)) | (k_end; wrow_close) | ((fail_if_success (with_reducible show wpAny _ _ (call (Value.ref _) _ _) _ _ _)); walk1) | ((fail_if_success (with_reducible show wpAny _ _ (call (Value.ref _) _ _) _ _ _)); dsimp only; walk1))
  refine wpAny_call (c_atom (a := ⟨sg, dx, tl, an, fl, fn⟩) H (fun b o e => F'.keep _ _ (st b o e)) (by show dp + 1 + 10 < _; omega) (by show un + 3 + 200 < _; omega) Y1 hz fun h2 tk2 t2 k2 Y2 => ?_)
  dsimp only at k2 Y2 ⊢
  have F2 := Fr.but F' k2 (fun q => nL (by simp at q ⊢; grind)) (fun b hb => nG b (by simp at hb ⊢; grind))
  have ap := Yap
  simp only [SA.all, List.nodup_cons, List.mem_cons, List.not_mem_nil, or_false, not_or, not_false_eq_true, List.nodup_nil, and_true] at ap
  have N2 := News.but N1 k2 (fun p hp => by simp at hp ⊢; rcases hp with rfl | rfl <;> grind)
  clear N1
  repeat' ((fail_if_success (with_reducible show Mid _)); first | (k_unfold; (try dsimp only)) | (k_end; wrow_close) | ((fail_if_success (with_reducible show wpAny _ _ (call (Value.ref _) _ _) _ _ _)); walk1) | ((fail_if_success (with_reducible show wpAny _ _ (call (Value.ref _) _ _) _ _ _)); dsimp only; walk1))
  refine wpAny_call (c_functor (a := ⟨sg, dx, tl, an, fl, fn⟩) H (fun b o e => F2.keep _ _ (st b o e)) (by show dp + 1 + 10 < _; omega) (by show un + 3 + 200 < _; omega) Y2 hz2 fun h3 tk3 t3 k3 Y3 => ?_)
  dsimp only at k3 Y3
  refine ret h3 tk3 t3 (fun b o e hn => ?_) Y3
  simp only [List.mem_cons, List.not_mem_nil, or_false, not_or] at hn
  exact k3 b o (k2 b o (k0 b o e (by simp)) (by simp; grind)) (by simp; grind)
end Mine

end
section
open PySem PySem.W PySem.Calls PyProof.Rows
set_option maxRecDepth 100000
set_option maxHeartbeats 8000000

namespace Mine
noncomputable def knownZ (ts : List Str) (ps : List (Int × Int)) (x : Str) (y : Int) : Int := if x ∈ ts then idxZ ps ((ix ts x : Int), y) else -1

theorem c_known {w : World} {mean : ExcName → Option Value} {mg mb : Str → Option Value} {g₀ : Heap} {dp un : Nat} {fr : Option (List Env)} {gd : Option (List Code)} {s : Shared} {R : Result → Shared → Prop} {a : SA} {ts : List Str} {ps : List (Int × Int)} {x : Str} {y : Int} {u v : Tok}
    (H : Here w mean mg mb g₀) (ext : g₀.StaysIn s.heap) (hA : dp + 10 < recursionLimit) (hU : un + 200 < cLine) (Y : SymAt PySem.Challenge.rw_no0153_01.row.toRowW.prog w g₀ s.heap a ts ps)
    (ret : ∀ h' tk t, Keeps [] s.heap h' → R (.ok (.ret (.int (knownZ ts ps x y) t))) { s with heap := h', toks := tk }) :
    codeAny (model PySem.Challenge.rw_no0153_01.row.toRowW.prog w) ⟨none, dp, fr, gd, un⟩ (.call (.ref 112) ⟨[.ref a.sg, .str x u, .int y v], []⟩) R s := by
  obtain ⟨sg, dx, tl, an, fl, fn⟩ := a
  obtain ⟨Yi, ⟨t1, t2, t3, t4, Yd⟩, _, ⟨oa, Yo, Ya⟩, ⟨xs, of, n, Yl, Yn, YF, YA⟩, Yfr, Yap, YlA, YlF, YnA, YnF⟩ := id Y
  dsimp only at Yi Yd Yo Yn YlF
  have nt := Y.noTup
  have hled : ∀ q ∈ [(sg, instObj 115 dx), (dx, dictOf (symEntries w ⟨sg, dx, tl, an, fl, fn⟩ t1 t2 t3 t4) 4), (an, oa), (fn, of)], s.heap.get? q.1 = some q.2 ∧ g₀.get? q.1 = none := by
    intro q hq
    simp only [List.mem_cons, List.not_mem_nil, or_false] at hq
    rcases hq with rfl | rfl | rfl | rfl
    · exact ⟨Yi, Yfr _ (by simp [SA.all])⟩
    · exact ⟨Yd, Yfr _ (by simp [SA.all])⟩
    · exact ⟨Yo, Yfr _ (by simp [SA.all])⟩
    · exact ⟨Yn, Yfr _ (by simp [SA.all])⟩
  have KX := H.X
  revert KX
  k_fill
  intro KX
  have T := H.T
  refine' enter KX T ext [(sg, instObj 115 dx), (dx, dictOf (symEntries w ⟨sg, dx, tl, an, fl, fn⟩ t1 t2 t3 t4) 4), (an, oa), (fn, of)] (binds := [((Str.ofString "self"), Value.ref sg), ((Str.ofString "text"), Value.str x u), ((Str.ofString "arity"), Value.int y v)]) (hled) ?k6 ?k7 ?k8 ?k9 ?kB ?c2 ?c3 ?c4 ?c5 ?_
  case k6 => k_is
  case k7 => k_is
  case k8 => show dp < _; omega
  case k9 => exact BindsTo.of_eq rfl
  case c5 => decide
  case kB => exact locs rfl
  case c2 => exact rfl
  case c3 => exact rfl
  case c4 => exact rfl
  clear T KX
  intro g L' h₁ kg F' N' X' T' l1 st
  try dsimp only
  k_fold
  have k0 := keeps_enter kg (fun q hq => (hled q hq).1) F' N'
  have YA1 : FunsAre PySem.Challenge.rw_no0153_01.row.toRowW.prog w h₁ xs ps := YA.but k0 (.nil _)
  clear Yi Yd Yo Yl Yn l1 nt
  repeat' ((fail_if_success (with_reducible show Mid _)); first | (k_unfold; (try dsimp only)) | (k_end; wrow_close) | ((fail_if_success (with_reducible show wpAny _ _ (getMethod _ _ _) _ _ _)); walk1) | ((fail_if_success (with_reducible show wpAny _ _ (getMethod _ _ _) _ _ _)); dsimp only; walk1))
  refine meth_get (N'.get (.tail _ (.tail _ (.head _)))) Ya.exact ?_
  repeat' ((fail_if_success (with_reducible show Mid _)); first | (k_unfold; (try dsimp only)) | (k_end; wrow_close) | ((fail_if_success (with_reducible show wpAny _ _ (call (Value.builtin "dict.get") _ _) _ _ _)); walk1) | ((fail_if_success (with_reducible show wpAny _ _ (call (Value.builtin "dict.get") _ _) _ _ _)); dsimp only; walk1))
  refine get_atom (N'.get (.tail _ (.tail _ (.head _)))) Ya YlA fun t => ?_
  repeat' ((fail_if_success (with_reducible show Mid _)); first | (k_unfold; (try dsimp only)) | (k_end; wrow_close) | ((fail_if_success (with_reducible show wpAny _ _ (getMethod _ _ _) _ _ _)); walk1) | ((fail_if_success (with_reducible show wpAny _ _ (getMethod _ _ _) _ _ _)); dsimp only; walk1))
  · rename_i h2 F2 N2 _ hneg
    have hx := idxZ_neg (by omega : ¬ 0 ≤ idxZ ts x)
    have r := fun tk t => ret h2 tk t (keeps_enter kg (fun q hq => (hled q hq).1) F2 N2)
    unfold knownZ at r
    simp only [if_neg hx] at r
    exact r _ _
  · rename_i h2 F2 N2 _ hpos
    have hx := idxZ_pos (by omega : 0 ≤ idxZ ts x)
    refine meth_get (N2.get (.tail _ (.tail _ (.tail _ (.head _))))) YF.exact ?_
    repeat' ((fail_if_success (with_reducible show Mid _)); first | (k_unfold; (try dsimp only)) | (k_end; wrow_close) | ((fail_if_success (with_reducible show wpAny _ _ (call (Value.builtin "dict.get") _ _) _ _ _)); walk1) | ((fail_if_success (with_reducible show wpAny _ _ (call (Value.builtin "dict.get") _ _) _ _ _)); dsimp only; walk1))
    rename_i kk h3 F3 N3 lk
    have YA3 : FunsAre PySem.Challenge.rw_no0153_01.row.toRowW.prog w h3 xs ps := YA.but (keeps_enter kg (fun q hq => (hled q hq).1) F3 (News.sub N3 (by kqd_sub))) (.nil _)
    have hk3 := pair_key (prog := PySem.Challenge.rw_no0153_01.row.toRowW.prog) (w := w) (N3.get (.head _))
    refine get_fun (p := (idxZ ts x, y)) (by show un + 3 + 1 < cLine; omega) (N3.get (.tail _ (.tail _ (.tail _ (.tail _ (.head _)))))) YF YA3 YnF YlF hk3 fun t5 tk5 => ?_
    have r := ret h3 tk5 t5 (keeps_enter kg (fun q hq => (hled q hq).1) F3 (News.sub N3 (by kqd_sub)))
    unfold knownZ at r
    rw [if_pos hx, ← idxZ_mem hx] at r
    exact r
end Mine

end
section
open PySem PySem.W PySem.Calls PyProof.Rows
set_option maxRecDepth 100000
set_option maxHeartbeats 8000000

namespace Mine

theorem c_count {w : World} {mean : ExcName → Option Value} {mg mb : Str → Option Value} {g₀ : Heap} {dp un : Nat} {fr : Option (List Env)} {gd : Option (List Code)} {s : Shared} {R : Result → Shared → Prop} {a : SA} {ts : List Str} {ps : List (Int × Int)}
    (H : Here w mean mg mb g₀) (ext : g₀.StaysIn s.heap) (hA : dp + 10 < recursionLimit) (hU : un + 200 < cLine) (Y : SymAt PySem.Challenge.rw_no0153_01.row.toRowW.prog w g₀ s.heap a ts ps) (hz : ts.length ≤ 1000)
    (ret : ∀ h' tk t, Keeps [] s.heap h' → R (.ok (.ret (.int (ts.length : Int) t))) { s with heap := h', toks := tk }) :
    codeAny (model PySem.Challenge.rw_no0153_01.row.toRowW.prog w) ⟨none, dp, fr, gd, un⟩ (.call (.ref 98) ⟨[.ref a.sg], []⟩) R s := by
  obtain ⟨sg, dx, tl, an, fl, fn⟩ := a
  obtain ⟨Yi, ⟨t1, t2, t3, t4, Yd⟩, ⟨vs, n, Yt, Ys⟩, _, _, Yfr, _⟩ := id Y
  dsimp only at Yi Yd Yt
  have hled : ∀ q ∈ [(sg, instObj 115 dx), (dx, dictOf (symEntries w ⟨sg, dx, tl, an, fl, fn⟩ t1 t2 t3 t4) 4), (tl, listOf (List.toArray vs) n)], s.heap.get? q.1 = some q.2 ∧ g₀.get? q.1 = none := by
    intro q hq
    simp only [List.mem_cons, List.not_mem_nil, or_false] at hq
    rcases hq with rfl | rfl | rfl
    · exact ⟨Yi, Yfr _ (by simp [SA.all])⟩
    · exact ⟨Yd, Yfr _ (by simp [SA.all])⟩
    · exact ⟨Yt, Yfr _ (by simp [SA.all])⟩
  have KX := H.X
  revert KX
  k_fill
  intro KX
  have T := H.T
  refine' enter KX T ext [(sg, instObj 115 dx), (dx, dictOf (symEntries w ⟨sg, dx, tl, an, fl, fn⟩ t1 t2 t3 t4) 4), (tl, listOf (List.toArray vs) n)] (binds := [((Str.ofString "self"), Value.ref sg)]) (hled) ?k6 ?k7 ?k8 ?k9 ?kB ?c2 ?c3 ?c4 ?c5 ?_
  case k6 => k_is
  case k7 => k_is
  case k8 => show dp < _; omega
  case k9 => exact BindsTo.of_eq rfl
  case c5 => decide
  case kB => exact locs rfl
  case c2 => exact rfl
  case c3 => exact rfl
  case c4 => exact rfl
  clear T KX
  intro g L' h₁ kg F' N' X' T' l1 st
  try dsimp only
  k_fold
  have hl := StrsAre.length Ys
  repeat' ((fail_if_success (with_reducible show Mid _)); first | (k_unfold; (try dsimp only)) | (k_end; wrow_close) | ((fail_if_success (with_reducible show wpAny _ _ (call (Value.builtin "len") _ _) _ _ _)); walk1) | ((fail_if_success (with_reducible show wpAny _ _ (call (Value.builtin "len") _ _) _ _ _)); dsimp only; walk1))
  refine len_list (News.isList N' (.tail _ (.tail _ (.head _)))) (by rw [List.size_toArray]; omega) ?_
  rw [List.size_toArray, hl]
  exact ret _ _ _ (keeps_enter kg (fun q hq => (hled q hq).1) F' N')

theorem c_functor_count {w : World} {mean : ExcName → Option Value} {mg mb : Str → Option Value} {g₀ : Heap} {dp un : Nat} {fr : Option (List Env)} {gd : Option (List Code)} {s : Shared} {R : Result → Shared → Prop} {a : SA} {ts : List Str} {ps : List (Int × Int)}
    (H : Here w mean mg mb g₀) (ext : g₀.StaysIn s.heap) (hA : dp + 10 < recursionLimit) (hU : un + 200 < cLine) (Y : SymAt PySem.Challenge.rw_no0153_01.row.toRowW.prog w g₀ s.heap a ts ps) (hz : ps.length ≤ 1000)
    (ret : ∀ h' tk t, Keeps [] s.heap h' → R (.ok (.ret (.int (ps.length : Int) t))) { s with heap := h', toks := tk }) :
    codeAny (model PySem.Challenge.rw_no0153_01.row.toRowW.prog w) ⟨none, dp, fr, gd, un⟩ (.call (.ref 105) ⟨[.ref a.sg], []⟩) R s := by
  obtain ⟨sg, dx, tl, an, fl, fn⟩ := a
  obtain ⟨Yi, ⟨t1, t2, t3, t4, Yd⟩, _, _, ⟨xs, of, n, Yl, Yn, YF, YA⟩, Yfr, _⟩ := id Y
  dsimp only at Yi Yd Yl
  have hled : ∀ q ∈ [(sg, instObj 115 dx), (dx, dictOf (symEntries w ⟨sg, dx, tl, an, fl, fn⟩ t1 t2 t3 t4) 4), (fl, listOf (List.toArray (xs.map fun x => Value.ref x.2.1)) n)], s.heap.get? q.1 = some q.2 ∧ g₀.get? q.1 = none := by
    intro q hq
    simp only [List.mem_cons, List.not_mem_nil, or_false] at hq
    rcases hq with rfl | rfl | rfl
    · exact ⟨Yi, Yfr _ (by simp [SA.all])⟩
    · exact ⟨Yd, Yfr _ (by simp [SA.all])⟩
    · exact ⟨Yl, Yfr _ (by simp [SA.all])⟩
  have KX := H.X
  revert KX
  k_fill
  intro KX
  have T := H.T
  refine' enter KX T ext [(sg, instObj 115 dx), (dx, dictOf (symEntries w ⟨sg, dx, tl, an, fl, fn⟩ t1 t2 t3 t4) 4), (fl, listOf (List.toArray (xs.map fun x => Value.ref x.2.1)) n)] (binds := [((Str.ofString "self"), Value.ref sg)]) (hled) ?k6 ?k7 ?k8 ?k9 ?kB ?c2 ?c3 ?c4 ?c5 ?_
  case k6 => k_is
  case k7 => k_is
  case k8 => show dp < _; omega
  case k9 => exact BindsTo.of_eq rfl
  case c5 => decide
  case kB => exact locs rfl
  case c2 => exact rfl
  case c3 => exact rfl
  case c4 => exact rfl
  clear T KX
  intro g L' h₁ kg F' N' X' T' l1 st
  try dsimp only
  k_fold
  have hxl : xs.length = ps.length := by
    have := congrArg List.length YA.1.1
    simpa [kvsOf] using this
  repeat' ((fail_if_success (with_reducible show Mid _)); first | (k_unfold; (try dsimp only)) | (k_end; wrow_close) | ((fail_if_success (with_reducible show wpAny _ _ (call (Value.builtin "len") _ _) _ _ _)); walk1) | ((fail_if_success (with_reducible show wpAny _ _ (call (Value.builtin "len") _ _) _ _ _)); dsimp only; walk1))
  refine len_list (News.isList N' (.tail _ (.tail _ (.head _)))) (by rw [List.size_toArray, List.length_map]; omega) ?_
  rw [List.size_toArray, List.length_map, hxl]
  exact ret _ _ _ (keeps_enter kg (fun q hq => (hled q hq).1) F' N')

theorem c_text {w : World} {mean : ExcName → Option Value} {mg mb : Str → Option Value} {g₀ : Heap} {dp un : Nat} {fr : Option (List Env)} {gd : Option (List Code)} {s : Shared} {R : Result → Shared → Prop} {a : SA} {ts : List Str} {ps : List (Int × Int)} {k : Nat} {x : Str} {u : Tok}
    (H : Here w mean mg mb g₀) (ext : g₀.StaysIn s.heap) (hA : dp + 10 < recursionLimit) (hU : un + 200 < cLine) (Y : SymAt PySem.Challenge.rw_no0153_01.row.toRowW.prog w g₀ s.heap a ts ps) (hz : ts.length ≤ 1000) (hk : ts[k]? = some x)
    (ret : ∀ h' tk t, Keeps [] s.heap h' → R (.ok (.ret (.str x t))) { s with heap := h', toks := tk }) :
    codeAny (model PySem.Challenge.rw_no0153_01.row.toRowW.prog w) ⟨none, dp, fr, gd, un⟩ (.call (.ref 56) ⟨[.ref a.sg, .int (k : Int) u], []⟩) R s := by
  obtain ⟨sg, dx, tl, an, fl, fn⟩ := a
  obtain ⟨Yi, ⟨t1, t2, t3, t4, Yd⟩, ⟨vs, n, Yt, Ys⟩, _, _, Yfr, _⟩ := id Y
  dsimp only at Yi Yd Yt
  have hled : ∀ q ∈ [(sg, instObj 115 dx), (dx, dictOf (symEntries w ⟨sg, dx, tl, an, fl, fn⟩ t1 t2 t3 t4) 4), (tl, listOf (List.toArray vs) n)], s.heap.get? q.1 = some q.2 ∧ g₀.get? q.1 = none := by
    intro q hq
    simp only [List.mem_cons, List.not_mem_nil, or_false] at hq
    rcases hq with rfl | rfl | rfl
    · exact ⟨Yi, Yfr _ (by simp [SA.all])⟩
    · exact ⟨Yd, Yfr _ (by simp [SA.all])⟩
    · exact ⟨Yt, Yfr _ (by simp [SA.all])⟩
  have KX := H.X
  revert KX
  k_fill
  intro KX
  have T := H.T
  refine' enter KX T ext [(sg, instObj 115 dx), (dx, dictOf (symEntries w ⟨sg, dx, tl, an, fl, fn⟩ t1 t2 t3 t4) 4), (tl, listOf (List.toArray vs) n)] (binds := [((Str.ofString "self"), Value.ref sg), ((Str.ofString "number"), Value.int (k : Int) u)]) (hled) ?k6 ?k7 ?k8 ?k9 ?kB ?c2 ?c3 ?c4 ?c5 ?_
  case k6 => k_is
  case k7 => k_is
  case k8 => show dp < _; omega
  case k9 => exact BindsTo.of_eq rfl
  case c5 => decide
  case kB => exact locs rfl
  case c2 => exact rfl
  case c3 => exact rfl
  case c4 => exact rfl
  clear T KX
  intro g L' h₁ kg F' N' X' T' l1 st
  try dsimp only
  k_fold
  have hl := (List.getElem?_eq_some_iff.mp hk).1
  obtain ⟨t, ht⟩ := Ys.get k x hk
  repeat' ((fail_if_success (with_reducible show Mid _)); first | (k_unfold; (try dsimp only)) | (k_end; wrow_close) | ((fail_if_success (with_reducible show wpAny _ _ (subscriptTail _ _ _ _) _ _ _)); walk1) | ((fail_if_success (with_reducible show wpAny _ _ (subscriptTail _ _ _ _) _ _ _)); dsimp only; walk1))
  refine item_litK (News.isList N' (.tail _ (.tail _ (.head _)))) (by omega) (by omega) (by simpa using ht) ?_ (by with_unfolding_all rfl)
  exact ret _ _ _ (keeps_enter kg (fun q hq => (hled q hq).1) F' N')
end Mine

end
section
open PySem PySem.W PySem.Calls PyProof.Rows
set_option maxRecDepth 100000
set_option maxHeartbeats 8000000

namespace Mine

theorem c_name {w : World} {mean : ExcName → Option Value} {mg mb : Str → Option Value} {g₀ : Heap} {dp un : Nat} {fr : Option (List Env)} {gd : Option (List Code)} {s : Shared} {R : Result → Shared → Prop} {a : SA} {ts : List Str} {ps : List (Int × Int)} {k : Nat} {p : Int × Int} {u : Tok}
    (H : Here w mean mg mb g₀) (ext : g₀.StaysIn s.heap) (hA : dp + 10 < recursionLimit) (hU : un + 200 < cLine) (Y : SymAt PySem.Challenge.rw_no0153_01.row.toRowW.prog w g₀ s.heap a ts ps) (hz : ps.length ≤ 1000) (hk : ps[k]? = some p)
    (ret : ∀ h' tk t, Keeps [] s.heap h' → R (.ok (.ret (.int p.1 t))) { s with heap := h', toks := tk }) :
    codeAny (model PySem.Challenge.rw_no0153_01.row.toRowW.prog w) ⟨none, dp, fr, gd, un⟩ (.call (.ref 77) ⟨[.ref a.sg, .int (k : Int) u], []⟩) R s := by
  obtain ⟨sg, dx, tl, an, fl, fn⟩ := a
  obtain ⟨Yi, ⟨t1, t2, t3, t4, Yd⟩, _, _, ⟨xs, of, n, Yl, Yn, YF, YA⟩, Yfr, _⟩ := id Y
  dsimp only at Yi Yd Yl
  have hled : ∀ q ∈ [(sg, instObj 115 dx), (dx, dictOf (symEntries w ⟨sg, dx, tl, an, fl, fn⟩ t1 t2 t3 t4) 4), (fl, listOf (List.toArray (xs.map fun x => Value.ref x.2.1)) n)], s.heap.get? q.1 = some q.2 ∧ g₀.get? q.1 = none := by
    intro q hq
    simp only [List.mem_cons, List.not_mem_nil, or_false] at hq
    rcases hq with rfl | rfl | rfl
    · exact ⟨Yi, Yfr _ (by simp [SA.all])⟩
    · exact ⟨Yd, Yfr _ (by simp [SA.all])⟩
    · exact ⟨Yl, Yfr _ (by simp [SA.all])⟩
  have KX := H.X
  revert KX
  k_fill
  intro KX
  have T := H.T
  refine' enter KX T ext [(sg, instObj 115 dx), (dx, dictOf (symEntries w ⟨sg, dx, tl, an, fl, fn⟩ t1 t2 t3 t4) 4), (fl, listOf (List.toArray (xs.map fun x => Value.ref x.2.1)) n)] (binds := [((Str.ofString "self"), Value.ref sg), ((Str.ofString "functor"), Value.int (k : Int) u)]) (hled) ?k6 ?k7 ?k8 ?k9 ?kB ?c2 ?c3 ?c4 ?c5 ?_
  case k6 => k_is
  case k7 => k_is
  case k8 => show dp < _; omega
  case k9 => exact BindsTo.of_eq rfl
  case c5 => decide
  case kB => exact locs rfl
  case c2 => exact rfl
  case c3 => exact rfl
  case c4 => exact rfl
  clear T KX
  intro g L' h₁ kg F' N' X' T' l1 st
  try dsimp only
  k_fold
  have k0 := keeps_enter kg (fun q hq => (hled q hq).1) F' N'
  have hl := (List.getElem?_eq_some_iff.mp hk).1
  obtain ⟨b, t, v, hb, hT⟩ := YA.item hk
  repeat' ((fail_if_success (with_reducible show Mid _)); first | (k_unfold; (try dsimp only)) | (k_end; wrow_close) | ((fail_if_success (with_reducible show wpAny _ _ (subscriptTail _ _ _ _) _ _ _)); walk1) | ((fail_if_success (with_reducible show wpAny _ _ (subscriptTail _ _ _ _) _ _ _)); dsimp only; walk1))
  refine item_litK (News.isList N' (.tail _ (.tail _ (.head _)))) (by omega) (by omega) (by rw [Int.toNat_natCast]; exact hb) ?_ (by with_unfolding_all rfl)
  repeat' ((fail_if_success (with_reducible show Mid _)); first | (k_unfold; (try dsimp only)) | (k_end; wrow_close) | ((fail_if_success (with_reducible show wpAny _ _ (subscriptTail _ _ _ _) _ _ _)); walk1) | ((fail_if_success (with_reducible show wpAny _ _ (subscriptTail _ _ _ _) _ _ _)); dsimp only; walk1))
  refine item_tupleT (IsTup.keeps hT fun b o e => k0 b o e (by simp)) (by decide) (by decide) rfl rfl ?_ (by with_unfolding_all rfl)
  exact ret _ _ _ k0

theorem c_arity {w : World} {mean : ExcName → Option Value} {mg mb : Str → Option Value} {g₀ : Heap} {dp un : Nat} {fr : Option (List Env)} {gd : Option (List Code)} {s : Shared} {R : Result → Shared → Prop} {a : SA} {ts : List Str} {ps : List (Int × Int)} {k : Nat} {p : Int × Int} {u : Tok}
    (H : Here w mean mg mb g₀) (ext : g₀.StaysIn s.heap) (hA : dp + 10 < recursionLimit) (hU : un + 200 < cLine) (Y : SymAt PySem.Challenge.rw_no0153_01.row.toRowW.prog w g₀ s.heap a ts ps) (hz : ps.length ≤ 1000) (hk : ps[k]? = some p)
    (ret : ∀ h' tk t, Keeps [] s.heap h' → R (.ok (.ret (.int p.2 t))) { s with heap := h', toks := tk }) :
    codeAny (model PySem.Challenge.rw_no0153_01.row.toRowW.prog w) ⟨none, dp, fr, gd, un⟩ (.call (.ref 84) ⟨[.ref a.sg, .int (k : Int) u], []⟩) R s := by
  obtain ⟨sg, dx, tl, an, fl, fn⟩ := a
  obtain ⟨Yi, ⟨t1, t2, t3, t4, Yd⟩, _, _, ⟨xs, of, n, Yl, Yn, YF, YA⟩, Yfr, _⟩ := id Y
  dsimp only at Yi Yd Yl
  have hled : ∀ q ∈ [(sg, instObj 115 dx), (dx, dictOf (symEntries w ⟨sg, dx, tl, an, fl, fn⟩ t1 t2 t3 t4) 4), (fl, listOf (List.toArray (xs.map fun x => Value.ref x.2.1)) n)], s.heap.get? q.1 = some q.2 ∧ g₀.get? q.1 = none := by
    intro q hq
    simp only [List.mem_cons, List.not_mem_nil, or_false] at hq
    rcases hq with rfl | rfl | rfl
    · exact ⟨Yi, Yfr _ (by simp [SA.all])⟩
    · exact ⟨Yd, Yfr _ (by simp [SA.all])⟩
    · exact ⟨Yl, Yfr _ (by simp [SA.all])⟩
  have KX := H.X
  revert KX
  k_fill
  intro KX
  have T := H.T
  refine' enter KX T ext [(sg, instObj 115 dx), (dx, dictOf (symEntries w ⟨sg, dx, tl, an, fl, fn⟩ t1 t2 t3 t4) 4), (fl, listOf (List.toArray (xs.map fun x => Value.ref x.2.1)) n)] (binds := [((Str.ofString "self"), Value.ref sg), ((Str.ofString "functor"), Value.int (k : Int) u)]) (hled) ?k6 ?k7 ?k8 ?k9 ?kB ?c2 ?c3 ?c4 ?c5 ?_
  case k6 => k_is
  case k7 => k_is
  case k8 => show dp < _; omega
  case k9 => exact BindsTo.of_eq rfl
  case c5 => decide
  case kB => exact locs rfl
  case c2 => exact rfl
  case c3 => exact rfl
  case c4 => exact rfl
  clear T KX
  intro g L' h₁ kg F' N' X' T' l1 st
  try dsimp only
  k_fold
  have k0 := keeps_enter kg (fun q hq => (hled q hq).1) F' N'
  have hl := (List.getElem?_eq_some_iff.mp hk).1
  obtain ⟨b, t, v, hb, hT⟩ := YA.item hk
  repeat' ((fail_if_success (with_reducible show Mid _)); first | (k_unfold; (try dsimp only)) | (k_end; wrow_close) | ((fail_if_success (with_reducible show wpAny _ _ (subscriptTail _ _ _ _) _ _ _)); walk1) | ((fail_if_success (with_reducible show wpAny _ _ (subscriptTail _ _ _ _) _ _ _)); dsimp only; walk1))
  refine item_litK (News.isList N' (.tail _ (.tail _ (.head _)))) (by omega) (by omega) (by rw [Int.toNat_natCast]; exact hb) ?_ (by with_unfolding_all rfl)
  repeat' ((fail_if_success (with_reducible show Mid _)); first | (k_unfold; (try dsimp only)) | (k_end; wrow_close) | ((fail_if_success (with_reducible show wpAny _ _ (subscriptTail _ _ _ _) _ _ _)); walk1) | ((fail_if_success (with_reducible show wpAny _ _ (subscriptTail _ _ _ _) _ _ _)); dsimp only; walk1))
  refine item_tupleT (IsTup.keeps hT fun b o e => k0 b o e (by simp)) (by decide) (by decide) rfl rfl ?_ (by with_unfolding_all rfl)
  exact ret _ _ _ k0

theorem c_label {w : World} {mean : ExcName → Option Value} {mg mb : Str → Option Value} {g₀ : Heap} {dp un : Nat} {fr : Option (List Env)} {gd : Option (List Code)} {s : Shared} {R : Result → Shared → Prop} {a : SA} {ts : List Str} {ps : List (Int × Int)} {k j : Nat} {x : Str} {y : Int} {u : Tok}
    (H : Here w mean mg mb g₀) (ext : g₀.StaysIn s.heap) (hA : dp + 10 < recursionLimit) (hU : un + 200 < cLine) (Y : SymAt PySem.Challenge.rw_no0153_01.row.toRowW.prog w g₀ s.heap a ts ps) (hz : ps.length ≤ 1000) (hz2 : ts.length ≤ 1000) (hk : ps[k]? = some ((j : Int), y)) (hj : ts[j]? = some x) (hy : 0 ≤ y ∧ y ≤ 8) (hx : x.length ≤ 1000)
    (ret : ∀ h' tk t, Keeps [] s.heap h' → R (.ok (.ret (.str (x ++ Str.ofString "/" ++ Str.ofString (toString y)) t))) { s with heap := h', toks := tk }) :
    codeAny (model PySem.Challenge.rw_no0153_01.row.toRowW.prog w) ⟨none, dp, fr, gd, un⟩ (.call (.ref 91) ⟨[.ref a.sg, .int (k : Int) u], []⟩) R s := by
  obtain ⟨sg, dx, tl, an, fl, fn⟩ := a
  obtain ⟨Yi, ⟨t1, t2, t3, t4, Yd⟩, ⟨vs, n', Yt, Ys⟩, _, ⟨xs, of, n, Yl, Yn, YF, YA⟩, Yfr, _⟩ := id Y
  dsimp only at Yi Yd Yl Yt
  have hled : ∀ q ∈ [(sg, instObj 115 dx), (dx, dictOf (symEntries w ⟨sg, dx, tl, an, fl, fn⟩ t1 t2 t3 t4) 4), (fl, listOf (List.toArray (xs.map fun x => Value.ref x.2.1)) n), (tl, listOf (List.toArray vs) n')], s.heap.get? q.1 = some q.2 ∧ g₀.get? q.1 = none := by
    intro q hq
    simp only [List.mem_cons, List.not_mem_nil, or_false] at hq
    rcases hq with rfl | rfl | rfl | rfl
    · exact ⟨Yi, Yfr _ (by simp [SA.all])⟩
    · exact ⟨Yd, Yfr _ (by simp [SA.all])⟩
    · exact ⟨Yl, Yfr _ (by simp [SA.all])⟩
    · exact ⟨Yt, Yfr _ (by simp [SA.all])⟩
  have KX := H.X
  revert KX
  k_fill
  intro KX
  have T := H.T
  refine' enter KX T ext [(sg, instObj 115 dx), (dx, dictOf (symEntries w ⟨sg, dx, tl, an, fl, fn⟩ t1 t2 t3 t4) 4), (fl, listOf (List.toArray (xs.map fun x => Value.ref x.2.1)) n), (tl, listOf (List.toArray vs) n')] (binds := [((Str.ofString "self"), Value.ref sg), ((Str.ofString "functor"), Value.int (k : Int) u)]) (hled) ?k6 ?k7 ?k8 ?k9 ?kB ?c2 ?c3 ?c4 ?c5 ?_
  case k6 => k_is
  case k7 => k_is
  case k8 => show dp < _; omega
  case k9 => exact BindsTo.of_eq rfl
  case c5 => decide
  case kB => exact locs rfl
  case c2 => exact rfl
  case c3 => exact rfl
  case c4 => exact rfl
  clear T KX
  intro g L' h₁ kg F' N' X' T' l1 st
  try dsimp only
  k_fold
  have k0 := keeps_enter kg (fun q hq => (hled q hq).1) F' N'
  have hl := (List.getElem?_eq_some_iff.mp hk).1
  have hl2 := (List.getElem?_eq_some_iff.mp hj).1
  obtain ⟨b, t, v, hb, hT⟩ := YA.item hk
  obtain ⟨t', ht'⟩ := Ys.get j x hj
  repeat' ((fail_if_success (with_reducible show Mid _)); first | (k_unfold; (try dsimp only)) | (k_end; wrow_close) | ((fail_if_success (with_reducible show wpAny _ _ (subscriptTail _ _ _ _) _ _ _)); walk1) | ((fail_if_success (with_reducible show wpAny _ _ (subscriptTail _ _ _ _) _ _ _)); dsimp only; walk1))
  refine item_litK (News.isList N' (.tail _ (.tail _ (.head _)))) (by omega) (by omega) (by rw [Int.toNat_natCast]; exact hb) ?_ (by with_unfolding_all rfl)
  repeat' ((fail_if_success (with_reducible show Mid _)); first | (k_unfold; (try dsimp only)) | (k_end; wrow_close) | ((fail_if_success (with_reducible show wpAny _ _ (subscriptTail _ _ _ _) _ _ _)); walk1) | ((fail_if_success (with_reducible show wpAny _ _ (subscriptTail _ _ _ _) _ _ _)); dsimp only; walk1))
  rename_i h2 F2 N2
  have k2 := keeps_enter kg (fun q hq => (hled q hq).1) F2 N2
  refine item_tupleT (IsTup.keeps hT fun b o e => k2 b o e (by simp)) (by decide) (by decide) rfl rfl ?_ (by with_unfolding_all rfl)
  repeat' ((fail_if_success (with_reducible show Mid _)); first | (k_unfold; (try dsimp only)) | (k_end; wrow_close) | ((fail_if_success (with_reducible show wpAny _ _ (subscriptTail _ _ _ _) _ _ _)); walk1) | ((fail_if_success (with_reducible show wpAny _ _ (subscriptTail _ _ _ _) _ _ _)); dsimp only; walk1))
  refine item_litK (News.isList N2 (.tail _ (.tail _ (.tail _ (.head _))))) (by dsimp only; omega) (by dsimp only; omega) (by dsimp only; rw [Int.toNat_natCast]; exact ht') ?_ (by with_unfolding_all rfl)
  repeat' ((fail_if_success (with_reducible show Mid _)); first | (k_unfold; (try dsimp only)) | (k_end; wrow_close) | ((fail_if_success (with_reducible show wpAny _ _ (subscriptTail _ _ _ _) _ _ _)); walk1) | ((fail_if_success (with_reducible show wpAny _ _ (subscriptTail _ _ _ _) _ _ _)); dsimp only; walk1))
  refine item_tupleT (IsTup.keeps hT fun b o e => k2 b o e (by simp)) (by decide) (by decide) rfl rfl ?_ (by with_unfolding_all rfl)
  repeat' ((fail_if_success (with_reducible show Mid _)); first | (k_unfold; (try dsimp only)) | (k_end; wrow_close) | (walk1) | (dsimp only; walk1))
  have r := fun tk t => ret h2 tk t k2
  rw [← Str.empty_append x] at r
  exact r _ _
end Mine

end
section
open PySem PySem.W PySem.Calls PyProof.Rows
set_option maxRecDepth 100000
set_option maxHeartbeats 8000000

namespace Mine

theorem c_place {D : Type} [DecidableEq D] (K : Kd D) {w : World} {mean : ExcName → Option Value} {mg mb : Str → Option Value} {g₀ : Heap} {dp un : Nat} {fr : Option (List Env)} {gd : Option (List Code)} {s : Shared} {R : Result → Shared → Prop} {rl : Addr} {vs : List Value} {n : Nat} {ds : List D} {x : Value} {e : D}
    (H : Here w mean mg mb g₀) (ext : g₀.StaysIn s.heap) (hA : dp + 10 < recursionLimit) (hU : un + 200 < cLine) (ho : s.heap.get? rl = some (listOf (List.toArray vs) n)) (hg : g₀.get? rl = none) (hi : Sits (K.Is s.heap) vs ds) (hx : K.Is s.heap x e) (hz : ds.length ≤ 1000)
    (ret : ∀ h' tk t vs' n', Keeps [rl] s.heap h' → h'.get? rl = some (listOf (List.toArray vs') n') → Sits (K.Is h') vs' (ins ds e) → R (.ok (.ret (.int (ix (ins ds e) e : Int) t))) { s with heap := h', toks := tk }) :
    codeAny (model PySem.Challenge.rw_no0153_01.row.toRowW.prog w) ⟨none, dp, fr, gd, un⟩ (.call (.ref 157) ⟨[.ref rl, x], []⟩) R s := by
  have hled : ∀ q ∈ [(rl, listOf (List.toArray vs) n)], s.heap.get? q.1 = some q.2 ∧ g₀.get? q.1 = none := by simpa using ⟨ho, hg⟩
  have KX := H.X
  revert KX
  k_fill
  intro KX
  have T := H.T
  refine' enter KX T ext [(rl, listOf (List.toArray vs) n)] (binds := [((Str.ofString "rows"), Value.ref rl), ((Str.ofString "item"), x)]) (hled) ?k6 ?k7 ?k8 ?k9 ?kB ?c2 ?c3 ?c4 ?c5 ?_
  case k6 => k_is
  case k7 => k_is
  case k8 => show dp < _; omega
  case k9 => exact BindsTo.of_eq rfl
  case c5 => decide
  case kB => exact locs rfl
  case c2 => exact rfl
  case c3 => exact rfl
  case c4 => exact rfl
  clear T KX
  intro g L' h₁ kg F' N' X' T' l1 st
  try dsimp only
  k_fold
  have k0 := keeps_enter kg (fun q hq => (hled q hq).1) F' N'
  have hi1 := hi.but k0 (.nil _)
  have hx1 := K.but hx k0 (.nil _)
  have hl := hi.length
  have hz2 : (List.toArray vs).size ≤ sizeLine := by rw [List.size_toArray, sizeLine_eq]; omega
  repeat' ((fail_if_success (with_reducible show Mid _)); first | (k_unfold; (try dsimp only)) | (k_end; wrow_close) | ((fail_if_success (with_reducible show wpAny _ _ (compareOp _ _ _) _ _ _)); walk1) | ((fail_if_success (with_reducible show wpAny _ _ (compareOp _ _ _) _ _ _)); dsimp only; walk1))
  refine kd_notIn K (by show un + 3 + 10 < _; omega) (News.isList N' (.head _)) hi1 hx1 ?_
  repeat' ((fail_if_success (with_reducible show Mid _)); first | (k_unfold; (try dsimp only)) | (k_end; wrow_close) | ((fail_if_success (with_reducible show wpAny _ _ (call (Value.builtin "list.index") _ _) _ _ _)); walk1) | ((fail_if_success (with_reducible show wpAny _ _ (call (Value.builtin "list.index") _ _) _ _ _)); dsimp only; walk1))
  · rename_i he
    refine kd_index K (by show un + 3 + 10 < _; omega) (News.isList N' (.head _)) hi1 hx1 he (by omega) ?_
    have r := fun tk t => ret h₁ tk t vs n (fun b o e hn => F'.keep b o (kg b o e hn)) (N'.get (.head _)) (by rw [ins_old he]; exact hi1)
    rw [ins_old he] at r
    exact r _ _
  · rename_i hne _ h2 F2 N2
    rw [List.push_toArray] at N2
    have k2 : Keeps [rl] s.heap h2 := fun b o e hn => F2.keep b o (kg b o e hn)
    have kt : NoTups s.heap [rl] := .cons ho (.inl (by simp)) (.nil _)
    have hx2 := K.but hx k2 kt
    have hi2 : Sits (K.Is h2) (vs ++ [x]) (ins ds e) := by rw [ins_new hne]; exact (hi.but k2 kt).append (.cons hx2 .nil)
    have hl2 := ins_length ds e
    refine kd_index K (by show un + 3 + 10 < _; omega) (News.isList N2 (.head _)) hi2 hx2 (ins_mem ds e) (by omega) ?_
    exact ret _ _ _ _ _ k2 (N2.get (.head _)) hi2
end Mine

end
section
open PySem PySem.W PySem.Calls PyProof.Rows PyProof.Rows.LCg
set_option maxRecDepth 100000
namespace Mine

/-! a comprehension over a list or a range: an invariant over what is built and the heap -/
noncomputable def asg : List (Str × Value) → (Str → Option Value) → Str → Option Value
  | [], m => m
  | (a, v) :: r, m => asg r fun z => if z = a then some v else m z

/-- the target takes the item -/
noncomputable def TakesAt (prog : Program) (w : World) (A : Around) (target : PySem.Expr) (env : Env) (I : Addr) (v : Value) (bs : List (Str × Value)) (s : Shared) : Prop :=
  ∀ (m : Str → Option Value) (Q : Unit → Shared → Prop) (E : Value → Shared → Prop), s.heap.Ns env.locals m →
    (∀ h' tk, h'.Ns env.locals (asg bs m) → (∀ c o, c ≠ env.locals → s.heap.get? c = some o → h'.get? c = some o) → Q () { s with heap := h', toks := tk }) →
    wpAny (model prog w) A (letOwnedTupleGo target (.ref I) v) (fun _ s₁ => wpAny (model prog w) A (assign target env v) Q E s₁) E s

section
variable {prog : Program} {w : World} {A : Around} {s : Shared} {env : Env} {I : Addr}
theorem takes_name {x : Str} {px : Pos} {v : Value} (hx : env.kindOf x = some .local) (hp : (env.scope.kind == .class || (env.scope.kind == .module && env.locals != env.globals)) = false) :
    TakesAt prog w A (.Name x px) env I v [(x, v)] s := fun _ Q _ hn h => by
  refine wpAny_pure (wpAny_assign_Name (wpAny_storeName_local hx hn (fun h' hn' hs => ?_) hp))
  exact h h' _ hn' fun c o hc e => hs.extBut c o hc e

theorem each_names {E : Value → Shared → Prop} (hp : (env.scope.kind == .class || (env.scope.kind == .module && env.locals != env.globals)) = false) (ns : List (Str × Pos)) : ∀ (vs : List Value) (m : Str → Option Value) (Q : Unit → Shared → Prop) (s : Shared),
    ns.length = vs.length → (∀ p ∈ ns, env.kindOf p.1 = some .local) → s.heap.Ns env.locals m →
    (∀ h' tk, h'.Ns env.locals (asg ((ns.map (·.1)).zip vs) m) → (∀ c o, c ≠ env.locals → s.heap.get? c = some o → h'.get? c = some o) → Q () { s with heap := h', toks := tk }) →
    wpAny (model prog w) A (assignInOrder (ns.map fun p => assign (.Name p.1 p.2) env) vs) Q E s := by
  induction ns with
  | nil =>
    intro vs m Q s hl _ hn h
    cases vs with
    | nil => exact assignInOrder_nil (h s.heap s.toks hn fun _ _ _ e => e)
    | cons v vs => cases hl
  | cons p ns ih =>
    intro vs m Q s hl hk hn h
    cases vs with
    | nil => cases hl
    | cons v vs =>
      rw [List.map_cons]
      refine assignInOrder_cons (wpAny_assign_Name (wpAny_storeName_local (hk p (.head _)) hn (fun h' hn' hs => ?_) hp))
      refine ih vs _ Q _ (Nat.succ.inj hl) (fun q hq => hk q (.tail _ hq)) hn' fun h2 tk hn2 k2 => ?_
      exact h h2 tk hn2 fun c o hc e => k2 c o hc (hs.extBut c o hc e)

theorem takes_tuple {ns : List (Str × Pos)} {kk : Nat} {tp : Pos} {a l : Addr} {i : Nat} {its : Array Value} (hh : A.handled = none) (ht : IsTup s.heap a its) (hit : s.heap.IsListIter I l i)
    (hl : ns.length = its.size) (hk : ∀ p ∈ ns, env.kindOf p.1 = some .local) (hp : (env.scope.kind == .class || (env.scope.kind == .module && env.locals != env.globals)) = false)
    (e1 : (assignEach (ns.map fun p => PySem.Expr.Name p.1 p.2) env).length = its.size) (e2 : (assignEach (ns.map fun p => PySem.Expr.Name p.1 p.2) env).findIdx? (·.1) = none)
    (e3 : (assignEach (ns.map fun p => PySem.Expr.Name p.1 p.2) env).map (·.2) = ns.map fun p => assign (.Name p.1 p.2) env) :
    TakesAt prog w A (.Tuple (ns.map fun p => .Name p.1 p.2) kk tp) env I (.ref a) ((ns.map (·.1)).zip its.toList) s := fun m Q E hn h => by
  refine wpAny_letOwnedTupleGo_listiter hit ?_
  refine assign_Tuple_tuple hh ht e1 e2 fun h₁ he₁ => ?_
  have up : ∀ c o, s.heap.get? c = some o → h₁.get? c = some o := fun c o e => he₁ c o (Nat.ne_of_lt (Heap.lt_size e)) e
  rw [e3]
  refine each_names hp ns its.toList m Q _ (by simpa using hl) hk (hn.at' fun o e => up _ o e) fun h2 tk hn2 k2 => ?_
  exact h h2 tk hn2 fun c o hc e => k2 c o hc (up c o e)
end

abbrev CompTurn (g : Heap) (L : Addr) (m : Str → Option Value) (s : Shared) (fp : List Addr) (led : List (Addr × Obj)) (h : Heap) (J : List Value → Heap → Prop) (ys : List Value) (y : Value) (s' : Shared) : Prop :=
  Mid (∃ h' tk', s' = { s with heap := h', toks := tk' } ∧ Fr g L h' m ∧ News g L h' led ∧ (∀ b ∈ fp, ∀ o, h.get? b = some o → h'.get? b = some o) ∧ J (ys ++ [y]) h')

section
variable {prog : Program} {w : World} {A : Around} {s : Shared} {g hB : Heap} {L : Addr} {m : Str → Option Value} {env : Env}

theorem comp_block {elt target iter : PySem.Expr} {scope : Scope} {cl : List (Str × Addr)} {pos : Pos} {I : Addr} {fp X : List Addr} {n : Nat} {P : Nat → Value → Prop} {St : Nat → Heap → Prop} {RR : Value → Addr → Result → Shared → Prop} {E : Value → Shared → Prop}
    (W : Walks prog w A I fp [I] n P St) (hsz : n ≤ sizeLine) (hIo : ∀ i h, St i h → ∃ o, h.get? I = some o ∧ NoTup o)
    (hcell : ∀ y ∈ scope.names, y.2 ≠ .cell) (hkind : scope.kind = .function) (hst : St 0 s.heap) (hfp : ∀ b ∈ fp, b < s.heap.objs.size) (hBI : hB.get? I = none) (hBs : hB.objs.size ≤ s.heap.objs.size)
    (F : Fr g L s.heap m) (hIL : L ≠ I) (hI₀ : g.get? I = none)
    (J : Nat → List Value → Heap → Prop) (hJ : J 0 [] s.heap) (hJk : ∀ i ys h h' S, J i ys h → Keeps S h h' → NoTups h S → (∀ b ∈ S, hB.get? b = none ∨ b ∈ X) → J i ys h')
    (B : Nat → Value → List (Str × Value) → Prop)
    (take : ∀ i v ys C h tk, i < n → P i v → J i ys h → St (i + 1) h → ∃ bs, B i v bs ∧ TakesAt prog w A target (compEnvC scope cl C env) I v bs { s with heap := h, toks := tk })
    (step : ∀ i v bs ys C D oI oC m₂ h tk, i < n → P i v → B i v bs → J i ys h → NsObj oC (asg bs m₂) → Fr g L h m → News g L h [(I, oI), (C, oC), (D, lst ys)] → I ≠ C → I ≠ D → C ≠ D → St (i + 1) h → s.heap.get? C = none → s.heap.get? D = none →
      wpAny (model prog w) A (eval elt (compEnvC scope cl C env)) (CompTurn g L m s fp [(I, oI), (C, oC), (D, lst ys)] h (J (i + 1)) ys) (fun _ _ => False) { s with heap := h, toks := tk })
    (done : ∀ C D oC m₂ h tk ys, Fr g L h m → J n ys h → NsObj oC m₂ → News g L h [(D, lst ys), (C, oC)] → C ≠ D → hB.get? C = none → hB.get? D = none → RR (.ref D) C (.ok .next) { s with heap := h, toks := tk }) :
    wpAny (model prog w) A (newList []) (fun acc s₃ => wpAny (model prog w) A (newFunctionEnv scope env.globals cl [] env.qual none .none (some env)) (fun cenv s₄ =>
      codeAny (model prog w) A (.compStart (.ListComp elt [⟨target, iter, [], 0⟩] scope pos) 0 (.ref I) acc { cenv with scope := relabel scope env }) (RR acc cenv.locals) s₄) E s₃) E s := by
  refine wpAny_newObj_type (wpAny_newFunctionEnv hcell (by intro y hy; simp at hy) (fun h₁ hns₁ hsb₁ => ?_) hkind)
  dsimp only at hns₁ hsb₁ ⊢
  generalize hH2 : s.heap.push { cls := .type "list", dict := none, data := .seq ([] : List Value).toArray } = H2 at hns₁ hsb₁ ⊢
  have hC : H2.objs.size = s.heap.objs.size + 1 := by rw [← hH2, Heap.size_push]
  have hDC : s.heap.objs.size ≠ H2.objs.size := by rw [hC]; exact Nat.ne_of_lt (Nat.lt_succ_self _)
  have below : ∀ b, b < s.heap.objs.size → b ≠ H2.objs.size ∧ b ≠ s.heap.objs.size := fun b hb => ⟨by rw [hC]; exact Nat.ne_of_lt (Nat.lt_succ_of_lt hb), Nat.ne_of_lt hb⟩
  have hDf : s.heap.objs.size ∉ fp := fun hm => Nat.lt_irrefl _ (hfp _ hm)
  have hCf : H2.objs.size ∉ fp := fun hm => by have := hfp _ hm; rw [hC] at this; exact Nat.lt_irrefl _ (Nat.lt_of_succ_lt this)
  have hIf : I ∈ fp := W.sub I (List.mem_singleton.mpr rfl)
  have hIlt : I < s.heap.objs.size := hfp I hIf
  have old : ∀ b o, s.heap.get? b = some o → h₁.get? b = some o := fun b o e => hsb₁.extBut b o (below b (Heap.lt_size e)).1 (Heap.get?_push_of_some _ (hH2 ▸ Heap.get?_push_of_some _ e))
  have hacc : h₁.get? s.heap.objs.size = some (lst []) := hsb₁.extBut _ _ hDC (Heap.get?_push_of_some _ (hH2 ▸ Heap.get?_push_size _ rfl))
  have hst₁ : St 0 h₁ := W.frame _ _ _ hst fun b _ o e => old b o e
  have fresh : ∀ (k : Heap) a, k.objs.size ≤ a → k.get? a = none := fun k a ha => by
    cases e : k.get? a with
    | none => rfl
    | some o' => exact absurd (Heap.lt_size e) (Nat.not_lt.mpr ha)
  have fresh₀ : ∀ a, s.heap.objs.size ≤ a → g.get? a = none := fun a ha => by
    cases e : g.get? a with
    | none => rfl
    | some o' => have := F.keep a o' e; rw [fresh _ a ha] at this; cases this
  have hCle : s.heap.objs.size ≤ H2.objs.size := by rw [hC]; exact Nat.le_succ _
  have hD₀ : g.get? s.heap.objs.size = none := fresh₀ _ (Nat.le_refl _)
  have hC₀ : g.get? H2.objs.size = none := fresh₀ _ hCle
  have hBD : hB.get? s.heap.objs.size = none := fresh _ _ hBs
  have hBC : hB.get? H2.objs.size = none := fresh _ _ (Nat.le_trans hBs hCle)
  have hLlt : L < s.heap.objs.size := F.ns.lt
  have hDL : s.heap.objs.size ≠ L := Ne.symm (below L hLlt).2
  have hCL : H2.objs.size ≠ L := Ne.symm (below L hLlt).1
  have hCI : I ≠ H2.objs.size := (below I hIlt).1
  have hDI : I ≠ s.heap.objs.size := (below I hIlt).2
  have loop : ∀ s₃ : Shared, s₃ = { s with heap := h₁, toks := s.toks + ([] : List (Str × Value)).length } →
      codeAny (model prog w) A (.compLoop (.ListComp elt [⟨target, iter, [], 0⟩] scope pos) 0 (.ref I) (.ref s.heap.objs.size) (compEnvC scope cl H2.objs.size env))
        (RR (.ref s.heap.objs.size) H2.objs.size) s₃ := by
    rintro s₃ rfl
    refine kcp_loop
      (fun k s' => ∃ h' tk i ys m', s' = { s with heap := h', toks := tk } ∧ i ≤ n ∧ k = n + 1 - i ∧ ys.length = i ∧ St i h' ∧ Fr g L h' m ∧ h'.Ns H2.objs.size m' ∧ h'.get? s.heap.objs.size = some (lst ys) ∧ J i ys h') ?_ (n + 1)
      ⟨h₁, _, 0, [], _, rfl, Nat.zero_le _, rfl, rfl, hst₁, F.keeps old, hns₁, hacc, hJk _ _ _ _ [] hJ (fun b o e _ => old b o e) (.nil _) (by simp)⟩
    rintro k s' ⟨h', tk, i, ys, m', rfl, hi, rfl, hyl, hst', F', hn', hD', J'⟩
    have next : ∀ h₂ : Heap, (∀ b o, b ∉ [I] → h'.get? b = some o → h₂.get? b = some o) → Fr g L h₂ m ∧ h₂.Ns H2.objs.size m' ∧ h₂.get? s.heap.objs.size = some (lst ys) ∧ J i ys h₂ := fun h₂ hk₂ => by
      obtain ⟨oI, heI, nI⟩ := hIo _ _ hst'
      exact ⟨fr_but F' hk₂ hIL hI₀, hn'.at' fun o e => hk₂ _ o (by simpa using Ne.symm hCI) e, hk₂ _ _ (by simpa using Ne.symm hDI) hD', hJk _ _ _ _ [I] J' (fun b o e hb => hk₂ b o hb e) (.cons heI nI (.nil _)) (by simpa using .inl hBI)⟩
    by_cases hlt : i < n
    · refine W.item i _ _ _ hlt hst' fun v h₂ tk₂ hPv hst₂ hk₂ => ?_
      obtain ⟨F₂, n₂, D₂, J₂⟩ := next h₂ hk₂
      obtain ⟨bs, hB', T⟩ := take i v ys H2.objs.size h₂ tk₂ hlt hPv J₂ hst₂
      refine T m' _ _ n₂ fun h₃ tk₃ hn₃ hk₃ => ?_
      obtain ⟨oC₂, heC₂, hoC₂⟩ := ns_obj n₂
      obtain ⟨oC, heC, hoC⟩ := ns_obj hn₃
      have nC : NoTup oC₂ := .inr (by obtain ⟨es, ep, hd, _⟩ := hoC₂; intro a k q; rw [hd] at q; cases q)
      have hst₃ : St (i + 1) h₃ := W.frame _ _ _ hst₂ fun b hb o e => hk₃ b o (fun q => hCf (by have q' : b = H2.objs.size := q; rw [← q']; exact hb)) e
      obtain ⟨oI, heI, nI⟩ := hIo _ _ hst₃
      have F₃ : Fr g L h₃ m := ⟨F₂.ns.at' fun o e => hk₃ L o (Ne.symm hCL) e, fun b o e => hk₃ b o (fun q => by have q' : b = H2.objs.size := q; rw [q', hC₀] at e; cases e) (F₂.keep b o e), F₂.above⟩
      have D₃ := hk₃ _ _ hDC D₂
      have J₃ : J i ys h₃ := hJk _ _ _ _ [H2.objs.size] J₂ (fun b o e hb => hk₃ b o (fun q => hb (List.mem_singleton.mpr q)) e) (.cons heC₂ nC (.nil _)) (by simpa using .inl hBC)
      have N₃ : News g L h₃ [(I, oI), (H2.objs.size, oC), (s.heap.objs.size, lst ys)] := News.cons heI (Ne.symm hIL) hI₀ (News.cons heC hCL hC₀ (News.cons D₃ hDL hD₀ News.nil))
      refine wpAny_mono (step i v bs ys _ _ oI oC m' h₃ tk₃ hlt hPv hB' J₃ hoC F₃ N₃ hCI hDI (Ne.symm hDC) hst₃ (fresh _ _ hCle) (fresh _ _ (Nat.le_refl _))) (fun y s₄ h₄ => ?_) fun _ _ e => e.elim
      obtain ⟨h₄, tk₄, rfl, F₄, N₄, k₄, J₄⟩ := h₄
      have zC := (N₄ _ (.tail _ (.head _))).1
      have zD := (N₄ _ (.tail _ (.tail _ (.head _)))).1
      have hst₄ : St (i + 1) h₄ := W.frame _ _ _ hst₃ k₄
      refine append_at (hsz := by show ys.toArray.size ≤ sizeLine; rw [List.size_toArray, hyl]; exact Nat.le_trans hi hsz) zD fun h₅ hs₅ hD₅ => ?_
      refine ⟨n + 1 - (i + 1), by omega, h₅, tk₄, i + 1, ys ++ [y], _, rfl, hlt, rfl, by rw [List.length_append, List.length_singleton, hyl], W.frame _ _ _ hst₄ fun b hb o e => hs₅.extBut b o (fun q => hDf (q ▸ hb)) e, F₄.change hs₅ hDL hD₀,
        (hoC.ns zC).sameBut hs₅ (Ne.symm hDC), hD₅.trans (congrArg some (lst_snoc ys y)), ?_⟩
      exact hJk _ _ _ _ [s.heap.objs.size] J₄ (Keeps.same hs₅ (.head _)) (.cons zD (.inl (by simp)) (.nil _)) (by simpa using .inl hBD)
    · obtain rfl : i = n := Nat.le_antisymm hi (Nat.not_lt.mp hlt)
      refine W.done _ _ _ hst' fun h₂ tk₂ hk₂ => ?_
      obtain ⟨F₂, n₂, D₂, J₂⟩ := next h₂ hk₂
      obtain ⟨oC₂, heC₂, hoC₂⟩ := ns_obj n₂
      exact done _ _ oC₂ m' h₂ tk₂ ys F₂ J₂ hoC₂ (News.cons D₂ hDL hD₀ (News.cons heC₂ hCL hC₀ News.nil)) (Ne.symm hDC) hBC hBD
  exact codeAny_compStart_list (loop _ rfl) (W.self 0 _ _ _ hst₁ (loop _ rfl))
end
end Mine

end
section
open PySem PySem.W PySem.Calls PyProof.Rows PyProof.Rows.LCg
set_option maxRecDepth 100000
namespace Mine

section
variable {prog : Program} {w : World} {A : Around} {s : Shared} {g : Heap} {L : Addr} {m : Str → Option Value} {env : Env}

theorem comp_list {elt target iter : PySem.Expr} {scope : Scope} {cl : List (Str × Addr)} {pos : Pos} {l : Addr} {items : Array Value} {E : Value → Shared → Prop} (RR : Value → Addr → Result → Shared → Prop)
    (hh : A.handled = none) (hl : s.heap.IsList l items) (hsz : items.size ≤ sizeLine) (hcell : ∀ y ∈ scope.names, y.2 ≠ .cell) (hkind : scope.kind = .function) (F : Fr g L s.heap m)
    (J : Nat → List Value → Heap → Prop) (hJ : J 0 [] s.heap) (hJk : ∀ i ys h h' S, J i ys h → Keeps S h h' → NoTups h S → (∀ b ∈ S, s.heap.get? b = none) → J i ys h')
    (B : Nat → Value → List (Str × Value) → Prop)
    (take : ∀ i v ys C h tk, items[i]? = some v → J i ys h → h.IsListIter s.heap.objs.size l (i + 1) → ∃ bs, B i v bs ∧ TakesAt prog w A target (compEnvC scope cl C env) s.heap.objs.size v bs { s with heap := h, toks := tk })
    (step : ∀ i v bs ys C D oI oC m₂ h tk, items[i]? = some v → B i v bs → J i ys h → NsObj oC (asg bs m₂) → Fr g L h m → News g L h [(s.heap.objs.size, oI), (C, oC), (D, lst ys)] → s.heap.objs.size ≠ C → s.heap.objs.size ≠ D → C ≠ D → h.IsList l items → s.heap.get? C = none → s.heap.get? D = none →
      wpAny (model prog w) A (eval elt (compEnvC scope cl C env)) (CompTurn g L m s [s.heap.objs.size, l] [(s.heap.objs.size, oI), (C, oC), (D, lst ys)] h (J (i + 1)) ys) (fun _ _ => False) { s with heap := h, toks := tk })
    (done : ∀ C D oC m₂ h tk ys, Fr g L h m → J items.size ys h → NsObj oC m₂ → News g L h [(D, lst ys), (C, oC)] → C ≠ D → s.heap.get? C = none → s.heap.get? D = none → RR (.ref D) C (.ok .next) { s with heap := h, toks := tk }) :
    wpAny (model prog w) A (pyIter (.ref l)) (fun it s₂ => wpAny (model prog w) A (newList []) (fun acc s₃ => wpAny (model prog w) A (newFunctionEnv scope env.globals cl [] env.qual none .none (some env)) (fun cenv s₄ =>
      codeAny (model prog w) A (.compStart (.ListComp elt [⟨target, iter, [], 0⟩] scope pos) 0 it acc { cenv with scope := relabel scope env }) (RR acc cenv.locals) s₄) E s₃) E s₂) E s := by
  have hlt : l < s.heap.objs.size := by obtain ⟨_, e, _⟩ := id hl; exact Heap.lt_size e
  have none_size : s.heap.get? s.heap.objs.size = none := by
    cases q : s.heap.get? s.heap.objs.size with
    | none => rfl
    | some o => exact absurd (Heap.lt_size q) (Nat.lt_irrefl _)
  have back : ∀ (o : Obj) a, (s.heap.push o).get? a = none → s.heap.get? a = none := fun o a e => by
    cases q : s.heap.get? a with
    | none => rfl
    | some o' => rw [Heap.get?_push_of_some _ q] at e; cases e
  refine wpAny_pyIter_list hl ?_
  refine comp_block (hB := s.heap) (X := []) (B := B) (Walks.list hh s.heap.objs.size l (Nat.ne_of_lt hlt) items) hsz (fun i h st => by obtain ⟨o, e, hc, _⟩ := st.1; exact ⟨o, e, .inl (by rw [hc]; simp)⟩) hcell hkind
    ⟨⟨_, Heap.get?_push_size _ rfl, rfl, rfl⟩, hl.push _⟩ (fun b hb => ?_) none_size (by show s.heap.objs.size ≤ (s.heap.push _).objs.size; rw [Heap.size_push]; exact Nat.le_succ _)
    (F.keeps fun b o e => Heap.get?_push_of_some _ e) (Nat.ne_of_lt F.ns.lt) (next_is_new F) J (hJk _ _ _ _ [] hJ (fun b o e _ => Heap.get?_push_of_some _ e) (.nil _) (by simp))
    (fun i ys h h' S j k nt q => hJk i ys h h' S j k nt fun b hb => (q b hb).elim id fun h => nomatch h) (fun i v ys C h tk _ hv j st => take i v ys C h tk hv j st.1)
    (fun i v bs ys C D oI oC m₂ h tk _ hv hb j hC F' N' n1 n2 n3 st c d => step i v bs ys C D oI oC m₂ h tk hv hb j hC F' N' n1 n2 n3 st.2 (back _ _ c) (back _ _ d)) done
  show b < (s.heap.push _).objs.size
  rw [Heap.size_push]
  rcases List.mem_cons.mp hb with rfl | hb
  · exact Nat.lt_succ_self _
  · rw [List.mem_singleton.mp hb]; exact Nat.lt_succ_of_lt hlt

theorem comp_range {elt iter : PySem.Expr} {x : Str} {px : Pos} {scope : Scope} {cl : List (Str × Addr)} {pos : Pos} {r : Addr} {a b : Int} {t u v : Tok} {n : Nat} {E : Value → Shared → Prop} (RR : Value → Addr → Result → Shared → Prop)
    (hh : A.handled = none) (hr : IsRange s.heap r a b 1 t u v) (hsm : Builtin.Range.small a b 1 = true) (hn : Builtin.Range.rangeSize a b 1 = ((n : Nat) : Int)) (hsz : n ≤ sizeLine)
    (hcell : ∀ y ∈ scope.names, y.2 ≠ .cell) (hkind : scope.kind = .function) (hx : scope.names.lookup x = some .local) (F : Fr g L s.heap m)
    (J : Nat → List Value → Heap → Prop) (hJ : J 0 [] s.heap) (hJk : ∀ i ys h h' S, J i ys h → Keeps S h h' → NoTups h S → (∀ b ∈ S, s.heap.get? b = none) → J i ys h')
    (step : ∀ i t ys C D oI oC m₂ h tk, i < n → J i ys h → NsObj oC m₂ → m₂ x = some (.int (a + (i : Int)) t) → Fr g L h m → News g L h [(s.heap.objs.size, oI), (C, oC), (D, lst ys)] → s.heap.objs.size ≠ C → s.heap.objs.size ≠ D → C ≠ D → s.heap.get? C = none → s.heap.get? D = none →
      wpAny (model prog w) A (eval elt (compEnvC scope cl C env)) (CompTurn g L m s [s.heap.objs.size] [(s.heap.objs.size, oI), (C, oC), (D, lst ys)] h (J (i + 1)) ys) (fun _ _ => False) { s with heap := h, toks := tk })
    (done : ∀ C D oC m₂ h tk ys, Fr g L h m → J n ys h → NsObj oC m₂ → News g L h [(D, lst ys), (C, oC)] → C ≠ D → s.heap.get? C = none → s.heap.get? D = none → RR (.ref D) C (.ok .next) { s with heap := h, toks := tk }) :
    wpAny (model prog w) A (pyIter (.ref r)) (fun it s₂ => wpAny (model prog w) A (newList []) (fun acc s₃ => wpAny (model prog w) A (newFunctionEnv scope env.globals cl [] env.qual none .none (some env)) (fun cenv s₄ =>
      codeAny (model prog w) A (.compStart (.ListComp elt [⟨.Name x px, iter, [], 0⟩] scope pos) 0 it acc { cenv with scope := relabel scope env }) (RR acc cenv.locals) s₄) E s₃) E s₂) E s := by
  have none_size : s.heap.get? s.heap.objs.size = none := by
    cases q : s.heap.get? s.heap.objs.size with
    | none => rfl
    | some o => exact absurd (Heap.lt_size q) (Nat.lt_irrefl _)
  have back : ∀ (o : Obj) a, (s.heap.push o).get? a = none → s.heap.get? a = none := fun o a e => by
    cases q : s.heap.get? a with
    | none => rfl
    | some o' => rw [Heap.get?_push_of_some _ q] at e; cases e
  refine wpAny_pyIter_range hr hsm ?_
  refine comp_block (hB := s.heap) (X := []) (B := fun _ v bs => bs = [(x, v)]) (range_walks hh a n) hsz (fun i h st => ⟨_, st, .inl (by simp)⟩) hcell hkind (by show IsRangeIter _ _ _ _ _; rw [hn]; simpa using Heap.get?_push_size _ rfl) (fun b hb => ?_) none_size
    (by show s.heap.objs.size ≤ (s.heap.push _).objs.size; rw [Heap.size_push]; exact Nat.le_succ _)
    (F.keeps fun b o e => Heap.get?_push_of_some _ e) (Nat.ne_of_lt F.ns.lt) (next_is_new F) J (hJk _ _ _ _ [] hJ (fun b o e _ => Heap.get?_push_of_some _ e) (.nil _) (by simp))
    (fun i ys h h' S j k nt q => hJk i ys h h' S j k nt fun b hb => (q b hb).elim id fun h => nomatch h)
    (fun i v ys C h tk _ hv j st => ⟨_, rfl, takes_name (lookup_relabel_local hx) (by simp [compEnvC, relabel, hkind])⟩)
    (fun i v bs ys C D oI oC m₂ h tk hi hv hb j hC F' N' n1 n2 n3 st c d => ?_) done
  · rw [List.mem_singleton.mp hb]
    show s.heap.objs.size < (s.heap.push _).objs.size
    rw [Heap.size_push]; exact Nat.lt_succ_self _
  · subst hb
    obtain ⟨t', rfl⟩ := hv
    exact step i t' ys C D oI oC _ h tk hi j hC (by simp [asg]) F' N' n1 n2 n3 (back _ _ c) (back _ _ d)

/-- what the end of a comprehension asks: the value is handed on -/
theorem post_none {E : Value → Shared → Prop} {Q : Value → Shared → Prop} {C D : Addr} {oC : Obj} {m₂ : Str → Option Value} {h : Heap} {tk : Nat} {ys : List Value} (F : Fr g L h m) (hC : NsObj oC m₂) (N : News g L h [(D, lst ys), (C, oC)]) (hCD : C ≠ D)
    (q : ∀ h', Keeps [C] h h' → NoTups h [C] → Fr g L h' m → News g L h' [(D, lst ys)] → Q (.ref D) { s with heap := h', toks := tk }) : compPost (model prog w) A E none Q (.ref D) C (.ok .next) { s with heap := h, toks := tk } := by
  have zC := N _ (.tail _ (.head _))
  have zD := N _ (.head _)
  refine ⟨m₂, hC.ns zC.1, fun h' hs => q h' (Keeps.same hs (.head _)) (.cons zC.1 (.inr ?_) (.nil _)) (F.change hs zC.2.1 zC.2.2) (News.cons (hs.extBut _ _ (Ne.symm hCD) zD.1) zD.2.1 zD.2.2 News.nil)⟩
  obtain ⟨es, ep, hd, _⟩ := hC
  intro a k e
  rw [hd] at e; cases e

/-- the value is stored under a local name -/
theorem post_local {E : Value → Shared → Prop} {Q : Value → Shared → Prop} {y : Str} {py : Pos} {C D : Addr} {oC : Obj} {m₂ : Str → Option Value} {h : Heap} {tk : Nat} {ys : List Value} (F : Fr g L h m) (hC : NsObj oC m₂) (N : News g L h [(D, lst ys), (C, oC)]) (hCD : C ≠ D)
    (hLe : env.locals = L) (hy : env.kindOf y = some .local) (hp : (env.scope.kind == .class || (env.scope.kind == .module && env.locals != env.globals)) = false)
    (q : ∀ h' tk', Keeps [L, C] h h' → NoTups h [L, C] → Fr g L h' (fun z => if z = y then some (.ref D) else m z) → News g L h' [(D, lst ys)] → Q .none { s with heap := h', toks := tk' }) :
    compPost (model prog w) A E (some (assign (.Name y py) env)) Q (.ref D) C (.ok .next) { s with heap := h, toks := tk } := by
  subst hLe
  have zC := N _ (.tail _ (.head _))
  have zD := N _ (.head _)
  show wpAny _ A (assign (.Name y py) env (.ref D)) _ _ _
  refine wpAny_assign_Name (wpAny_storeName_local hy F.ns (fun h₂ hn₂ hs₂ => ?_) hp)
  have zC₂ := hs₂.extBut _ _ zC.2.1 zC.1
  refine ⟨m₂, hC.ns zC₂, fun h' hs => q h' _ (fun b o e hb => ?_) ?_ ((F.set hn₂ hs₂).change hs zC.2.1 zC.2.2) (News.cons (hs.extBut _ _ (Ne.symm hCD) (hs₂.extBut _ _ zD.2.1 zD.1)) zD.2.1 zD.2.2 News.nil)⟩
  · simp only [List.mem_cons, List.not_mem_nil, or_false, not_or] at hb
    exact hs.extBut _ _ hb.2 (hs₂.extBut _ _ hb.1 e)
  · obtain ⟨oL, es, ep, eL, dL, _⟩ := F.ns
    obtain ⟨es', ep', hd, _⟩ := hC
    exact .cons eL (.inr fun a k e => by rw [dL] at e; cases e) (.cons zC.1 (.inr fun a k e => by rw [hd] at e; cases e) (.nil _))

/-- the value is stored under a name of a cell -/
theorem post_cell {E : Value → Shared → Prop} {Q : Value → Shared → Prop} {y : Str} {py : Pos} {C D c : Addr} {oC oc : Obj} {v₀ : Option Value} {m₂ : Str → Option Value} {h : Heap} {tk : Nat} {ys : List Value} (F : Fr g L h m) (hC : NsObj oC m₂) (N : News g L h [(D, lst ys), (C, oC)]) (hCD : C ≠ D)
    (hk : env.scope.kind = .function) (hy : env.kindOf y = some .cell) (hc : env.cells.lookup y = some c) (ec : h.get? c = some oc) (dc : oc.data = .cell v₀) (ncL : c ≠ L) (gc : g.get? c = none) (ncC : c ≠ C) (ncD : c ≠ D)
    (q : ∀ h' tk' oc', Keeps [c, C] h h' → NoTups h [c, C] → Fr g L h' m → oc'.data = .cell (some (.ref D)) → News g L h' [(c, oc'), (D, lst ys)] → Q .none { s with heap := h', toks := tk' }) :
    compPost (model prog w) A E (some (assign (.Name y py) env)) Q (.ref D) C (.ok .next) { s with heap := h, toks := tk } := by
  have zC := N _ (.tail _ (.head _))
  have zD := N _ (.head _)
  show wpAny _ A (assign (.Name y py) env (.ref D)) _ _ _
  refine wpAny_assign_Name (wpAny_storeName_cell hk hy hc ⟨oc, ec, dc⟩ fun h₂ hv hs₂ => ?_)
  obtain ⟨oc', ec', dc'⟩ := hv
  have zC₂ := hs₂.extBut _ _ (Ne.symm ncC) zC.1
  have F₂ : Fr g L h₂ m := F.change hs₂ ncL gc
  refine ⟨m₂, hC.ns zC₂, fun h' hs => q h' _ oc' (fun b o e hb => ?_) ?_ (F₂.change hs zC.2.1 zC.2.2) dc' (News.cons (hs.extBut _ _ ncC ec') ncL gc (News.cons (hs.extBut _ _ (Ne.symm hCD) (hs₂.extBut _ _ (Ne.symm ncD) zD.1)) zD.2.1 zD.2.2 News.nil))⟩
  · simp only [List.mem_cons, List.not_mem_nil, or_false, not_or] at hb
    exact hs.extBut _ _ hb.2 (hs₂.extBut _ _ hb.1 e)
  · obtain ⟨es', ep', hd, _⟩ := hC
    exact .cons ec (.inr fun a k e => by rw [dc] at e; cases e) (.cons zC.1 (.inr fun a k e => by rw [hd] at e; cases e) (.nil _))

/-- the head of a comprehension that is a value -/
theorem comp_head {elt iter target : PySem.Expr} {scope : Scope} {cl : List (Str × Addr)} {pos : Pos} {E : Value → Shared → Prop} {Q : Value → Shared → Prop}
    (hclos : closureFor scope env = pure cl) (hkind : scope.kind = .function) (hnames : ∀ y ∈ scope.names, y.2 = .local → scope.names.lookup y.1 = some .local)
    (h : wpAny (model prog w) A (eval iter env) (fun x s₁ => wpAny (model prog w) A (pyIter x) (fun it s₂ => wpAny (model prog w) A (newList []) (fun acc s₃ =>
      wpAny (model prog w) A (newFunctionEnv scope env.globals cl [] env.qual none .none (some env)) (fun cenv s₄ =>
        codeAny (model prog w) A (.compStart (.ListComp elt [⟨target, iter, [], 0⟩] scope pos) 0 it acc { cenv with scope := relabel scope env }) (compPost (model prog w) A E none Q acc cenv.locals) s₄) E s₃) E s₂) E s₁) E s)
    (hs : ∀ x, foldedSetIterable iter env x = pure x := by intro _; rfl) :
    wpAny (model prog w) A (eval (.ListComp elt [⟨target, iter, [], 0⟩] scope pos) env) Q E s := by
  rw [eval_ListComp]
  exact wpAny_comprehension_free (use := none) rfl hs hclos hkind hnames h

theorem comp_assign {elt iter target : PySem.Expr} {y : Str} {py : Pos} {scope : Scope} {cl : List (Str × Addr)} {pos spos : Pos} {E : Value → Shared → Prop} {Q : Flow → Shared → Prop}
    (hsw : swapsWith (.ListComp elt [⟨target, iter, [], 0⟩] scope pos) (some (.Name y py)) spos.line env = pure true)
    (hclos : closureFor scope env = pure cl) (hkind : scope.kind = .function) (hnames : ∀ y ∈ scope.names, y.2 = .local → scope.names.lookup y.1 = some .local)
    (h : wpAny (model prog w) A (eval iter env) (fun x s₁ => wpAny (model prog w) A (pyIter x) (fun it s₂ => wpAny (model prog w) A (newList []) (fun acc s₃ =>
      wpAny (model prog w) A (newFunctionEnv scope env.globals cl [] env.qual none .none (some env)) (fun cenv s₄ =>
        codeAny (model prog w) A (.compStart (.ListComp elt [⟨target, iter, [], 0⟩] scope pos) 0 it acc { cenv with scope := relabel scope env }) (compPost (model prog w) A E (some (assign (.Name y py) env)) (fun _ s' => Q .next s') acc cenv.locals) s₄) E s₃) E s₂) E s₁) E s)
    (hs : ∀ x, foldedSetIterable iter env x = pure x := by intro _; rfl) :
    wpAny (model prog w) A (exec (.Assign [.Name y py] (.ListComp elt [⟨target, iter, [], 0⟩] scope pos) spos) env) Q E s := by
  rw [exec_Assign_Name_used _ _ _ _ hsw]
  refine wpAny_bind (wpAny_standAt (wpAny_bind ?_))
  show wpAny _ A (do let _ ← comprehension (.ListComp elt [⟨target, iter, [], 0⟩] scope pos) scope env _ (newList []) false (eval iter env) (some (assign (.Name y py) env))) _ _ s
  exact wpAny_bind (wpAny_mono (wpAny_comprehension_free (use := some (assign (.Name y py) env)) (Q := fun _ s' => Q .next s') rfl hs hclos hkind hnames h) (fun _ s' hq => wpAny_pure (wpAny_pure hq)) fun _ _ e => e)
end

theorem rs_n (q : Nat) : Builtin.Range.rangeSize 0 (q : Int) 1 = (q : Int) := by rw [rangeSize_nat]; omega
theorem small_n {q : Nat} (h : q ≤ 100000) : Builtin.Range.small 0 (q : Int) 1 = true := small_one (by omega) (by omega) (by omega) (by omega)

/-! the frame with cells -/
theorem enterC {prog : Program} {w : World} {A : Around} {s : Shared} {K : Frag} {p : Program} {loose : List Str} {mean : ExcName → Option Value} {mg mb : Str → Option Value} {g₀ : Heap}
    {R : Result → Shared → Prop} {name qual : Str} {params : Arguments} {body : List Stmt} {scope : Scope} {dV kV doc pm cdv ct oc : Value} {an od : Option Addr} {osl : Array (Option Value)} {f : Addr} {args : Args} {binds : List (Str × Value)}
    (X : K.In g₀) (T : Top p loose mean mg mb g₀) (ext : g₀.StaysIn s.heap) (led : List (Addr × Obj)) (hled : ∀ q ∈ led, s.heap.get? q.1 = some q.2 ∧ g₀.get? q.1 = none)
    (ho : K.lookup f = some ⟨oc, od, .func (fnOf name qual params body scope dV kV doc pm an cdv ct), osl⟩) (hcd : codeIn K cdv qual = true) (hroom : A.depth < recursionLimit)
    (hbind : BindsTo s (fnOf name qual params body scope dV kV doc pm an cdv ct) args binds)
    (hkind : (binds.all fun y => scope.names.lookup y.1 == some .local || scope.names.lookup y.1 == some .cell) = true) (hnd : ((cellsFrom 0 scope.names []).map (·.1)).Nodup)
    (hco : scope.isCoroutine = false) (hgen : scope.isGenerator = false) (hk : scope.kind = .function)
    (h : ∀ g L' h₁ tk cells, Keeps (led.map (·.1)) s.heap g → Fr g L' h₁ (bindL (envOfC qual scope L' f cdv).kindOf binds fun _ => none) → News g L' h₁ (cells ++ led) →
      CellsAre (bindC (envOfC qual scope L' f cdv).kindOf binds fun _ => none) (cellsFrom (L' + 1) scope.names []) cells → K.In g → Top p loose mean mg mb g → (∀ q ∈ led, q.1 < L') → g₀.StaysIn g →
      wpAny (model prog w) (A.deeper (envOfC qual scope L' f cdv)) (execs body (envOfC qual scope L' f cdv))
        (fun fl s' => R (.ok (.ret (match fl with | .ret v => v | _ => .none))) s') (fun _ _ => False)
        { s with heap := h₁, toks := tk }) :
    codeAny (model prog w) A (.call (.ref f) args) R s := by
  have nm : ∀ b o, g₀.get? b = some o → b ∉ led.map (·.1) := fun b o e q => by
    obtain ⟨p, hp, rfl⟩ := List.mem_map.mp q
    rw [(hled p hp).2] at e; cases e
  have st : g₀.StaysIn (hideAll s.heap (led.map (·.1))) := fun b o e => hideAll_get _ (ext b o e) (nm b o e)
  refine codeAny_call_function hroom (ext _ _ (X _ _ ho)) rfl hco hgen rfl (codeRec_of (X.keeps ext) hcd) (hbind _ _ _ _ ?_)
  refine wpAny_newFunctionEnv_cells hk (kindsX hkind _) fun env' he s' x => ?_
  subst he
  refine ⟨(T.nolimit.keeps ext).keeps x.toInCall.keep, codeAny_func ?_⟩
  obtain ⟨h₁, tk, rfl, _⟩ := x.done
  have hk₁ := x.toInCall.keep
  obtain ⟨cells, NC, Y⟩ := Cl.news (h₀ := s.heap) (Nat.le_refl _) fun n c hm => ⟨x.cell n c (lookup_of_mem_nodup (cellsFrom_names scope.names 0 (s.heap.objs.size + 1) [] [] rfl ▸ hnd) hm), x.above n c hm⟩
  refine wpAny_mono (h _ s.heap.objs.size h₁ tk cells (fun b o e n => hideAll_get _ e n) ⟨x.toInCall.ns, fun b o e => hk₁ b o (of_hideAll _ e), Nat.le_of_eq (hideAll_size _ _)⟩ (fun p hp => ?_) Y (X.keeps st) (T.keeps st) (fun p hp => Heap.lt_size (hled p hp).1) st) (fun fl s' hl => hl) fun _ _ y => y.elim
  rcases List.mem_append.mp hp with hp | hp
  · refine ⟨(NC p hp).1, (NC p hp).2.1, ?_⟩
    cases q : (hideAll s.heap (led.map (·.1))).get? p.1 with
    | none => rfl
    | some o => have := of_hideAll _ q; rw [(NC p hp).2.2] at this; cases this
  · exact ⟨hk₁ _ _ (hled p hp).1, Nat.ne_of_lt (Heap.lt_size (hled p hp).1), hideAll_none _ (List.mem_map_of_mem hp)⟩

end Mine

end
section
open PySem PySem.W PySem.Calls PyProof.Rows
set_option maxRecDepth 100000
set_option maxHeartbeats 8000000

namespace Mine

theorem last_bd {ns : List Int} (hb : ∀ v ∈ ns, 0 ≤ v ∧ v < 1013) : 0 ≤ ns.getLastD 0 ∧ ns.getLastD 0 < 1013 := by
  cases q : ns.getLast? with
  | none => rw [List.getLastD_eq_getLast?, q]; decide
  | some v => rw [List.getLastD_eq_getLast?, q]; exact hb v (List.mem_of_getLast? q)
theorem drop_bd {ns : List Int} (hb : ∀ v ∈ ns, 0 ≤ v ∧ v < 1013) : ∀ v ∈ ns.dropLast, 0 ≤ v ∧ v < 1013 := fun v h => hb v ((List.dropLast_sublist _).subset h)
theorem drop_len {ns : List Int} {k : Nat} (h : ns.length ≤ k) : ns.dropLast.length ≤ k := by rw [List.length_dropLast]; omega
theorem ints_drop {vs : List Value} {ns : List Int} (h : IntsAre vs ns) : IntsAre vs.dropLast ns.dropLast := by
  induction h with
  | nil => exact .nil
  | cons k t r ih =>
    cases r with
    | nil => exact .nil
    | cons k' t' r' => exact .cons k t ih
theorem item_menu {prog : Program} {w : World} {A : Around} {E : Value → Shared → Prop} {s : Shared} {value slice : PySem.Expr} {l : Addr} {vs : List Value} {k : Int} {u : Tok} {Q : Value → Shared → Prop} (hl : s.heap.IsList l vs.toArray) (h0 : 0 ≤ k) (h8 : k < (vs.length : Int)) (hn : vs.length ≤ 100)
    (hv : ∀ v ∈ vs, ∃ x t, v = .str x t ∧ Str.length x ≤ 10) (h : ∀ x t, Str.length x ≤ 10 → Q (.str x t) s)
    (hs : subscripted slice false (.ref l) (.int k u) = operate [.ref l, .int k u] (getItem (.ref l) (.int k u)) := by with_unfolding_all rfl) :
    wpAny (model prog w) A (subscriptTail value slice (.ref l) (.int k u)) Q E s := by
  have hk : k.toNat < vs.length := by omega
  obtain ⟨x, t, e, hx⟩ := hv _ (List.getElem_mem hk)
  exact item_litK hl h0 (by omega) (List.getElem?_eq_getElem hk) (by rw [e]; exact h x t hx) hs

theorem c_word {w : World} {mean : ExcName → Option Value} {mg mb : Str → Option Value} {g₀ : Heap} {dp un : Nat} {fr : Option (List Env)} {gd : Option (List Code)} {s : Shared} {R : Result → Shared → Prop} {row : Addr} {vs : List Value} {ns : List Int} {n : Nat}
    (H : Here w mean mg mb g₀) (ext : g₀.StaysIn s.heap) (hA : dp + 20 < recursionLimit) (hU : un + 400 < cLine)
    (ho : s.heap.get? row = some (listOf (List.toArray vs) n)) (hg : g₀.get? row = none) (hi : IntsAre vs ns) (hlen : ns.length ≤ 120) (hb : ∀ v ∈ ns, 0 ≤ v ∧ v < 1013)
    (ret : ∀ h' tk t n' x us ms, Keeps [row] s.heap h' → h'.get? row = some (listOf (List.toArray us) n') → IntsAre us ms → ms.length ≤ 120 → (∀ v ∈ ms, 0 ≤ v ∧ v < 1013) → Str.length x ≤ 10 → R (.ok (.ret (.str x t))) { s with heap := h', toks := tk }) :
    codeAny (model PySem.Challenge.rw_no0153_01.row.toRowW.prog w) ⟨none, dp, fr, gd, un⟩ (.call (.ref 150) ⟨[.ref row], []⟩) R s := by
  have hled : ∀ q ∈ [(row, listOf (List.toArray vs) n)], s.heap.get? q.1 = some q.2 ∧ g₀.get? q.1 = none := by simpa using ⟨ho, hg⟩
  have KX := H.X
  revert KX
  k_fill
  intro KX
  have T := H.T
  refine' enterC KX T ext [(row, listOf (List.toArray vs) n)] (binds := [((Str.ofString "row"), Value.ref row)]) (hled) ?k6 ?k7 ?k8 ?k9 ?kB ?kD ?c2 ?c3 ?c4 ?_
  case k6 => k_is
  case k7 => k_is
  case k8 => show dp < _; omega
  case k9 => exact BindsTo.of_eq rfl
  case kB => exact rfl
  case kD => decide +kernel
  case c2 => exact rfl
  case c3 => exact rfl
  case c4 => exact rfl
  clear T KX
  intro g L' h₁ tk₁ cells kg F' N' Y' X' T' l1 st
  k_cells Y'
  rename_i oc dc
  replace dc : oc.data = .cell (some (.ref row)) := dc
  simp only [List.cons_append, List.nil_append] at N'
  have lrow := ltN (l1 _ (.head _))
  have hgr : g.get? row = none := (N' _ (.tail _ (.head _))).2.2
  have k0 : Keeps [] s.heap h₁ := keeps_enter kg (fun q hq => (hled q hq).1) F' (News.sub N' (by kqd_sub))
  have Nc : News g L' h₁ [(L' + 1, oc)] := News.sub N' (by kqd_sub)
  have ncr := neN (Nat.ne_of_gt (Nat.lt_succ_of_lt lrow))
  clear l1
  replace F' : Fr g L' h₁ (fun _ => none) := F'
  have b1 := last_bd hb
  have b1' := fmod_lo (ns.getLastD 0) (show (0 : Int) < 10 by decide)
  show wpAny _ _ _ _ _ _
  try dsimp only
  k_fold
  repeat' ((fail_if_success (with_reducible show Mid _)); first | (k_unfold; (try dsimp only)) | (k_end; wrow_close) | ((fail_if_success (with_reducible show wpAny _ _ (call (Value.ref _) _ _) _ _ _)); walk1) | ((fail_if_success (with_reducible show wpAny _ _ (call (Value.ref _) _ _) _ _ _)); dsimp only; walk1))
  refine wpAny_call (c_next H (fun b o e => F'.keep _ _ (st b o e)) (by show dp + 1 + 10 < _; omega) (by show un + 3 + 200 < _; omega) (N' _ (.tail _ (.head _))).1 hg hi hlen fun h2 tk2 t2 n2 k2 e2 => ?_)
  have F2 := Fr.but F' k2 (by simpa using neN (Nat.ne_of_gt lrow)) (by simpa using hgr)
  have Nc2 := News.but Nc k2 (by simpa using ncr)
  have N2 := News.cons e2 (Nat.ne_of_lt lrow) hgr Nc2
  clear F' N' Nc
  dsimp only at e2 k2 F2 N2 Nc2 ⊢
  repeat' ((fail_if_success (with_reducible show Mid _)); first | (k_unfold; (try dsimp only)) | (k_end; wrow_close) | ((fail_if_success (with_reducible show wpAny _ _ (eval (PySem.Expr.ListComp _ _ _ _) _) _ _ _)); (fail_if_success (with_reducible show wpAny _ _ (subscriptTail _ _ _ _) _ _ _)); walk1) | ((fail_if_success (with_reducible show wpAny _ _ (eval (PySem.Expr.ListComp _ _ _ _) _) _ _ _)); (fail_if_success (with_reducible show wpAny _ _ (subscriptTail _ _ _ _) _ _ _)); dsimp only; walk1))
  · rename_i l3 h3 F3 N3 l3'
    refine item_menu (News.isList N3 (.head _)) (by omega) (by simp only [List.length_cons, List.length_nil]; omega) (by simp only [List.length_cons, List.length_nil]; omega) ?_ ?_ (by with_unfolding_all rfl)
    · intro v hv
      simp only [List.mem_cons, List.not_mem_nil, or_false] at hv
      rcases hv with rfl | rfl | rfl | rfl | rfl | rfl | rfl | rfl <;> exact ⟨_, _, rfl, by decide +kernel⟩
    · intro x t hx
      have k3 : Keeps [row] s.heap h3 := fun b o e hn => F3.keep b o (kg b o e hn)
      exact ret h3 _ t _ x _ _ k3 (N3.get (.tail _ (.head _))) (ints_drop hi) (drop_len hlen) (drop_bd hb) hx
  · rename_i h3 F3 N3 _ _
    refine comp_head (cl := [((Str.ofString "row"), L' + 1)]) (by with_unfolding_all rfl) rfl (by decide) ?_
    repeat' ((fail_if_success (with_reducible show Mid _)); first | (k_unfold; (try dsimp only)) | (k_end; wrow_close) | ((fail_if_success (with_reducible show wpAny _ _ (call (Value.ref _) _ _) _ _ _)); walk1) | ((fail_if_success (with_reducible show wpAny _ _ (call (Value.ref _) _ _) _ _ _)); dsimp only; walk1))
    refine wpAny_call (c_next H (fun b o e => F3.keep _ _ (st b o e)) (by show dp + 1 + 10 < _; omega) (by show un + 3 + 200 < _; omega) (N3 _ (.head _)).1 hg (ints_drop hi) (drop_len hlen) fun h4 tk4 t4 n4 k4 e4 => ?_)
    have b2 := last_bd (drop_bd hb)
    have F4 := Fr.but F3 k4 (by simpa using neN (Nat.ne_of_gt lrow)) (by simpa using hgr)
    have Nc4 := News.but (News.sub N3 (b := [(L' + 1, oc)]) (by kqd_sub)) k4 (by simpa using ncr)
    have N4 := News.cons e4 (Nat.ne_of_lt lrow) hgr Nc4
    clear F3 N3
    dsimp only at e4 k4 F4 N4 Nc4 ⊢
    have b3 := fmod_lo (ns.dropLast.getLastD 0) (show (0 : Int) < 2 by decide)
    have b4 := fmod_hi (ns.dropLast.getLastD 0) (show (0 : Int) < 2 by decide)
    repeat' ((fail_if_success (with_reducible show Mid _)); first | (k_unfold; (try dsimp only)) | (k_end; wrow_close) | ((fail_if_success (with_reducible show wpAny _ _ (pyIter _) _ _ _)); walk1) | ((fail_if_success (with_reducible show wpAny _ _ (pyIter _) _ _ _)); dsimp only; walk1))
    rename_i h5 _ _ _ _ hR F5 N5 k5
    obtain ⟨q, hq, hq2⟩ : ∃ q : Nat, 1 + (ns.dropLast.getLastD 0).fmod 2 = (q : Int) ∧ q ≤ 2 := ⟨(1 + (ns.dropLast.getLastD 0).fmod 2).toNat, by omega, by omega⟩
    rw [hq] at hR
    clear Nc4 k5
    have zc := N5 _ (.tail _ (.head _))
    have zr := N5 _ (.head _)
    refine comp_range (n := q) (compPost _ _ _ none _) rfl hR (small_n (by omega)) (rs_n q) (by rw [sizeLine_eq]; omega) (by decide) rfl (by decide) F5
      (fun i ys h => ∃ us n ms xs, h.get? (L' + 1) = some oc ∧ h.get? row = some (listOf (List.toArray us) n) ∧ IntsAre us ms ∧ ms.length ≤ 120 ∧ (∀ v ∈ ms, 0 ≤ v ∧ v < 1013) ∧ StrsAre ys xs ∧ xs.length = i ∧ ∀ x ∈ xs, Str.length x = 1)
      ⟨_, _, _, [], zc.1, zr.1, ints_drop (ints_drop hi), drop_len (drop_len hlen), drop_bd (drop_bd hb), .nil, rfl, by simp⟩ ?_ ?_ ?_
    · rintro i ys h h' S ⟨us, n, ms, xs, a1, a2, a3⟩ k _ hS
      refine ⟨us, n, ms, xs, k _ _ a1 fun hb => ?_, k _ _ a2 fun hb => ?_, a3⟩
      · have z := hS _ hb; dsimp only at z; rw [zc.1] at z; cases z
      · have z := hS _ hb; dsimp only at z; rw [zr.1] at z; cases z
    · rintro i t ys C D oI oC m₂ h tk hi' ⟨us, n, ms, xs, a1, a2, a3, a4, a5, a6, a7, a8⟩ hoC hm F N n1 n2 n3 zC zD
      dsimp only at zC zD
      have c1 : C ≠ L' + 1 := fun e => by rw [e, zc.1] at zC; cases zC
      have d1 : D ≠ L' + 1 := fun e => by rw [e, zc.1] at zD; cases zD
      have c2 : C ≠ row := fun e => by rw [e, zr.1] at zC; cases zC
      have d2 : D ≠ row := fun e => by rw [e, zr.1] at zD; cases zD
      have i1 := neN (Nat.ne_of_gt (Heap.lt_size zc.1))
      have i2 := neN (Nat.ne_of_gt (Heap.lt_size zr.1))
      dsimp only at i1 i2 N n1 n2 ⊢
      have ea := N _ (.head _)
      have eb := N _ (.tail _ (.head _))
      have ec := N _ (.tail _ (.tail _ (.head _)))
      have NN := News.cons ea.1 ea.2.1 ea.2.2 (News.cons eb.1 eb.2.1 eb.2.2 (News.cons ec.1 ec.2.1 ec.2.2 (News.cons a1 zc.2.1 zc.2.2 News.nil)))
      repeat' ((fail_if_success (with_reducible show Mid _)); first | (k_unfold; (try dsimp only)) | (k_end; wrow_close) | ((fail_if_success (with_reducible show wpAny _ _ (call (Value.ref _) _ _) _ _ _)); walk1) | ((fail_if_success (with_reducible show wpAny _ _ (call (Value.ref _) _ _) _ _ _)); dsimp only; walk1))
      refine wpAny_call (c_next H (fun b o e => F.keep _ _ (st b o e)) (by show dp + 1 + 10 < _; omega) (by show un + 3 + 200 < _; omega) a2 hg a3 a4 fun h6 tk6 t6 n6 k6 e6 => ?_)
      have b6 := last_bd a5
      have F6 := Fr.but F k6 (by simpa using neN (Nat.ne_of_gt lrow)) (by simpa using hgr)
      have N6 := News.but NN k6 (by simpa using ⟨i2, c2, d2, ncr⟩)
      clear NN N
      dsimp only at k6 e6 N6 F6 ⊢
      repeat' ((fail_if_success (with_reducible show Mid _)); first | (k_unfold; (try dsimp only)) | (k_end; wrow_close) | ((fail_if_success (with_reducible show wpAny _ _ (call (Value.builtin "chr") _ _) _ _ _)); walk1) | ((fail_if_success (with_reducible show wpAny _ _ (call (Value.builtin "chr") _ _) _ _ _)); dsimp only; walk1))
      refine chr_of_range b6.1 (by omega) ?_
      refine ⟨h6, _, rfl, F6, News.sub N6 (by kqd_sub), fun b hb o e => ?_, _, n6, _, xs ++ [⟨#[(ms.getLastD 0).toNat]⟩], (N6 _ (.tail _ (.tail _ (.tail _ (.head _))))).1, e6, ints_drop a3, drop_len a4, drop_bd a5, StrsAre.append' a6 (.cons _ _ .nil), by simp [a7], fun x hx => ?_⟩
      · rw [List.mem_singleton] at hb
        rw [hb] at e ⊢
        rw [ea.1] at e
        exact Option.some.inj e ▸ (N6 _ (.head _)).1
      · rcases List.mem_append.mp hx with hx | hx
        · exact a8 x hx
        · rw [List.mem_singleton.mp hx]; rfl
    · rintro C D oC m₂ h tk ys F ⟨us, n, ms, xs, a1, a2, a3, a4, a5, a6, a7, a8⟩ hC N hCD zC zD
      dsimp only at zC zD
      have c1 : C ≠ L' + 1 := fun e => by rw [e, zc.1] at zC; cases zC
      have c2 : C ≠ row := fun e => by rw [e, zr.1] at zC; cases zC
      have d2 : D ≠ row := fun e => by rw [e, zr.1] at zD; cases zD
      refine post_none F hC N hCD fun h7 k7 _ F7 N7 => ?_
      have r7 := k7 _ _ a2 (by simpa using Ne.symm c2)
      have N8 := News.cons r7 zr.2.1 zr.2.2 N7
      clear N N7 F
      repeat' ((fail_if_success (with_reducible show Mid _)); first | (k_unfold; (try dsimp only)) | (k_end; wrow_close) | ((fail_if_success (with_reducible show wpAny _ _ (call (Value.builtin "str.join") _ _) _ _ _)); walk1) | ((fail_if_success (with_reducible show wpAny _ _ (call (Value.builtin "str.join") _ _) _ _ _)); dsimp only; walk1))
      refine KT.join_1 (l := xs) (g := id) (News.isList N8 (.tail _ (.head _))) (StrsAre.carried a6) a8 (by omega) fun t9 tk9 hl9 => ?_
      have hx : Str.length (PySem.Txt.join (PySem.Str.ofString "") (xs.map id)) ≤ 10 := by rw [hl9]; omega
      have r := fun tk t => ret h7 tk t n _ us ms (fun b o e hn => F7.keep b o (kg b o e hn)) r7 a3 a4 a5 hx
      repeat' ((fail_if_success (with_reducible show Mid _)); first | (k_unfold; (try dsimp only)) | (k_end; wrow_close) | (walk1) | (dsimp only; walk1))
      exact r _ _
end Mine

end
section
open PySem PySem.W PySem.Calls PyProof.Rows PyProof.Rows.LCg
set_option maxRecDepth 100000
namespace Mine

/-! all that stands besides the base and the frame, as one ledger -/
noncomputable def snap (g : Heap) (L : Addr) (h : Heap) : List (Addr × Obj) := (List.range h.objs.size).filterMap fun b => if (g.get? b).isNone = true ∧ b ≠ L then (h.get? b).map (Prod.mk b) else none
theorem snap_mem {g : Heap} {L : Addr} {h : Heap} {p : Addr × Obj} : p ∈ snap g L h ↔ h.get? p.1 = some p.2 ∧ p.1 ≠ L ∧ g.get? p.1 = none := by
  unfold snap
  rw [List.mem_filterMap]
  constructor
  · rintro ⟨b, _, e⟩
    split at e
    · rename_i c
      cases q : h.get? b with
      | none => rw [q] at e; cases e
      | some o => rw [q] at e; cases e; exact ⟨q, c.2, Option.isNone_iff_eq_none.mp c.1⟩
    · cases e
  · rintro ⟨a, b, c⟩
    refine ⟨p.1, List.mem_range.mpr (Heap.lt_size a), ?_⟩
    rw [if_pos ⟨Option.isNone_iff_eq_none.mpr c, b⟩, a]; rfl
theorem snap_news (g : Heap) (L : Addr) (h : Heap) : News g L h (snap g L h) := fun _ hp => snap_mem.mp hp
/-- what the walk must not forget of an elder heap -/
structure Snap (g : Heap) (L : Addr) (h : Heap) : Prop where
  keep : ∀ b o, g.get? b = some o → h.get? b = some o
  nt : NoTups h [L]
theorem Snap.of {g h : Heap} {L : Addr} {m : Str → Option Value} (F : Fr g L h m) : Snap g L h := ⟨F.keep, NoTups.ns F.ns⟩
theorem Snap.keeps {g h h' : Heap} {L : Addr} {m' : Str → Option Value} (S : Snap g L h) (F' : Fr g L h' m') (N : News g L h' (snap g L h)) : Keeps [L] h h' := fun b o e hb => by
  cases q : g.get? b with
  | some o' =>
    have z := S.keep b o' q
    rw [e] at z; cases z
    exact F'.keep b _ q
  | none => exact (N (b, o) (snap_mem.mpr ⟨e, by simpa using hb, q⟩)).1

/-! rows of fields -/
inductive Fld | int (i : Int) | str (x : Str)

noncomputable def Fld.Is : Value → Fld → Prop
  | v, .int i => ∃ t, v = .int i t
  | v, .str x => ∃ t, v = .str x t
noncomputable def TupIs (h : Heap) (v : Value) (r : List Fld) : Prop := ∃ a its, v = .ref a ∧ IsTup h a its ∧ Sits Fld.Is its.toList r
theorem TupIs.but {h h' : Heap} {v : Value} {r : List Fld} {S : List Addr} (x : TupIs h v r) (k : Keeps S h h') (nt : NoTups h S) : TupIs h' v r := by
  obtain ⟨a, its, rfl, ⟨o, ho, hc, n, hd⟩, hi⟩ := x
  refine ⟨a, its, rfl, ⟨o, k _ _ ho fun q => ?_, hc, n, hd⟩, hi⟩
  rcases nt a q o ho with z | z
  · exact z hc
  · exact z _ _ hd
theorem TupIs.sits {h h' : Heap} {vs : List Value} {rs : List (List Fld)} {S : List Addr} (x : Sits (TupIs h) vs rs) (k : Keeps S h h') (nt : NoTups h S) : Sits (TupIs h') vs rs := x.mono fun _ _ p => p.but k nt

noncomputable def Gives (M : Model) (A : Around) (env : Env) (g : Heap) (L : Addr) (e : PySem.Expr) (f : Fld) : Prop :=
  (∀ rest, starEach (e :: rest) env = (false, eval e env) :: starEach rest env) ∧
  ∀ (s : Shared) (m : Str → Option Value) (Q : Value → Shared → Prop) (E : Value → Shared → Prop), Fr g L s.heap m → (∀ v tk, f.Is v → Q v { s with toks := tk }) → wpAny M A (eval e env) Q E s

inductive Fields (M : Model) (A : Around) (env : Env) (g : Heap) (L : Addr) : List PySem.Expr → List Fld → Prop
  | nil : Fields M A env g L [] []
  | cons {e : PySem.Expr} {f : Fld} {es : List PySem.Expr} {fs : List Fld} : Gives M A env g L e f → Fields M A env g L es fs → Fields M A env g L (e :: es) (f :: fs)
inductive RowsOf (M : Model) (A : Around) (env : Env) (g : Heap) (L : Addr) : List PySem.Expr → List (List Fld) → Prop
  | nil : RowsOf M A env g L [] []
  | cons {es : List PySem.Expr} {fs : List Fld} {k : Nat} {p : Pos} {r : List PySem.Expr} {fr : List (List Fld)} : fs.length ≤ 100 → Fields M A env g L es fs → RowsOf M A env g L r fr → RowsOf M A env g L (.Tuple es k p :: r) (fs :: fr)

section
variable {M : Model} {A : Around} {env : Env} {g : Heap} {L : Addr}
theorem gives_int {i : Int} {k} {p : Pos} : Gives M A env g L (.Constant (.int i) k p) (.int i) := ⟨fun _ => rfl, fun _ _ _ _ _ h => wpAny_Constant_int (h _ _ ⟨_, rfl⟩)⟩
theorem gives_str {x : Str} {k} {p : Pos} : Gives M A env g L (.Constant (.str x) k p) (.str x) := ⟨fun _ => rfl, fun _ _ _ _ _ h => wpAny_Constant_str (h _ _ ⟨_, rfl⟩)⟩
theorem gives_name {K : Frag} {P : Program} {loose : List Str} {mean : ExcName → Option Value} {mg mb : Str → Option Value} {cn : Str} {cs : Scope} {a : Addr} {ccd : Value} {cl : List (Str × Addr)} {x : Str} {i : Int} {t : Tok} {p : Pos} (X : K.In g) (T : Top P loose mean mg mb g)
    (e : nsIn K mainGlobals x = some (some (.int i t))) (hk : cs.kind = .function) (hx : (envX cn cs L a ccd cl).kindOf x = some .globalImplicit) (hd : (x == ("__debug__" : Str)) = false) :
    Gives M A (envX cn cs L a ccd cl) g L (.Name x p) (.int i) := ⟨fun _ => rfl, fun s m Q E F h => nameX_K F X (topRead_of T) e (h (.int i t) s.toks ⟨t, rfl⟩) hk hx hd⟩

theorem fields_eval {E : Value → Shared → Prop} {pos : Pos} {es : List PySem.Expr} {fs : List Fld} (x : Fields M A env g L es fs) : ∀ (s : Shared) (m : Str → Option Value) (Q : List Value → Shared → Prop), Fr g L s.heap m →
    (∀ vs tk, Sits Fld.Is vs fs → Q vs { s with toks := tk }) → wpAny M A (spliced (backTo pos (starEach es env))) Q E s := by
  induction x with
  | nil => intro s m Q F h; exact spliced_none (h [] s.toks .nil)
  | cons p _ ih =>
    intro s m Q F h
    refine spliced_more (p.2 s m _ E F fun v tk hv => ?_) (p.1 _)
    exact ih { s with toks := tk } m _ F fun vs tk' hvs => h (v :: vs) tk' (.cons hv hvs)
end

theorem tup_new {h : Heap} {vs : List Value} {fs : List Fld} (hi : Sits Fld.Is vs fs) : TupIs (h.push { cls := .type "tuple", data := .seq vs.toArray 0 }) (.ref h.objs.size) fs :=
  ⟨_, vs.toArray, rfl, ⟨_, Heap.get?_push_size _ rfl, rfl, 0, rfl⟩, hi⟩
section
variable {prog : Program} {w : World} {A : Around} {env : Env} {g : Heap} {L : Addr}
theorem rows_eval {E : Value → Shared → Prop} {pos : Pos} {es : List PySem.Expr} {rs : List (List Fld)} (x : RowsOf (model prog w) A env g L es rs) : ∀ (s : Shared) (m : Str → Option Value) (Q : List Value → Shared → Prop), Fr g L s.heap m →
    (∀ vs h' tk, Fr g L h' m → Keeps [] s.heap h' → Sits (TupIs h') vs rs → Q vs { s with heap := h', toks := tk }) → wpAny (model prog w) A (spliced (backTo pos (starEach es env))) Q E s := by
  induction x with
  | nil => intro s m Q F h; exact spliced_none (h [] s.heap s.toks F (Keeps.refl _ _) .nil)
  | @cons es fs k p r fr hl f _ ih =>
    intro s m Q F h
    refine spliced_more ?_ rfl
    refine Tuple_ (fields_eval f s m _ F fun vs tk hvs => ?_)
    have hlen := hvs.length
    refine wpAny_newTuple ?_ (by rw [sizeLine_eq]; omega)
    refine ih _ m _ (F.push _) fun us h' tk' F' k' hus => ?_
    exact h (_ :: us) h' tk' F' (fun b o e hb => k' b o (Heap.get?_push_of_some _ e) hb) (.cons ((tup_new (h := s.heap) hvs).but k' (.nil _)) hus)
end

/-! sorted over rows that stand in order -/
noncomputable def run {α : Type} (c : Nat → Nat → Bool) : KasT α → α
  | .ret a => a
  | .ask i j k => run c (k (c i j))
noncomputable def runOk {α : Type} (n : Nat) (c : Nat → Nat → Bool) : KasT α → Bool
  | .ret _ => true
  | .ask i j k => decide (i < n) && decide (j < n) && decide (i ≠ j) && runOk n c (k (c i j))
theorem run_wp {α : Type} {n : Nat} {c : Nat → Nat → Bool} {ask : Nat → Nat → (Bool → Shared → Prop) → Shared → Prop} {s : Shared} {Q : α → Shared → Prop} (ha : ∀ i j C, i < n → j < n → i ≠ j → C (c i j) s → ask i j C s) :
    ∀ t : KasT α, runOk n c t = true → Q (run c t) s → t.kasWp ask Q s
  | .ret _, _, h => h
  | .ask i j k, ok, h => by
    simp only [runOk, Bool.and_eq_true, decide_eq_true_eq] at ok
    exact ha i j _ ok.1.1.1 ok.1.1.2 ok.1.2 (run_wp ha (k (c i j)) ok.2 h)
noncomputable def lt2 (i j : Nat) : Bool := decide ((i : Int) < (j : Int))

/-- the rows bear their own numbers first -/
noncomputable def Numbered (rs : List (List Fld)) : Prop := ∀ (i : Nat) (r : List Fld), rs[i]? = some r → r.head? = some (Fld.int (i : Int))

theorem sorted_rows {prog : Program} {w : World} {A : Around} {g : Heap} {L l : Addr} {m : Str → Option Value} {s : Shared} {E : Value → Shared → Prop} {Q : Value → Shared → Prop} {vs : List Value} {rs : List (List Fld)} (F : Fr g L s.heap m) (hl : s.heap.IsList l vs.toArray)
    (hi : Sits (TupIs s.heap) vs rs) (hn : Numbered rs) (h2 : 2 ≤ rs.length) (h64 : rs.length < 64) (ok : runOk rs.length lt2 (kas_sort rs.length) = true) (hr : (run lt2 (kas_sort rs.length)).toList = List.range rs.length)
    (h : ∀ D h' n', Fr g L h' m → Keeps [L] s.heap h' → s.heap.get? D = none → D ≠ L → g.get? D = none → h'.get? D = some (listOf (List.toArray vs) n') → Q (.ref D) { s with heap := h' }) :
    wpAny (model prog w) A (call (.builtin "sorted") [.ref l]) Q E s := by
  have hlen := hi.length
  refine kat_sorted F (snap_news g L s.heap) hl (by omega) (by omega) fun D e1 h1 F1 N1 hlt => ?_
  have k1 : Keeps [L] s.heap h1 := (Snap.of F).keeps F1 (News.sub N1 fun p hp => .tail _ hp)
  have dsnap : ∀ p ∈ snap g L s.heap, p.1 ≠ D := fun p hp => Nat.ne_of_lt (hlt p hp)
  have zD := N1 (D, seqObj "list" #[] e1) (.head _)
  have hLt := NoTups.ns F.ns
  have hi1 : Sits (TupIs h1) vs rs := TupIs.sits hi k1 hLt
  have fD : s.heap.get? D = none := by
    cases q : s.heap.get? D with
    | none => rfl
    | some o => exact absurd rfl (dsnap (D, o) (snap_mem.mpr ⟨q, zD.2.1, zD.2.2⟩))
  -- the kind of the keys
  have tups : ∀ (vs : List Value) (rs : List (List Fld)) (b : Nat), Sits (TupIs h1) vs rs → (∀ (i : Nat) (r : List Fld), rs[i]? = some r → r.head? = some (Fld.int ((b + i : Nat) : Int))) →
      ∃ fs, KatTups h1 vs fs ∧ fs.length = vs.length ∧ ∀ v ∈ fs, ∃ i t, v = Value.int i t := by
    intro vs rs b hs
    induction hs generalizing b with
    | nil => intro _; exact ⟨[], KatTups.nil, rfl, by simp⟩
    | @cons v r vs rs p _ ih =>
      intro hn
      obtain ⟨a, its, rfl, ⟨o, ho, hc, n, hd⟩, hf⟩ := p
      obtain ⟨fs, t, l, q⟩ := ih (b + 1) fun i r hr => by rw [hn (i + 1) r (by simpa using hr)]; congr 2; omega
      have hh := hn 0 r rfl
      cases r with
      | nil => cases hh
      | cons f r =>
        simp only [List.head?_cons, Option.some.injEq] at hh
        subst hh
        obtain ⟨x, hx, tk, e⟩ := hf.get (i := 0) rfl
        subst e
        exact ⟨_ :: fs, KatTups.cons ho hc hd (by simpa using hx) t, by simp [l], fun v hv => (List.mem_cons.mp hv).elim (fun e => ⟨_, _, e⟩) (q v)⟩
  obtain ⟨fs, t, lf, q⟩ := tups vs rs 0 hi1 (by simpa [Numbered] using hn)
  refine kat_kind (T := Value.type "int") t (by omega) (fun v hv => ?_) rfl ?_
  · obtain ⟨i, tk, rfl⟩ := q v hv
    exact Looks.of_pure rfl
  have hk : tuples' (Value.type "int" != Value.type "tuple") = tuples' true := by congr 1
  rw [hk]
  rw [hlen]
  refine run_wp (n := rs.length) (c := lt2) (fun i j C hi' hj' hij hC => ?_) _ ok ?_
  · obtain ⟨ri, hri⟩ : ∃ r, rs[i]? = some r := ⟨_, List.getElem?_eq_getElem hi'⟩
    obtain ⟨rj, hrj⟩ : ∃ r, rs[j]? = some r := ⟨_, List.getElem?_eq_getElem hj'⟩
    obtain ⟨x, hx, a, ai, rfl, ⟨ox, hox, _, nx, hdx⟩, hfx⟩ := hi1.get hri
    obtain ⟨y, hy, b, bi, rfl, ⟨oy, hoy, _, ny, hdy⟩, hfy⟩ := hi1.get hrj
    have hni := hn i ri hri
    have hnj := hn j rj hrj
    have first : ∀ {its : Array Value} {r : List Fld} {k : Int}, Sits Fld.Is its.toList r → r.head? = some (.int k) → ∃ t vs, its.toList = Value.int k t :: vs := by
      intro its r k hs hh
      cases r with
      | nil => cases hh
      | cons f r =>
        simp only [List.head?_cons, Option.some.injEq] at hh
        subst hh
        generalize its.toList = l at hs
        cases hs with
        | cons p _ => obtain ⟨t, rfl⟩ := p; exact ⟨t, _, rfl⟩
    obtain ⟨ti, vi, ei⟩ := first hfx hni
    obtain ⟨tj, vj, ej⟩ := first hfy hnj
    show wpAny _ _ (keyLt' (tuples' true) (vs.getD i Value.none) (vs.getD j Value.none)) C _ _
    have gi : vs.getD i Value.none = .ref a := by rw [List.getD_eq_getElem?_getD, hx]; rfl
    have gj : vs.getD j Value.none = .ref b := by rw [List.getD_eq_getElem?_getD, hy]; rfl
    rw [gi, gj]
    refine kat_lt hox hdx hoy hdy ?_
    rw [ei, ej]
    refine kat_cons (wpAny_eqBool_int ?_)
    have hne : ((i : Int) == (j : Int)) = false := by simp; omega
    rw [hne]
    exact kat_no (oneLt_int hC)
  · have hout : ((run lt2 (kas_sort rs.length)).toList.map fun i => vs.getD i Value.none) = vs := by
      rw [hr, ← hlen]
      apply List.ext_getElem?
      intro i
      rw [List.getElem?_map]
      by_cases hi' : i < vs.length
      · rw [List.getElem?_range hi', Option.map_some, List.getD_eq_getElem?_getD, List.getElem?_eq_getElem hi']; rfl
      · rw [List.getElem?_eq_none (by simpa using hi'), List.getElem?_eq_none (by omega)]; rfl
    rw [hout]
    refine KasFin.intro F1 N1 (UpdF.head dsnap) fun h2' c F2 N2 => ?_
    exact h D h2' c F2 ((Snap.of F).keeps F2 (News.sub N2 fun p hp => .tail _ hp)) fD zD.2.1 zD.2.2 (N2 _ (.head _)).1
end Mine

end
section
open PySem PySem.W PySem.Calls PyProof.Rows PyProof.Rows.LCg
set_option maxRecDepth 100000
namespace Mine
/-! the tables of the law (printed by tables.py) -/
noncomputable def atomT : List Str := [(Str.ofString "[]"), (Str.ofString "."), (Str.ofString "{}"), (Str.ofString "-"), (Str.ofString "+"), (Str.ofString "*"), (Str.ofString "/"), (Str.ofString ","), (Str.ofString "|"), (Str.ofString ";"), (Str.ofString "->"), (Str.ofString "\\+"), (Str.ofString ":-"), (Str.ofString "?-"), (Str.ofString "-->"), (Str.ofString "!"), (Str.ofString "true"), (Str.ofString "fail"), (Str.ofString "false"), (Str.ofString "call"), (Str.ofString "="), (Str.ofString "^"), (Str.ofString "error"), (Str.ofString ""), (Str.ofString "end_of_file"), (Str.ofString "system"), (Str.ofString "$VAR"), (Str.ofString "catch"), (Str.ofString "throw")]
noncomputable def atomFs : List Fld := [.str (Str.ofString "[]"), .str (Str.ofString "."), .str (Str.ofString "{}"), .str (Str.ofString "-"), .str (Str.ofString "+"), .str (Str.ofString "*"), .str (Str.ofString "/"), .str (Str.ofString ","), .str (Str.ofString "|"), .str (Str.ofString ";"), .str (Str.ofString "->"), .str (Str.ofString "\\+"), .str (Str.ofString ":-"), .str (Str.ofString "?-"), .str (Str.ofString "-->"), .str (Str.ofString "!"), .str (Str.ofString "true"), .str (Str.ofString "fail"), .str (Str.ofString "false"), .str (Str.ofString "call"), .str (Str.ofString "="), .str (Str.ofString "^"), .str (Str.ofString "error"), .str (Str.ofString ""), .str (Str.ofString "end_of_file"), .str (Str.ofString "system"), .str (Str.ofString "$VAR"), .str (Str.ofString "catch"), .str (Str.ofString "throw")]
noncomputable def atomRows : List (List Fld) := [[.int 0, .str (Str.ofString "[]")], [.int 1, .str (Str.ofString ".")], [.int 2, .str (Str.ofString "{}")], [.int 3, .str (Str.ofString "-")], [.int 4, .str (Str.ofString "+")], [.int 5, .str (Str.ofString "*")], [.int 6, .str (Str.ofString "/")], [.int 7, .str (Str.ofString ",")], [.int 8, .str (Str.ofString "|")], [.int 9, .str (Str.ofString ";")], [.int 10, .str (Str.ofString "->")], [.int 11, .str (Str.ofString "\\+")], [.int 12, .str (Str.ofString ":-")], [.int 13, .str (Str.ofString "?-")], [.int 14, .str (Str.ofString "-->")], [.int 15, .str (Str.ofString "!")], [.int 16, .str (Str.ofString "true")], [.int 17, .str (Str.ofString "fail")], [.int 18, .str (Str.ofString "false")], [.int 19, .str (Str.ofString "call")], [.int 20, .str (Str.ofString "=")], [.int 21, .str (Str.ofString "^")], [.int 22, .str (Str.ofString "error")], [.int 23, .str (Str.ofString "")], [.int 24, .str (Str.ofString "end_of_file")], [.int 25, .str (Str.ofString "system")], [.int 26, .str (Str.ofString "$VAR")], [.int 27, .str (Str.ofString "catch")], [.int 28, .str (Str.ofString "throw")]]
noncomputable def funT : List (Str × Int) := [((Str.ofString "."), 2), ((Str.ofString ","), 2), ((Str.ofString ";"), 2), ((Str.ofString "->"), 2), ((Str.ofString "\\+"), 1), ((Str.ofString ":-"), 2), ((Str.ofString ":-"), 1), ((Str.ofString "?-"), 1), ((Str.ofString "-->"), 2), ((Str.ofString "{}"), 1), ((Str.ofString "="), 2), ((Str.ofString "^"), 2), ((Str.ofString "-"), 1), ((Str.ofString "-"), 2), ((Str.ofString "+"), 2), ((Str.ofString "/"), 2), ((Str.ofString "error"), 2), ((Str.ofString "$VAR"), 1), ((Str.ofString "catch"), 3), ((Str.ofString "throw"), 1), ((Str.ofString "!"), 0), ((Str.ofString "true"), 0), ((Str.ofString "fail"), 0), ((Str.ofString "false"), 0), ((Str.ofString "call"), 1), ((Str.ofString "call"), 2), ((Str.ofString "call"), 3), ((Str.ofString "call"), 4), ((Str.ofString "call"), 5), ((Str.ofString "call"), 6), ((Str.ofString "call"), 7), ((Str.ofString "call"), 8)]
noncomputable def funFs : List (List Fld) := [[.str (Str.ofString "."), .int 2], [.str (Str.ofString ","), .int 2], [.str (Str.ofString ";"), .int 2], [.str (Str.ofString "->"), .int 2], [.str (Str.ofString "\\+"), .int 1], [.str (Str.ofString ":-"), .int 2], [.str (Str.ofString ":-"), .int 1], [.str (Str.ofString "?-"), .int 1], [.str (Str.ofString "-->"), .int 2], [.str (Str.ofString "{}"), .int 1], [.str (Str.ofString "="), .int 2], [.str (Str.ofString "^"), .int 2], [.str (Str.ofString "-"), .int 1], [.str (Str.ofString "-"), .int 2], [.str (Str.ofString "+"), .int 2], [.str (Str.ofString "/"), .int 2], [.str (Str.ofString "error"), .int 2], [.str (Str.ofString "$VAR"), .int 1], [.str (Str.ofString "catch"), .int 3], [.str (Str.ofString "throw"), .int 1], [.str (Str.ofString "!"), .int 0], [.str (Str.ofString "true"), .int 0], [.str (Str.ofString "fail"), .int 0], [.str (Str.ofString "false"), .int 0], [.str (Str.ofString "call"), .int 1], [.str (Str.ofString "call"), .int 2], [.str (Str.ofString "call"), .int 3], [.str (Str.ofString "call"), .int 4], [.str (Str.ofString "call"), .int 5], [.str (Str.ofString "call"), .int 6], [.str (Str.ofString "call"), .int 7], [.str (Str.ofString "call"), .int 8]]
noncomputable def funRowsA : List (List Fld) := [[.int 0, .str (Str.ofString "."), .int 2], [.int 1, .str (Str.ofString ","), .int 2], [.int 2, .str (Str.ofString ";"), .int 2], [.int 3, .str (Str.ofString "->"), .int 2], [.int 4, .str (Str.ofString "\\+"), .int 1], [.int 5, .str (Str.ofString ":-"), .int 2], [.int 6, .str (Str.ofString ":-"), .int 1], [.int 7, .str (Str.ofString "?-"), .int 1], [.int 8, .str (Str.ofString "-->"), .int 2], [.int 9, .str (Str.ofString "{}"), .int 1], [.int 10, .str (Str.ofString "="), .int 2], [.int 11, .str (Str.ofString "^"), .int 2], [.int 12, .str (Str.ofString "-"), .int 1], [.int 13, .str (Str.ofString "-"), .int 2], [.int 14, .str (Str.ofString "+"), .int 2], [.int 15, .str (Str.ofString "/"), .int 2], [.int 16, .str (Str.ofString "error"), .int 2], [.int 17, .str (Str.ofString "$VAR"), .int 1], [.int 18, .str (Str.ofString "catch"), .int 3], [.int 19, .str (Str.ofString "throw"), .int 1], [.int 20, .str (Str.ofString "!"), .int 0], [.int 21, .str (Str.ofString "true"), .int 0], [.int 22, .str (Str.ofString "fail"), .int 0], [.int 23, .str (Str.ofString "false"), .int 0]]
noncomputable def funRowsB : List (List Fld) := [[.int 24, .str (Str.ofString "call"), .int 1], [.int 25, .str (Str.ofString "call"), .int 2], [.int 26, .str (Str.ofString "call"), .int 3], [.int 27, .str (Str.ofString "call"), .int 4], [.int 28, .str (Str.ofString "call"), .int 5], [.int 29, .str (Str.ofString "call"), .int 6], [.int 30, .str (Str.ofString "call"), .int 7], [.int 31, .str (Str.ofString "call"), .int 8]]
noncomputable def pairT : List (Int × Int) := [(1, 2), (7, 2), (9, 2), (10, 2), (11, 1), (12, 2), (12, 1), (13, 1), (14, 2), (2, 1), (20, 2), (21, 2), (3, 1), (3, 2), (4, 2), (6, 2), (22, 2), (26, 1), (27, 3), (28, 1), (15, 0), (16, 0), (17, 0), (18, 0), (19, 1), (19, 2), (19, 3), (19, 4), (19, 5), (19, 6), (19, 7), (19, 8)]
theorem atomFs_eq : atomFs = atomT.map Fld.str := rfl
theorem funFs_eq : funFs = funT.map fun p => [Fld.str p.1, Fld.int p.2] := rfl
noncomputable def Fld.num : Fld → Option Int
  | .int i => some i
  | _ => none
theorem numbered {rs : List (List Fld)} {n : Nat} (hn : rs.length = n) (k : ∀ i : Fin n, (rs[i.1]?.bind List.head?).bind Fld.num = some (i.1 : Int)) : Numbered rs := by
  intro i r h
  have hi := (List.getElem?_eq_some_iff.mp h).1
  have e := k ⟨i, by omega⟩
  rw [h] at e
  cases r with
  | nil => cases e
  | cons f r =>
    cases f with
    | int j =>
      have e' : some j = some (i : Int) := e
      rw [Option.some.inj e']; rfl
    | str x => cases e
theorem atomRows_num : Numbered atomRows := numbered (n := 29) rfl (by decide +kernel)
theorem funRows_num : Numbered (funRowsA ++ funRowsB) := numbered (n := 32) rfl (by decide +kernel)
theorem sort29 : runOk 29 lt2 (kas_sort 29) = true ∧ (run lt2 (kas_sort 29)).toList = List.range 29 := by decide +kernel
theorem sort32 : runOk 32 lt2 (kas_sort 32) = true ∧ (run lt2 (kas_sort 32)).toList = List.range 32 := by decide +kernel
end Mine

end
section
open PySem PySem.W PySem.Calls PyProof.Rows
set_option maxRecDepth 100000
set_option maxHeartbeats 8000000

namespace Mine

theorem c_fixed_atoms {w : World} {mean : ExcName → Option Value} {mg mb : Str → Option Value} {g₀ : Heap} {dp un : Nat} {fr : Option (List Env)} {gd : Option (List Code)} {s : Shared} {R : Result → Shared → Prop}
    (H : Here w mean mg mb g₀) (ext : g₀.StaysIn s.heap) (hA : dp + 10 < recursionLimit) (hU : un + 200 < cLine) (ret : ∀ h' tk l vs, Keeps [] s.heap h' → s.heap.get? l = none → IsTup h' l (List.toArray vs) → Sits Fld.Is vs atomFs → R (.ok (.ret (.ref l))) { s with heap := h', toks := tk }) :
    codeAny (model PySem.Challenge.rw_no0153_01.row.toRowW.prog w) ⟨none, dp, fr, gd, un⟩ (.call (.ref 21) ⟨[], []⟩) R s := by
  have hled : ∀ q ∈ ([] : List (Addr × Obj)), s.heap.get? q.1 = some q.2 ∧ g₀.get? q.1 = none := by simp
  have KX := H.X
  revert KX
  k_fill
  intro KX
  have T := H.T
  refine' enter KX T ext [] (binds := []) (hled) ?k6 ?k7 ?k8 ?k9 ?kB ?c2 ?c3 ?c4 ?c5 ?_
  case k6 => k_is
  case k7 => k_is
  case k8 => show dp < _; omega
  case k9 => exact BindsTo.of_eq rfl
  case c5 => decide
  case kB => exact locs rfl
  case c2 => exact rfl
  case c3 => exact rfl
  case c4 => exact rfl
  clear T KX
  intro g L' h₁ kg F' N' X' T' l1 st
  try dsimp only
  k_fold
  repeat' ((fail_if_success (with_reducible show Mid _)); first | (k_unfold; (try dsimp only)) | (k_end; wrow_close) | ((fail_if_success (with_reducible show wpAny _ _ (eval (PySem.Expr.Tuple _ _ _) _) _ _ _)); walk1) | ((fail_if_success (with_reducible show wpAny _ _ (eval (PySem.Expr.Tuple _ _ _) _) _ _ _)); dsimp only; walk1))
  refine Tuple_ ?_
  with_reducible refine' fields_eval (fs := atomFs) (g := g) (L := L') ?hf _ _ _ ?hF ?_
  case hF => exact F'
  case hf => unfold atomFs; repeat' (first | exact Fields.nil | refine Fields.cons gives_str ?_)
  intro vs tk hvs
  have hlen : vs.length = 29 := hvs.length
  refine wpAny_newTuple ?_ (by rw [sizeLine_eq]; omega)
  have k0 : Keeps [] s.heap h₁ := keeps_enter kg (fun q hq => (hled q hq).1) F' N'
  refine ret _ _ _ vs (k0.trans (Keeps.push _ _ _)) ?_ ⟨_, Heap.get?_push_size _ rfl, rfl, 0, rfl⟩ hvs
  cases q : s.heap.get? h₁.objs.size with
  | none => rfl
  | some o => exact absurd (Heap.lt_size (k0 _ _ q (by simp))) (Nat.lt_irrefl _)

theorem c_fixed_functors {w : World} {mean : ExcName → Option Value} {mg mb : Str → Option Value} {g₀ : Heap} {dp un : Nat} {fr : Option (List Env)} {gd : Option (List Code)} {s : Shared} {R : Result → Shared → Prop}
    (H : Here w mean mg mb g₀) (ext : g₀.StaysIn s.heap) (hA : dp + 10 < recursionLimit) (hU : un + 200 < cLine) (ret : ∀ h' tk l vs, Keeps [] s.heap h' → s.heap.get? l = none → IsTup h' l (List.toArray vs) → Sits (TupIs h') vs funFs → R (.ok (.ret (.ref l))) { s with heap := h', toks := tk }) :
    codeAny (model PySem.Challenge.rw_no0153_01.row.toRowW.prog w) ⟨none, dp, fr, gd, un⟩ (.call (.ref 28) ⟨[], []⟩) R s := by
  have hled : ∀ q ∈ ([] : List (Addr × Obj)), s.heap.get? q.1 = some q.2 ∧ g₀.get? q.1 = none := by simp
  have KX := H.X
  revert KX
  k_fill
  intro KX
  have T := H.T
  refine' enter KX T ext [] (binds := []) (hled) ?k6 ?k7 ?k8 ?k9 ?kB ?c2 ?c3 ?c4 ?c5 ?_
  case k6 => k_is
  case k7 => k_is
  case k8 => show dp < _; omega
  case k9 => exact BindsTo.of_eq rfl
  case c5 => decide
  case kB => exact locs rfl
  case c2 => exact rfl
  case c3 => exact rfl
  case c4 => exact rfl
  clear T KX
  intro g L' h₁ kg F' N' X' T' l1 st
  try dsimp only
  k_fold
  repeat' ((fail_if_success (with_reducible show Mid _)); first | (k_unfold; (try dsimp only)) | (k_end; wrow_close) | ((fail_if_success (with_reducible show wpAny _ _ (eval (PySem.Expr.Tuple _ _ _) _) _ _ _)); walk1) | ((fail_if_success (with_reducible show wpAny _ _ (eval (PySem.Expr.Tuple _ _ _) _) _ _ _)); dsimp only; walk1))
  refine Tuple_ ?_
  with_reducible refine' rows_eval (rs := funFs) (g := g) (L := L') ?hf _ _ _ ?hF ?_
  case hF => exact F'
  case hf => unfold funFs; repeat' (first | exact RowsOf.nil | refine RowsOf.cons (Nat.le_of_ble_eq_true rfl) (Fields.cons gives_str (Fields.cons gives_int Fields.nil)) ?_)
  intro vs h2 tk F2 k2 hvs
  have hlen : vs.length = 32 := hvs.length
  refine wpAny_newTuple ?_ (by rw [sizeLine_eq]; omega)
  have k0 : Keeps [] s.heap h2 := (keeps_enter kg (fun q hq => (hled q hq).1) F' N').trans k2
  refine ret _ _ _ vs (k0.trans (Keeps.push _ _ _)) ?_ ⟨_, Heap.get?_push_size _ rfl, rfl, 0, rfl⟩ (TupIs.sits hvs (Keeps.push [] _ _) (.nil _))
  cases q : s.heap.get? h2.objs.size with
  | none => rfl
  | some o => exact absurd (Heap.lt_size (k0 _ _ q (by simp))) (Nat.lt_irrefl _)

theorem c_law_atoms {w : World} {mean : ExcName → Option Value} {mg mb : Str → Option Value} {g₀ : Heap} {dp un : Nat} {fr : Option (List Env)} {gd : Option (List Code)} {s : Shared} {R : Result → Shared → Prop}
    (H : Here w mean mg mb g₀) (ext : g₀.StaysIn s.heap) (hA : dp + 10 < recursionLimit) (hU : un + 200 < cLine) (ret : ∀ h' tk l vs n, Keeps [] s.heap h' → s.heap.get? l = none → h'.get? l = some (listOf (List.toArray vs) n) → Sits (TupIs h') vs atomRows → R (.ok (.ret (.ref l))) { s with heap := h', toks := tk }) :
    codeAny (model PySem.Challenge.rw_no0153_01.row.toRowW.prog w) ⟨none, dp, fr, gd, un⟩ (.call (.ref 140) ⟨[], []⟩) R s := by
  have hled : ∀ q ∈ ([] : List (Addr × Obj)), s.heap.get? q.1 = some q.2 ∧ g₀.get? q.1 = none := by simp
  have KX := H.X
  revert KX
  k_fill
  intro KX
  have T := H.T
  refine' enter KX T ext [] (binds := []) (hled) ?k6 ?k7 ?k8 ?k9 ?kB ?c2 ?c3 ?c4 ?c5 ?_
  case k6 => k_is
  case k7 => k_is
  case k8 => show dp < _; omega
  case k9 => exact BindsTo.of_eq rfl
  case c5 => decide
  case kB => exact locs rfl
  case c2 => exact rfl
  case c3 => exact rfl
  case c4 => exact rfl
  clear T KX
  intro g L' h₁ kg F' N' X' T' l1 st
  try dsimp only
  k_fold
  repeat' ((fail_if_success (with_reducible show Mid _)); first | (k_unfold; (try dsimp only)) | (k_end; wrow_close) | ((fail_if_success (with_reducible show wpAny _ _ (eval (PySem.Expr.List _ _) _) _ _ _)); walk1) | ((fail_if_success (with_reducible show wpAny _ _ (eval (PySem.Expr.List _ _) _) _ _ _)); dsimp only; walk1))
  refine List_ ?_
  with_reducible refine' rows_eval (rs := atomRows) (g := g) (L := L') ?hf _ _ _ ?hF ?_
  case hF => exact F'
  case hf =>
    unfold atomRows
    repeat' (first | exact RowsOf.nil | refine RowsOf.cons (Nat.le_of_ble_eq_true rfl) (Fields.cons (gives_name X' T' (by k_is) rfl rfl (by decide)) (Fields.cons gives_str Fields.nil)) ?_)
  intro vs h2 tk F2 k2 hvs
  have hlen : vs.length = 29 := hvs.length
  refine wpAny_newList ?_ (by rw [sizeLine_eq]; omega)
  have k0 : Keeps [] s.heap h2 := (keeps_enter kg (fun q hq => (hled q hq).1) F' N').trans k2
  refine ret _ _ _ vs 0 (k0.trans (Keeps.push _ _ _)) ?_ (Heap.get?_push_size _ rfl) (TupIs.sits hvs (Keeps.push [] _ _) (.nil _))
  cases q : s.heap.get? h2.objs.size with
  | none => rfl
  | some o => exact absurd (Heap.lt_size (k0 _ _ q (by simp))) (Nat.lt_irrefl _)
end Mine

end
section
open PySem PySem.W PySem.Calls PyProof.Rows
set_option maxRecDepth 100000
set_option maxHeartbeats 8000000

namespace Mine

theorem rowB {i : Nat} (h : i < 8) : funRowsB.take (i + 1) = funRowsB.take i ++ [[Fld.int (24 + i : Nat), .str (Str.ofString "call"), .int (i + 1 : Nat)]] := by
  rcases i with _ | _ | _ | _ | _ | _ | _ | _ | i <;> first | rfl | omega
theorem c_law_functors {w : World} {mean : ExcName → Option Value} {mg mb : Str → Option Value} {g₀ : Heap} {dp un : Nat} {fr : Option (List Env)} {gd : Option (List Code)} {s : Shared} {R : Result → Shared → Prop}
    (H : Here w mean mg mb g₀) (ext : g₀.StaysIn s.heap) (hA : dp + 10 < recursionLimit) (hU : un + 200 < cLine) (ret : ∀ h' tk l vs n, Keeps [] s.heap h' → s.heap.get? l = none → h'.get? l = some (listOf (List.toArray vs) n) → Sits (TupIs h') vs (funRowsA ++ funRowsB) → R (.ok (.ret (.ref l))) { s with heap := h', toks := tk }) :
    codeAny (model PySem.Challenge.rw_no0153_01.row.toRowW.prog w) ⟨none, dp, fr, gd, un⟩ (.call (.ref 145) ⟨[], []⟩) R s := by
  have hled : ∀ q ∈ ([] : List (Addr × Obj)), s.heap.get? q.1 = some q.2 ∧ g₀.get? q.1 = none := by simp
  have KX := H.X
  revert KX
  k_fill
  intro KX
  have T := H.T
  refine' enterC KX T ext [] (binds := []) (hled) ?k6 ?k7 ?k8 ?k9 ?kB ?kD ?c2 ?c3 ?c4 ?_
  case k6 => k_is
  case k7 => k_is
  case k8 => show dp < _; omega
  case k9 => exact BindsTo.of_eq rfl
  case kB => exact rfl
  case kD => decide +kernel
  case c2 => exact rfl
  case c3 => exact rfl
  case c4 => exact rfl
  clear T KX
  intro g L' h₁ tk₁ cells kg F' N' Y' X' T' l1 st
  k_cells Y'
  rename_i oc dc
  simp only [List.cons_append, List.nil_append] at N'
  replace F' : Fr g L' h₁ (fun _ => none) := F'
  have k0 : Keeps [] s.heap h₁ := keeps_enter kg (fun q hq => (hled q hq).1) F' (News.nil)
  show wpAny _ _ _ _ _ _
  try dsimp only
  k_fold
  repeat' ((fail_if_success (with_reducible show Mid _)); first | (k_unfold; (try dsimp only)) | (k_end; wrow_close) | ((fail_if_success (with_reducible show wpAny _ _ (eval (PySem.Expr.List _ _) _) _ _ _)); walk1) | ((fail_if_success (with_reducible show wpAny _ _ (eval (PySem.Expr.List _ _) _) _ _ _)); dsimp only; walk1))
  refine List_ ?_
  with_reducible refine' rows_eval (rs := funRowsA) (g := g) (L := L') ?hf _ _ _ ?hF ?_
  case hF => exact F'
  case hf =>
    unfold funRowsA
    repeat' (first | exact RowsOf.nil | refine RowsOf.cons (Nat.le_of_ble_eq_true rfl) (Fields.cons (gives_name X' T' (by k_is) rfl rfl (by decide)) (Fields.cons gives_str (Fields.cons gives_int Fields.nil))) ?_)
  intro vs h2 tk F2 k2 hvs
  have hlen : vs.length = 24 := hvs.length
  refine wpAny_newList ?_ (by rw [sizeLine_eq]; omega)
  have F3 := F2.push { cls := .type "list", data := .seq (List.toArray vs) 0 }
  have N2 := News.but N' k2 (by simp)
  have N3 : News g L' (h2.push { cls := .type "list", data := .seq (List.toArray vs) 0 }) [(h2.objs.size, listOf (List.toArray vs) 0), (L' + 1, oc)] := N2.push F2 _
  have r3 := TupIs.sits hvs (Keeps.push [] h2 { cls := .type "list", data := .seq (List.toArray vs) 0 }) (.nil _)
  have k3 : Keeps [] s.heap (h2.push { cls := .type "list", data := .seq (List.toArray vs) 0 }) := (k0.trans k2).trans (Keeps.push _ _ _)
  generalize h2.push { cls := .type "list", data := .seq (List.toArray vs) 0 } = h3 at F3 N3 r3 k3 ⊢
  have l3 := ltN (show h2.objs.size < h3.objs.size from Heap.lt_size (N3 _ (.head _)).1)
  clear F' N' F2 N2 k0 k2 hvs
  replace dc : oc.data = .cell none := dc
  have zr := N3 _ (.head _)
  have zc := N3 _ (.tail _ (.head _))
  clear N3
  generalize h2.objs.size = rw at F3 zr l3 ⊢
  dsimp only at zr zc ⊢
  have sn := snap_news g L' h3
  have S3 := Snap.of F3
  repeat' ((fail_if_success (with_reducible show Mid _)); first | (k_unfold; (try dsimp only)) | (k_end; wrow_close) | ((fail_if_success (with_reducible show wpAny _ _ (storeName _ (Str.ofString "calls") _) _ _ _)); walk1) | ((fail_if_success (with_reducible show wpAny _ _ (storeName _ (Str.ofString "calls") _) _ _ _)); dsimp only; walk1))
  rename_i l4 h4 F4 N4 l4'
  have k4 := S3.keeps F4 (News.sub N4 fun p hp => .tail _ hp)
  have e4 := N4 _ (.head _)
  obtain ⟨ca, hca, e4c⟩ : ∃ ca : List Value, (∀ i, i < 8 → ∃ t, ca[i]? = some (.int (24 + i : Nat) t)) ∧ h4.get? l4 = some (listOf ca.toArray 0) :=
    ⟨_, fun i hi => by rcases i with _ | _ | _ | _ | _ | _ | _ | _ | i <;> first | exact ⟨_, rfl⟩ | omega, e4.1⟩
  replace e4 := And.intro e4c e4.2
  have n4c : l4 ≠ L' + 1 := Nat.ne_of_gt (l4' (L' + 1, oc) (snap_mem.mpr zc))
  have n4r : l4 ≠ rw := Nat.ne_of_gt (l4' (rw, _) (snap_mem.mpr zr))
  have nrc : rw ≠ L' + 1 := fun e => by rw [e, zc.1] at zr; rw [Option.some.inj zr.1] at dc; cases dc
  have c4 := k4 _ _ zc.1 (by simpa using zc.2.1)
  have r4 := TupIs.sits r3 k4 S3.nt
  have z4 := k4 _ _ zr.1 (by simpa using zr.2.1)
  have k04 : Keeps [L'] s.heap h4 := (k3.mono (by simp)).trans k4
  clear N4
  refine wpAny_storeName_cell rfl rfl rfl ⟨oc, c4, dc⟩ fun h5 hv hs5 => ?_
  obtain ⟨oc5, ec5, dc5⟩ := hv
  have F5 := F4.change hs5 zc.2.1 zc.2.2
  have z5 := hs5.extBut _ _ nrc z4
  have e5 := hs5.extBut _ _ n4c e4.1
  have r5 := TupIs.sits r4 (Keeps.same hs5 (.head [])) (.cons c4 (.inr fun a k e => by rw [dc] at e; cases e) (.nil _))
  have k05 : Keeps [L', L' + 1] s.heap h5 := fun b o e hb => hs5.extBut _ _ (by simp at hb; exact hb.2) (k04 b o e (by simp at hb ⊢; exact hb.1))
  have N5 : News g L' h5 [(rw, listOf (List.toArray vs) 0), (L' + 1, oc5), _] := News.cons z5 zr.2.1 zr.2.2 (News.cons ec5 zc.2.1 zc.2.2 (News.cons e5 e4.2.1 e4.2.2 News.nil))
  clear F4 S3
  repeat' ((fail_if_success (with_reducible show Mid _)); first | (k_unfold; (try dsimp only)) | (k_end; wrow_close) | ((fail_if_success (with_reducible show wpAny _ _ (eval (PySem.Expr.ListComp _ _ _ _) _) _ _ _)); walk1) | ((fail_if_success (with_reducible show wpAny _ _ (eval (PySem.Expr.ListComp _ _ _ _) _) _ _ _)); dsimp only; walk1))
  refine comp_head (cl := [((Str.ofString "calls"), L' + 1)]) (by with_unfolding_all rfl) rfl (by decide) ?_
  repeat' ((fail_if_success (with_reducible show Mid _)); first | (k_unfold; (try dsimp only)) | (k_end; wrow_close) | ((fail_if_success (with_reducible show wpAny _ _ (pyIter _) _ _ _)); walk1) | ((fail_if_success (with_reducible show wpAny _ _ (pyIter _) _ _ _)); dsimp only; walk1))
  rename_i h6 _ _ _ _ hR F6 N6 k6
  have y1 := (N6 _ (.head _)).1
  have y2 := (N6 _ (.tail _ (.head _))).1
  have y3 := (N6 _ (.tail _ (.tail _ (.head _)))).1
  have r6 := TupIs.sits (h' := h6) r5 (S := []) (fun b o e _ => k6 b o e) (.nil _)
  have k06 : Keeps [L', L' + 1] s.heap h6 := fun b o e hb => k6 b o (k05 b o e hb)
  clear k6 N6
  dsimp only at y1 y2 y3
  refine comp_range (n := 8) (compPost _ _ _ none _) rfl hR (by decide) (by decide) (by rw [sizeLine_eq]; omega) (by decide) rfl (by decide) F6
    (fun i ys h => h.get? (L' + 1) = some oc5 ∧ h.get? l4 = some (listOf ca.toArray 0) ∧ h.get? rw = some (listOf vs.toArray 0) ∧ Sits (TupIs h) vs funRowsA ∧ Sits (TupIs h) ys (funRowsB.take i))
    ⟨y2, y3, y1, r6, .nil⟩ ?_ ?_ ?_
  · rintro i ys h h' S ⟨a1, a2, a3, a4, a5⟩ k nt hS
    have no : ∀ a, (∃ o, h6.get? a = some o) → a ∉ S := fun a ⟨o, e⟩ hb => by rw [hS a hb] at e; cases e
    exact ⟨k _ _ a1 (no _ ⟨_, y2⟩), k _ _ a2 (no _ ⟨_, y3⟩), k _ _ a3 (no _ ⟨_, y1⟩), TupIs.sits a4 k nt, TupIs.sits a5 k nt⟩
  · rintro i t ys C D oI oC m₂ h tk hi' ⟨a1, a2, a3, a4, a5⟩ hoC hm F N n1 n2 n3 zC zD
    obtain ⟨tc, hc8⟩ := hca i hi'
    have NN := News.cons a1 zc.2.1 zc.2.2 (News.cons a2 e4.2.1 e4.2.2 (News.cons a3 zr.2.1 zr.2.2 N))
    have Kh : Keeps [] h h := Keeps.refl _ _
    have fp := (N _ (.head _)).1
    clear N
    dsimp only at NN n1 n2 fp ⊢
    rw [Int.zero_add] at hm
    repeat' ((fail_if_success (with_reducible show Mid _)); first | (k_unfold; (try dsimp only)) | (k_end; wrow_close) | ((fail_if_success (with_reducible show wpAny _ _ (subscriptTail _ _ _ _) _ _ _)); walk1) | ((fail_if_success (with_reducible show wpAny _ _ (subscriptTail _ _ _ _) _ _ _)); dsimp only; walk1))
    refine item_litK (News.isList NN (.tail _ (.head _))) (by omega) (by omega) (by simpa using hc8) ?_ (by with_unfolding_all rfl)
    repeat' ((fail_if_success (with_reducible show Mid _)); first | (k_unfold; (try dsimp only)) | (k_end; wrow_close) | ((fail_if_success (with_reducible show wpAny _ _ (newTuple _) _ _ _)); walk1) | ((fail_if_success (with_reducible show wpAny _ _ (newTuple _) _ _ _)); dsimp only; walk1))
    refine wpAny_newTuple ?_ (by simp only [List.length_cons, List.length_nil]; rw [sizeLine_eq]; omega)
    refine ⟨_, _, rfl, F.push _, (News.sub NN (by kqd_sub)).grown fun b o e => Heap.get?_push_of_some _ e, fun b _ o e => Heap.get?_push_of_some _ e, Heap.get?_push_of_some _ a1, Heap.get?_push_of_some _ a2, Heap.get?_push_of_some _ a3,
      TupIs.sits a4 (Keeps.push [] _ _) (.nil _), ?_⟩
    rw [rowB hi']
    refine (TupIs.sits a5 (Keeps.push [] _ _) (.nil _)).append (.cons (tup_new (h := h) (.cons ⟨_, rfl⟩ (.cons ⟨_, rfl⟩ (.cons ⟨_, rfl⟩ .nil)))) .nil)
  · rintro C D oC m₂ h tk ys F ⟨a1, a2, a3, a4, a5⟩ hC N hCD zC zD
    dsimp only at zC zD
    have c2 : C ≠ rw := fun e => by rw [e, y1] at zC; cases zC
    refine post_none F hC N hCD fun h7 k7 nt7 F7 N7 => ?_
    have r7 := k7 _ _ a3 (by simpa using Ne.symm c2)
    have b4 := TupIs.sits a4 k7 nt7
    have b5 : Sits (TupIs h7) ys funRowsB := TupIs.sits (show Sits (TupIs h) ys funRowsB from a5) k7 nt7
    have N8 := News.cons r7 zr.2.1 zr.2.2 N7
    have S7 := Snap.of F7
    have sn := snap_news g L' h7
    have l5 : ys.length = 8 := b5.length
    clear N N7 F
    repeat' ((fail_if_success (with_reducible show Mid _)); first | (k_unfold; (try dsimp only)) | (k_end; wrow_close) | ((fail_if_success (with_reducible show wpAny _ _ (binaryOp _ _ _) _ _ _)); walk1) | ((fail_if_success (with_reducible show wpAny _ _ (binaryOp _ _ _) _ _ _)); dsimp only; walk1))
    clear sn
    refine add_arrays F7 (snap_news g L' h7) (News.isList N8 (.head _)) (News.isList N8 (.tail _ (.head _))) (fun h9 F9 N9 => ?_) (by rw [List.size_toArray, List.size_toArray, sizeLine_eq]; omega)
    have k9 := S7.keeps F9 (News.sub N9 fun p hp => .tail _ hp)
    have e9 := N9 _ (.head _)
    dsimp only at k9 e9 ⊢
    have hout : Sits (TupIs h9) (vs ++ ys) (funRowsA ++ funRowsB) := (TupIs.sits b4 k9 S7.nt).append (TupIs.sits b5 k9 S7.nt)
    refine ret h9 _ _ (vs ++ ys) 0 (fun b o e _ => F9.keep b o (kg b o e (by simp))) ?_ e9.1 hout
    cases q : s.heap.get? h7.objs.size with
    | none => rfl
    | some o => exact absurd (Heap.lt_size (F7.keep _ _ (kg _ _ q (by simp)))) (Nat.lt_irrefl _)
end Mine

end
section
open PySem PySem.W PySem.Calls PyProof.Rows PyProof.Rows.LCg
set_option maxRecDepth 100000
namespace Mine

theorem take_ins {α : Type} [DecidableEq α] {ts : List α} (nd : ts.Nodup) {i : Nat} {x : α} (h : ts[i]? = some x) : ins (ts.take i) x = ts.take (i + 1) := by
  have hx : x ∉ ts.take i := fun hm => by
    obtain ⟨j, hj⟩ := List.mem_iff_getElem?.mp hm
    have hj' := (List.getElem?_eq_some_iff.mp hj).1
    rw [List.length_take] at hj'
    rw [List.getElem?_take_of_lt (by omega)] at hj
    have := (List.getElem?_inj (by have := (List.getElem?_eq_some_iff.mp h).1; omega) nd).mp (hj.trans h.symm)
    omega
  rw [ins_new hx, List.take_add_one, h]; rfl

theorem SymAt.here {prog : Program} {w : World} {g₀ h : Heap} {a : SA} {ts : List Str} {ps : List (Int × Int)} (Y : SymAt prog w g₀ h a ts ps) : ∀ b ∈ a.all, ∃ o, h.get? b = some o := by
  obtain ⟨Yi, ⟨t1, t2, t3, t4, Yd⟩, ⟨vs, n, Yt, Ys⟩, ⟨oa, Yo, Ya⟩, ⟨xs, of, nf, Yl, Yn, YF, YA⟩, _⟩ := Y
  intro b hb
  simp only [SA.all, List.mem_cons, List.not_mem_nil, or_false] at hb
  rcases hb with rfl | rfl | rfl | rfl | rfl | rfl
  · exact ⟨_, Yi⟩
  · exact ⟨_, Yd⟩
  · exact ⟨_, Yt⟩
  · exact ⟨_, Yo⟩
  · exact ⟨_, Yl⟩
  · exact ⟨_, Yn⟩
theorem tup_ne_ns {h : Heap} {a L : Addr} {its : Array Value} {m : Str → Option Value} (ht : IsTup h a its) (n : h.Ns L m) : a ≠ L := fun e => by
  subst e
  obtain ⟨o, e1, _, k, e2⟩ := ht
  obtain ⟨oL, es, ep, e3, e4, _⟩ := n
  rw [e1] at e3; cases e3
  rw [e2] at e4; cases e4
/-- addresses where nothing of the table stands -/
theorem SymAt.off {prog : Program} {w : World} {g₀ h : Heap} {a : SA} {ts : List Str} {ps : List (Int × Int)} (Y : SymAt prog w g₀ h a ts ps) {b : Addr} (hb : h.get? b = none) : b ∉ a.all := fun hm => by
  obtain ⟨o, e⟩ := Y.here b hm
  rw [hb] at e; cases e

theorem sym_new {prog : Program} {w : World} {g₀ g h : Heap} {L x d tl an fl fn : Addr} {o1 o2 : Obj} {t1 t2 t3 t4 : Tok} {n1 n2 : Nat} (st : g₀.StaysIn g)
    (N : News g L h [(fn, o2), (fl, listOf #[] n2), (an, o1), (tl, listOf #[] n1), (x, instObj 115 d), (d, dictOf (symEntries w ⟨x, d, tl, an, fl, fn⟩ t1 t2 t3 t4) 4)])
    (h1 : o1.IsDictOf (strKind prog w) []) (h2 : o2.IsDictOf (intKind prog w) []) (l1 : (an == sysModules) = false) (l2 : (fn == sysModules) = false) (gx : g₀.get? x = none) (gd : g₀.get? d = none) (nxd : x ≠ d)
    (ia : x < tl ∧ d < tl) (ib : tl < an ∧ x < an ∧ d < an) (ic : an < fl ∧ tl < fl ∧ x < fl ∧ d < fl) (id : fl < fn ∧ an < fn ∧ tl < fn ∧ x < fn ∧ d < fn) : SymAt prog w g₀ h ⟨x, d, tl, an, fl, fn⟩ [] [] := by
  have nn : ∀ b, g.get? b = none → g₀.get? b = none := fun b e => by
    cases q : g₀.get? b with
    | none => rfl
    | some o => rw [st _ _ q] at e; cases e
  have zfn := N _ (.head _)
  have zfl := N _ (.tail _ (.head _))
  have zan := N _ (.tail _ (.tail _ (.head _)))
  have ztl := N _ (.tail _ (.tail _ (.tail _ (.head _))))
  have zx := N _ (.tail _ (.tail _ (.tail _ (.tail _ (.head _)))))
  have zd := N _ (.tail _ (.tail _ (.tail _ (.tail _ (.tail _ (.head _))))))
  refine ⟨zx.1, ⟨t1, t2, t3, t4, zd.1⟩, ⟨[], n1, ztl.1, .nil⟩, ⟨o1, zan.1, [], h1, rfl, fun i p e => by simp at e⟩, ⟨[], o2, n2, zfl.1, zfn.1, ?_, ⟨rfl, fun i p e => by simp [kvsOf] at e⟩, fun y hy => nomatch hy⟩, ?_, ?_, l1, l2, List.nodup_nil, List.nodup_nil⟩
  · obtain ⟨es, ep, hc, hd, _, hp, _⟩ := h2
    refine ⟨hc, es, ep, hd, ?_⟩
    cases q : es.toList with
    | nil => rfl
    | cons e r => rw [q] at hp; cases hp
  · intro b hb
    simp only [SA.all, List.mem_cons, List.not_mem_nil, or_false] at hb
    rcases hb with rfl | rfl | rfl | rfl | rfl | rfl
    · exact gx
    · exact gd
    · exact nn _ ztl.2.2
    · exact nn _ zan.2.2
    · exact nn _ zfl.2.2
    · exact nn _ zfn.2.2
  · have key : ∀ x d tl an fl fn : Nat, x ≠ d → x < tl ∧ d < tl → tl < an ∧ x < an ∧ d < an → an < fl ∧ tl < fl ∧ x < fl ∧ d < fl → fl < fn ∧ an < fn ∧ tl < fn ∧ x < fn ∧ d < fn → [x, d, tl, an, fl, fn].Nodup := by
      intro x d tl an fl fn a b c e f
      simp only [List.nodup_cons, List.mem_cons, List.not_mem_nil, or_false, not_or, not_false_eq_true, List.nodup_nil, and_true]
      omega
    exact key _ _ _ _ _ _ nxd ia ib ic id

theorem row2 {h : Heap} {v : Value} {x : Str} {y : Int} (p : TupIs h v [.str x, .int y]) : ∃ a t u, v = .ref a ∧ IsTup h a #[.str x t, .int y u] := by
  obtain ⟨a, its, rfl, ht, hi⟩ := p
  obtain ⟨l⟩ := its
  cases hi with
  | cons p hi =>
    cases hi with
    | cons q hi =>
      cases hi
      obtain ⟨t, rfl⟩ := p
      obtain ⟨u, rfl⟩ := q
      exact ⟨a, t, u, rfl, ht⟩
theorem SA.sub2 (a : SA) : ∀ b ∈ [a.tl, a.an], b ∈ a.all := fun b hb => by
  simp only [List.mem_cons, List.not_mem_nil, or_false] at hb
  rcases hb with rfl | rfl <;> simp [SA.all]
theorem SA.subf (a : SA) : ∀ b ∈ [a.fl, a.fn], b ∈ a.all := fun b hb => by
  simp only [List.mem_cons, List.not_mem_nil, or_false] at hb
  rcases hb with rfl | rfl <;> simp [SA.all]
theorem SA.sub4 (a : SA) : ∀ b ∈ [a.tl, a.an, a.fl, a.fn], b ∈ a.all := fun b hb => by
  simp only [List.mem_cons, List.not_mem_nil, or_false] at hb
  rcases hb with rfl | rfl | rfl | rfl <;> simp [SA.all]
theorem atomT_nodup : atomT.Nodup := by decide +kernel
theorem pairT_nodup : pairT.Nodup := by decide +kernel
theorem funT_ok : ∀ i : Fin 32, (funT[i.1]?.all fun p => decide (p.1 ∈ atomT) && decide (pairT[i.1]? = some ((ix atomT p.1 : Int), p.2))) = true := by decide +kernel
theorem funs_of {i : Nat} {r : List Fld} (h : funFs[i]? = some r) : ∃ x y, r = [.str x, .int y] ∧ x ∈ atomT ∧ pairT[i]? = some ((ix atomT x : Int), y) := by
  have hi : i < 32 := (List.getElem?_eq_some_iff.mp h).1
  rw [funFs_eq, List.getElem?_map] at h
  have k := funT_ok ⟨i, hi⟩
  cases q : funT[i]? with
  | none => rw [q] at h; cases h
  | some p =>
    rw [q] at h
    dsimp only at k
    rw [q] at k
    simp only [Option.all_some, Bool.and_eq_true, decide_eq_true_eq] at k
    simp only [Option.map_some, Option.some.injEq] at h
    exact ⟨p.1, p.2, h.symm, k.1, k.2⟩
theorem atoms_of {i : Nat} {f : Fld} (h : atomFs[i]? = some f) : ∃ x, f = .str x ∧ atomT[i]? = some x := by
  rw [atomFs_eq, List.getElem?_map] at h
  cases q : atomT[i]? with
  | none => rw [q] at h; cases h
  | some x => rw [q] at h; exact ⟨x, (Option.some.inj h).symm, rfl⟩
end Mine

end
section
open PySem PySem.W PySem.Calls PyProof.Rows
set_option maxRecDepth 100000
set_option maxHeartbeats 8000000

namespace Mine

theorem c_init {w : World} {mean : ExcName → Option Value} {mg mb : Str → Option Value} {g₀ : Heap} {dp un : Nat} {fr : Option (List Env)} {gd : Option (List Code)} {s : Shared} {R : Result → Shared → Prop} {x d : Addr}
    (H : Here w mean mg mb g₀) (ext : g₀.StaysIn s.heap) (hA : dp + 100 < recursionLimit) (hU : un + 2000 < cLine) (hx : s.heap.get? x = some (instObj 115 d)) (hd : s.heap.get? d = some (dictOf [] 0)) (nxd : x ≠ d) (gx : g₀.get? x = none) (gd' : g₀.get? d = none)
    (ret : ∀ h' tk a, a.sg = x → a.dx = d → (∀ b ∈ [a.tl, a.an, a.fl, a.fn], s.heap.get? b = none) → Keeps [d] s.heap h' → SymAt PySem.Challenge.rw_no0153_01.row.toRowW.prog w g₀ h' a atomT pairT → R (.ok (.ret .none)) { s with heap := h', toks := tk }) :
    codeAny (model PySem.Challenge.rw_no0153_01.row.toRowW.prog w) ⟨none, dp, fr, gd, un⟩ (.call (.ref 42) ⟨[.ref x], []⟩) R s := by
  have hled : ∀ q ∈ [(x, instObj 115 d), (d, dictOf [] 0)], s.heap.get? q.1 = some q.2 ∧ g₀.get? q.1 = none := by simpa using ⟨⟨hx, gx⟩, hd, gd'⟩
  have KX := H.X
  revert KX
  k_fill
  intro KX
  have T := H.T
  refine' enter KX T ext [(x, instObj 115 d), (d, dictOf [] 0)] (binds := [((Str.ofString "self"), Value.ref x)]) (hled) ?k6 ?k7 ?k8 ?k9 ?kB ?c2 ?c3 ?c4 ?c5 ?_
  case k6 => k_is
  case k7 => k_is
  case k8 => show dp < _; omega
  case k9 => exact BindsTo.of_eq rfl
  case c5 => decide
  case kB => exact locs rfl
  case c2 => exact rfl
  case c3 => exact rfl
  case c4 => exact rfl
  clear T KX
  intro g L' h₁ kg F' N' X' T' l1 st
  have nd := neN nxd
  have lx := ltN (l1 _ (.head _))
  have ld := ltN (l1 _ (.tail _ (.head _)))
  clear l1
  show wpAny _ _ _ _ _ _
  try dsimp only
  k_fold
  repeat' ((fail_if_success (with_reducible show Mid _)); first | (k_unfold; (try dsimp only)) | (k_end; wrow_close) | ((fail_if_success (with_reducible show wpAny _ _ (exec (Stmt.For _ _ _ _ _) _) _ _ _)); walk1) | ((fail_if_success (with_reducible show wpAny _ _ (exec (Stmt.For _ _ _ _ _) _) _ _ _)); dsimp only; walk1))
  rename_i tl _ ia _ _ an _ o1 lo1 hs1 fs1 hi1 fi1 ib _ fl _ ic _ fn _ o2 lo2 hs2 fs2 hi2 fi2 id' h2 F2 N2
  have Y2 := sym_new st N2 hs1 hi2 lo1 lo2 gx gd' nxd ia ib ic id'
  have frs : ∀ b, b ≠ x → b ≠ d → g.get? b = none → s.heap.get? b = none := fun b n1 n2 e => by
    cases q : s.heap.get? b with
    | none => rfl
    | some o => rw [kg b o q (by simpa using ⟨n1, n2⟩)] at e; cases e
  have fresh : ∀ b ∈ [tl, an, fl, fn], s.heap.get? b = none := by
    intro b hb
    simp only [List.mem_cons, List.not_mem_nil, or_false] at hb
    rcases hb with rfl | rfl | rfl | rfl
    · exact frs _ (Nat.ne_of_gt ia.1) (Nat.ne_of_gt ia.2) (N2 _ (.tail _ (.tail _ (.tail _ (.head _))))).2.2
    · exact frs _ (Nat.ne_of_gt ib.2.1) (Nat.ne_of_gt ib.2.2) (N2 _ (.tail _ (.tail _ (.head _)))).2.2
    · exact frs _ (Nat.ne_of_gt ic.2.2.1) (Nat.ne_of_gt ic.2.2.2) (N2 _ (.tail _ (.head _))).2.2
    · exact frs _ (Nat.ne_of_gt id'.2.2.2.1) (Nat.ne_of_gt id'.2.2.2.2) (N2 _ (.head _)).2.2
  clear frs
  have nL : L' ∉ (SA.mk x d tl an fl fn).all := fun q => by
    have e := fun q hq => (N2 q hq).2.1.symm
    simp only [List.forall_mem_cons] at e
    simp only [SA.all, List.mem_cons, List.not_mem_nil, or_false] at q
    grind
  have nG : ∀ b ∈ (SA.mk x d tl an fl fn).all, g.get? b = none := fun b hb => by
    have e := fun q hq => (N2 q hq).2.2
    simp only [List.forall_mem_cons] at e
    simp only [SA.all, List.mem_cons, List.not_mem_nil, or_false] at hb
    grind
  clear N2 fs1 fi1 fs2 fi2 hs1 hi1 hs2 hi2 ia ib ic id'
  refine wpAny_For ?_
  repeat' ((fail_if_success (with_reducible show Mid _)); first | (k_unfold; (try dsimp only)) | (k_end; wrow_close) | ((fail_if_success (with_reducible show wpAny _ _ (call (Value.ref _) _ _) _ _ _)); walk1) | ((fail_if_success (with_reducible show wpAny _ _ (call (Value.ref _) _ _) _ _ _)); dsimp only; walk1))
  refine wpAny_call (c_fixed_atoms H (fun b o e => F2.keep _ _ (st b o e)) (by show dp + 1 + 10 < _; omega) (by show un + 3 + 200 < _; omega) fun h3 tk3 tu vs k3 ft it hvs => ?_)
  have F3 := Fr.but F2 k3 (by simp) (by simp)
  have Y3 := Y2.but k3 (.nil _) (by simp)
  have nt : tu ∉ (SA.mk x d tl an fl fn).all := Y2.off ft
  dsimp only at F3 Y3 it k3 ⊢
  clear F2 Y2
  repeat' ((fail_if_success (with_reducible show Mid _)); first | (k_unfold; (try dsimp only)) | (k_end; wrow_close) | ((fail_if_success (with_reducible show wpAny _ _ (pyIter _) _ _ _)); walk1) | ((fail_if_success (with_reducible show wpAny _ _ (pyIter _) _ _ _)); dsimp only; walk1))
  have len : vs.length = 29 := hvs.length
  have off3 := Y3.off (b := h3.objs.size) (by
    cases q : h3.get? h3.objs.size with
    | none => rfl
    | some o => exact absurd (Heap.lt_size q) (Nat.lt_irrefl _))
  refine iter_tuple_J rfl it (tup_ne_ns it F3.ns) rfl rfl F3
    (fun i m h => m (Str.ofString "self") = some (.ref x) ∧ SymAt PySem.Challenge.rw_no0153_01.row.toRowW.prog w g₀ h ⟨x, d, tl, an, fl, fn⟩ (atomT.take i) []) ⟨rfl, by simpa using Y3⟩ ?_ ?_ ?_
  · rintro i m h h' ⟨j1, j2⟩ k nt
    refine ⟨j1, j2.but k nt fun b hb q => ?_⟩
    simp only [List.mem_cons, List.not_mem_nil, or_false] at q
    rcases q with rfl | rfl
    · exact nL hb
    · exact off3 hb
  · rintro i v m h tk oI hv ⟨j1, j2⟩ F hI hT
    rw [know j1] at F
    obtain ⟨f, hf, hvf⟩ := hvs.get' (by simpa using hv)
    obtain ⟨y, rfl, hy⟩ := atoms_of hf
    obtain ⟨t, rfl⟩ := hvf
    obtain ⟨t1, t2, t3, t4, Yd⟩ := j2.dict
    have Yi := j2.inst
    dsimp only at Yd Yi hI
    have N : News g L' h [(x, instObj 115 d), (d, dictOf (symEntries w ⟨x, d, tl, an, fl, fn⟩ t1 t2 t3 t4) 4)] := News.cons Yi (Nat.ne_of_lt lx) (nG _ (by simp [SA.all])) (News.cons Yd (Nat.ne_of_lt ld) (nG _ (by simp [SA.all])) News.nil)
    clear Yd Yi
    repeat' ((fail_if_success (with_reducible show Mid _)); first | (k_unfold; (try dsimp only)) | (k_end; wrow_close) | ((fail_if_success (with_reducible show wpAny _ _ (call (Value.ref _) _ _) _ _ _)); walk1) | ((fail_if_success (with_reducible show wpAny _ _ (call (Value.ref _) _ _) _ _ _)); dsimp only; walk1))
    have l29 : atomT.length = 29 := rfl
    refine wpAny_call (c_atom (a := ⟨x, d, tl, an, fl, fn⟩) H (fun b o e => F.keep _ _ (st b o e)) (by show dp + 1 + 10 < _; omega) (by show un + 3 + 200 < _; omega) j2 (by rw [List.length_take]; omega) fun h4 tk4 t5 k4 Y4 => ?_)
    rw [take_ins atomT_nodup hy] at Y4
    dsimp only at k4 Y4 ⊢
    have F4 := Fr.but F k4 (fun q => nL (SA.sub2 _ _ q)) (fun b hb => nG b (SA.sub2 _ _ hb))
    clear F N
    repeat' ((fail_if_success (with_reducible show Mid _)); first | (k_unfold; (try dsimp only)) | (k_end; wrow_close) | (walk1) | (dsimp only; walk1))
    refine ⟨h4, _, _, rfl, F4, ⟨rfl, Y4⟩, k4 _ _ hI (fun q => off3 (SA.sub2 _ _ q)), fun o e => k4 _ _ e (fun q => nt (SA.sub2 _ _ q))⟩
  · rintro m h tk F ⟨j1, j2⟩
    rw [know j1] at F
    have j2' : SymAt PySem.Challenge.rw_no0153_01.row.toRowW.prog w g₀ h ⟨x, d, tl, an, fl, fn⟩ atomT [] := by
      rw [List.size_toArray, len] at j2
      exact j2
    clear j2 F3 Y3 it hvs nt off3 j1
    repeat' ((fail_if_success (with_reducible show Mid _)); first | (k_unfold; (try dsimp only)) | (k_end; wrow_close) | ((fail_if_success (with_reducible show wpAny _ _ (exec (Stmt.For _ _ _ _ _) _) _ _ _)); walk1) | ((fail_if_success (with_reducible show wpAny _ _ (exec (Stmt.For _ _ _ _ _) _) _ _ _)); dsimp only; walk1))
    refine wpAny_For ?_
    repeat' ((fail_if_success (with_reducible show Mid _)); first | (k_unfold; (try dsimp only)) | (k_end; wrow_close) | ((fail_if_success (with_reducible show wpAny _ _ (call (Value.ref _) _ _) _ _ _)); walk1) | ((fail_if_success (with_reducible show wpAny _ _ (call (Value.ref _) _ _) _ _ _)); dsimp only; walk1))
    refine wpAny_call (c_fixed_functors H (fun b o e => F.keep _ _ (st b o e)) (by show dp + 1 + 10 < _; omega) (by show un + 3 + 200 < _; omega) fun h3 tk3 tu vs k3 ft it hvs => ?_)
    have F3 := Fr.but F k3 (by simp) (by simp)
    have Y3 := j2'.but k3 (.nil _) (by simp)
    have nt : tu ∉ (SA.mk x d tl an fl fn).all := j2'.off ft
    dsimp only at F3 Y3 it k3 ⊢
    clear F j2'
    repeat' ((fail_if_success (with_reducible show Mid _)); first | (k_unfold; (try dsimp only)) | (k_end; wrow_close) | ((fail_if_success (with_reducible show wpAny _ _ (pyIter _) _ _ _)); walk1) | ((fail_if_success (with_reducible show wpAny _ _ (pyIter _) _ _ _)); dsimp only; walk1))
    have len : vs.length = 32 := hvs.length
    have off3 := Y3.off (b := h3.objs.size) (by
      cases q : h3.get? h3.objs.size with
      | none => rfl
      | some o => exact absurd (Heap.lt_size q) (Nat.lt_irrefl _))
    refine iter_tuple_J rfl it (tup_ne_ns it F3.ns) rfl rfl F3
      (fun i m h => m (Str.ofString "self") = some (.ref x) ∧ SymAt PySem.Challenge.rw_no0153_01.row.toRowW.prog w g₀ h ⟨x, d, tl, an, fl, fn⟩ atomT (pairT.take i) ∧ Sits (TupIs h) vs funFs) ⟨rfl, by simpa using Y3, hvs⟩ ?_ ?_ ?_
    · rintro i m h h' ⟨j1, j2, j3⟩ k nt
      refine ⟨j1, j2.but k nt fun b hb q => ?_, TupIs.sits j3 k nt⟩
      simp only [List.mem_cons, List.not_mem_nil, or_false] at q
      rcases q with rfl | rfl
      · exact nL hb
      · exact off3 hb
    · rintro i v m h tk oI hv ⟨j1, j2, j3⟩ F hI hT
      rw [know j1] at F
      obtain ⟨r, hr, hvr⟩ := j3.get' (by simpa using hv)
      obtain ⟨y, k, rfl, hy, hp⟩ := funs_of hr
      obtain ⟨ra, t, u, rfl, hra⟩ := row2 hvr
      obtain ⟨t1, t2, t3, t4, Yd⟩ := j2.dict
      have Yi := j2.inst
      dsimp only at Yd Yi hI
      have N : News g L' h [(x, instObj 115 d), (d, dictOf (symEntries w ⟨x, d, tl, an, fl, fn⟩ t1 t2 t3 t4) 4)] := News.cons Yi (Nat.ne_of_lt lx) (nG _ (by simp [SA.all])) (News.cons Yd (Nat.ne_of_lt ld) (nG _ (by simp [SA.all])) News.nil)
      clear Yd Yi
      repeat' ((fail_if_success (with_reducible show Mid _)); first | (k_unfold; (try dsimp only)) | (k_end; wrow_close) | ((fail_if_success (with_reducible show wpAny _ _ (subscriptTail _ _ _ _) _ _ _)); walk1) | ((fail_if_success (with_reducible show wpAny _ _ (subscriptTail _ _ _ _) _ _ _)); dsimp only; walk1))
      refine item_tupleT hra (by decide) (by decide) rfl rfl ?_ (by with_unfolding_all rfl)
      repeat' ((fail_if_success (with_reducible show Mid _)); first | (k_unfold; (try dsimp only)) | (k_end; wrow_close) | ((fail_if_success (with_reducible show wpAny _ _ (subscriptTail _ _ _ _) _ _ _)); walk1) | ((fail_if_success (with_reducible show wpAny _ _ (subscriptTail _ _ _ _) _ _ _)); dsimp only; walk1))
      refine item_tupleT hra (by decide) (by decide) rfl rfl ?_ (by with_unfolding_all rfl)
      repeat' ((fail_if_success (with_reducible show Mid _)); first | (k_unfold; (try dsimp only)) | (k_end; wrow_close) | ((fail_if_success (with_reducible show wpAny _ _ (call (Value.ref _) _ _) _ _ _)); walk1) | ((fail_if_success (with_reducible show wpAny _ _ (call (Value.ref _) _ _) _ _ _)); dsimp only; walk1))
      have l29 : atomT.length = 29 := rfl
      have l32 : pairT.length = 32 := rfl
      refine wpAny_call (c_func (a := ⟨x, d, tl, an, fl, fn⟩) H (fun b o e => F.keep _ _ (st b o e)) (by show dp + 1 + 50 < _; omega) (by show un + 3 + 1000 < _; omega) j2 (by omega) (by rw [List.length_take]; omega) fun h4 tk4 t5 k4 Y4 => ?_)
      rw [ins_old hy, take_ins pairT_nodup hp] at Y4
      dsimp only at k4 Y4 ⊢
      have F4 := Fr.but F k4 (fun q => nL (SA.sub4 _ _ q)) (fun b hb => nG b (SA.sub4 _ _ hb))
      have j4 := TupIs.sits j3 k4 (j2.noTup.sub (SA.sub4 ⟨x, d, tl, an, fl, fn⟩))
      clear F N
      repeat' ((fail_if_success (with_reducible show Mid _)); first | (k_unfold; (try dsimp only)) | (k_end; wrow_close) | (walk1) | (dsimp only; walk1))
      refine ⟨h4, _, _, rfl, F4, ⟨rfl, Y4, j4⟩, k4 _ _ hI (fun q => off3 (SA.sub4 _ _ q)), fun o e => k4 _ _ e (fun q => nt (SA.sub4 _ _ q))⟩
    · rintro m h tk F ⟨j1, j2, _⟩
      have j2' : SymAt PySem.Challenge.rw_no0153_01.row.toRowW.prog w g₀ h ⟨x, d, tl, an, fl, fn⟩ atomT pairT := by
        rw [List.size_toArray, len] at j2
        exact j2
      clear j2
      repeat' ((fail_if_success (with_reducible show Mid _)); first | (k_unfold; (try dsimp only)) | (k_end; wrow_close) | (walk1) | (dsimp only; walk1))
      refine ret h _ ⟨x, d, tl, an, fl, fn⟩ rfl rfl fresh (fun b o e hb => ?_) j2'
      by_cases hbx : b = x
      · subst hbx; rw [hx] at e; exact Option.some.inj e ▸ j2'.inst
      · exact F.keep _ _ (kg b o e (by simpa using ⟨hbx, by simpa using hb⟩))
end Mine

end
section
open PySem PySem.W PySem.Calls PyProof.Rows PyProof.Rows.LCg
set_option maxRecDepth 100000
namespace Mine

/-! the law's own text, taken from the given program -/
noncomputable def fnBody : Stmt → List Stmt
  | .FunctionDef _ _ b _ _ _ _ _ _ _ => b
  | _ => []
noncomputable def fnScope : Stmt → Scope
  | .FunctionDef _ _ _ _ _ _ s _ _ _ => s
  | _ => { kind := .function, names := [], isGenerator := false, isCoroutine := false, more := [] }
noncomputable def forBody : Stmt → List Stmt
  | .For _ _ b _ _ => b
  | _ => []
noncomputable def lastS : List Stmt → Stmt
  | [] => .Pass ⟨0, 0, 0, 0⟩
  | [a] => a
  | _ :: b :: r => lastS (b :: r)
noncomputable def tl1 : List Stmt → List Stmt
  | _ :: r => r
  | [] => []
noncomputable def hd1 : List Stmt → Stmt
  | a :: _ => a
  | [] => .Pass ⟨0, 0, 0, 0⟩
noncomputable def lawDef : Stmt := lastS PySem.Challenge.pw_no0153_01.main.body
noncomputable def lawBody : List Stmt := fnBody lawDef
noncomputable def lawScope : Scope := fnScope lawDef
noncomputable def turnBody : List Stmt := forBody (hd1 (tl1 (tl1 (tl1 (tl1 (tl1 (tl1 lawBody))))))) 
noncomputable def ifBody : Stmt → List Stmt
  | .If _ b _ _ => b
  | _ => []
noncomputable def ifElse : Stmt → List Stmt
  | .If _ _ b _ => b
  | _ => []
noncomputable def if0 : Stmt := hd1 (tl1 (tl1 (tl1 turnBody)))
noncomputable def if1 : Stmt := hd1 (ifElse if0)
noncomputable def if2 : Stmt := hd1 (ifElse if1)
noncomputable def if3 : Stmt := hd1 (ifElse if2)
end Mine

end
section
open PySem PySem.W PySem.Calls PyProof.Rows PyProof.Rows.LCg
set_option maxRecDepth 100000
namespace Mine

abbrev PR : Program := PySem.Challenge.rw_no0153_01.row.toRowW.prog
structure LP where
  a : SA
  tx : Addr
  pr : Addr
  rw : Addr
  /-- what else must not change -/
  kp : List (Addr × Obj)
abbrev LP.own (P : LP) (L : Addr) : List Addr := (L + 1) :: (L + 1 + 1) :: P.tx :: P.pr :: P.rw :: P.kp.map (·.1)

def RowAt (h : Heap) (r : Addr) : Prop := ∃ vs n ns, h.get? r = some (listOf (List.toArray vs) n) ∧ IntsAre vs ns ∧ ns.length ≤ 120 ∧ ∀ v ∈ ns, (0 : Int) ≤ v ∧ v < 1013
def KdAt {D : Type} [DecidableEq D] (K : Kd D) (h : Heap) (l : Addr) (ds : List D) : Prop := ∃ vs n, h.get? l = some (listOf (List.toArray vs) n) ∧ Sits (K.Is h) vs ds
def CellAt (h : Heap) (c : Addr) (v : Value) : Prop := ∃ o, h.get? c = some o ∧ o.data = .cell (some v)

/-- where the law stands between its statements: the table's own lists ts, ps; the law's own us, qs -/
structure Inv (w : World) (g : Heap) (L : Addr) (P : LP) (h : Heap) (ts : List Str) (ps : List (Int × Int)) (us : List Str) (qs : List (Int × Int)) : Prop where
  sym : SymAt PR w g h P.a ts ps
  cS : CellAt h (L + 1) (.ref P.a.sg)
  cT : CellAt h (L + 1 + 1) (.ref P.tx)
  tx : KdAt kStr h P.tx us
  pr : KdAt (kPair PR w) h P.pr qs
  row : RowAt h P.rw
  fresh : ∀ b ∈ P.own L, g.get? b = none
  offS : ∀ b ∈ P.own L, b ∉ P.a.all
  offL : L ∉ P.a.all ++ P.own L
  n1 : (L + 1) ∉ [P.tx, P.pr, P.rw]
  n2 : (L + 1 + 1) ∉ [P.tx, P.pr, P.rw]
  n3 : P.tx ≠ P.pr
  n4 : P.tx ≠ P.rw
  n5 : P.pr ≠ P.rw
  kept : ∀ p ∈ P.kp, h.get? p.1 = some p.2 ∧ p.1 ∉ [P.tx, P.pr, P.rw]

section
variable {h h' : Heap} {S : List Addr}
theorem RowAt.but {r : Addr} (x : RowAt h r) (k : Keeps S h h') (n : r ∉ S) : RowAt h' r := let ⟨vs, m, ns, e, q⟩ := x; ⟨vs, m, ns, k _ _ e n, q⟩
theorem KdAt.but {D : Type} [DecidableEq D] {K : Kd D} {l : Addr} {ds : List D} (x : KdAt K h l ds) (k : Keeps S h h') (nt : NoTups h S) (n : l ∉ S) : KdAt K h' l ds := let ⟨vs, m, e, q⟩ := x; ⟨vs, m, k _ _ e n, q.but k nt⟩
theorem CellAt.but {c : Addr} {v : Value} (x : CellAt h c v) (k : Keeps S h h') (n : c ∉ S) : CellAt h' c v := let ⟨o, e, q⟩ := x; ⟨o, k _ _ e n, q⟩
theorem RowAt.nt {r : Addr} (x : RowAt h r) : NoTups h [r] := let ⟨_, _, _, e, _⟩ := x; .cons e (.inl (by simp)) (.nil _)
theorem KdAt.nt {D : Type} [DecidableEq D] {K : Kd D} {l : Addr} {ds : List D} (x : KdAt K h l ds) : NoTups h [l] := let ⟨_, _, e, _⟩ := x; .cons e (.inl (by simp)) (.nil _)
end

section
variable {w : World} {g : Heap} {L : Addr} {P : LP} {h h' : Heap} {ts ts' us us' : List Str} {ps ps' qs qs' : List (Int × Int)} {S : List Addr}
theorem Inv.but (I : Inv w g L P h ts ps us qs) (k : Keeps S h h') (nt : NoTups h S) (hS : ∀ b ∈ P.a.all ++ P.own L, b ∉ S) : Inv w g L P h' ts ps us qs :=
  have o := fun b hb => hS b (List.mem_append_right _ hb)
  { I with
    sym := I.sym.but k nt fun b hb => hS b (List.mem_append_left _ hb)
    cS := I.cS.but k (o _ (by simp))
    cT := I.cT.but k (o _ (by simp))
    tx := I.tx.but k nt (o _ (by simp))
    pr := I.pr.but k nt (o _ (by simp))
    row := I.row.but k (o _ (by simp))
    kept := fun p hp => ⟨k _ _ (I.kept p hp).1 (o _ (by simp only [List.mem_cons]; exact .inr (.inr (.inr (.inr (.inr (List.mem_map_of_mem hp))))))), (I.kept p hp).2⟩ }
/-- the own names are stored -/
theorem Inv.loc {m : Str → Option Value} (I : Inv w g L P h ts ps us qs) (k : Keeps [L] h h') (n : h.Ns L m) : Inv w g L P h' ts ps us qs :=
  I.but k (NoTups.ns n) fun b hb q => by
    have e := List.mem_singleton.mp q
    exact I.offL (by rw [e] at hb; exact hb)
theorem Inv.snp {m' : Str → Option Value} (I : Inv w g L P h ts ps us qs) (S : Snap g L h) (F' : Fr g L h' m') (N' : News g L h' (snap g L h)) : Inv w g L P h' ts ps us qs :=
  I.but (S.keeps F' N') S.nt fun b hb q => by
    have e := List.mem_singleton.mp q
    exact I.offL (by rw [e] at hb; exact hb)
theorem Inv.grow (I : Inv w g L P h ts ps us qs) (k : Keeps [] h h') : Inv w g L P h' ts ps us qs := I.but k (.nil _) (by simp)
theorem Inv.rowC (I : Inv w g L P h ts ps us qs) (k : Keeps [P.rw] h h') (r : RowAt h' P.rw) : Inv w g L P h' ts ps us qs :=
  have nt := I.row.nt
  have ne : ∀ b, b ≠ P.rw → b ∉ [P.rw] := fun b n q => n (List.mem_singleton.mp q)
  { I with
    sym := I.sym.but k nt fun b hb q => I.offS P.rw (by simp) (List.mem_singleton.mp q ▸ hb)
    cS := I.cS.but k (ne _ fun e => I.n1 (by simp [e]))
    cT := I.cT.but k (ne _ fun e => I.n2 (by simp [e]))
    tx := I.tx.but k nt (ne _ I.n4)
    pr := I.pr.but k nt (ne _ I.n5)
    row := r
    kept := fun p hp => ⟨k _ _ (I.kept p hp).1 (ne _ fun e => (I.kept p hp).2 (by simp [e])), (I.kept p hp).2⟩ }
theorem Inv.symC (I : Inv w g L P h ts ps us qs) (k : Keeps S h h') (hs : ∀ b ∈ S, b ∈ P.a.all) (r : SymAt PR w g h' P.a ts' ps') : Inv w g L P h' ts' ps' us qs :=
  have nt := I.sym.noTup.sub hs
  have ne : ∀ b ∈ P.own L, b ∉ S := fun b hb q => I.offS b hb (hs b q)
  { I with
    sym := r
    cS := I.cS.but k (ne _ (by simp))
    cT := I.cT.but k (ne _ (by simp))
    tx := I.tx.but k nt (ne _ (by simp))
    pr := I.pr.but k nt (ne _ (by simp))
    row := I.row.but k (ne _ (by simp))
    kept := fun p hp => ⟨k _ _ (I.kept p hp).1 (ne _ (by simp only [List.mem_cons]; exact .inr (.inr (.inr (.inr (.inr (List.mem_map_of_mem hp))))))), (I.kept p hp).2⟩ }
theorem Inv.txC (I : Inv w g L P h ts ps us qs) (k : Keeps [P.tx] h h') (r : KdAt kStr h' P.tx us') : Inv w g L P h' ts ps us' qs :=
  have nt := I.tx.nt
  have ne : ∀ b, b ≠ P.tx → b ∉ [P.tx] := fun b n q => n (List.mem_singleton.mp q)
  { I with
    sym := I.sym.but k nt fun b hb q => I.offS P.tx (by simp) (List.mem_singleton.mp q ▸ hb)
    cS := I.cS.but k (ne _ fun e => I.n1 (by simp [e]))
    cT := I.cT.but k (ne _ fun e => I.n2 (by simp [e]))
    tx := r
    pr := I.pr.but k nt (ne _ I.n3.symm)
    row := I.row.but k (ne _ I.n4.symm)
    kept := fun p hp => ⟨k _ _ (I.kept p hp).1 (ne _ fun e => (I.kept p hp).2 (by simp [e])), (I.kept p hp).2⟩ }
theorem Inv.prC (I : Inv w g L P h ts ps us qs) (k : Keeps [P.pr] h h') (r : KdAt (kPair PR w) h' P.pr qs') : Inv w g L P h' ts ps us qs' :=
  have nt := I.pr.nt
  have ne : ∀ b, b ≠ P.pr → b ∉ [P.pr] := fun b n q => n (List.mem_singleton.mp q)
  { I with
    sym := I.sym.but k nt fun b hb q => I.offS P.pr (by simp) (List.mem_singleton.mp q ▸ hb)
    cS := I.cS.but k (ne _ fun e => I.n1 (by simp [e]))
    cT := I.cT.but k (ne _ fun e => I.n2 (by simp [e]))
    tx := I.tx.but k nt (ne _ I.n3)
    pr := r
    row := I.row.but k (ne _ I.n5.symm)
    kept := fun p hp => ⟨k _ _ (I.kept p hp).1 (ne _ fun e => (I.kept p hp).2 (by simp [e])), (I.kept p hp).2⟩ }

/-- the walk's ledger: the cells, the table, then all that stands -/
theorem Inv.news {m : Str → Option Value} (I : Inv w g L P h ts ps us qs) (F : Fr g L h m) : ∃ oS oT t1 t2 t3 t4 sn, oS.data = .cell (some (.ref P.a.sg)) ∧ oT.data = .cell (some (.ref P.tx)) ∧
    (∀ h' m', Fr g L h' m' → News g L h' sn → Inv w g L P h' ts ps us qs) ∧
    News g L h ((L + 1, oS) :: (L + 1 + 1, oT) :: (P.a.sg, instObj 115 P.a.dx) :: (P.a.dx, dictOf (symEntries w P.a t1 t2 t3 t4) 4) :: sn) := by
  obtain ⟨oS, eS, dS⟩ := I.cS
  obtain ⟨oT, eT, dT⟩ := I.cT
  obtain ⟨t1, t2, t3, t4, Yd⟩ := I.sym.dict
  have nl : ∀ b ∈ P.a.all ++ P.own L, b ≠ L := fun b hb e => I.offL (e ▸ hb)
  exact ⟨oS, oT, t1, t2, t3, t4, snap g L h, dS, dT, fun h' m' F' N' => I.loc ((Snap.of F).keeps F' N') F.ns, News.cons eS (nl _ (by simp)) (I.fresh _ (by simp)) (News.cons eT (nl _ (by simp)) (I.fresh _ (by simp))
    (News.cons I.sym.inst (nl _ (by simp [SA.all])) (I.sym.fresh _ (by simp [SA.all])) (News.cons Yd (nl _ (by simp [SA.all])) (I.sym.fresh _ (by simp [SA.all])) (snap_news g L h))))⟩
end

theorem meth_index {M : Model} {A : Around} {E : Value → Shared → Prop} {s : Shared} {l : Addr} {vs : List Value} {n : Nat} {pl : Sem Bool} {Q : Value × List Value → Shared → Prop} (ho : s.heap.get? l = some (listOf (List.toArray vs) n)) (h : Q (.builtin "list.index", [.ref l]) s) :
    wpAny M A (getMethod (.ref l) "index" pl) Q E s :=
  getMethod_builtin ⟨_, ho, rfl⟩ PySem.F.plainAttrs_list PySem.F.slot_list_index PySem.F.type_list_index (fun b e => by injection e with e; subst e; exact ⟨_, ho, rfl⟩) h

/-- the plain bounds, i turns behind -/
structure Good (i : Nat) (ts : List Str) (ps : List (Int × Int)) : Prop where
  t1 : 29 ≤ ts.length
  t2 : ts.length ≤ 29 + i
  p1 : 32 ≤ ps.length
  p2 : ps.length ≤ 32 + i
  txt : ∀ x ∈ ts, Str.length x ≤ 20
  pair : ∀ p ∈ ps, ∃ j : Nat, p.1 = (j : Int) ∧ j < ts.length ∧ 0 ≤ p.2 ∧ p.2 ≤ 8
theorem Good.more {i : Nat} {ts : List Str} {ps : List (Int × Int)} (G : Good i ts ps) : Good (i + 1) ts ps := { G with t2 := Nat.le_succ_of_le G.t2, p2 := Nat.le_succ_of_le G.p2 }
theorem Good.atom {i : Nat} {ts : List Str} {ps : List (Int × Int)} {x : Str} (G : Good i ts ps) (hx : Str.length x ≤ 20) : Good (i + 1) (ins ts x) ps where
  t1 := Nat.le_trans G.t1 (le_ins_length ts x)
  t2 := Nat.le_trans (ins_length ts x) (Nat.succ_le_succ G.t2)
  p1 := G.p1
  p2 := Nat.le_succ_of_le G.p2
  txt := fun y hy => (ins_cases ts x y hy).elim (G.txt y) fun e => e ▸ hx
  pair := fun p hp => let ⟨j, a, b, c⟩ := G.pair p hp; ⟨j, a, Nat.lt_of_lt_of_le b (le_ins_length ts x), c⟩
theorem Good.fun' {i j : Nat} {ts : List Str} {ps : List (Int × Int)} {y : Int} (G : Good i ts ps) (hj : j < ts.length) (hy : 0 ≤ y ∧ y ≤ 8) : Good (i + 1) ts (ins ps ((j : Int), y)) where
  t1 := G.t1
  t2 := Nat.le_succ_of_le G.t2
  p1 := Nat.le_trans G.p1 (le_ins_length ps _)
  p2 := Nat.le_trans (ins_length ps _) (Nat.succ_le_succ G.p2)
  txt := G.txt
  pair := fun p hp => (ins_cases ps _ p hp).elim (G.pair p) fun e => e ▸ ⟨j, rfl, hj, hy⟩
theorem Good.func {i : Nat} {ts : List Str} {ps : List (Int × Int)} {x : Str} {y : Int} (G : Good i ts ps) (hx : Str.length x ≤ 20) (hy : 0 ≤ y ∧ y ≤ 8) : Good (i + 1) (ins ts x) (ins ps ((ix (ins ts x) x : Int), y)) :=
  have A := G.atom hx
  { A with
    p1 := Nat.le_trans G.p1 (le_ins_length ps _)
    p2 := Nat.le_trans (ins_length ps _) (Nat.succ_le_succ G.p2)
    pair := fun p hp => (ins_cases ps _ p hp).elim (A.pair p) fun e => e ▸ ⟨_, rfl, ix_lt (ins_mem ts x), hy⟩ }

theorem one_stmt {prog : Program} {w : World} {A : Around} {s : Shared} {env : Env} {st : Stmt} {Q : Flow → Shared → Prop} {E : Value → Shared → Prop} (h : wpAny (model prog w) A (exec st env) Q E s) : wpAny (model prog w) A (execs [st] env) Q E s :=
  wpAny_execs_cons (wpAny_mono h (fun f s' q => by
    cases f with
    | next => exact wpAny_execs_nil q
    | _ => exact q) fun _ _ e => e)
noncomputable abbrev LEnv (L fa : Addr) (cdv : Value) : Env := envOfC (Str.ofString "law") lawScope L fa cdv
/-- behind a statement of the turn -/
def TEnd (w : World) (g : Heap) (L : Addr) (P : LP) (s : Shared) (i : Nat) (s' : Shared) : Prop :=
  ∃ h' tk' m' ts ps, s' = { s with heap := h', toks := tk' } ∧ Fr g L h' m' ∧ m' (Str.ofString "row") = some (.ref P.rw) ∧ m' (Str.ofString "pairs") = some (.ref P.pr) ∧ Inv w g L P h' ts ps ts ps ∧ Good i ts ps
end Mine

end
section
open PySem PySem.W PySem.Calls PyProof.Rows PyProof.Rows.LCg PyProof.V PySem.Spec PySem.SeqAt
set_option maxRecDepth 100000
namespace Mine

theorem kd_ne_same {D : Type} [DecidableEq D] (K : Kd D) {prog : Program} {w : World} {A : Around} {E : Value → Shared → Prop} {s : Shared} {l b : Addr} {vs ws : List Value} {ds : List D} {Q : Value → Shared → Prop} (hu : A.units + 10 < cLine)
    (hl : s.heap.IsList l vs.toArray) (hi : Sits (K.Is s.heap) vs ds) (hb : s.heap.IsList b ws.toArray) (hj : Sits (K.Is s.heap) ws ds) (h : Q (.bool false) s) : wpAny (model prog w) A (compareOp .NotEq (.ref l) (.ref b)) Q E s := by
  have h1 := hi.length
  have h2 := hj.length
  obtain ⟨⟨cls, dd, data, sl⟩, ho, hc, n, hd⟩ := id hl
  obtain ⟨⟨cls2, dd2, data2, sl2⟩, ho2, hc2, n2, hd2⟩ := id hb
  simp only at hc hd hc2 hd2
  subst hc hd hc2 hd2
  refine richCompare_meets_room (op := .NotEq) ⟨_, ho, rfl⟩ ⟨_, ho2, rfl⟩ PySem.F.slot_list_ne PySem.F.entry_list_ne (PySem.F.args_list_ne_2 _ _) (SeqAt.list_neAt l b vs.toArray ws.toArray n n2 dd dd2 sl sl2 (by rw [List.size_toArray, List.size_toArray]; omega) (fun _ => true))
    ⟨ho, ho2, fun j a c => ?_, ?_⟩ (by omega)
  · rw [List.size_toArray] at a c
    rw [List.getElem_toArray, List.getElem_toArray]
    obtain ⟨d, hd, p⟩ := hi.get' (List.getElem?_eq_getElem a)
    obtain ⟨d', hd', p'⟩ := hj.get' (List.getElem?_eq_getElem c)
    rw [hd] at hd'
    cases hd'
    have q := K.eqAt (A := A.in1) (by show A.units + 1 + 4 < _; omega) p p'
    rw [decide_eq_true rfl] at q
    exact q
  · have e : (List.range vs.toArray.size).all (fun _ => true) = true := by simp
    rw [e]
    exact ⟨(fun x => nomatch x), h⟩

theorem News.app {g h : Heap} {L : Addr} {a b : List (Addr × Obj)} (x : News g L h a) (y : News g L h b) : News g L h (a ++ b) := fun p hp => (List.mem_append.mp hp).elim (x p) (y p)

theorem Inv.here {w : World} {g : Heap} {L : Addr} {P : LP} {h : Heap} {ts us : List Str} {ps qs : List (Int × Int)} (I : Inv w g L P h ts ps us qs) : ∀ b ∈ P.a.all ++ P.own L, ∃ o, h.get? b = some o := by
  intro b hb
  rcases List.mem_append.mp hb with hb | hb
  · exact I.sym.here b hb
  · obtain ⟨o1, e1, _⟩ := I.cS
    obtain ⟨o2, e2, _⟩ := I.cT
    obtain ⟨_, _, e3, _⟩ := I.tx
    obtain ⟨_, _, e4, _⟩ := I.pr
    obtain ⟨_, _, _, e5, _⟩ := I.row
    simp only [List.mem_cons] at hb
    rcases hb with rfl | rfl | rfl | rfl | rfl | hb
    · exact ⟨_, e1⟩
    · exact ⟨_, e2⟩
    · exact ⟨_, e3⟩
    · exact ⟨_, e4⟩
    · exact ⟨_, e5⟩
    · obtain ⟨p, hp, rfl⟩ := List.mem_map.mp hb
      exact ⟨_, (I.kept p hp).1⟩
theorem Inv.off {w : World} {g : Heap} {L : Addr} {P : LP} {h h₁ h' : Heap} {ts us ts' us' : List Str} {ps qs ps' qs' : List (Int × Int)} {S : List Addr} (I : Inv w g L P h ts ps us qs) (J : Inv w g L P h₁ ts' ps' us' qs') (k : Keeps S h₁ h') (nt : NoTups h₁ S) (hS : ∀ b ∈ S, h.get? b = none) : Inv w g L P h' ts' ps' us' qs' :=
  J.but k nt fun b hb q => by
    obtain ⟨o, e⟩ := I.here b hb
    rw [hS b q] at e; cases e

/-- one more object that must not change -/
theorem Inv.hold {w : World} {g : Heap} {L : Addr} {P : LP} {h : Heap} {ts us : List Str} {ps qs : List (Int × Int)} (I : Inv w g L P h ts ps us qs) {c : Addr} {o : Obj} (e : h.get? c = some o) (gc : g.get? c = none) (hc : c ∉ L :: (P.a.all ++ P.own L)) : Inv w g L { P with kp := [(c, o)] } h ts ps us qs := by
  have hm : ∀ b ∈ LP.own { P with kp := [(c, o)] } L, b = c ∨ b ∈ P.own L := by
    intro b hb
    simp only [LP.own, List.map_cons, List.map_nil, List.mem_cons, List.not_mem_nil, or_false] at hb ⊢
    rcases hb with h | h | h | h | h | h
    · exact .inr (.inl h)
    · exact .inr (.inr (.inl h))
    · exact .inr (.inr (.inr (.inl h)))
    · exact .inr (.inr (.inr (.inr (.inl h))))
    · exact .inr (.inr (.inr (.inr (.inr (.inl h)))))
    · exact .inl h
  simp only [List.mem_cons, List.mem_append, not_or] at hc
  obtain ⟨c0, c1, c2, c3, c4, c5, c6, c7⟩ := hc
  exact { I with
    fresh := fun b hb => (hm b hb).elim (fun q => q ▸ gc) (I.fresh b)
    offS := fun b hb => (hm b hb).elim (fun q => q ▸ c1) (I.offS b)
    offL := fun hb => (List.mem_append.mp hb).elim (fun q => I.offL (List.mem_append_left _ q)) fun q => (hm L q).elim (fun e => c0 e.symm) fun q => I.offL (List.mem_append_right _ q)
    kept := fun p hp => by
      rw [List.mem_singleton.mp hp]
      exact ⟨e, by simp only [List.mem_cons, List.not_mem_nil, or_false, not_or]; exact ⟨c4, c5, c6⟩⟩ }
theorem Inv.loose {w : World} {g : Heap} {L : Addr} {P : LP} {h : Heap} {ts us : List Str} {ps qs : List (Int × Int)} {k : List (Addr × Obj)} (hk : P.kp = []) (I : Inv w g L { P with kp := k } h ts ps us qs) : Inv w g L P h ts ps us qs := by
  have hm : ∀ b ∈ P.own L, b ∈ LP.own { P with kp := k } L := by
    intro b hb
    rw [LP.own, hk] at hb
    simp only [LP.own, List.map_nil, List.mem_cons, List.not_mem_nil, or_false] at hb ⊢
    rcases hb with h | h | h | h | h
    · exact .inl h
    · exact .inr (.inl h)
    · exact .inr (.inr (.inl h))
    · exact .inr (.inr (.inr (.inl h)))
    · exact .inr (.inr (.inr (.inr (.inl h))))
  exact { I with
    fresh := fun b hb => I.fresh b (hm b hb)
    offS := fun b hb => I.offS b (hm b hb)
    offL := fun hb => I.offL ((List.mem_append.mp hb).elim (fun q => List.mem_append_left _ q) fun q => List.mem_append_right _ (hm L q))
    kept := fun p hp => by rw [hk] at hp; cases hp }

noncomputable def tail7 : List Stmt := tl1 (tl1 (tl1 (tl1 (tl1 (tl1 (tl1 lawBody))))))
end Mine

end
section
open PySem PySem.W PySem.Calls PyProof.Rows PyProof.Rows.LCg
set_option maxRecDepth 100000
namespace Mine

theorem get_size (h : Heap) : h.get? h.objs.size = none := by
  cases q : h.get? h.objs.size with
  | none => rfl
  | some o => exact absurd (Heap.lt_size q) (Nat.lt_irrefl _)
theorem none_back {h h' : Heap} {S : List Addr} {D : Addr} (k : Keeps S h h') (e : h'.get? D = none) (hs : D ∉ S) : h.get? D = none := by
  cases q : h.get? D with
  | none => rfl
  | some o => rw [k _ _ q hs] at e; cases e
theorem Keeps.fresh {g h h' : Heap} {S : List Addr} (x : Keeps [] g h) (k : Keeps S h h') (hS : ∀ b ∈ S, g.get? b = none) : Keeps [] g h' := fun b o e _ =>
  k b o (x b o e List.not_mem_nil) fun q => by rw [hS b q] at e; cases e

theorem each_plain (env : Env) : ∀ ns : List (Str × Pos), assignEach (ns.map fun p => PySem.Expr.Name p.1 p.2) env = ns.map fun p => (false, assign (.Name p.1 p.2) env)
  | [] => rfl
  | _ :: ns => congrArg _ (each_plain env ns)

/-- a comprehension over rows of fields -/
theorem comp_rows {prog : Program} {w : World} {A : Around} {s : Shared} {g : Heap} {L : Addr} {m : Str → Option Value} {env : Env} {elt iter : PySem.Expr} {ns : List (Str × Pos)} {kk : Nat} {tp : Pos} {scope : Scope} {cl : List (Str × Addr)} {pos : Pos} {l : Addr} {n : Nat} {vs : List Value} {rs : List (List Fld)}
    {E : Value → Shared → Prop} (RR : Value → Addr → Result → Shared → Prop)
    (hh : A.handled = none) (hl : s.heap.get? l = some (listOf (List.toArray vs) n)) (hi : Sits (TupIs s.heap) vs rs) (hz : rs.length ≤ 100) (hw : ∀ r ∈ rs, r.length = ns.length)
    (hcell : ∀ y ∈ scope.names, y.2 ≠ .cell) (hkind : scope.kind = .function) (hks : ∀ p ∈ ns, scope.names.lookup p.1 = some .local) (F : Fr g L s.heap m)
    (J : Nat → List Value → Heap → Prop) (hJ : J 0 [] s.heap) (hJk : ∀ i ys h h' S, J i ys h → Keeps S h h' → NoTups h S → J i ys h')
    (step : ∀ (i : Nat) (r : List Fld) its ys C D oI oC m₂ h tk, rs[i]? = some r → Sits Fld.Is its r → Keeps [] s.heap h → J i ys h → NsObj oC (asg ((ns.map (·.1)).zip its) m₂) → Fr g L h m → News g L h [(s.heap.objs.size, oI), (C, oC), (D, lst ys)] → s.heap.objs.size ≠ C → s.heap.objs.size ≠ D → C ≠ D → s.heap.get? C = none → s.heap.get? D = none →
      wpAny (model prog w) A (eval elt (compEnvC scope cl C env)) (CompTurn g L m s [s.heap.objs.size, l] [(s.heap.objs.size, oI), (C, oC), (D, lst ys)] h (fun ys h' => Keeps [] h h' ∧ J (i + 1) ys h') ys) (fun _ _ => False) { s with heap := h, toks := tk })
    (done : ∀ C D oC m₂ h tk ys, Fr g L h m → Keeps [] s.heap h → J rs.length ys h → NsObj oC m₂ → News g L h [(D, lst ys), (C, oC)] → C ≠ D → s.heap.get? C = none → s.heap.get? D = none → RR (.ref D) C (.ok .next) { s with heap := h, toks := tk }) :
    wpAny (model prog w) A (pyIter (.ref l)) (fun it s₂ => wpAny (model prog w) A (newList []) (fun acc s₃ => wpAny (model prog w) A (newFunctionEnv scope env.globals cl [] env.qual none .none (some env)) (fun cenv s₄ =>
      codeAny (model prog w) A (.compStart (.ListComp elt [⟨.Tuple (ns.map fun p => .Name p.1 p.2) kk tp, iter, [], 0⟩] scope pos) 0 it acc { cenv with scope := relabel scope env }) (RR acc cenv.locals) s₄) E s₃) E s₂) E s := by
  have hlen := hi.length
  refine comp_list RR hh ⟨_, hl, rfl, _, rfl⟩ (by rw [List.size_toArray, sizeLine_eq]; omega) hcell hkind F (fun i ys h => Keeps [] s.heap h ∧ J i ys h) ⟨Keeps.refl _ _, hJ⟩ (fun i ys h h' S a k nt q => ⟨a.1.fresh k q, hJk _ _ _ _ S a.2 k nt⟩)
    (fun i v bs => ∃ r its, rs[i]? = some r ∧ Sits Fld.Is its r ∧ bs = (ns.map (·.1)).zip its) ?_ ?_ ?_
  · intro i v ys C h tk hv a hit
    rw [List.getElem?_toArray] at hv
    obtain ⟨r, hr, p⟩ := hi.get' hv
    obtain ⟨a, its, rfl, ht, hf⟩ := TupIs.but p a.1 (.nil _)
    have hn : ns.length = its.size := by rw [← hw r (List.mem_of_getElem? hr), ← hf.length]; simp
    refine ⟨_, ⟨r, its.toList, hr, hf, rfl⟩, takes_tuple hh ht hit hn (fun p hp => lookup_relabel_local (hks p hp)) (by simp [compEnvC, relabel, hkind]) ?_ ?_ ?_⟩
    · rw [each_plain, List.length_map]; exact hn
    · rw [each_plain]; simp
    · rw [each_plain]; simp
  · rintro i v bs ys C D oI oC m₂ h tk hv ⟨r, its, hr, hf, rfl⟩ a hC F N n1 n2 n3 _ zC zD
    refine wpAny_mono (step i r its ys C D oI oC m₂ h tk hr hf a.1 a.2 hC F N n1 n2 n3 zC zD) (fun v s' q => ?_) fun _ _ e => e
    obtain ⟨h', tk', e, F', N', k, k', j⟩ := q
    exact ⟨h', tk', e, F', N', k, a.1.trans k', j⟩
  · rintro C D oC m₂ h tk ys F a hC N hCD zC zD
    rw [List.size_toArray, hlen] at a
    exact done C D oC m₂ h tk ys F a.1 a.2 hC N hCD zC zD

/-- one column of the rows -/
theorem comp_col {prog : Program} {w : World} {A : Around} {s : Shared} {g : Heap} {L : Addr} {m : Str → Option Value} {env : Env} {iter : PySem.Expr} {ns : List (Str × Pos)} {kk : Nat} {tp py : Pos} {y : Str} {scope : Scope} {cl : List (Str × Addr)} {pos : Pos} {l : Addr} {n : Nat} {vs : List Value} {rs : List (List Fld)}
    {E : Value → Shared → Prop} (RR : Value → Addr → Result → Shared → Prop) (col : List Fld)
    (hh : A.handled = none) (hl : s.heap.get? l = some (listOf (List.toArray vs) n)) (hi : Sits (TupIs s.heap) vs rs) (hz : rs.length ≤ 100) (hw : ∀ r ∈ rs, r.length = ns.length)
    (hcell : ∀ y ∈ scope.names, y.2 ≠ .cell) (hkind : scope.kind = .function) (hks : ∀ p ∈ ns, scope.names.lookup p.1 = some .local) (F : Fr g L s.heap m)
    (hy : scope.names.lookup y = some .local) (hd : (y == ("__debug__" : Str)) = false) (hcl : col.length = rs.length)
    (hcol : ∀ (i : Nat) (r : List Fld) (its : List Value) (m₂ : Str → Option Value), rs[i]? = some r → Sits Fld.Is its r → ∃ v f, asg ((ns.map (·.1)).zip its) m₂ y = some v ∧ col[i]? = some f ∧ Fld.Is v f)
    (done : ∀ C D oC m₂ h tk ys, Fr g L h m → Keeps [] s.heap h → Sits Fld.Is ys col → NsObj oC m₂ → News g L h [(D, lst ys), (C, oC)] → C ≠ D → s.heap.get? C = none → s.heap.get? D = none → RR (.ref D) C (.ok .next) { s with heap := h, toks := tk }) :
    wpAny (model prog w) A (pyIter (.ref l)) (fun it s₂ => wpAny (model prog w) A (newList []) (fun acc s₃ => wpAny (model prog w) A (newFunctionEnv scope env.globals cl [] env.qual none .none (some env)) (fun cenv s₄ =>
      codeAny (model prog w) A (.compStart (.ListComp (.Name y py) [⟨.Tuple (ns.map fun p => .Name p.1 p.2) kk tp, iter, [], 0⟩] scope pos) 0 it acc { cenv with scope := relabel scope env }) (RR acc cenv.locals) s₄) E s₃) E s₂) E s := by
  refine comp_rows RR hh hl hi hz hw hcell hkind hks F (fun i ys _ => Sits Fld.Is ys (col.take i)) .nil (fun _ _ _ _ _ a _ _ => a) ?_ ?_
  · intro i r its ys C D oI oC m₂ h tk hr hf k j hC F N n1 n2 n3 zC zD
    obtain ⟨v, f, hv, hf', q⟩ := hcol i r its m₂ hr hf
    rw [eval_Name _ _ _ hd]
    refine wpAny_bind (wpAny_standAt (wpAny_loadName_local (by simp [compEnvC, relabel, hkind]) (lookup_relabel_local hy) (hC.ns (N _ (.tail _ (.head _))).1) hv ?_))
    refine ⟨h, _, rfl, F, N, fun _ _ _ e => e, Keeps.refl _ _, ?_⟩
    rw [List.take_add_one, hf']
    exact j.append (.cons q .nil)
  · intro C D oC m₂ h tk ys F k j hC N hCD zC zD
    rw [← hcl, List.take_length] at j
    exact done C D oC m₂ h tk ys F k j hC N hCD zC zD

theorem asg_skip {x : Str} : ∀ {xs : List Str} {its : List Value} {m : Str → Option Value}, x ∉ xs → asg (xs.zip its) m x = m x
  | [], _, _, _ => rfl
  | _ :: _, [], _, _ => rfl
  | y :: xs, v :: its, m, h => (asg_skip fun q => h (.tail _ q)).trans (if_neg fun (e : x = y) => h (by rw [e]; exact .head _))
theorem num_col {rs : List (List Fld)} (hn : Numbered rs) {x : Str} {xs : List Str} (hx : x ∉ xs) (i : Nat) (r : List Fld) (its : List Value) (m₂ : Str → Option Value) (hr : rs[i]? = some r) (hf : Sits Fld.Is its r) :
    ∃ v f, asg ((x :: xs).zip its) m₂ x = some v ∧ ((rangeInts 0 1 rs.length).map Fld.int)[i]? = some f ∧ Fld.Is v f := by
  have e := hn i r hr
  have hi := (List.getElem?_eq_some_iff.mp hr).1
  cases hf with
  | nil => cases e
  | @cons v f its r p _ =>
    simp only [List.head?_cons, Option.some.injEq] at e
    subst e
    refine ⟨v, _, (asg_skip hx).trans (if_pos rfl), by rw [List.getElem?_map, rangeInts_get hi]; rfl, ?_⟩
    rw [Int.mul_one, Int.zero_add]
    exact p
theorem ints_of_col : ∀ {ys : List Value} {ns : List Int}, Sits Fld.Is ys (ns.map Fld.int) → IntsAre ys ns
  | [], [], _ => .nil
  | v :: ys, n :: ns, .cons p q => by
    obtain ⟨t, rfl⟩ := p
    exact .cons n t (ints_of_col q)
end Mine

end
section
open PySem PySem.W PySem.Calls PyProof.Rows
set_option maxRecDepth 100000
set_option maxHeartbeats 8000000

namespace Mine
theorem t_b0 {w : World} {mean : ExcName → Option Value} {mg mb : Str → Option Value} {g : Heap} {dp un : Nat} {fr : Option (List Env)} {gd : Option (List Code)} {s : Shared} {L fa : Addr} {cdv : Value} {m : Str → Option Value} {P : LP} {ts : List Str} {ps : List (Int × Int)} {i : Nat} {x : Str} {t : Tok} (X : (hd.heap_39 w.params).In g) (T : Top hd.view_39 (looseW hd.view_39 []) mean mg mb g) (hA : dp + 200 < recursionLimit) (hU : un + 4000 < cLine) (F : Fr g L s.heap m) (I : Inv w g L P s.heap ts ps ts ps) (hi : i ≤ 30) (G : Good i ts ps)
  (m1 : m (Str.ofString "row") = some (.ref P.rw)) (m2 : m (Str.ofString "pairs") = some (.ref P.pr)) (m3 : m (Str.ofString "word") = some (.str x t)) (hx : Str.length x ≤ 20) :
  wpAny (model PySem.Challenge.rw_no0153_01.row.toRowW.prog w) (Around.deeper ⟨none, dp, fr, gd, un⟩ (LEnv L fa cdv)) (execs (ifBody if0) (LEnv L fa cdv)) (fun f s' => Mid (f = .next ∧ TEnd w g L P s (i + 1) s')) (fun _ _ => False) s := by
  refine opq fun Qx hQ => ?_
  revert X
  k_fill
  intro X
  rw [know m1, know m2, know m3] at F
  obtain ⟨oS, oT, t1, t2, t3, t4, sn, dS, dT, IK, N⟩ := I.news F
  have g1 := G.t2
  dsimp only [LEnv, if0, if1, if2, if3, ifBody, ifElse, turnBody, lawScope, lawBody, lawDef, fnBody, fnScope, forBody, lastS, tl1, hd1, PySem.Challenge.pw_no0153_01]
  repeat' ((fail_if_success (with_reducible show Mid _)); first | (k_unfold; (try dsimp only)) | (k_end; wrow_close) | ((fail_if_success (with_reducible show wpAny _ _ (call (Value.ref _) _ _) _ _ _)); walk1) | ((fail_if_success (with_reducible show wpAny _ _ (call (Value.ref _) _ _) _ _ _)); dsimp only; walk1))
  refine wpAny_call (c_atom (a := P.a) ⟨X, T⟩ (fun b o e => F.keep b o e) (by show dp + 1 + 10 < _; omega) (by show un + 3 + 200 < _; omega) I.sym (by omega) fun h2 tk2 t2 k2 Y2 => ?_)
  have I2 := I.symC k2 (SA.sub2 _) Y2
  have F2 := Fr.but F k2 (fun q => I.offL (List.mem_append_left _ (SA.sub2 _ _ q))) (fun b hb => I.sym.fresh b (SA.sub2 _ _ hb))
  clear F N I
  obtain ⟨oS2, oT2, _, _, _, _, sn2, dS2, dT2, IK2, N2⟩ := I2.news F2
  dsimp only at F2 ⊢
  repeat' ((fail_if_success (with_reducible show Mid _)); first | (k_unfold; (try dsimp only)) | (k_end; wrow_close) | ((fail_if_success (with_reducible show wpAny _ _ (call (Value.ref _) _ _) _ _ _)); walk1) | ((fail_if_success (with_reducible show wpAny _ _ (call (Value.ref _) _ _) _ _ _)); dsimp only; walk1))
  obtain ⟨vs, n, e2, h2i⟩ := I2.tx
  refine wpAny_call (c_place kStr ⟨X, T⟩ (fun b o e => F2.keep b o e) (by show dp + 1 + 10 < _; omega) (by show un + 3 + 200 < _; omega) e2 (I2.fresh _ (by simp)) h2i ⟨t, rfl⟩ (by omega) fun h3 tk3 t3 vs3 n3 k3 e3 h3i => ?_)
  have I3 := I2.txC k3 ⟨vs3, n3, e3, h3i⟩
  have F3 := Fr.but F2 k3 (fun q => I2.offL (by rw [List.mem_singleton.mp q]; simp)) (fun b hb => I2.fresh b (by rw [List.mem_singleton.mp hb]; simp))
  clear F2 N2 I2
  dsimp only at F3 ⊢
  repeat' ((fail_if_success (with_reducible show Mid _)); first | (k_unfold; (try dsimp only)) | (k_end; wrow_close) | (walk1) | (dsimp only; walk1))
  · contradiction
  · exact hQ _ _ ⟨rfl, h3, _, _, _, _, rfl, F3, rfl, rfl, I3, G.atom hx⟩

theorem t_b1 {w : World} {mean : ExcName → Option Value} {mg mb : Str → Option Value} {g : Heap} {dp un : Nat} {fr : Option (List Env)} {gd : Option (List Code)} {s : Shared} {L fa : Addr} {cdv : Value} {m : Str → Option Value} {P : LP} {ts : List Str} {ps : List (Int × Int)} {i : Nat} {x : Str} {y : Int} {t u : Tok} (X : (hd.heap_39 w.params).In g) (T : Top hd.view_39 (looseW hd.view_39 []) mean mg mb g) (hA : dp + 200 < recursionLimit) (hU : un + 4000 < cLine) (F : Fr g L s.heap m) (I : Inv w g L P s.heap ts ps ts ps) (hi : i ≤ 30) (G : Good i ts ps)
  (m1 : m (Str.ofString "row") = some (.ref P.rw)) (m2 : m (Str.ofString "pairs") = some (.ref P.pr)) (m3 : m (Str.ofString "word") = some (.str x t)) (m4 : m (Str.ofString "wide") = some (.int y u)) (hx : Str.length x ≤ 20) (hy : 0 ≤ y ∧ y ≤ 8) :
  wpAny (model PySem.Challenge.rw_no0153_01.row.toRowW.prog w) (Around.deeper ⟨none, dp, fr, gd, un⟩ (LEnv L fa cdv)) (execs (ifBody if1) (LEnv L fa cdv)) (fun f s' => Mid (f = .next ∧ TEnd w g L P s (i + 1) s')) (fun _ _ => False) s := by
  refine opq fun Qx hQ => ?_
  revert X
  k_fill
  intro X
  rw [know m1, know m2, know m3, know m4] at F
  obtain ⟨oS, oT, t1, t2, t3, t4, sn, dS, dT, IK, N⟩ := I.news F
  have g1 := G.t2
  have g2 := G.p2
  dsimp only [LEnv, if0, if1, if2, if3, ifBody, ifElse, turnBody, lawScope, lawBody, lawDef, fnBody, fnScope, forBody, lastS, tl1, hd1, PySem.Challenge.pw_no0153_01]
  repeat' ((fail_if_success (with_reducible show Mid _)); first | (k_unfold; (try dsimp only)) | (k_end; wrow_close) | ((fail_if_success (with_reducible show wpAny _ _ (call (Value.ref _) _ _) _ _ _)); walk1) | ((fail_if_success (with_reducible show wpAny _ _ (call (Value.ref _) _ _) _ _ _)); dsimp only; walk1))
  refine wpAny_call (c_func (a := P.a) ⟨X, T⟩ (fun b o e => F.keep b o e) (by show dp + 1 + 50 < _; omega) (by show un + 3 + 1000 < _; omega) I.sym (by omega) (by omega) fun h2 tk2 t2 k2 Y2 => ?_)
  have I2 := I.symC k2 (SA.sub4 _) Y2
  have F2 := Fr.but F k2 (fun q => I.offL (List.mem_append_left _ (SA.sub4 _ _ q))) (fun b hb => I.sym.fresh b (SA.sub4 _ _ hb))
  clear F N I IK
  obtain ⟨oS2, oT2, _, _, _, _, sn2, dS2, dT2, IK2, N2⟩ := I2.news F2
  dsimp only at F2 ⊢
  repeat' ((fail_if_success (with_reducible show Mid _)); first | (k_unfold; (try dsimp only)) | (k_end; wrow_close) | ((fail_if_success (with_reducible show wpAny _ _ (call (Value.ref _) _ _) _ _ _)); walk1) | ((fail_if_success (with_reducible show wpAny _ _ (call (Value.ref _) _ _) _ _ _)); dsimp only; walk1))
  obtain ⟨vs, n, e2, h2i⟩ := I2.tx
  refine wpAny_call (c_place kStr ⟨X, T⟩ (fun b o e => F2.keep b o e) (by show dp + 1 + 10 < _; omega) (by show un + 3 + 200 < _; omega) e2 (I2.fresh _ (by simp)) h2i ⟨t, rfl⟩ (by omega) fun h3 tk3 t3 vs3 n3 k3 e3 h3i => ?_)
  have I3 := I2.txC k3 ⟨vs3, n3, e3, h3i⟩
  have F3 := Fr.but F2 k3 (fun q => I2.offL (by rw [List.mem_singleton.mp q]; simp)) (fun b hb => I2.fresh b (by rw [List.mem_singleton.mp hb]; simp))
  clear F2 N2 I2 IK2 e3 h3i k3 h2i e2
  obtain ⟨oS3, oT3, _, _, _, _, sn3, dS3, dT3, IK3, N3⟩ := I3.news F3
  dsimp only at F3 ⊢
  repeat' ((fail_if_success (with_reducible show Mid _)); first | (k_unfold; (try dsimp only)) | (k_end; wrow_close) | ((fail_if_success (with_reducible show wpAny _ _ (call (Value.ref _) _ _) _ _ _)); walk1) | ((fail_if_success (with_reducible show wpAny _ _ (call (Value.ref _) _ _) _ _ _)); dsimp only; walk1))
  rename_i h4 F4 N4 l4
  have I4 := IK3 _ _ F4 (News.sub N4 (by intro p hp; simp [hp]))
  obtain ⟨ws, n4, e4, h4i⟩ := I4.pr
  refine wpAny_call (c_place (kPair PR w) ⟨X, T⟩ (fun b o e => F4.keep b o e) (by show dp + 1 + 10 < _; omega) (by show un + 3 + 200 < _; omega) e4 (I4.fresh _ (by simp)) h4i ⟨_, rfl, pair_key (N4.get (.head _))⟩ (by omega) fun h5 tk5 t5 vs5 n5 k5 e5 h5i => ?_)
  have I5 := I4.prC k5 ⟨vs5, n5, e5, h5i⟩
  have F5 := Fr.but F4 k5 (fun q => I4.offL (by rw [List.mem_singleton.mp q]; simp)) (fun b hb => I4.fresh b (by rw [List.mem_singleton.mp hb]; simp))
  clear F4 N4 I4 IK3 I3
  dsimp only at F5 ⊢
  repeat' ((fail_if_success (with_reducible show Mid _)); first | (k_unfold; (try dsimp only)) | (k_end; wrow_close) | (walk1) | (dsimp only; walk1))
  · contradiction
  · exact hQ _ _ ⟨rfl, h5, _, _, _, _, rfl, F5, rfl, rfl, I5, G.func hx hy⟩
end Mine

end
section
open PySem PySem.W PySem.Calls PyProof.Rows
set_option maxRecDepth 100000
set_option maxHeartbeats 8000000

namespace Mine
theorem t_b2 {w : World} {mean : ExcName → Option Value} {mg mb : Str → Option Value} {g : Heap} {dp un : Nat} {fr : Option (List Env)} {gd : Option (List Code)} {s : Shared} {L fa : Addr} {cdv : Value} {m : Str → Option Value} {P : LP} {ts : List Str} {ps : List (Int × Int)} {i : Nat} {y : Int} {u : Tok} (X : (hd.heap_39 w.params).In g) (T : Top hd.view_39 (looseW hd.view_39 []) mean mg mb g) (hA : dp + 200 < recursionLimit) (hU : un + 4000 < cLine) (F : Fr g L s.heap m) (I : Inv w g L P s.heap ts ps ts ps) (hi : i ≤ 30) (G : Good i ts ps)
  (m1 : m (Str.ofString "row") = some (.ref P.rw)) (m2 : m (Str.ofString "pairs") = some (.ref P.pr)) (m4 : m (Str.ofString "wide") = some (.int y u)) (hy : 0 ≤ y ∧ y ≤ 8) :
  wpAny (model PySem.Challenge.rw_no0153_01.row.toRowW.prog w) (Around.deeper ⟨none, dp, fr, gd, un⟩ (LEnv L fa cdv)) (execs (ifBody if2) (LEnv L fa cdv)) (fun f s' => Mid (f = .next ∧ TEnd w g L P s (i + 1) s')) (fun _ _ => False) s := by
  refine opq fun Qx hQ => ?_
  revert X
  k_fill
  intro X
  rw [know m1, know m2, know m4] at F
  obtain ⟨oS, oT, t1, t2, t3, t4, sn, dS, dT, IK, N⟩ := I.news F
  have g0 := G.t1
  have g1 := G.t2
  have g2 := G.p2
  dsimp only [LEnv, if0, if1, if2, if3, ifBody, ifElse, turnBody, lawScope, lawBody, lawDef, fnBody, fnScope, forBody, lastS, tl1, hd1, PySem.Challenge.pw_no0153_01]
  repeat' ((fail_if_success (with_reducible show Mid _)); first | (k_unfold; (try dsimp only)) | (k_end; wrow_close) | ((fail_if_success (with_reducible show wpAny _ _ (call (Value.ref _) _ _) _ _ _)); walk1) | ((fail_if_success (with_reducible show wpAny _ _ (call (Value.ref _) _ _) _ _ _)); dsimp only; walk1))
  obtain ⟨vs, n, ns, e1, hi1, hl1, hb1⟩ := I.row
  refine wpAny_call (c_next ⟨X, T⟩ (fun b o e => F.keep b o e) (by show dp + 1 + 10 < _; omega) (by show un + 3 + 200 < _; omega) e1 (I.fresh _ (by simp)) hi1 hl1 fun h2 tk2 t2 n2 k2 e2 => ?_)
  have I2 := I.rowC k2 ⟨_, n2, _, e2, ints_drop hi1, drop_len hl1, drop_bd hb1⟩
  have F2 := Fr.but F k2 (fun q => I.offL (by rw [List.mem_singleton.mp q]; simp)) (fun b hb => I.fresh b (by rw [List.mem_singleton.mp hb]; simp))
  clear F N I IK
  obtain ⟨oS2, oT2, _, _, _, _, sn2, dS2, dT2, IK2, N2⟩ := I2.news F2
  dsimp only at F2 ⊢
  repeat' ((fail_if_success (with_reducible show Mid _)); first | (k_unfold; (try dsimp only)) | (k_end; wrow_close) | ((fail_if_success (with_reducible show wpAny _ _ (call (Value.builtin "len") _ _) _ _ _)); walk1) | ((fail_if_success (with_reducible show wpAny _ _ (call (Value.builtin "len") _ _) _ _ _)); dsimp only; walk1))
  obtain ⟨vt, nt, et, hit⟩ := I2.tx
  have lt := hit.length
  refine len_list ⟨_, et, rfl, _, rfl⟩ (by rw [List.size_toArray]; omega) ?_
  rw [List.size_toArray, lt]
  have c0 : (ts.length : Int) ≠ 0 := by omega
  have c1 : (0 : Int) < (ts.length : Int) := by omega
  repeat' ((fail_if_success (with_reducible show Mid _)); first | (k_unfold; (try dsimp only)) | (k_end; wrow_close) | ((fail_if_success (with_reducible show wpAny _ _ (call (Value.ref _) _ _) _ _ _)); walk1) | ((fail_if_success (with_reducible show wpAny _ _ (call (Value.ref _) _ _) _ _ _)); dsimp only; walk1))
  rename_i h3 F3 N3
  have I3 := IK2 _ _ F3 (News.sub N3 (by intro p hp; simp [hp]))
  have GF : Good (i + 1) ts (ins ps ((ns.getLastD 0).fmod (ts.length : Int), y)) := by
    obtain ⟨j, hj⟩ : ∃ j : Nat, (ns.getLastD 0).fmod (ts.length : Int) = (j : Int) := ⟨_, (Int.toNat_of_nonneg (fmod_lo _ c1)).symm⟩
    have hh := fmod_hi (ns.getLastD 0) c1
    rw [hj] at hh ⊢
    exact G.fun' (by omega) hy
  generalize (ns.getLastD 0).fmod (ts.length : Int) = k at F3 GF ⊢
  refine wpAny_call (c_functor (a := P.a) ⟨X, T⟩ (fun b o e => F3.keep b o e) (by show dp + 1 + 10 < _; omega) (by show un + 3 + 200 < _; omega) I3.sym (by omega) fun h4 tk4 t4 k4 Y4 => ?_)
  have I4 := I3.symC k4 (SA.subf _) Y4
  have F4 := Fr.but F3 k4 (fun q => I3.offL (List.mem_append_left _ (SA.subf _ _ q))) (fun b hb => I3.sym.fresh b (SA.subf _ _ hb))
  clear F3 N3 I3 IK2 I2
  obtain ⟨oS4, oT4, _, _, _, _, sn4, dS4, dT4, IK4, N4⟩ := I4.news F4
  dsimp only at F4 ⊢
  repeat' ((fail_if_success (with_reducible show Mid _)); first | (k_unfold; (try dsimp only)) | (k_end; wrow_close) | ((fail_if_success (with_reducible show wpAny _ _ (call (Value.ref _) _ _) _ _ _)); walk1) | ((fail_if_success (with_reducible show wpAny _ _ (call (Value.ref _) _ _) _ _ _)); dsimp only; walk1))
  rename_i h5 F5 N5 l5
  have I5 := IK4 _ _ F5 (News.sub N5 (by intro p hp; simp [hp]))
  obtain ⟨ws, n5, e5, h5i⟩ := I5.pr
  refine wpAny_call (c_place (kPair PR w) ⟨X, T⟩ (fun b o e => F5.keep b o e) (by show dp + 1 + 10 < _; omega) (by show un + 3 + 200 < _; omega) e5 (I5.fresh _ (by simp)) h5i ⟨_, rfl, pair_key (N5.get (.head _))⟩ (by omega) fun h6 tk6 t6 vs6 n6 k6 e6 h6i => ?_)
  have I6 := I5.prC k6 ⟨vs6, n6, e6, h6i⟩
  have F6 := Fr.but F5 k6 (fun q => I5.offL (by rw [List.mem_singleton.mp q]; simp)) (fun b hb => I5.fresh b (by rw [List.mem_singleton.mp hb]; simp))
  clear F5 N5 I5 IK4 I4
  dsimp only at F6 ⊢
  repeat' ((fail_if_success (with_reducible show Mid _)); first | (k_unfold; (try dsimp only)) | (k_end; wrow_close) | (walk1) | (dsimp only; walk1))
  · contradiction
  · exact hQ _ _ ⟨rfl, h6, _, _, _, _, rfl, F6, rfl, rfl, I6, GF⟩

theorem t_b3 {w : World} {mean : ExcName → Option Value} {mg mb : Str → Option Value} {g : Heap} {dp un : Nat} {fr : Option (List Env)} {gd : Option (List Code)} {s : Shared} {L fa : Addr} {cdv : Value} {m : Str → Option Value} {P : LP} {ts : List Str} {ps : List (Int × Int)} {i : Nat} {x : Str} {y : Int} {t u : Tok} (X : (hd.heap_39 w.params).In g) (T : Top hd.view_39 (looseW hd.view_39 []) mean mg mb g) (hA : dp + 200 < recursionLimit) (hU : un + 4000 < cLine) (F : Fr g L s.heap m) (I : Inv w g L P s.heap ts ps ts ps) (hi : i ≤ 30) (G : Good i ts ps)
  (m1 : m (Str.ofString "row") = some (.ref P.rw)) (m2 : m (Str.ofString "pairs") = some (.ref P.pr)) (m3 : m (Str.ofString "word") = some (.str x t)) (m4 : m (Str.ofString "wide") = some (.int y u)) :
  wpAny (model PySem.Challenge.rw_no0153_01.row.toRowW.prog w) (Around.deeper ⟨none, dp, fr, gd, un⟩ (LEnv L fa cdv)) (execs (ifBody if3) (LEnv L fa cdv)) (fun f s' => Mid (f = .next ∧ TEnd w g L P s (i + 1) s')) (fun _ _ => False) s := by
  refine opq fun Qx hQ => ?_
  revert X
  k_fill
  intro X
  rw [know m1, know m2, know m3, know m4] at F
  obtain ⟨oS, oT, t1, t2, t3, t4, sn, dS, dT, IK, N⟩ := I.news F
  have g1 := G.t2
  have g2 := G.p2
  dsimp only [LEnv, if0, if1, if2, if3, ifBody, ifElse, turnBody, lawScope, lawBody, lawDef, fnBody, fnScope, forBody, lastS, tl1, hd1, PySem.Challenge.pw_no0153_01]
  refine cut (fun s' => ∃ h' tk' due td, s' = { s with heap := h', toks := tk' } ∧ Fr g L h' (fun z => if z = (Str.ofString "due") then some (.int due td) else if z = (Str.ofString "row") then some (.ref P.rw) else if z = (Str.ofString "pairs") then some (.ref P.pr) else if z = (Str.ofString "word") then some (.str x t) else if z = (Str.ofString "wide") then some (.int y u) else m z) ∧ Inv w g L P h' ts ps ts ps ∧ due = -1) ?_ ?_
  · refine opq fun Qx hQ => ?_
    repeat' ((fail_if_success (with_reducible show Mid _)); first | (k_unfold; (try dsimp only)) | (k_end; wrow_close) | (walk1) | (dsimp only; walk1))
    rename_i h2 F2 N2
    exact hQ _ _ ⟨rfl, h2, _, _, _, rfl, F2, IK _ _ F2 (News.sub N2 (by intro p hp; simp [hp])), rfl⟩
  rintro s' ⟨h2, tk2, _, td, rfl, F2, I2, rfl⟩
  clear F N I IK
  refine cut (fun s' => ∃ h' tk' td m', s' = { s with heap := h', toks := tk' } ∧ Fr g L h' m' ∧ m' (Str.ofString "due") = some (.int (knownZ ts ps x y) td) ∧ m' (Str.ofString "row") = some (.ref P.rw) ∧ m' (Str.ofString "pairs") = some (.ref P.pr) ∧ m' (Str.ofString "word") = some (.str x t) ∧ m' (Str.ofString "wide") = some (.int y u) ∧ Inv w g L P h' ts ps ts ps) ?_ ?_
  · refine opq fun Qx hQ => ?_
    obtain ⟨oS2, oT2, _, _, _, _, sn2, dS2, dT2, IK2, N2⟩ := I2.news F2
    obtain ⟨vt, nt, et, hit⟩ := I2.tx
    repeat' ((fail_if_success (with_reducible show Mid _)); first | (k_unfold; (try dsimp only)) | (k_end; wrow_close) | ((fail_if_success (with_reducible show wpAny _ _ (compareOp _ _ _) _ _ _)); walk1) | ((fail_if_success (with_reducible show wpAny _ _ (compareOp _ _ _) _ _ _)); dsimp only; walk1))
    refine kd_in kStr (by show un + 3 + 10 < _; omega) ⟨_, et, rfl, _, rfl⟩ hit ⟨t, rfl⟩ ?_
    repeat' ((fail_if_success (with_reducible show Mid _)); first | (k_unfold; (try dsimp only)) | (k_end; wrow_close) | ((fail_if_success (with_reducible show wpAny _ _ (getMethod _ _ _) _ _ _)); walk1) | ((fail_if_success (with_reducible show wpAny _ _ (getMethod _ _ _) _ _ _)); dsimp only; walk1))
    · rename_i hxt
      refine meth_index et ?_
      repeat' ((fail_if_success (with_reducible show Mid _)); first | (k_unfold; (try dsimp only)) | (k_end; wrow_close) | ((fail_if_success (with_reducible show wpAny _ _ (call (Value.builtin "list.index") _ _) _ _ _)); walk1) | ((fail_if_success (with_reducible show wpAny _ _ (call (Value.builtin "list.index") _ _) _ _ _)); dsimp only; walk1))
      refine kd_index kStr (by show un + 3 + 10 < _; omega) ⟨_, et, rfl, _, rfl⟩ hit ⟨t, rfl⟩ hxt (by omega) ?_
      repeat' ((fail_if_success (with_reducible show Mid _)); first | (k_unfold; (try dsimp only)) | (k_end; wrow_close) | ((fail_if_success (with_reducible show wpAny _ _ (compareOp _ _ _) _ _ _)); walk1) | ((fail_if_success (with_reducible show wpAny _ _ (compareOp _ _ _) _ _ _)); dsimp only; walk1))
      rename_i h3 F3 N3 _
      have I3 := IK2 _ _ F3 (News.sub N3 (by intro p hp; simp [hp]))
      obtain ⟨vp, np, ep, hip⟩ := I3.pr
      refine kd_in (kPair PR w) (by show un + 3 + 10 < _; omega) ⟨_, ep, rfl, _, rfl⟩ hip ⟨_, rfl, pair_key (N3.get (.head _))⟩ ?_
      repeat' ((fail_if_success (with_reducible show Mid _)); first | (k_unfold; (try dsimp only)) | (k_end; wrow_close) | ((fail_if_success (with_reducible show wpAny _ _ (getMethod _ _ _) _ _ _)); walk1) | ((fail_if_success (with_reducible show wpAny _ _ (getMethod _ _ _) _ _ _)); dsimp only; walk1))
      · rename_i hin
        replace hin : ((ix ts x : Int), y) ∈ ps := by simpa using hin
        refine meth_index ep ?_
        repeat' ((fail_if_success (with_reducible show Mid _)); first | (k_unfold; (try dsimp only)) | (k_end; wrow_close) | ((fail_if_success (with_reducible show wpAny _ _ (getMethod _ _ _) _ _ _)); walk1) | ((fail_if_success (with_reducible show wpAny _ _ (getMethod _ _ _) _ _ _)); dsimp only; walk1))
        obtain ⟨vt3, nt3, et3, hit3⟩ := I3.tx
        refine meth_index et3 ?_
        repeat' ((fail_if_success (with_reducible show Mid _)); first | (k_unfold; (try dsimp only)) | (k_end; wrow_close) | ((fail_if_success (with_reducible show wpAny _ _ (call (Value.builtin "list.index") _ _) _ _ _)); walk1) | ((fail_if_success (with_reducible show wpAny _ _ (call (Value.builtin "list.index") _ _) _ _ _)); dsimp only; walk1))
        refine kd_index kStr (by show un + 3 + 10 < _; omega) ⟨_, et3, rfl, _, rfl⟩ hit3 ⟨t, rfl⟩ hxt (by omega) ?_
        repeat' ((fail_if_success (with_reducible show Mid _)); first | (k_unfold; (try dsimp only)) | (k_end; wrow_close) | ((fail_if_success (with_reducible show wpAny _ _ (call (Value.builtin "list.index") _ _) _ _ _)); walk1) | ((fail_if_success (with_reducible show wpAny _ _ (call (Value.builtin "list.index") _ _) _ _ _)); dsimp only; walk1))
        rename_i h4 F4 N4 _
        have I4 := IK2 _ _ F4 (News.sub N4 (by intro p hp; simp [hp]))
        obtain ⟨vp4, np4, ep4, hip4⟩ := I4.pr
        refine kd_index (kPair PR w) (by show un + 3 + 10 < _; omega) ⟨_, ep4, rfl, _, rfl⟩ hip4 ⟨_, rfl, pair_key (N4.get (.head _))⟩ hin (by omega) ?_
        repeat' ((fail_if_success (with_reducible show Mid _)); first | (k_unfold; (try dsimp only)) | (k_end; wrow_close) | (walk1) | (dsimp only; walk1))
        rename_i h5 F5 N5
        have e : knownZ ts ps x y = (ix ps ((ix ts x : Int), y) : Int) := by unfold knownZ; rw [if_pos hxt, idxZ_mem hin]
        exact hQ _ _ ⟨rfl, h5, _, _, _, rfl, F5, congrArg (fun k => some (Value.int k _)) e.symm, rfl, rfl, rfl, rfl, IK2 _ _ F5 (News.sub N5 (by intro p hp; simp [hp]))⟩
      · rename_i hnin
        replace hnin : ((ix ts x : Int), y) ∉ ps := by simpa using hnin
        have e : knownZ ts ps x y = -1 := by unfold knownZ idxZ; rw [if_pos hxt, if_neg hnin]
        exact hQ _ _ ⟨rfl, h3, _, td, _, rfl, F3, congrArg (fun k => some (Value.int k _)) e.symm, rfl, rfl, rfl, rfl, I3⟩
    · rename_i hxn
      have e : knownZ ts ps x y = -1 := by unfold knownZ; rw [if_neg hxn]
      exact hQ _ _ ⟨rfl, h2, _, td, _, rfl, F2, congrArg (fun k => some (Value.int k _)) e.symm, rfl, rfl, rfl, rfl, I2⟩
  rintro s' ⟨h3, tk3, td3, m5, rfl, F3, q0, q1, q2, q3, q4, I3⟩
  clear F2 I2
  rw [know q1, know q2, know q0, know q3, know q4] at F3
  obtain ⟨oS3, oT3, _, _, _, _, sn3, dS3, dT3, IK3, N3⟩ := I3.news F3
  repeat' ((fail_if_success (with_reducible show Mid _)); first | (k_unfold; (try dsimp only)) | (k_end; wrow_close) | ((fail_if_success (with_reducible show wpAny _ _ (call (Value.ref _) _ _) _ _ _)); walk1) | ((fail_if_success (with_reducible show wpAny _ _ (call (Value.ref _) _ _) _ _ _)); dsimp only; walk1))
  refine wpAny_call (c_known (a := P.a) ⟨X, T⟩ (fun b o e => F3.keep b o e) (by show dp + 1 + 10 < _; omega) (by show un + 3 + 200 < _; omega) I3.sym fun h4 tk4 t4 k4 => ?_)
  have I4 := I3.grow k4
  have F4 := Fr.but F3 k4 (by simp) (by simp)
  clear F3 N3 I3 IK3
  have sn := snap_news g L h4
  generalize snap g L h4 = sn9 at sn
  dsimp only at F4 ⊢
  repeat' ((fail_if_success (with_reducible show Mid _)); first | (k_unfold; (try dsimp only)) | (k_end; wrow_close) | (walk1) | (dsimp only; walk1))
  · contradiction
  · exact hQ _ _ ⟨rfl, h4, _, _, _, _, rfl, F4, rfl, rfl, I4, G.more⟩
end Mine

end
section
open PySem PySem.W PySem.Calls PyProof.Rows
set_option maxRecDepth 100000
set_option maxHeartbeats 8000000

namespace Mine
theorem t_b4 {w : World} {mean : ExcName → Option Value} {mg mb : Str → Option Value} {g : Heap} {dp un : Nat} {fr : Option (List Env)} {gd : Option (List Code)} {s : Shared} {L fa : Addr} {cdv : Value} {m : Str → Option Value} {P : LP} {ts : List Str} {ps : List (Int × Int)} {i : Nat} (X : (hd.heap_39 w.params).In g) (T : Top hd.view_39 (looseW hd.view_39 []) mean mg mb g) (hA : dp + 200 < recursionLimit) (hU : un + 4000 < cLine) (F : Fr g L s.heap m) (I : Inv w g L P s.heap ts ps ts ps) (hi : i ≤ 30) (G : Good i ts ps)
  (m1 : m (Str.ofString "row") = some (.ref P.rw)) (m2 : m (Str.ofString "pairs") = some (.ref P.pr)) :
  wpAny (model PySem.Challenge.rw_no0153_01.row.toRowW.prog w) (Around.deeper ⟨none, dp, fr, gd, un⟩ (LEnv L fa cdv)) (execs (ifElse if3) (LEnv L fa cdv)) (fun f s' => Mid (f = .next ∧ TEnd w g L P s (i + 1) s')) (fun _ _ => False) s := by
  refine opq fun Qx hQ => ?_
  revert X
  k_fill
  intro X
  rw [know m1, know m2] at F
  have sn := snap_news g L s.heap
  generalize hsn : snap g L s.heap = sn9 at sn
  have g0 := G.p1
  have g1 := G.t2
  have g2 := G.p2
  dsimp only [LEnv, if0, if1, if2, if3, ifBody, ifElse, turnBody, lawScope, lawBody, lawDef, fnBody, fnScope, forBody, lastS, tl1, hd1, PySem.Challenge.pw_no0153_01]
  refine cut (fun s' => ∃ h' tk' k td m', s' = { s with heap := h', toks := tk' } ∧ Fr g L h' m' ∧ m' (Str.ofString "number") = some (.int (k : Nat) td) ∧ k < ps.length ∧ m' (Str.ofString "row") = some (.ref P.rw) ∧ m' (Str.ofString "pairs") = some (.ref P.pr) ∧ Inv w g L P h' ts ps ts ps) ?_ ?_
  · refine opq fun Qx hQ => ?_
    repeat' ((fail_if_success (with_reducible show Mid _)); first | (k_unfold; (try dsimp only)) | (k_end; wrow_close) | ((fail_if_success (with_reducible show wpAny _ _ (call (Value.ref _) _ _) _ _ _)); walk1) | ((fail_if_success (with_reducible show wpAny _ _ (call (Value.ref _) _ _) _ _ _)); dsimp only; walk1))
    obtain ⟨vs, n, ns, e1, hi1, hl1, hb1⟩ := I.row
    refine wpAny_call (c_next ⟨X, T⟩ (fun b o e => F.keep b o e) (by show dp + 1 + 10 < _; omega) (by show un + 3 + 200 < _; omega) e1 (I.fresh _ (by simp)) hi1 hl1 fun h2 tk2 t2 n2 k2 e2 => ?_)
    have I2 := I.rowC k2 ⟨_, n2, _, e2, ints_drop hi1, drop_len hl1, drop_bd hb1⟩
    have F2 := Fr.but F k2 (fun q => I.offL (by rw [List.mem_singleton.mp q]; simp)) (fun b hb => I.fresh b (by rw [List.mem_singleton.mp hb]; simp))
    clear F sn I
    have S2 := Snap.of F2
    have sn := snap_news g L h2
    generalize hs2 : snap g L h2 = sn2 at sn
    dsimp only at F2 ⊢
    repeat' ((fail_if_success (with_reducible show Mid _)); first | (k_unfold; (try dsimp only)) | (k_end; wrow_close) | ((fail_if_success (with_reducible show wpAny _ _ (call (Value.builtin "len") _ _) _ _ _)); walk1) | ((fail_if_success (with_reducible show wpAny _ _ (call (Value.builtin "len") _ _) _ _ _)); dsimp only; walk1))
    obtain ⟨vt, nt, et, hit⟩ := I2.pr
    have lt := hit.length
    refine len_list ⟨_, et, rfl, _, rfl⟩ (by rw [List.size_toArray]; omega) ?_
    rw [List.size_toArray, lt]
    have c0 : (ps.length : Int) ≠ 0 := by omega
    have c1 : (0 : Int) < (ps.length : Int) := by omega
    repeat' ((fail_if_success (with_reducible show Mid _)); first | (k_unfold; (try dsimp only)) | (k_end; wrow_close) | (walk1) | (dsimp only; walk1))
    rename_i h3 F3 N3
    have q := fmod_lo (ns.getLastD 0) c1
    have q' := fmod_hi (ns.getLastD 0) c1
    exact hQ _ _ ⟨(by simp), h3, _, ((ns.getLastD 0).fmod (ps.length : Int)).toNat, _, _, rfl, F3, congrArg (fun k => some (Value.int k _)) (Int.toNat_of_nonneg q).symm, by omega, rfl, rfl, I2.snp S2 F3 (hs2 ▸ N3)⟩
  rintro s' ⟨h2, tk2, k, td, m5, rfl, F2, q0, hk, q1, q2, I2⟩
  clear F I sn
  rw [know q1, know q2, know q0] at F2
  obtain ⟨⟨pj, y⟩, hp⟩ : ∃ p, ps[k]? = some p := ⟨_, List.getElem?_eq_getElem hk⟩
  obtain ⟨j, hj, hjl, hy⟩ := G.pair _ (List.mem_of_getElem? hp)
  dsimp only at hj hy
  subst hj
  obtain ⟨x, hx⟩ : ∃ x, ts[j]? = some x := ⟨_, List.getElem?_eq_getElem hjl⟩
  have hxl := G.txt x (List.mem_of_getElem? hx)
  refine cut (fun s' => ∃ h' tk' td m', s' = { s with heap := h', toks := tk' } ∧ Fr g L h' m' ∧ m' (Str.ofString "number") = some (.int (k : Nat) td) ∧ m' (Str.ofString "row") = some (.ref P.rw) ∧ m' (Str.ofString "pairs") = some (.ref P.pr) ∧ Inv w g L P h' ts ps ts ps) ?_ ?_
  · refine opq fun Qx hQ => ?_
    obtain ⟨oS2, oT2, _, _, _, _, sn2, dS2, dT2, IK2, N2⟩ := I2.news F2
    repeat' ((fail_if_success (with_reducible show Mid _)); first | (k_unfold; (try dsimp only)) | (k_end; wrow_close) | ((fail_if_success (with_reducible show wpAny _ _ (call (Value.ref _) _ _) _ _ _)); walk1) | ((fail_if_success (with_reducible show wpAny _ _ (call (Value.ref _) _ _) _ _ _)); dsimp only; walk1))
    refine wpAny_call (c_name (a := P.a) ⟨X, T⟩ (fun b o e => F2.keep b o e) (by show dp + 1 + 10 < _; omega) (by show un + 3 + 200 < _; omega) I2.sym (by omega) hp fun h3 tk3 t3 k3 => ?_)
    have I3 := I2.grow k3
    have F3 := Fr.but F2 k3 (by simp) (by simp)
    clear F2 N2 I2 IK2
    obtain ⟨oS3, oT3, _, _, _, _, sn3, dS3, dT3, IK3, N3⟩ := I3.news F3
    dsimp only at F3 ⊢
    obtain ⟨vp, np, ep, hip⟩ := I3.pr
    obtain ⟨vk, hvk, pa, rfl, hkey⟩ := hip.get hp
    obtain ⟨ta, tb, htup⟩ := key_items hkey
    repeat' ((fail_if_success (with_reducible show Mid _)); first | (k_unfold; (try dsimp only)) | (k_end; wrow_close) | ((fail_if_success (with_reducible show wpAny _ _ (subscriptTail _ _ _ _) _ _ _)); walk1) | ((fail_if_success (with_reducible show wpAny _ _ (subscriptTail _ _ _ _) _ _ _)); dsimp only; walk1))
    refine item_litK ⟨_, ep, rfl, _, rfl⟩ (by omega) (by omega) (by simpa using hvk) ?_ (by with_unfolding_all rfl)
    repeat' ((fail_if_success (with_reducible show Mid _)); first | (k_unfold; (try dsimp only)) | (k_end; wrow_close) | ((fail_if_success (with_reducible show wpAny _ _ (subscriptTail _ _ _ _) _ _ _)); walk1) | ((fail_if_success (with_reducible show wpAny _ _ (subscriptTail _ _ _ _) _ _ _)); dsimp only; walk1))
    refine item_tupleT htup (by decide) (by decide) rfl rfl ?_ (by with_unfolding_all rfl)
    repeat' ((fail_if_success (with_reducible show Mid _)); first | (k_unfold; (try dsimp only)) | (k_end; wrow_close) | ((fail_if_success (with_reducible show wpAny _ _ (call (Value.ref _) _ _) _ _ _)); walk1) | ((fail_if_success (with_reducible show wpAny _ _ (call (Value.ref _) _ _) _ _ _)); dsimp only; walk1))
    · contradiction
    refine wpAny_call (c_arity (a := P.a) ⟨X, T⟩ (fun b o e => F3.keep b o e) (by show dp + 1 + 10 < _; omega) (by show un + 3 + 200 < _; omega) I3.sym (by omega) hp fun h4 tk4 t4 k4 => ?_)
    have I4 := I3.grow k4
    have F4 := Fr.but F3 k4 (by simp) (by simp)
    have ep4 := k4 _ _ ep (by simp)
    have htup4 := IsTup.keeps htup fun b o e => k4 b o e (by simp)
    clear F3 N3 I3 IK3 hip hkey htup ep
    have sn := snap_news g L h4
    generalize snap g L h4 = sn4 at sn
    dsimp only at F4 ⊢
    repeat' ((fail_if_success (with_reducible show Mid _)); first | (k_unfold; (try dsimp only)) | (k_end; wrow_close) | ((fail_if_success (with_reducible show wpAny _ _ (subscriptTail _ _ _ _) _ _ _)); walk1) | ((fail_if_success (with_reducible show wpAny _ _ (subscriptTail _ _ _ _) _ _ _)); dsimp only; walk1))
    refine item_litK ⟨_, ep4, rfl, _, rfl⟩ (by omega) (by omega) (by simpa using hvk) ?_ (by with_unfolding_all rfl)
    repeat' ((fail_if_success (with_reducible show Mid _)); first | (k_unfold; (try dsimp only)) | (k_end; wrow_close) | ((fail_if_success (with_reducible show wpAny _ _ (subscriptTail _ _ _ _) _ _ _)); walk1) | ((fail_if_success (with_reducible show wpAny _ _ (subscriptTail _ _ _ _) _ _ _)); dsimp only; walk1))
    refine item_tupleT htup4 (by decide) (by decide) rfl rfl ?_ (by with_unfolding_all rfl)
    repeat' ((fail_if_success (with_reducible show Mid _)); first | (k_unfold; (try dsimp only)) | (k_end; wrow_close) | (walk1) | (dsimp only; walk1))
    · contradiction
    · exact hQ _ _ ⟨(by simp), h4, _, _, _, rfl, F4, rfl, rfl, rfl, I4⟩
  rintro s' ⟨h3, tk3, td3, m6, rfl, F3, q0', q1', q2', I3⟩
  clear F2 I2 q0 q1 q2
  rw [know q1', know q2', know q0'] at F3
  obtain ⟨oS3, oT3, _, _, _, _, sn3, dS3, dT3, IK3, N3⟩ := I3.news F3
  repeat' ((fail_if_success (with_reducible show Mid _)); first | (k_unfold; (try dsimp only)) | (k_end; wrow_close) | ((fail_if_success (with_reducible show wpAny _ _ (call (Value.ref _) _ _) _ _ _)); walk1) | ((fail_if_success (with_reducible show wpAny _ _ (call (Value.ref _) _ _) _ _ _)); dsimp only; walk1))
  refine wpAny_call (c_label (a := P.a) ⟨X, T⟩ (fun b o e => F3.keep b o e) (by show dp + 1 + 10 < _; omega) (by show un + 3 + 200 < _; omega) I3.sym (by omega) (by omega) hp hx hy (by omega) fun h4 tk4 t4 k4 => ?_)
  have I4 := I3.grow k4
  have F4 := Fr.but F3 k4 (by simp) (by simp)
  clear F3 N3 I3 IK3
  obtain ⟨oS4, oT4, _, _, _, _, sn4, dS4, dT4, IK4, N4⟩ := I4.news F4
  dsimp only at F4 ⊢
  obtain ⟨vp, np, ep, hip⟩ := I4.pr
  obtain ⟨vt, nt, et, hit⟩ := I4.tx
  obtain ⟨vk, hvk, pa, rfl, hkey⟩ := hip.get hp
  obtain ⟨ta, tb, htup⟩ := key_items hkey
  obtain ⟨vx, hvx, tx', rfl⟩ := hit.get hx
  repeat' ((fail_if_success (with_reducible show Mid _)); first | (k_unfold; (try dsimp only)) | (k_end; wrow_close) | ((fail_if_success (with_reducible show wpAny _ _ (subscriptTail _ _ _ _) _ _ _)); walk1) | ((fail_if_success (with_reducible show wpAny _ _ (subscriptTail _ _ _ _) _ _ _)); dsimp only; walk1))
  refine item_litK ⟨_, ep, rfl, _, rfl⟩ (by omega) (by omega) (by simpa using hvk) ?_ (by with_unfolding_all rfl)
  repeat' ((fail_if_success (with_reducible show Mid _)); first | (k_unfold; (try dsimp only)) | (k_end; wrow_close) | ((fail_if_success (with_reducible show wpAny _ _ (subscriptTail _ _ _ _) _ _ _)); walk1) | ((fail_if_success (with_reducible show wpAny _ _ (subscriptTail _ _ _ _) _ _ _)); dsimp only; walk1))
  refine item_tupleT htup (by decide) (by decide) rfl rfl ?_ (by with_unfolding_all rfl)
  repeat' ((fail_if_success (with_reducible show Mid _)); first | (k_unfold; (try dsimp only)) | (k_end; wrow_close) | ((fail_if_success (with_reducible show wpAny _ _ (subscriptTail _ _ _ _) _ _ _)); walk1) | ((fail_if_success (with_reducible show wpAny _ _ (subscriptTail _ _ _ _) _ _ _)); dsimp only; walk1))
  refine item_litK ⟨_, et, rfl, _, rfl⟩ (by omega) (by omega) (by simpa using hvx) ?_ (by with_unfolding_all rfl)
  repeat' ((fail_if_success (with_reducible show Mid _)); first | (k_unfold; (try dsimp only)) | (k_end; wrow_close) | ((fail_if_success (with_reducible show wpAny _ _ (subscriptTail _ _ _ _) _ _ _)); walk1) | ((fail_if_success (with_reducible show wpAny _ _ (subscriptTail _ _ _ _) _ _ _)); dsimp only; walk1))
  refine item_litK ⟨_, ep, rfl, _, rfl⟩ (by omega) (by omega) (by simpa using hvk) ?_ (by with_unfolding_all rfl)
  repeat' ((fail_if_success (with_reducible show Mid _)); first | (k_unfold; (try dsimp only)) | (k_end; wrow_close) | ((fail_if_success (with_reducible show wpAny _ _ (subscriptTail _ _ _ _) _ _ _)); walk1) | ((fail_if_success (with_reducible show wpAny _ _ (subscriptTail _ _ _ _) _ _ _)); dsimp only; walk1))
  refine item_tupleT htup (by decide) (by decide) rfl rfl ?_ (by with_unfolding_all rfl)
  repeat' ((fail_if_success (with_reducible show Mid _)); first | (k_unfold; (try dsimp only)) | (k_end; wrow_close) | (walk1) | (dsimp only; walk1))
  · rename_i hbad
    simp at hbad
  · exact hQ _ _ ⟨(by simp), h4, _, _, _, _, rfl, F4, rfl, rfl, I4, G.more⟩
end Mine

end
section
open PySem PySem.W PySem.Calls PyProof.Rows
set_option maxRecDepth 100000
set_option maxHeartbeats 8000000

namespace Mine
theorem t_turn {w : World} {mean : ExcName → Option Value} {mg mb : Str → Option Value} {g : Heap} {dp un : Nat} {fr : Option (List Env)} {gd : Option (List Code)} {s : Shared} {L fa : Addr} {cdv : Value} {m : Str → Option Value} {P : LP} {ts : List Str} {ps : List (Int × Int)} {i : Nat} (X : (hd.heap_39 w.params).In g) (T : Top hd.view_39 (looseW hd.view_39 []) mean mg mb g) (hA : dp + 200 < recursionLimit) (hU : un + 4000 < cLine) (F : Fr g L s.heap m) (I : Inv w g L P s.heap ts ps ts ps) (hi : i ≤ 30) (G : Good i ts ps)
  (m1 : m (Str.ofString "row") = some (.ref P.rw)) (m2 : m (Str.ofString "pairs") = some (.ref P.pr)) :
  wpAny (model PySem.Challenge.rw_no0153_01.row.toRowW.prog w) (Around.deeper ⟨none, dp, fr, gd, un⟩ (LEnv L fa cdv)) (execs turnBody (LEnv L fa cdv)) (fun f s' => Mid (f = .next ∧ TEnd w g L P s (i + 1) s')) (fun _ _ => False) s := by
  refine opq fun Qx hQ => ?_
  revert X
  k_fill
  intro X
  have g1 := G.t2
  have g2 := G.p2
  have U : turnBody = turnBody := rfl
  conv at U => rhs; dsimp only [turnBody, lawBody, lawDef, fnBody, forBody, lastS, tl1, hd1, PySem.Challenge.pw_no0153_01]
  rw [U]
  clear U
  -- kind
  refine cut (fun s' => ∃ h' tk' k kd m', s' = { s with heap := h', toks := tk' } ∧ Fr g L h' m' ∧ m' (Str.ofString "kind") = some (.int k kd) ∧ m' (Str.ofString "row") = some (.ref P.rw) ∧ m' (Str.ofString "pairs") = some (.ref P.pr) ∧ Inv w g L P h' ts ps ts ps) ?_ ?_
  · refine opq fun Qx hQ => ?_
    rw [know m1, know m2] at F
    have sn := snap_news g L s.heap
    generalize snap g L s.heap = sn9 at sn
    dsimp only [LEnv, lawScope, lawDef, fnScope, lastS, PySem.Challenge.pw_no0153_01]
    repeat' ((fail_if_success (with_reducible show Mid _)); first | (k_unfold; (try dsimp only)) | (k_end; wrow_close) | ((fail_if_success (with_reducible show wpAny _ _ (call (Value.ref _) _ _) _ _ _)); walk1) | ((fail_if_success (with_reducible show wpAny _ _ (call (Value.ref _) _ _) _ _ _)); dsimp only; walk1))
    obtain ⟨vs, n, ns, e1, hi1, hl1, hb1⟩ := I.row
    refine wpAny_call (c_next ⟨X, T⟩ (fun b o e => F.keep b o e) (by show dp + 1 + 10 < _; omega) (by show un + 3 + 200 < _; omega) e1 (I.fresh _ (by simp)) hi1 hl1 fun h2 tk2 t2 n2 k2 e2 => ?_)
    have I2 := I.rowC k2 ⟨_, n2, _, e2, ints_drop hi1, drop_len hl1, drop_bd hb1⟩
    have F2 := Fr.but F k2 (fun q => I.offL (by rw [List.mem_singleton.mp q]; simp)) (fun b hb => I.fresh b (by rw [List.mem_singleton.mp hb]; simp))
    clear F sn I
    have S2 := Snap.of F2
    have sn := snap_news g L h2
    generalize hs2 : snap g L h2 = sn2 at sn
    dsimp only at F2 ⊢
    repeat' ((fail_if_success (with_reducible show Mid _)); first | (k_unfold; (try dsimp only)) | (k_end; wrow_close) | (walk1) | (dsimp only; walk1))
    rename_i h3 F3 N3
    exact hQ _ _ ⟨(by simp), h3, _, _, _, _, rfl, F3, rfl, rfl, rfl, I2.snp S2 F3 (hs2 ▸ N3)⟩
  rintro s' ⟨h2, tk2, k, kd, m3, rfl, F2, q0, q1, q2, I2⟩
  clear F I m1 m2
  -- word
  refine cut (fun s' => ∃ h' tk' x xd m', s' = { s with heap := h', toks := tk' } ∧ Fr g L h' m' ∧ m' (Str.ofString "word") = some (.str x xd) ∧ Str.length x ≤ 20 ∧ m' (Str.ofString "kind") = some (.int k kd) ∧ m' (Str.ofString "row") = some (.ref P.rw) ∧ m' (Str.ofString "pairs") = some (.ref P.pr) ∧ Inv w g L P h' ts ps ts ps) ?_ ?_
  · refine opq fun Qx hQ => ?_
    rw [know q0, know q1, know q2] at F2
    have S2 := Snap.of F2
    have sn := snap_news g L h2
    generalize hs2 : snap g L h2 = sn2 at sn
    dsimp only [LEnv, lawScope, lawDef, fnScope, lastS, PySem.Challenge.pw_no0153_01]
    repeat' ((fail_if_success (with_reducible show Mid _)); first | (k_unfold; (try dsimp only)) | (k_end; wrow_close) | ((fail_if_success (with_reducible show wpAny _ _ (call (Value.ref _) _ _) _ _ _)); walk1) | ((fail_if_success (with_reducible show wpAny _ _ (call (Value.ref _) _ _) _ _ _)); dsimp only; walk1))
    · obtain ⟨vs, n, ns, e1, hi1, hl1, hb1⟩ := I2.row
      refine wpAny_call (c_word ⟨X, T⟩ (fun b o e => F2.keep b o e) (by show dp + 1 + 20 < _; omega) (by show un + 3 + 400 < _; omega) e1 (I2.fresh _ (by simp)) hi1 hl1 hb1 fun h3 tk3 t3 n3 x us ms k3 e3 hi3 hl3 hb3 hx3 => ?_)
      have I3 := I2.rowC k3 ⟨_, n3, _, e3, hi3, hl3, hb3⟩
      have F3 := Fr.but F2 k3 (fun q => I2.offL (by rw [List.mem_singleton.mp q]; simp)) (fun b hb => I2.fresh b (by rw [List.mem_singleton.mp hb]; simp))
      clear F2 sn I2 hs2 S2
      have S3 := Snap.of F3
      have sn := snap_news g L h3
      generalize hs3 : snap g L h3 = sn3 at sn
      dsimp only at F3 ⊢
      repeat' ((fail_if_success (with_reducible show Mid _)); first | (k_unfold; (try dsimp only)) | (k_end; wrow_close) | (walk1) | (dsimp only; walk1))
      rename_i h4 F4 N4
      exact hQ _ _ ⟨(by simp), h4, _, _, _, _, rfl, F4, rfl, (by omega), rfl, rfl, rfl, I3.snp S3 F4 (hs3 ▸ N4)⟩
    · rename_i h4 F4 N4
      exact hQ _ _ ⟨(by simp), h4, _, _, _, _, rfl, F4, rfl, (by decide +kernel), rfl, rfl, rfl, I2.snp S2 F4 (hs2 ▸ N4)⟩
  rintro s' ⟨h3, tk3, x, xd, m4, rfl, F3, q3, hx, q0', q1', q2', I3⟩
  clear F2 I2 q0 q1 q2
  -- wide
  refine cut (fun s' => ∃ h' tk' y yd m', s' = { s with heap := h', toks := tk' } ∧ Fr g L h' m' ∧ m' (Str.ofString "wide") = some (.int y yd) ∧ (0 ≤ y ∧ y ≤ 8) ∧ m' (Str.ofString "word") = some (.str x xd) ∧ m' (Str.ofString "kind") = some (.int k kd) ∧ m' (Str.ofString "row") = some (.ref P.rw) ∧ m' (Str.ofString "pairs") = some (.ref P.pr) ∧ Inv w g L P h' ts ps ts ps) ?_ ?_
  · refine opq fun Qx hQ => ?_
    rw [know q0', know q1', know q2', know q3] at F3
    have sn := snap_news g L h3
    generalize snap g L h3 = sn3 at sn
    dsimp only [LEnv, lawScope, lawDef, fnScope, lastS, PySem.Challenge.pw_no0153_01]
    repeat' ((fail_if_success (with_reducible show Mid _)); first | (k_unfold; (try dsimp only)) | (k_end; wrow_close) | ((fail_if_success (with_reducible show wpAny _ _ (call (Value.ref _) _ _) _ _ _)); walk1) | ((fail_if_success (with_reducible show wpAny _ _ (call (Value.ref _) _ _) _ _ _)); dsimp only; walk1))
    obtain ⟨vs, n, ns, e1, hi1, hl1, hb1⟩ := I3.row
    refine wpAny_call (c_next ⟨X, T⟩ (fun b o e => F3.keep b o e) (by show dp + 1 + 10 < _; omega) (by show un + 3 + 200 < _; omega) e1 (I3.fresh _ (by simp)) hi1 hl1 fun h4 tk4 t4 n4 k4 e4 => ?_)
    have I4 := I3.rowC k4 ⟨_, n4, _, e4, ints_drop hi1, drop_len hl1, drop_bd hb1⟩
    have F4 := Fr.but F3 k4 (fun q => I3.offL (by rw [List.mem_singleton.mp q]; simp)) (fun b hb => I3.fresh b (by rw [List.mem_singleton.mp hb]; simp))
    clear F3 sn I3
    have S4 := Snap.of F4
    have sn := snap_news g L h4
    generalize hs4 : snap g L h4 = sn4 at sn
    dsimp only at F4 ⊢
    repeat' ((fail_if_success (with_reducible show Mid _)); first | (k_unfold; (try dsimp only)) | (k_end; wrow_close) | (walk1) | (dsimp only; walk1))
    rename_i h5 F5 N5
    have u1 := fmod_lo (ns.getLastD 0) (show (0 : Int) < 4 by decide)
    have u2 := fmod_hi (ns.getLastD 0) (show (0 : Int) < 4 by decide)
    exact hQ _ _ ⟨(by simp), h5, _, _, _, _, rfl, F5, rfl, (by omega), rfl, rfl, rfl, rfl, I4.snp S4 F5 (hs4 ▸ N5)⟩
  rintro s' ⟨h4, tk4, y, yd, m5, rfl, F4, q4, hy, q3', q0, q1, q2, I4⟩
  clear F3 I3 q0' q1' q2' q3
  refine cut (fun s' => TEnd w g L P s (i + 1) s') ?_ ?_
  · refine opq fun Qx hQ => ?_
    rw [know q0] at F4
    have sn := snap_news g L h4
    generalize snap g L h4 = sn4 at sn
    repeat' ((fail_if_success (with_reducible show Mid _)); first | (k_unfold; (try dsimp only)) | (k_end; wrow_close) | ((fail_if_success (with_reducible show wpAny _ _ (execs (_ :: _) _) _ _ _)); walk1) | ((fail_if_success (with_reducible show wpAny _ _ (execs (_ :: _) _) _ _ _)); dsimp only; walk1))
    · exact wpAny_mono (t_b0 X T hA hU F4 I4 hi G q1 q2 q3' hx) hQ fun _ _ e => e
    refine one_stmt ?_
    repeat' ((fail_if_success (with_reducible show Mid _)); first | (k_unfold; (try dsimp only)) | (k_end; wrow_close) | ((fail_if_success (with_reducible show wpAny _ _ (execs (_ :: _) _) _ _ _)); walk1) | ((fail_if_success (with_reducible show wpAny _ _ (execs (_ :: _) _) _ _ _)); dsimp only; walk1))
    · exact wpAny_mono (t_b1 X T hA hU F4 I4 hi G q1 q2 q3' q4 hx hy) hQ fun _ _ e => e
    refine one_stmt ?_
    repeat' ((fail_if_success (with_reducible show Mid _)); first | (k_unfold; (try dsimp only)) | (k_end; wrow_close) | ((fail_if_success (with_reducible show wpAny _ _ (execs (_ :: _) _) _ _ _)); walk1) | ((fail_if_success (with_reducible show wpAny _ _ (execs (_ :: _) _) _ _ _)); dsimp only; walk1))
    · exact wpAny_mono (t_b2 X T hA hU F4 I4 hi G q1 q2 q4 hy) hQ fun _ _ e => e
    refine one_stmt ?_
    repeat' ((fail_if_success (with_reducible show Mid _)); first | (k_unfold; (try dsimp only)) | (k_end; wrow_close) | ((fail_if_success (with_reducible show wpAny _ _ (execs (_ :: _) _) _ _ _)); walk1) | ((fail_if_success (with_reducible show wpAny _ _ (execs (_ :: _) _) _ _ _)); dsimp only; walk1))
    · exact wpAny_mono (t_b3 X T hA hU F4 I4 hi G q1 q2 q3' q4) hQ fun _ _ e => e
    · exact wpAny_mono (t_b4 X T hA hU F4 I4 hi G q1 q2) hQ fun _ _ e => e
  rintro s' ⟨h5, tk5, m6, ts', ps', rfl, F5, q1', q2', I5, G5⟩
  clear F4 I4 q0 q1 q2 q3' q4 G g1 g2
  have g1 := G5.t2
  have g2 := G5.p2
  rw [know q1', know q2'] at F5
  obtain ⟨oS5, oT5, _, _, _, _, sn5, dS5, dT5, IK5, N5⟩ := I5.news F5
  dsimp only [LEnv, lawScope, lawDef, fnScope, lastS, PySem.Challenge.pw_no0153_01]
  refine one_stmt ?_
  repeat' ((fail_if_success (with_reducible show Mid _)); first | (k_unfold; (try dsimp only)) | (k_end; wrow_close) | ((fail_if_success (with_reducible show wpAny _ _ (call (Value.ref _) _ _) _ _ _)); walk1) | ((fail_if_success (with_reducible show wpAny _ _ (call (Value.ref _) _ _) _ _ _)); dsimp only; walk1))
  refine wpAny_call (c_count (a := P.a) ⟨X, T⟩ (fun b o e => F5.keep b o e) (by show dp + 1 + 10 < _; omega) (by show un + 3 + 200 < _; omega) I5.sym (by omega) fun h6 tk6 t6 k6 => ?_)
  have I6 := I5.grow k6
  have F6 := Fr.but F5 k6 (by simp) (by simp)
  clear F5 N5 I5 IK5
  obtain ⟨oS6, oT6, _, _, _, _, sn6, dS6, dT6, IK6, N6⟩ := I6.news F6
  dsimp only at F6 ⊢
  repeat' ((fail_if_success (with_reducible show Mid _)); first | (k_unfold; (try dsimp only)) | (k_end; wrow_close) | ((fail_if_success (with_reducible show wpAny _ _ (call (Value.builtin "len") _ _) _ _ _)); walk1) | ((fail_if_success (with_reducible show wpAny _ _ (call (Value.builtin "len") _ _) _ _ _)); dsimp only; walk1))
  obtain ⟨vt, nt, et, hit⟩ := I6.tx
  have lt := hit.length
  refine len_list ⟨_, et, rfl, _, rfl⟩ (by rw [List.size_toArray]; omega) ?_
  rw [List.size_toArray, lt]
  repeat' ((fail_if_success (with_reducible show Mid _)); first | (k_unfold; (try dsimp only)) | (k_end; wrow_close) | ((fail_if_success (with_reducible show wpAny _ _ (call (Value.ref _) _ _) _ _ _)); walk1) | ((fail_if_success (with_reducible show wpAny _ _ (call (Value.ref _) _ _) _ _ _)); dsimp only; walk1))
  · contradiction
  refine wpAny_call (c_functor_count (a := P.a) ⟨X, T⟩ (fun b o e => F6.keep b o e) (by show dp + 1 + 10 < _; omega) (by show un + 3 + 200 < _; omega) I6.sym (by omega) fun h7 tk7 t7 k7 => ?_)
  have I7 := I6.grow k7
  have F7 := Fr.but F6 k7 (by simp) (by simp)
  clear F6 N6 I6 IK6 et hit
  have sn := snap_news g L h7
  generalize snap g L h7 = sn7 at sn
  dsimp only at F7 ⊢
  repeat' ((fail_if_success (with_reducible show Mid _)); first | (k_unfold; (try dsimp only)) | (k_end; wrow_close) | ((fail_if_success (with_reducible show wpAny _ _ (call (Value.builtin "len") _ _) _ _ _)); walk1) | ((fail_if_success (with_reducible show wpAny _ _ (call (Value.builtin "len") _ _) _ _ _)); dsimp only; walk1))
  obtain ⟨vp, np, ep, hip⟩ := I7.pr
  have lp := hip.length
  refine len_list ⟨_, ep, rfl, _, rfl⟩ (by rw [List.size_toArray]; omega) ?_
  rw [List.size_toArray, lp]
  repeat' ((fail_if_success (with_reducible show Mid _)); first | (k_unfold; (try dsimp only)) | (k_end; wrow_close) | (walk1) | (dsimp only; walk1))
  · contradiction
  · exact hQ _ _ ⟨(by simp), h7, _, _, _, _, rfl, F7, rfl, rfl, I7, G5⟩
end Mine

end
section
open PySem PySem.W PySem.Calls PyProof.Rows
set_option maxRecDepth 100000
set_option maxHeartbeats 8000000

namespace Mine
theorem t_end {w : World} {mean : ExcName → Option Value} {mg mb : Str → Option Value} {g : Heap} {dp un : Nat} {fr : Option (List Env)} {gd : Option (List Code)} {s : Shared} {L fa : Addr} {cdv : Value} {m : Str → Option Value} {P : LP} {ts : List Str} {ps : List (Int × Int)} {i : Nat} {Q : Flow → Shared → Prop} (X : (hd.heap_39 w.params).In g) (T : Top hd.view_39 (looseW hd.view_39 []) mean mg mb g) (hA : dp + 200 < recursionLimit) (hU : un + 4000 < cLine) (F : Fr g L s.heap m) (I : Inv w g L P s.heap ts ps ts ps) (hi : i ≤ 30) (G : Good i ts ps)
  (m1 : m (Str.ofString "row") = some (.ref P.rw)) (m2 : m (Str.ofString "pairs") = some (.ref P.pr)) (ret : ∀ h' tk' m', Fr g L h' m' → Q (.ret (.bool true)) { s with heap := h', toks := tk' }) :
  wpAny (model PySem.Challenge.rw_no0153_01.row.toRowW.prog w) (Around.deeper ⟨none, dp, fr, gd, un⟩ (LEnv L fa cdv)) (execs tail7 (LEnv L fa cdv)) Q (fun _ _ => False) s := by
  revert X
  k_fill
  intro X
  have g1 := G.t2
  have g2 := G.p2
  rw [know m1, know m2] at F
  dsimp only [LEnv, tail7, if0, if1, if2, if3, ifBody, ifElse, turnBody, lawScope, lawBody, lawDef, fnBody, fnScope, forBody, lastS, tl1, hd1, PySem.Challenge.pw_no0153_01]
  refine cut (fun s' => ∃ h' tk' m', s' = { s with heap := h', toks := tk' } ∧ Fr g L h' m' ∧ m' (Str.ofString "row") = some (.ref P.rw) ∧ m' (Str.ofString "pairs") = some (.ref P.pr) ∧ Inv w g L P h' ts ps ts ps) ?_ ?_
  · repeat' ((fail_if_success (with_reducible show Mid _)); first | (k_unfold; (try dsimp only)) | (k_end; wrow_close) | ((fail_if_success (with_reducible show wpAny _ _ (eval (PySem.Expr.ListComp _ _ _ _) _) _ _ _)); walk1) | ((fail_if_success (with_reducible show wpAny _ _ (eval (PySem.Expr.ListComp _ _ _ _) _) _ _ _)); dsimp only; walk1))
    refine comp_head (cl := [((Str.ofString "signs"), L + 1)]) (by with_unfolding_all rfl) rfl (by decide) ?_
    obtain ⟨oS, oT, t1, t2, t3, t4, sn, dS, dT, IK, N⟩ := I.news F
    repeat' ((fail_if_success (with_reducible show Mid _)); first | (k_unfold; (try dsimp only)) | (k_end; wrow_close) | ((fail_if_success (with_reducible show wpAny _ _ (call (Value.ref _) _ _) _ _ _)); walk1) | ((fail_if_success (with_reducible show wpAny _ _ (call (Value.ref _) _ _) _ _ _)); dsimp only; walk1))
    refine wpAny_call (c_count (a := P.a) ⟨X, T⟩ (fun b o e => F.keep b o e) (by show dp + 1 + 10 < _; omega) (by show un + 3 + 200 < _; omega) I.sym (by omega) fun h2 tk2 t2 k2 => ?_)
    have I2 := I.grow k2
    have F2 := Fr.but F k2 (by simp) (by simp)
    clear F N I IK
    have S2 := Snap.of F2
    have sn := snap_news g L h2
    generalize hs2 : snap g L h2 = sn2 at sn
    dsimp only at F2 ⊢
    repeat' ((fail_if_success (with_reducible show Mid _)); first | (k_unfold; (try dsimp only)) | (k_end; wrow_close) | ((fail_if_success (with_reducible show wpAny _ _ (pyIter _) _ _ _)); walk1) | ((fail_if_success (with_reducible show wpAny _ _ (pyIter _) _ _ _)); dsimp only; walk1))
    rename_i h3 _ _ _ _ hR F3 N3 k3
    have I3 := I2.grow (h' := h3) (fun b o e _ => k3 b o e)
    clear I2 S2 N3 k3 hs2
    refine comp_range (n := ts.length) (compPost _ _ _ none _) rfl hR (small_n (by omega)) (rs_n _) (by rw [sizeLine_eq]; omega) (by decide) rfl (by decide) F3
      (fun i ys h => Inv w g L P h ts ps ts ps ∧ StrsAre ys (ts.take i)) ⟨I3, .nil⟩ (fun i ys h h' S a k nt q => ⟨I3.off a.1 k nt q, a.2⟩) ?_ ?_
    · rintro i t ys C D oI oC m₂ h tk hi' ⟨I, aY⟩ hoC hm F N n1 n2 n3 zC zD
      obtain ⟨oS, oT, t1, t2, t3, t4, sn, dS, dT, IK, N'⟩ := I.news F
      have NN := News.app N N'
      rw [Int.zero_add] at hm
      obtain ⟨x, hx⟩ : ∃ x, ts[i]? = some x := ⟨_, List.getElem?_eq_getElem hi'⟩
      dsimp only at NN n1 n2 ⊢
      simp only [List.cons_append, List.nil_append] at NN
      repeat' ((fail_if_success (with_reducible show Mid _)); first | (k_unfold; (try dsimp only)) | (k_end; wrow_close) | ((fail_if_success (with_reducible show wpAny _ _ (call (Value.ref _) _ _) _ _ _)); walk1) | ((fail_if_success (with_reducible show wpAny _ _ (call (Value.ref _) _ _) _ _ _)); dsimp only; walk1))
      refine wpAny_call (c_text (a := P.a) ⟨X, T⟩ (fun b o e => F.keep b o e) (by show dp + 1 + 10 < _; omega) (by show un + 3 + 200 < _; omega) I.sym (by omega) hx fun h6 tk6 t6 k6 => ?_)
      exact ⟨h6, _, rfl, Fr.but F k6 (by simp) (by simp), News.but N k6 (by simp), fun b _ o e => k6 b o e (by simp), I.grow k6, by rw [List.take_add_one, hx]; exact StrsAre.append' aY (.cons _ _ .nil)⟩
    · rintro C D oC m₂ h tk ys F ⟨I, aY⟩ hC N hCD zC zD
      rw [List.take_length] at aY
      refine post_none F hC N hCD fun h7 k7 nt7 F7 N7 => ?_
      have I7 := I3.off I k7 nt7 (fun b hb => by rw [List.mem_singleton.mp hb]; exact zC)
      clear zC zD hCD N F I
      obtain ⟨oS, oT, t1, t2, t3, t4, sn, dS, dT, IK, N'⟩ := I7.news F7
      have NN := News.app N7 N'
      dsimp only at NN ⊢
      simp only [List.cons_append, List.nil_append] at NN
      repeat' ((fail_if_success (with_reducible show Mid _)); first | (k_unfold; (try dsimp only)) | (k_end; wrow_close) | ((fail_if_success (with_reducible show wpAny _ _ (compareOp _ _ _) _ _ _)); walk1) | ((fail_if_success (with_reducible show wpAny _ _ (compareOp _ _ _) _ _ _)); dsimp only; walk1))
      obtain ⟨vt, nt, et, hit⟩ := I7.tx
      refine kd_ne_same kStr (by show un + 3 + 10 < _; omega) (News.isList N7 (.head _)) (strs_sits aY) ⟨_, et, rfl, _, rfl⟩ hit ?_
      repeat' ((fail_if_success (with_reducible show Mid _)); first | (k_unfold; (try dsimp only)) | (k_end; wrow_close) | ((fail_if_success (with_reducible show wpAny _ _ (call (Value.builtin "len") _ _) _ _ _)); walk1) | ((fail_if_success (with_reducible show wpAny _ _ (call (Value.builtin "len") _ _) _ _ _)); dsimp only; walk1))
      obtain ⟨vp, np, ep, hip⟩ := I7.pr
      have lp := hip.length
      refine len_list ⟨_, ep, rfl, _, rfl⟩ (by rw [List.size_toArray]; omega) ?_
      rw [List.size_toArray, lp]
      repeat' ((fail_if_success (with_reducible show Mid _)); first | (k_unfold; (try dsimp only)) | (k_end; wrow_close) | ((fail_if_success (with_reducible show wpAny _ _ (call (Value.ref _) _ _) _ _ _)); walk1) | ((fail_if_success (with_reducible show wpAny _ _ (call (Value.ref _) _ _) _ _ _)); dsimp only; walk1))
      refine wpAny_call (c_functor_count (a := P.a) ⟨X, T⟩ (fun b o e => F7.keep b o e) (by show dp + 1 + 10 < _; omega) (by show un + 3 + 200 < _; omega) I7.sym (by omega) fun h8 tk8 t8 k8 => ?_)
      have F8 := Fr.but F7 k8 (by simp) (by simp)
      have I8 := I7.grow k8
      clear I7 F7 NN N' IK hit hip
      have sn := snap_news g L h8
      generalize snap g L h8 = sn8 at sn
      dsimp only at F8 ⊢
      repeat' ((fail_if_success (with_reducible show Mid _)); first | (k_unfold; (try dsimp only)) | (k_end; wrow_close) | (walk1) | (dsimp only; walk1))
      · contradiction
      · exact ⟨(by simp), h8, _, _, rfl, F8, rfl, rfl, I8⟩
  rintro s' ⟨h2, tk2, m5, rfl, F2, q1, q2, I2⟩
  clear F I m1 m2
  rw [know q1, know q2] at F2
  have sn := snap_news g L h2
  generalize snap g L h2 = sn2 at sn
  repeat' ((fail_if_success (with_reducible show Mid _)); first | (k_unfold; (try dsimp only)) | (k_end; wrow_close) | ((fail_if_success (with_reducible show wpAny _ _ (eval (PySem.Expr.ListComp _ _ _ _) _) _ _ _)); walk1) | ((fail_if_success (with_reducible show wpAny _ _ (eval (PySem.Expr.ListComp _ _ _ _) _) _ _ _)); dsimp only; walk1))
  refine comp_head (cl := [((Str.ofString "signs"), L + 1)]) (by with_unfolding_all rfl) rfl (by decide) ?_
  repeat' ((fail_if_success (with_reducible show Mid _)); first | (k_unfold; (try dsimp only)) | (k_end; wrow_close) | ((fail_if_success (with_reducible show wpAny _ _ (call (Value.builtin "len") _ _) _ _ _)); walk1) | ((fail_if_success (with_reducible show wpAny _ _ (call (Value.builtin "len") _ _) _ _ _)); dsimp only; walk1))
  obtain ⟨vp, np, ep, hip⟩ := I2.pr
  have lp := hip.length
  refine len_list ⟨_, ep, rfl, _, rfl⟩ (by rw [List.size_toArray]; omega) ?_
  rw [List.size_toArray, lp]
  clear hip ep
  repeat' ((fail_if_success (with_reducible show Mid _)); first | (k_unfold; (try dsimp only)) | (k_end; wrow_close) | ((fail_if_success (with_reducible show wpAny _ _ (pyIter _) _ _ _)); walk1) | ((fail_if_success (with_reducible show wpAny _ _ (pyIter _) _ _ _)); dsimp only; walk1))
  rename_i h3 _ _ _ _ hR F3 N3 k3
  have I3 := I2.grow (h' := h3) (fun b o e _ => k3 b o e)
  clear I2 N3 k3
  refine comp_range (n := ps.length) (compPost _ _ _ none _) rfl hR (small_n (by omega)) (rs_n _) (by rw [sizeLine_eq]; omega) (by decide) rfl (by decide) F3
    (fun i ys h => Inv w g L P h ts ps ts ps ∧ Sits ((kPair PR w).Is h) ys (ps.take i)) ⟨I3, .nil⟩ (fun i ys h h' S a k nt q => ⟨I3.off a.1 k nt q, a.2.but k nt⟩) ?_ ?_
  · rintro i t ys C D oI oC m₂ h tk hi' ⟨I, aY⟩ hoC hm F N n1 n2 n3 zC zD
    obtain ⟨oS, oT, t1, t2, t3, t4, sn, dS, dT, IK, N'⟩ := I.news F
    have NN := News.app N N'
    rw [Int.zero_add] at hm
    obtain ⟨x, hx⟩ : ∃ x, ps[i]? = some x := ⟨_, List.getElem?_eq_getElem hi'⟩
    dsimp only at NN n1 n2 ⊢
    simp only [List.cons_append, List.nil_append] at NN
    repeat' ((fail_if_success (with_reducible show Mid _)); first | (k_unfold; (try dsimp only)) | (k_end; wrow_close) | ((fail_if_success (with_reducible show wpAny _ _ (call (Value.ref _) _ _) _ _ _)); walk1) | ((fail_if_success (with_reducible show wpAny _ _ (call (Value.ref _) _ _) _ _ _)); dsimp only; walk1))
    refine wpAny_call (c_name (a := P.a) ⟨X, T⟩ (fun b o e => F.keep b o e) (by show dp + 1 + 10 < _; omega) (by show un + 3 + 200 < _; omega) I.sym (by omega) hx fun h4 tk4 t4 k4 => ?_)
    have F4 := Fr.but F k4 (by simp) (by simp)
    have N4 := News.but NN k4 (by simp)
    have I4 := I.grow k4
    have aY4 := aY.but k4 (.nil _)
    clear F NN N' I IK
    dsimp only at F4 N4 ⊢
    repeat' ((fail_if_success (with_reducible show Mid _)); first | (k_unfold; (try dsimp only)) | (k_end; wrow_close) | ((fail_if_success (with_reducible show wpAny _ _ (call (Value.ref _) _ _) _ _ _)); walk1) | ((fail_if_success (with_reducible show wpAny _ _ (call (Value.ref _) _ _) _ _ _)); dsimp only; walk1))
    refine wpAny_call (c_arity (a := P.a) ⟨X, T⟩ (fun b o e => F4.keep b o e) (by show dp + 1 + 10 < _; omega) (by show un + 3 + 200 < _; omega) I4.sym (by omega) hx fun h5 tk5 t5 k5 => ?_)
    have F5 := Fr.but F4 k5 (by simp) (by simp)
    have N5 := News.but N4 k5 (by simp)
    have I5 := I4.grow k5
    have aY5 := aY4.but k5 (.nil _)
    clear F4 N4 I4 aY4
    dsimp only at F5 N5 ⊢
    repeat' ((fail_if_success (with_reducible show Mid _)); first | (k_unfold; (try dsimp only)) | (k_end; wrow_close) | ((fail_if_success (with_reducible show wpAny _ _ (newTuple _) _ _ _)); walk1) | ((fail_if_success (with_reducible show wpAny _ _ (newTuple _) _ _ _)); dsimp only; walk1))
    refine wpAny_newTuple ?_ (by simp only [List.length_cons, List.length_nil]; rw [sizeLine_eq]; omega)
    refine ⟨_, _, rfl, F5.push _, (News.sub N5 (by kqd_sub)).grown fun b o e => Heap.get?_push_of_some _ e, fun b _ o e => Heap.get?_push_of_some _ (k5 _ _ (k4 _ _ e (by simp)) (by simp)), I5.grow (Keeps.push [] _ _), ?_⟩
    rw [List.take_add_one, hx]
    exact (aY5.but (Keeps.push [] _ _) (.nil _)).append (.cons ⟨_, rfl, pair_key (n := 0) (Heap.get?_push_size _ rfl)⟩ .nil)
  · rintro C D oC m₂ h tk ys F ⟨I, aY⟩ hC N hCD zC zD
    rw [List.take_length] at aY
    refine post_none F hC N hCD fun h7 k7 nt7 F7 N7 => ?_
    have I7 := I3.off I k7 nt7 (fun b hb => by rw [List.mem_singleton.mp hb]; exact zC)
    have aY7 := aY.but k7 nt7
    clear zC zD hCD N F I
    have sn := snap_news g L h7
    generalize snap g L h7 = sn7 at sn
    have NN := News.app N7 sn
    dsimp only at NN ⊢
    simp only [List.cons_append, List.nil_append] at NN
    repeat' ((fail_if_success (with_reducible show Mid _)); first | (k_unfold; (try dsimp only)) | (k_end; wrow_close) | ((fail_if_success (with_reducible show wpAny _ _ (compareOp _ _ _) _ _ _)); walk1) | ((fail_if_success (with_reducible show wpAny _ _ (compareOp _ _ _) _ _ _)); dsimp only; walk1))
    obtain ⟨vp, np, ep, hip⟩ := I7.pr
    refine kd_eq (kPair PR w) (by show un + 3 + 10 < _; omega) (News.isList N7 (.head _)) aY7 ⟨_, ep, rfl, _, rfl⟩ hip ?_
    rw [decide_eq_true rfl]
    have r := fun tk => ret h7 tk _ F7
    clear NN sn
    repeat' ((fail_if_success (with_reducible show Mid _)); first | (k_unfold; (try dsimp only)) | (k_end; wrow_close) | (walk1) | (dsimp only; walk1))
    exact r _
end Mine

end
section
open PySem PySem.W PySem.Calls PyProof.Rows
set_option maxRecDepth 100000
set_option maxHeartbeats 8000000

namespace Mine
noncomputable def st4 : Stmt := hd1 (tl1 (tl1 (tl1 (tl1 lawBody))))
noncomputable def st5 : Stmt := hd1 (tl1 (tl1 (tl1 (tl1 (tl1 lawBody)))))
theorem s_atoms {w : World} {mean : ExcName → Option Value} {mg mb : Str → Option Value} {g : Heap} {dp un : Nat} {fr : Option (List Env)} {gd : Option (List Code)} {s : Shared} {L fa : Addr} {cdv : Value} {m : Str → Option Value} {p1 p2 p3 p4 : Pos} {Q : Value → Shared → Prop}
  (X : (hd.heap_39 w.params).In g) (T : Top hd.view_39 (looseW hd.view_39 []) mean mg mb g) (hA : dp + 200 < recursionLimit) (hU : un + 4000 < cLine) (F : Fr g L s.heap m)
  (ret : ∀ h' tk D vs n, Fr g L h' m → Keeps [L] s.heap h' → s.heap.get? D = none → h'.get? D = some (listOf (List.toArray vs) n) → Sits (TupIs h') vs (atomRows) → Q (.ref D) { s with heap := h', toks := tk }) :
  wpAny (model PySem.Challenge.rw_no0153_01.row.toRowW.prog w) (Around.deeper ⟨none, dp, fr, gd, un⟩ (LEnv L fa cdv)) (eval (.Call (.Name (Str.ofString "sorted") p1) [.Call (.Name (Str.ofString "_law_atoms") p2) [] [] p3] [] p4) (LEnv L fa cdv)) Q (fun _ _ => False) s := by
  revert X
  k_fill
  intro X
  dsimp only [LEnv, lawScope, lawBody, lawDef, fnBody, fnScope, lastS, PySem.Challenge.pw_no0153_01]
  have N0 : News g L s.heap [] := News.nil
  repeat' ((fail_if_success (with_reducible show Mid _)); first | (k_unfold; (try dsimp only)) | (k_end; wrow_close) | ((fail_if_success (with_reducible show wpAny _ _ (call (Value.ref _) _ _) _ _ _)); walk1) | ((fail_if_success (with_reducible show wpAny _ _ (call (Value.ref _) _ _) _ _ _)); dsimp only; walk1))
  refine wpAny_call (c_law_atoms ⟨X, T⟩ (fun b o e => F.keep b o e) (by show dp + 1 + 10 < _; omega) (by show un + 3 + 200 < _; omega) fun h2 tk2 l vs n k2 e2 lv hi => ?_)
  have F2 := Fr.but F k2 (by simp) (by simp)
  clear N0
  have N2 : News g L h2 [] := News.nil
  dsimp only at F2 ⊢
  repeat' ((fail_if_success (with_reducible show Mid _)); first | (k_unfold; (try dsimp only)) | (k_end; wrow_close) | ((fail_if_success (with_reducible show wpAny _ _ (call (Value.builtin "sorted") _ _) _ _ _)); walk1) | ((fail_if_success (with_reducible show wpAny _ _ (call (Value.builtin "sorted") _ _) _ _ _)); dsimp only; walk1))
  refine sorted_rows F2 ⟨_, lv, rfl, _, rfl⟩ hi atomRows_num (by decide) (by decide) sort29.1 sort29.2 fun D h3 n3 F3 k3 e3 d1 d2 hv => ?_
  exact ret h3 _ D vs n3 F3 ((k2.mono (by simp)).trans k3) (none_back k2 e3 (by simp)) hv (TupIs.sits hi k3 (NoTups.ns F2.ns))
theorem s_functors {w : World} {mean : ExcName → Option Value} {mg mb : Str → Option Value} {g : Heap} {dp un : Nat} {fr : Option (List Env)} {gd : Option (List Code)} {s : Shared} {L fa : Addr} {cdv : Value} {m : Str → Option Value} {p1 p2 p3 p4 : Pos} {Q : Value → Shared → Prop}
  (X : (hd.heap_39 w.params).In g) (T : Top hd.view_39 (looseW hd.view_39 []) mean mg mb g) (hA : dp + 200 < recursionLimit) (hU : un + 4000 < cLine) (F : Fr g L s.heap m)
  (ret : ∀ h' tk D vs n, Fr g L h' m → Keeps [L] s.heap h' → s.heap.get? D = none → h'.get? D = some (listOf (List.toArray vs) n) → Sits (TupIs h') vs (funRowsA ++ funRowsB) → Q (.ref D) { s with heap := h', toks := tk }) :
  wpAny (model PySem.Challenge.rw_no0153_01.row.toRowW.prog w) (Around.deeper ⟨none, dp, fr, gd, un⟩ (LEnv L fa cdv)) (eval (.Call (.Name (Str.ofString "sorted") p1) [.Call (.Name (Str.ofString "_law_functors") p2) [] [] p3] [] p4) (LEnv L fa cdv)) Q (fun _ _ => False) s := by
  revert X
  k_fill
  intro X
  dsimp only [LEnv, lawScope, lawBody, lawDef, fnBody, fnScope, lastS, PySem.Challenge.pw_no0153_01]
  have N0 : News g L s.heap [] := News.nil
  repeat' ((fail_if_success (with_reducible show Mid _)); first | (k_unfold; (try dsimp only)) | (k_end; wrow_close) | ((fail_if_success (with_reducible show wpAny _ _ (call (Value.ref _) _ _) _ _ _)); walk1) | ((fail_if_success (with_reducible show wpAny _ _ (call (Value.ref _) _ _) _ _ _)); dsimp only; walk1))
  refine wpAny_call (c_law_functors ⟨X, T⟩ (fun b o e => F.keep b o e) (by show dp + 1 + 10 < _; omega) (by show un + 3 + 200 < _; omega) fun h2 tk2 l vs n k2 e2 lv hi => ?_)
  have F2 := Fr.but F k2 (by simp) (by simp)
  clear N0
  have N2 : News g L h2 [] := News.nil
  dsimp only at F2 ⊢
  repeat' ((fail_if_success (with_reducible show Mid _)); first | (k_unfold; (try dsimp only)) | (k_end; wrow_close) | ((fail_if_success (with_reducible show wpAny _ _ (call (Value.builtin "sorted") _ _) _ _ _)); walk1) | ((fail_if_success (with_reducible show wpAny _ _ (call (Value.builtin "sorted") _ _) _ _ _)); dsimp only; walk1))
  refine sorted_rows F2 ⟨_, lv, rfl, _, rfl⟩ hi funRows_num (by decide) (by decide) sort32.1 sort32.2 fun D h3 n3 F3 k3 e3 d1 d2 hv => ?_
  exact ret h3 _ D vs n3 F3 ((k2.mono (by simp)).trans k3) (none_back k2 e3 (by simp)) hv (TupIs.sits hi k3 (NoTups.ns F2.ns))

theorem t_if4 {w : World} {mean : ExcName → Option Value} {mg mb : Str → Option Value} {g : Heap} {dp un : Nat} {fr : Option (List Env)} {gd : Option (List Code)} {s : Shared} {L fa : Addr} {cdv : Value} {m : Str → Option Value} {P : LP} {ts : List Str} {ps : List (Int × Int)} {i : Nat} (X : (hd.heap_39 w.params).In g) (T : Top hd.view_39 (looseW hd.view_39 []) mean mg mb g) (hA : dp + 200 < recursionLimit) (hU : un + 4000 < cLine) (F : Fr g L s.heap m) (I : Inv w g L P s.heap ts ps ts ps) (hl : ts.length = 29) :
  wpAny (model PySem.Challenge.rw_no0153_01.row.toRowW.prog w) (Around.deeper ⟨none, dp, fr, gd, un⟩ (LEnv L fa cdv)) (exec st4 (LEnv L fa cdv)) (fun f s' => Mid (f = .next ∧ ∃ h' tk', s' = { s with heap := h', toks := tk' } ∧ Fr g L h' m ∧ Inv w g L P h' ts ps ts ps)) (fun _ _ => False) s := by
  revert X
  k_fill
  intro X
  obtain ⟨oS, oT, t1, t2, t3, t4, sn, dS, dT, IK, N⟩ := I.news F
  dsimp only [LEnv, st4, st5, if0, if1, if2, if3, ifBody, ifElse, turnBody, lawScope, lawBody, lawDef, fnBody, fnScope, forBody, lastS, tl1, hd1, PySem.Challenge.pw_no0153_01]
  repeat' ((fail_if_success (with_reducible show Mid _)); first | (k_unfold; (try dsimp only)) | (k_end; wrow_close) | ((fail_if_success (with_reducible show wpAny _ _ (eval (PySem.Expr.ListComp _ _ _ _) _) _ _ _)); walk1) | ((fail_if_success (with_reducible show wpAny _ _ (eval (PySem.Expr.ListComp _ _ _ _) _) _ _ _)); dsimp only; walk1))
  refine comp_head (cl := []) (by with_unfolding_all rfl) rfl (by decide) ?_
  refine s_atoms X T hA hU F ?_
  intro h2 tk2 D vs n F2 k2 d2 e2 hv
  have I2 := I.loc k2 F.ns
  refine comp_col (ns := [((Str.ofString "number"), _), ((Str.ofString "text"), _)]) (compPost _ _ _ none _) ((rangeInts 0 1 atomRows.length).map Fld.int) rfl e2 hv (by decide) (by decide) (by decide) rfl (by decide) F2 (by decide) (by decide) (by simp [rangeInts_length]) (num_col atomRows_num (by decide)) ?_
  intro C D oC m₂ h tk ys F3 k3 hys hC N3 hCD zC zD
  refine post_none F3 hC N3 hCD fun h4 k4 nt4 F4 N4 => ?_
  have I4 := I2.off (I2.grow k3) k4 nt4 (fun b hb => by rw [List.mem_singleton.mp hb]; exact zC)
  clear k4 k3 k2 nt4 F3 N3 hC zC zD hCD I2 F2 e2 hv d2 F N IK
  obtain ⟨oS, oT, t1, t2, t3, t4, sn, dS, dT, IK, N⟩ := I4.news F4
  have NN := News.app N4 N
  clear IK N
  dsimp only at NN ⊢
  simp only [List.cons_append, List.nil_append] at NN
  repeat' ((fail_if_success (with_reducible show Mid _)); first | (k_unfold; (try dsimp only)) | (k_end; wrow_close) | ((fail_if_success (with_reducible show wpAny _ _ (call (Value.builtin "len") _ _) _ _ _)); walk1) | ((fail_if_success (with_reducible show wpAny _ _ (call (Value.builtin "len") _ _) _ _ _)); dsimp only; walk1))
  obtain ⟨vt, nt, et, hit⟩ := I4.tx
  have lt := hit.length
  refine len_list ⟨_, et, rfl, _, rfl⟩ (by rw [List.size_toArray]; omega) ?_
  rw [List.size_toArray, lt, hl]
  repeat' ((fail_if_success (with_reducible show Mid _)); first | (k_unfold; (try dsimp only)) | (k_end; wrow_close) | ((fail_if_success (with_reducible show wpAny _ _ (call (Value.type "list") _ _) _ _ _)); walk1) | ((fail_if_success (with_reducible show wpAny _ _ (call (Value.type "list") _ _) _ _ _)); dsimp only; walk1))
  rename_i h5 _ _ _ _ hR F5 N5 k5
  refine list_rangeD (n := 29) rfl F5 N5 hR (by decide) (by decide) (by decide) fun h6 tk6 zs F6 N6 k6 z6 l6 _ c6 => ?_
  have I6 := I4.grow (h' := h6) (fun b o e _ => k6 _ _ (k5 b o e))
  clear k6 k5 F5 N5 et hit hR I4
  have i6 := IntsAre.ofCarried c6
  have i4 := ints_of_col hys
  dsimp only at l6 ⊢
  generalize h5.objs.size = l5 at l6 ⊢
  repeat' ((fail_if_success (with_reducible show Mid _)); first | (k_unfold; (try dsimp only)) | (k_end; wrow_close) | ((fail_if_success (with_reducible show wpAny _ _ (compareOp _ _ _) _ _ _)); walk1) | ((fail_if_success (with_reducible show wpAny _ _ (compareOp _ _ _) _ _ _)); dsimp only; walk1))
  refine ne_intsK (News.isList N6 (.head _)) i4 l6 i6 (by show un + 3 + 64 < _; omega) ?_
  rw [show (!decide (rangeInts 0 1 atomRows.length = rangeInts 0 1 29)) = false from rfl]
  repeat' ((fail_if_success (with_reducible show Mid _)); first | (k_unfold; (try dsimp only)) | (k_end; wrow_close) | (walk1) | (dsimp only; walk1))
  exact ⟨(by simp), h6, _, rfl, F6, I6⟩
theorem t_if5 {w : World} {mean : ExcName → Option Value} {mg mb : Str → Option Value} {g : Heap} {dp un : Nat} {fr : Option (List Env)} {gd : Option (List Code)} {s : Shared} {L fa : Addr} {cdv : Value} {m : Str → Option Value} {P : LP} {ts : List Str} {ps : List (Int × Int)} {i : Nat} (X : (hd.heap_39 w.params).In g) (T : Top hd.view_39 (looseW hd.view_39 []) mean mg mb g) (hA : dp + 200 < recursionLimit) (hU : un + 4000 < cLine) (F : Fr g L s.heap m) (I : Inv w g L P s.heap ts ps ts ps) (hl : ps.length = 32) (m2 : m (Str.ofString "pairs") = some (.ref P.pr)) :
  wpAny (model PySem.Challenge.rw_no0153_01.row.toRowW.prog w) (Around.deeper ⟨none, dp, fr, gd, un⟩ (LEnv L fa cdv)) (exec st5 (LEnv L fa cdv)) (fun f s' => Mid (f = .next ∧ ∃ h' tk', s' = { s with heap := h', toks := tk' } ∧ Fr g L h' m ∧ Inv w g L P h' ts ps ts ps)) (fun _ _ => False) s := by
  revert X
  k_fill
  intro X
  rw [know m2] at F
  obtain ⟨oS, oT, t1, t2, t3, t4, sn, dS, dT, IK, N⟩ := I.news F
  dsimp only [LEnv, st4, st5, if0, if1, if2, if3, ifBody, ifElse, turnBody, lawScope, lawBody, lawDef, fnBody, fnScope, forBody, lastS, tl1, hd1, PySem.Challenge.pw_no0153_01]
  repeat' ((fail_if_success (with_reducible show Mid _)); first | (k_unfold; (try dsimp only)) | (k_end; wrow_close) | ((fail_if_success (with_reducible show wpAny _ _ (eval (PySem.Expr.ListComp _ _ _ _) _) _ _ _)); walk1) | ((fail_if_success (with_reducible show wpAny _ _ (eval (PySem.Expr.ListComp _ _ _ _) _) _ _ _)); dsimp only; walk1))
  refine comp_head (cl := []) (by with_unfolding_all rfl) rfl (by decide) ?_
  refine s_functors X T hA hU F ?_
  intro h2 tk2 D vs n F2 k2 d2 e2 hv
  have I2 := I.loc k2 F.ns
  refine comp_col (ns := [((Str.ofString "number"), _), ((Str.ofString "name"), _), ((Str.ofString "wide"), _)]) (compPost _ _ _ none _) ((rangeInts 0 1 (funRowsA ++ funRowsB).length).map Fld.int) rfl e2 hv (by decide) (by decide) (by decide) rfl (by decide) F2 (by decide) (by decide) (by simp [rangeInts_length]) (num_col funRows_num (by decide)) ?_
  intro C D oC m₂ h tk ys F3 k3 hys hC N3 hCD zC zD
  refine post_none F3 hC N3 hCD fun h4 k4 nt4 F4 N4 => ?_
  have I4 := I2.off (I2.grow k3) k4 nt4 (fun b hb => by rw [List.mem_singleton.mp hb]; exact zC)
  clear k4 k3 k2 nt4 F3 N3 hC zC zD hCD I2 F2 e2 hv d2 F N IK
  obtain ⟨oS, oT, t1, t2, t3, t4, sn, dS, dT, IK, N⟩ := I4.news F4
  have NN := News.app N4 N
  clear IK N
  dsimp only at NN ⊢
  simp only [List.cons_append, List.nil_append] at NN
  repeat' ((fail_if_success (with_reducible show Mid _)); first | (k_unfold; (try dsimp only)) | (k_end; wrow_close) | ((fail_if_success (with_reducible show wpAny _ _ (call (Value.builtin "len") _ _) _ _ _)); walk1) | ((fail_if_success (with_reducible show wpAny _ _ (call (Value.builtin "len") _ _) _ _ _)); dsimp only; walk1))
  obtain ⟨vt, nt, et, hit⟩ := I4.pr
  have lt := hit.length
  refine len_list ⟨_, et, rfl, _, rfl⟩ (by rw [List.size_toArray]; omega) ?_
  rw [List.size_toArray, lt, hl]
  repeat' ((fail_if_success (with_reducible show Mid _)); first | (k_unfold; (try dsimp only)) | (k_end; wrow_close) | ((fail_if_success (with_reducible show wpAny _ _ (call (Value.type "list") _ _) _ _ _)); walk1) | ((fail_if_success (with_reducible show wpAny _ _ (call (Value.type "list") _ _) _ _ _)); dsimp only; walk1))
  rename_i h5 _ _ _ _ hR F5 N5 k5
  refine list_rangeD (n := 32) rfl F5 N5 hR (by decide) (by decide) (by decide) fun h6 tk6 zs F6 N6 k6 z6 l6 _ c6 => ?_
  have I6 := I4.grow (h' := h6) (fun b o e _ => k6 _ _ (k5 b o e))
  clear k6 k5 F5 N5 et hit hR I4
  have i6 := IntsAre.ofCarried c6
  have i4 := ints_of_col hys
  dsimp only at l6 ⊢
  generalize h5.objs.size = l5 at l6 ⊢
  repeat' ((fail_if_success (with_reducible show Mid _)); first | (k_unfold; (try dsimp only)) | (k_end; wrow_close) | ((fail_if_success (with_reducible show wpAny _ _ (compareOp _ _ _) _ _ _)); walk1) | ((fail_if_success (with_reducible show wpAny _ _ (compareOp _ _ _) _ _ _)); dsimp only; walk1))
  refine ne_intsK (News.isList N6 (.head _)) i4 l6 i6 (by show un + 3 + 64 < _; omega) ?_
  rw [show (!decide (rangeInts 0 1 (funRowsA ++ funRowsB).length = rangeInts 0 1 32)) = false from rfl]
  repeat' ((fail_if_success (with_reducible show Mid _)); first | (k_unfold; (try dsimp only)) | (k_end; wrow_close) | (walk1) | (dsimp only; walk1))
  exact ⟨(by simp), h6, _, rfl, (by rw [know m2]; exact F6), I6⟩
end Mine

end
section
open PySem PySem.W PySem.Calls PyProof.Rows
set_option maxRecDepth 100000
set_option maxHeartbeats 8000000

namespace Mine
noncomputable def st0 : Stmt := hd1 lawBody
noncomputable def st1 : Stmt := hd1 (tl1 lawBody)
noncomputable def st2 : Stmt := hd1 (tl1 (tl1 lawBody))
noncomputable def st3 : Stmt := hd1 (tl1 (tl1 (tl1 lawBody)))

theorem t_s0 {w : World} {mean : ExcName → Option Value} {mg mb : Str → Option Value} {g : Heap} {dp un : Nat} {fr : Option (List Env)} {gd : Option (List Code)} {s : Shared} {L fa l : Addr} {cdv : Value} {m : Str → Option Value} {vs : List Value} {ns : List Int}
  (X : (hd.heap_39 w.params).In g) (T : Top hd.view_39 (looseW hd.view_39 []) mean mg mb g) (hA : dp + 200 < recursionLimit) (hU : un + 4000 < cLine) (F : Fr g L s.heap m) (m1 : m (Str.ofString "script") = some (.ref l)) (hl : g.IsList l vs.toArray) (hi : IntsAre vs ns) (hz : ns.length ≤ 63) :
  wpAny (model PySem.Challenge.rw_no0153_01.row.toRowW.prog w) (Around.deeper ⟨none, dp, fr, gd, un⟩ (LEnv L fa cdv)) (exec st0 (LEnv L fa cdv)) (fun f s' => Mid (f = .next ∧ ∃ h' tk' row, s' = { s with heap := h', toks := tk' } ∧ Fr g L h' (fun y => if y = (Str.ofString "row") then some (.ref row) else m y) ∧ Keeps [L] s.heap h' ∧ s.heap.get? row = none ∧ RowAt h' row)) (fun _ _ => False) s := by
  revert X
  k_fill
  intro X
  have S0 := Snap.of F
  have sn := snap_news g L s.heap
  generalize hsn : snap g L s.heap = sn0 at sn
  rw [know m1] at F
  dsimp only [LEnv, st0, st1, st2, st3, if0, if1, if2, if3, ifBody, ifElse, turnBody, lawScope, lawBody, lawDef, fnBody, fnScope, forBody, lastS, tl1, hd1, PySem.Challenge.pw_no0153_01]
  repeat' ((fail_if_success (with_reducible show Mid _)); first | (k_unfold; (try dsimp only)) | (k_end; wrow_close) | ((fail_if_success (with_reducible show wpAny _ _ (call (Value.ref _) _ _) _ _ _)); walk1) | ((fail_if_success (with_reducible show wpAny _ _ (call (Value.ref _) _ _) _ _ _)); dsimp only; walk1))
  refine wpAny_call (c_row ⟨X, T⟩ (fun b o e => F.keep b o e) (by show dp + 1 + 10 < _; omega) (by show un + 3 + 200 < _; omega) (hl.at fun o e => F.keep _ _ e) hi hz fun h2 tk2 row us ms n2 k2 f2 e2 hi2 hz2 hb2 => ?_)
  have F2 := Fr.but F k2 (by simp) (by simp)
  have N2 := News.but sn k2 (by simp)
  have nL : row ≠ L := fun e => by obtain ⟨_, _, _, q, _⟩ := F.ns; rw [e, q] at f2; cases f2
  have ng : g.get? row = none := none_back (S := []) (fun b o e _ => F.keep b o e) f2 (by simp)
  have NN := News.cons e2 nL ng N2
  clear F sn N2 k2 e2
  dsimp only at F2 ⊢
  repeat' ((fail_if_success (with_reducible show Mid _)); first | (k_unfold; (try dsimp only)) | (k_end; wrow_close) | (walk1) | (dsimp only; walk1))
  rename_i h3 F3 N3
  exact ⟨trivial, h3, _, row, rfl, (by rw [know m1]; exact F3), S0.keeps F3 (hsn ▸ News.sub N3 fun p hp => .tail _ hp), f2, us, n2, ms, (N3 _ (.head _)).1, hi2, hz2, hb2⟩

theorem t_s1 {w : World} {mean : ExcName → Option Value} {mg mb : Str → Option Value} {g : Heap} {dp un : Nat} {fr : Option (List Env)} {gd : Option (List Code)} {s : Shared} {L fa : Addr} {cdv : Value} {m : Str → Option Value} {o : Obj}
  (X : (hd.heap_39 w.params).In g) (T : Top hd.view_39 (looseW hd.view_39 []) mean mg mb g) (hA : dp + 200 < recursionLimit) (hU : un + 4000 < cLine) (F : Fr g L s.heap m) (ho : s.heap.get? (L + 1) = some o) (dc : o.data = .cell none) (gc : g.get? (L + 1) = none) :
  wpAny (model PySem.Challenge.rw_no0153_01.row.toRowW.prog w) (Around.deeper ⟨none, dp, fr, gd, un⟩ (LEnv L fa cdv)) (exec st1 (LEnv L fa cdv)) (fun f s' => Mid (f = .next ∧ ∃ h' tk' a, s' = { s with heap := h', toks := tk' } ∧ Fr g L h' m ∧ Keeps [L, L + 1] s.heap h' ∧ (∀ b ∈ a.all, s.heap.get? b = none) ∧ SymAt PySem.Challenge.rw_no0153_01.row.toRowW.prog w g h' a atomT pairT ∧ CellAt h' (L + 1) (.ref a.sg))) (fun _ _ => False) s := by
  revert X
  k_fill
  intro X
  have cL : L + 1 ≠ L := Nat.ne_of_gt (Nat.lt_succ_self L)
  have sn : News g L s.heap [(L + 1, o)] := News.cons ho cL gc News.nil
  have S0 := Snap.of F
  have sm := snap_news g L s.heap
  dsimp only [LEnv, st0, st1, st2, st3, if0, if1, if2, if3, ifBody, ifElse, turnBody, lawScope, lawBody, lawDef, fnBody, fnScope, forBody, lastS, tl1, hd1, PySem.Challenge.pw_no0153_01]
  repeat' ((fail_if_success (with_reducible show Mid _)); first | (k_unfold; (try dsimp only)) | (k_end; wrow_close) | ((fail_if_success (with_reducible show wpAny _ _ (call (Value.ref _) _ _) _ _ _)); walk1) | ((fail_if_success (with_reducible show wpAny _ _ (call (Value.ref _) _ _) _ _ _)); dsimp only; walk1))
  refine call_cls (fI := 42) F X (News.app sn sm) (by k_is) (by k_is) (by k_is) fun x dx h2 F2 N2 hlt hdx => ?_
  have zx := N2 _ (.head _)
  have zd := N2 _ (.tail _ (.head _))
  dsimp only at zx zd
  have hw : Code.weight (.builtin "type.__call__" ⟨[Value.ref 115], []⟩) ≤ 1 := by decide +kernel
  have hc : Code.cUnits (.builtin "type.__call__" ⟨[Value.ref 115], []⟩) ≤ 4 := by decide +kernel
  refine c_init ⟨X, T⟩ (fun b o e => F2.keep b o e) (by show dp + 1 + Code.weight (.builtin "type.__call__" ⟨[Value.ref 115], []⟩) + 100 < _; omega) (by show un + 3 + Code.cUnits (.builtin "type.__call__" ⟨[Value.ref 115], []⟩) + 2000 < _; omega) zx.1 zd.1 (Nat.ne_of_gt hdx) zx.2.2 zd.2.2 fun h3 tk3 a ax ad fra k3 Y3 => ?_
  dsimp only at k3 fra ⊢
  have F3 := Fr.but F2 k3 (by simpa using Ne.symm zd.2.1) (by simpa using zd.2.2)
  have ncd : L + 1 ≠ dx := Nat.ne_of_lt (hlt (L + 1, o) (.head _))
  have c3 := k3 _ _ (N2 _ (.tail _ (.tail _ (.head _)))).1 (by simpa using ncd)
  refine ⟨rfl, ?_⟩
  refine wpAny_storeName_cell rfl rfl rfl ⟨o, c3, dc⟩ fun h4 hv hs4 => ?_
  obtain ⟨o4, e4, d4⟩ := hv
  have k2 := S0.keeps F2 (News.sub N2 fun p hp => .tail _ (.tail _ (.tail _ hp)))
  have old : ∀ b, b ≠ L → g.get? b = none → dx ≤ b → s.heap.get? b = none := fun b n1 n2 n3 => by
    cases q : s.heap.get? b with
    | none => rfl
    | some o' => exact absurd (hlt (b, o') (.tail _ (snap_mem.mpr ⟨q, n1, n2⟩))) (Nat.not_lt.mpr n3)
  have fa : ∀ b ∈ a.all, s.heap.get? b = none := by
    intro b hb
    simp only [SA.all, List.mem_cons, List.not_mem_nil, or_false] at hb
    have nb : ∀ b, h2.get? b = none → s.heap.get? b = none := fun b e => none_back k2 e fun q => by
      obtain ⟨_, _, _, q', _⟩ := F2.ns
      rw [List.mem_singleton.mp q, q'] at e; cases e
    rcases hb with rfl | rfl | rfl | rfl | rfl | rfl
    · rw [ax]; exact old _ zx.2.1 zx.2.2 (Nat.le_of_lt hdx)
    · rw [ad]; exact old _ zd.2.1 zd.2.2 (Nat.le_refl _)
    all_goals exact nb _ (fra _ (by simp))
  refine ⟨rfl, h4, _, a, rfl, F3.change hs4 cL gc, ?_, fa, Y3.but (Keeps.same hs4 (.head [])) (.cons c3 (.inr fun a k e => by rw [dc] at e; cases e) (.nil _)) ?_, o4, e4, ax ▸ d4⟩
  · intro b o' e hb
    simp only [List.mem_cons, List.not_mem_nil, or_false, not_or] at hb
    refine hs4.extBut _ _ hb.2 (k3 _ _ (k2 _ _ e (by simpa using hb.1)) fun q => ?_)
    have e' := fa dx (by rw [← ad]; simp [SA.all])
    rw [List.mem_singleton.mp q, e'] at e; cases e
  · intro b hb q
    have e' := fa b hb
    rw [List.mem_singleton.mp q, ho] at e'; cases e'

theorem sits1 {P : Value → Fld → Prop} {its : List Value} {r : List Fld} {n : Nat} (h : Sits P its r) (l : r.length = n + 1) : ∃ v vs f fs, its = v :: vs ∧ r = f :: fs ∧ P v f ∧ Sits P vs fs ∧ fs.length = n := by
  cases h with
  | nil => cases l
  | cons p q => exact ⟨_, _, _, _, rfl, rfl, p, q, Nat.succ.inj l⟩
theorem sits0 {P : Value → Fld → Prop} {its : List Value} {r : List Fld} (h : Sits P its r) (l : r.length = 0) : its = [] ∧ r = [] := by
  cases h with
  | nil => exact ⟨rfl, rfl⟩
  | cons p q => cases l
theorem text_col (i : Nat) (r : List Fld) (its : List Value) (m₂ : Str → Option Value) (hr : atomRows[i]? = some r) (hf : Sits Fld.Is its r) : ∃ v f, asg (([((Str.ofString "number"), (⟨0, 0, 0, 0⟩ : Pos)), ((Str.ofString "text"), ⟨0, 0, 0, 0⟩)].map (·.1)).zip its) m₂ (Str.ofString "text") = some v ∧ atomFs[i]? = some f ∧ Fld.Is v f := by
  have e : (atomRows.map fun r => r[1]?)[i]? = (atomFs.map some)[i]? := congrArg (·[i]?) (show _ = atomFs.map some from rfl)
  have l : r.length = 2 := (show ∀ r ∈ atomRows, r.length = 2 by decide) r (List.mem_of_getElem? hr)
  rw [List.getElem?_map, List.getElem?_map, hr] at e
  obtain ⟨v0, _, f0, _, rfl, rfl, _, hf, l⟩ := sits1 hf l
  obtain ⟨v1, _, f1, _, rfl, rfl, q, hf, l⟩ := sits1 hf l
  obtain ⟨rfl, rfl⟩ := sits0 hf l
  refine ⟨v1, f1, by simp [asg], ?_, q⟩
  cases h : atomFs[i]? with
  | none => rw [h] at e; cases e
  | some f => rw [h] at e; cases e; rfl
theorem strs_of_col {h : Heap} : ∀ {ys : List Value} {ns : List Str}, Sits Fld.Is ys (ns.map Fld.str) → Sits (kStr.Is h) ys ns
  | [], [], _ => .nil
  | _ :: _, _ :: _, .cons p q => .cons p (strs_of_col q)

theorem t_s2 {w : World} {mean : ExcName → Option Value} {mg mb : Str → Option Value} {g : Heap} {dp un : Nat} {fr : Option (List Env)} {gd : Option (List Code)} {s : Shared} {L fa : Addr} {cdv : Value} {m : Str → Option Value} {o : Obj}
  (X : (hd.heap_39 w.params).In g) (T : Top hd.view_39 (looseW hd.view_39 []) mean mg mb g) (hA : dp + 200 < recursionLimit) (hU : un + 4000 < cLine) (F : Fr g L s.heap m) (ho : s.heap.get? (L + 1 + 1) = some o) (dc : o.data = .cell none) (gc : g.get? (L + 1 + 1) = none) :
  wpAny (model PySem.Challenge.rw_no0153_01.row.toRowW.prog w) (Around.deeper ⟨none, dp, fr, gd, un⟩ (LEnv L fa cdv)) (exec st2 (LEnv L fa cdv)) (fun f s' => Mid (f = .next ∧ ∃ h' tk' D, s' = { s with heap := h', toks := tk' } ∧ Fr g L h' m ∧ Keeps [L, L + 1 + 1] s.heap h' ∧ s.heap.get? D = none ∧ KdAt kStr h' D atomT ∧ CellAt h' (L + 1 + 1) (.ref D))) (fun _ _ => False) s := by
  revert X
  k_fill
  intro X
  have cL : L + 1 + 1 ≠ L := Nat.ne_of_gt (Nat.lt_succ_of_lt (Nat.lt_succ_self L))
  dsimp only [LEnv, st0, st1, st2, st3, if0, if1, if2, if3, ifBody, ifElse, turnBody, lawScope, lawBody, lawDef, fnBody, fnScope, forBody, lastS, tl1, hd1, PySem.Challenge.pw_no0153_01]
  have sn := News.cons ho cL gc News.nil
  repeat' ((fail_if_success (with_reducible show Mid _)); first | (k_unfold; (try dsimp only)) | (k_end; wrow_close) | ((fail_if_success (with_reducible show wpAny _ _ (eval (PySem.Expr.ListComp _ _ _ _) _) _ _ _)); walk1) | ((fail_if_success (with_reducible show wpAny _ _ (eval (PySem.Expr.ListComp _ _ _ _) _) _ _ _)); dsimp only; walk1))
  clear sn
  refine comp_head (cl := []) (by with_unfolding_all rfl) rfl (by decide) ?_
  refine s_atoms X T hA hU F ?_
  intro h2 tk2 D₀ vs n F2 k2 d2 e2 hv
  have o2 := k2 _ _ ho (by simpa using cL)
  refine comp_col (ns := [((Str.ofString "number"), _), ((Str.ofString "text"), _)]) (compPost _ _ _ none _) atomFs rfl e2 hv (by decide) (by decide) (by decide) rfl (by decide) F2 (by decide) (by decide) (by decide) text_col ?_
  intro C D oC m₂ h tk ys F3 k3 hys hC N3 hCD zC zD
  have o3 := k3 _ _ o2 (by simp)
  have nC : L + 1 + 1 ∉ [C] := fun e => by rw [List.mem_singleton.mp e] at o2; dsimp only at zC; rw [zC] at o2; cases o2
  have nD : D ≠ L + 1 + 1 := fun e => by rw [← e] at o2; dsimp only at zD; rw [zD] at o2; cases o2
  have lC : L ∉ [C] := fun e => by obtain ⟨_, _, _, q, _⟩ := F2.ns; rw [List.mem_singleton.mp e] at q; dsimp only at zC; rw [zC] at q; cases q
  have lD : D ∉ [L] := fun e => by obtain ⟨_, _, _, q, _⟩ := F2.ns; rw [← List.mem_singleton.mp e] at q; dsimp only at zD; rw [zD] at q; cases q
  have k24 : Keeps [] h2 h := k3
  refine post_none F3 hC N3 hCD fun h4 k4 nt4 F4 N4 => ?_
  have o4 := k4 _ _ o3 nC
  have k5 := k24.fresh k4 (fun b hb => by rw [List.mem_singleton.mp hb]; exact zC)
  clear N3 F3
  dsimp only
  repeat' ((fail_if_success (with_reducible show Mid _)); first | (k_unfold; (try dsimp only)) | (k_end; wrow_close) | ((fail_if_success (with_reducible show wpAny _ _ (storeName _ _ _) _ _ _)); walk1) | ((fail_if_success (with_reducible show wpAny _ _ (storeName _ _ _) _ _ _)); dsimp only; walk1))
  refine wpAny_storeName_cell rfl rfl rfl ⟨o, o4, dc⟩ fun h5 hv5 hs5 => ?_
  obtain ⟨o5, e5, d5⟩ := hv5
  refine ⟨rfl, h5, _, D, rfl, F4.change hs5 cL gc, fun b o' e hb => ?_, none_back k2 zD lD, ⟨ys, _, hs5.extBut _ _ nD (N4 _ (.head _)).1, strs_of_col hys⟩, o5, e5, d5⟩
  simp only [List.mem_cons, List.not_mem_nil, or_false, not_or] at hb
  exact hs5.extBut _ _ hb.2 (k5 _ _ (k2 _ _ e (by simpa using hb.1)) (by simp))

theorem fun_row {i : Nat} {r : List Fld} {its : List Value} (hr : (funRowsA ++ funRowsB)[i]? = some r) (hf : Sits Fld.Is its r) : ∃ v0 x y t u, its = [v0, .str x t, .int y u] ∧ x ∈ atomT ∧ pairT[i]? = some ((ix atomT x : Int), y) := by
  have e : ((funRowsA ++ funRowsB).map List.tail)[i]? = funFs[i]? := congrArg (·[i]?) (show _ = funFs from rfl)
  have l : r.length = 3 := (show ∀ r ∈ funRowsA ++ funRowsB, r.length = 3 by decide) r (List.mem_of_getElem? hr)
  rw [List.getElem?_map, hr] at e
  obtain ⟨x, y, hxy, hx, hp⟩ := funs_of e.symm
  obtain ⟨v0, _, f0, _, rfl, rfl, _, hf, l⟩ := sits1 hf l
  obtain ⟨v1, _, f1, _, rfl, rfl, q1, hf, l⟩ := sits1 hf l
  obtain ⟨v2, _, f2, _, rfl, rfl, q2, hf, l⟩ := sits1 hf l
  obtain ⟨rfl, rfl⟩ := sits0 hf l
  obtain ⟨rfl, rfl⟩ : f1 = .str x ∧ f2 = .int y := by simpa using hxy
  obtain ⟨t, rfl⟩ := q1
  obtain ⟨u, rfl⟩ := q2
  exact ⟨v0, x, y, t, u, rfl, hx, hp⟩

theorem t_s3 {w : World} {mean : ExcName → Option Value} {mg mb : Str → Option Value} {g : Heap} {dp un : Nat} {fr : Option (List Env)} {gd : Option (List Code)} {s : Shared} {L fa tx : Addr} {cdv : Value} {m : Str → Option Value}
  (X : (hd.heap_39 w.params).In g) (T : Top hd.view_39 (looseW hd.view_39 []) mean mg mb g) (hA : dp + 200 < recursionLimit) (hU : un + 4000 < cLine) (F : Fr g L s.heap m) (hc : CellAt s.heap (L + 1 + 1) (.ref tx)) (gc : g.get? (L + 1 + 1) = none) (ht : KdAt kStr s.heap tx atomT) :
  wpAny (model PySem.Challenge.rw_no0153_01.row.toRowW.prog w) (Around.deeper ⟨none, dp, fr, gd, un⟩ (LEnv L fa cdv)) (exec st3 (LEnv L fa cdv)) (fun f s' => Mid (f = .next ∧ ∃ h' tk' D, s' = { s with heap := h', toks := tk' } ∧ Fr g L h' (fun y => if y = (Str.ofString "pairs") then some (.ref D) else m y) ∧ Keeps [L] s.heap h' ∧ s.heap.get? D = none ∧ KdAt (kPair PR w) h' D pairT)) (fun _ _ => False) s := by
  revert X
  k_fill
  intro X
  have cL : L + 1 + 1 ≠ L := Nat.ne_of_gt (Nat.lt_succ_of_lt (Nat.lt_succ_self L))
  obtain ⟨o, ho, dc⟩ := hc
  dsimp only [LEnv, st0, st1, st2, st3, if0, if1, if2, if3, ifBody, ifElse, turnBody, lawScope, lawBody, lawDef, fnBody, fnScope, forBody, lastS, tl1, hd1, PySem.Challenge.pw_no0153_01]
  refine comp_assign (cl := [((Str.ofString "texts"), L + 1 + 1)]) (by with_unfolding_all rfl) (by with_unfolding_all rfl) rfl (by decide) ?_
  refine s_functors X T hA hU F ?_
  intro h2 tk2 D₀ vs n F2 k2 d2 e2 hv
  have o2 := k2 _ _ ho (by simpa using cL)
  have nL : tx ∉ [L] := fun e => by obtain ⟨_, _, e1, _⟩ := ht; obtain ⟨_, _, _, q, q2, _⟩ := F.ns; rw [List.mem_singleton.mp e, q] at e1; cases e1; cases q2
  have t2 := ht.but k2 (NoTups.ns F.ns) nL
  clear ho ht
  refine comp_rows (ns := [((Str.ofString "number"), _), ((Str.ofString "name"), _), ((Str.ofString "wide"), _)]) (compPost _ _ _ (some (assign _ _)) _) rfl e2 hv (by decide) (by decide) (by decide) rfl (by decide) F2
    (fun i ys h => Sits ((kPair PR w).Is h) ys (pairT.take i)) .nil (fun i ys h h' S a k nt => a.but k nt) ?_ ?_
  · intro i r its ys C D oI oC m₂ h tk hr hf k a hC F3 N n1 n2 n3 zC zD
    obtain ⟨v0, x, y, t, u, rfl, hx, hp⟩ := fun_row hr hf
    have o3 := k _ _ o2 (by simp)
    have NN := News.cons o3 cL gc N
    have t3 : KdAt kStr h tx atomT := t2.but k (.nil _) (by simp)
    have x1 : asg (([((Str.ofString "number"), (⟨0, 0, 0, 0⟩ : Pos)), ((Str.ofString "name"), ⟨0, 0, 0, 0⟩), ((Str.ofString "wide"), ⟨0, 0, 0, 0⟩)].map (·.1)).zip [v0, .str x t, .int y u]) m₂ (Str.ofString "name") = some (.str x t) := by simp [asg]; decide
    have x2 : asg (([((Str.ofString "number"), (⟨0, 0, 0, 0⟩ : Pos)), ((Str.ofString "name"), ⟨0, 0, 0, 0⟩), ((Str.ofString "wide"), ⟨0, 0, 0, 0⟩)].map (·.1)).zip [v0, .str x t, .int y u]) m₂ (Str.ofString "wide") = some (.int y u) := by simp [asg]
    dsimp only [List.map] at x1 x2 hC
    generalize asg _ m₂ = m₃ at x1 x2 hC
    dsimp only at NN n1 n2 ⊢
    repeat' ((fail_if_success (with_reducible show Mid _)); first | (k_unfold; (try dsimp only)) | (k_end; wrow_close) | ((fail_if_success (with_reducible show wpAny _ _ (getMethod _ _ _) _ _ _)); walk1) | ((fail_if_success (with_reducible show wpAny _ _ (getMethod _ _ _) _ _ _)); dsimp only; walk1))
    obtain ⟨vt, nt, et, hit⟩ := t3
    have zl : atomT.length ≤ 100 := by decide
    refine meth_index et ?_
    repeat' ((fail_if_success (with_reducible show Mid _)); first | (k_unfold; (try dsimp only)) | (k_end; wrow_close) | ((fail_if_success (with_reducible show wpAny _ _ (call (Value.builtin "list.index") _ _) _ _ _)); walk1) | ((fail_if_success (with_reducible show wpAny _ _ (call (Value.builtin "list.index") _ _) _ _ _)); dsimp only; walk1))
    refine kd_index kStr (by show un + 3 + 10 < _; omega) ⟨_, et, rfl, _, rfl⟩ hit ⟨t, rfl⟩ hx (by omega) ?_
    repeat' ((fail_if_success (with_reducible show Mid _)); first | (k_unfold; (try dsimp only)) | (k_end; wrow_close) | ((fail_if_success (with_reducible show wpAny _ _ (newTuple _) _ _ _)); walk1) | ((fail_if_success (with_reducible show wpAny _ _ (newTuple _) _ _ _)); dsimp only; walk1))
    refine wpAny_newTuple ?_ (by simp only [List.length_cons, List.length_nil]; rw [sizeLine_eq]; omega)
    refine ⟨_, _, rfl, F3.push _, (News.sub NN (by kqd_sub)).grown fun b o e => Heap.get?_push_of_some _ e, fun b _ o e => Heap.get?_push_of_some _ e, Keeps.push [] _ _, ?_⟩
    rw [List.take_add_one, hp]
    exact (a.but (Keeps.push [] _ _) (.nil _)).append (.cons ⟨_, rfl, pair_key (n := 0) (Heap.get?_push_size _ rfl)⟩ .nil)
  · rintro C D oC m₂ h tk ys F3 k3 a hC N3 hCD zC zD
    refine post_local F3 hC N3 hCD rfl rfl rfl fun h4 tk4 k4 nt4 F4 N4 => ?_
    have lC : L ≠ C := fun e => by obtain ⟨_, _, _, q, _⟩ := F2.ns; rw [e] at q; dsimp only at zC; rw [zC] at q; cases q
    have lD : D ∉ [L] := fun e => by obtain ⟨_, _, _, q, _⟩ := F2.ns; rw [← List.mem_singleton.mp e] at q; dsimp only at zD; rw [zD] at q; cases q
    refine ⟨rfl, h4, _, D, rfl, F4, fun b o' e hb => ?_, none_back k2 zD lD, ys, _, (N4 _ (.head _)).1, ?_⟩
    · have e2 := k2 _ _ e hb
      refine k4 _ _ (k3 _ _ e2 (by simp)) fun q => ?_
      simp only [List.mem_cons, List.not_mem_nil, or_false] at q hb
      rcases q with q | q
      · exact hb q
      · rw [q] at e2; dsimp only at zC; rw [zC] at e2; cases e2
    · rw [show (funRowsA ++ funRowsB).length = pairT.length from rfl, List.take_length] at a
      exact a.but k4 nt4
end Mine

end
section
open PySem PySem.W PySem.Calls PyProof.Rows
set_option maxRecDepth 100000
set_option maxHeartbeats 8000000

namespace Mine
noncomputable def st6 : Stmt := hd1 (tl1 (tl1 (tl1 (tl1 (tl1 (tl1 lawBody))))))
theorem Good.le {i j : Nat} {ts : List Str} {ps : List (Int × Int)} (G : Good i ts ps) (h : i ≤ j) : Good j ts ps := { G with t2 := Nat.le_trans G.t2 (Nat.add_le_add_left h _), p2 := Nat.le_trans G.p2 (Nat.add_le_add_left h _) }

theorem t_loop {w : World} {mean : ExcName → Option Value} {mg mb : Str → Option Value} {g : Heap} {dp un : Nat} {fr : Option (List Env)} {gd : Option (List Code)} {s : Shared} {L fa : Addr} {cdv : Value} {m : Str → Option Value} {P : LP} {ts : List Str} {ps : List (Int × Int)}
  (X : (hd.heap_39 w.params).In g) (T : Top hd.view_39 (looseW hd.view_39 []) mean mg mb g) (hA : dp + 200 < recursionLimit) (hU : un + 4000 < cLine) (F : Fr g L s.heap m) (I : Inv w g L P s.heap ts ps ts ps) (hk : P.kp = []) (G : Good 0 ts ps)
  (m1 : m (Str.ofString "row") = some (.ref P.rw)) (m2 : m (Str.ofString "pairs") = some (.ref P.pr)) :
  wpAny (model PySem.Challenge.rw_no0153_01.row.toRowW.prog w) (Around.deeper ⟨none, dp, fr, gd, un⟩ (LEnv L fa cdv)) (exec st6 (LEnv L fa cdv)) (fun f s' => Mid (f = .next ∧ TEnd w g L P s 24 s')) (fun _ _ => False) s := by
  revert X
  k_fill
  intro X
  rw [know m1, know m2] at F
  have sn := snap_news g L s.heap
  generalize snap g L s.heap = sn9 at sn
  dsimp only [LEnv, st6, if0, if1, if2, if3, ifBody, ifElse, turnBody, lawScope, lawBody, lawDef, fnBody, fnScope, forBody, lastS, tl1, hd1, PySem.Challenge.pw_no0153_01]
  refine wpAny_For ?_
  repeat' ((fail_if_success (with_reducible show Mid _)); first | (k_unfold; (try dsimp only)) | (k_end; wrow_close) | ((fail_if_success (with_reducible show wpAny _ _ (call (Value.ref _) _ _) _ _ _)); walk1) | ((fail_if_success (with_reducible show wpAny _ _ (call (Value.ref _) _ _) _ _ _)); dsimp only; walk1))
  obtain ⟨vs, n, ns, e1, hi1, hl1, hb1⟩ := I.row
  refine wpAny_call (c_next ⟨X, T⟩ (fun b o e => F.keep b o e) (by show dp + 1 + 10 < _; omega) (by show un + 3 + 200 < _; omega) e1 (I.fresh _ (by simp)) hi1 hl1 fun h2 tk2 t2 n2 k2 e2 => ?_)
  have I2 := I.rowC k2 ⟨_, n2, _, e2, ints_drop hi1, drop_len hl1, drop_bd hb1⟩
  have F2 := Fr.but F k2 (fun q => I.offL (by rw [List.mem_singleton.mp q]; simp)) (fun b hb => I.fresh b (by rw [List.mem_singleton.mp hb]; simp))
  have q1 := fmod_lo (ns.getLastD 0) (show (0 : Int) < 25 by decide)
  have q2 := fmod_hi (ns.getLastD 0) (show (0 : Int) < 25 by decide)
  clear F sn I e1 e2
  have N2 : News g L h2 [] := News.nil
  dsimp only at F2 ⊢
  repeat' ((fail_if_success (with_reducible show Mid _)); first | (k_unfold; (try dsimp only)) | (k_end; wrow_close) | ((fail_if_success (with_reducible show wpAny _ _ (pyIter _) _ _ _)); walk1) | ((fail_if_success (with_reducible show wpAny _ _ (pyIter _) _ _ _)); dsimp only; walk1))
  rename_i h3 _ _ _ _ hR F3 N3 k3
  obtain ⟨k, hk1⟩ : ∃ k : Nat, (ns.getLastD 0).fmod 25 = (k : Int) := ⟨_, (Int.toNat_of_nonneg q1).symm⟩
  have hk2 : k ≤ 24 := by omega
  rw [hk1] at hR
  have I3 := I2.grow (h' := h3) (fun b o e _ => k3 b o e)
  clear I2 k3 k2 N3
  have new : ∀ b ∈ P.a.all ++ P.own L, b ≠ h3.objs.size := fun b hb e => by
    obtain ⟨o, eo⟩ := I3.here b hb
    exact absurd (Heap.lt_size eo) (by rw [e]; exact Nat.lt_irrefl _)
  have offL := I3.offL
  have nL : h3.objs.size ≠ L := Nat.ne_of_gt F3.ns.lt
  refine iter_range_J (n := k) rfl hR (small_n (by omega)) (rs_n k) rfl rfl F3
    (fun j m h => m (Str.ofString "row") = some (.ref P.rw) ∧ m (Str.ofString "pairs") = some (.ref P.pr) ∧ ∃ ts ps, Inv w g L P h ts ps ts ps ∧ Good j ts ps) ⟨rfl, rfl, ts, ps, I3, G⟩ ?_ ?_ ?_
  · rintro j m h h' ⟨a1, a2, ts, ps, I, G⟩ k nt
    refine ⟨a1, a2, ts, ps, I.but k nt fun b hb q => ?_, G⟩
    simp only [List.mem_cons, List.not_mem_nil, or_false] at q
    rcases q with q | q
    · exact offL ((show b = L from q) ▸ hb)
    · exact new b hb q
  · rintro j t m₁ h tk oI hj ⟨a1, a2, ts, ps, I, G⟩ F hoI
    have I' := I.hold hoI (Fr.fresh F3) (fun q => by
      rcases List.mem_cons.mp q with q | q
      · exact nL q
      · exact new _ q rfl)
    refine wpAny_mono (t_turn (cdv := cdv) (fa := fa) X T hA hU F I' (by omega) G ((if_neg (by decide)).trans a1) ((if_neg (by decide)).trans a2)) (fun f s' q => ?_) fun _ _ e => e
    obtain ⟨rfl, h', tk', m', ts', ps', rfl, F', b1, b2, I'', G'⟩ := q
    exact ⟨h', tk', m', rfl, F', ⟨b1, b2, ts', ps', Inv.loose hk I'', G'⟩, (I''.kept _ (.head _)).1⟩
  · rintro m' h' tk F' ⟨a1, a2, ts, ps, I, G⟩
    exact ⟨rfl, h', tk, m', ts, ps, rfl, F', a1, a2, I, G.le hk2⟩
end Mine

end
section
open PySem PySem.W PySem.Calls PyProof.Rows
set_option maxRecDepth 100000
set_option maxHeartbeats 8000000

namespace Mine
theorem lawBody_eq : lawBody = st0 :: st1 :: st2 :: st3 :: st4 :: st5 :: st6 :: tail7 := rfl
theorem seq_next {prog : Program} {w : World} {A : Around} {s : Shared} {env : Env} {st : Stmt} {rest : List Stmt} {Q : Flow → Shared → Prop} {E : Value → Shared → Prop} {P : Shared → Prop} (h : wpAny (model prog w) A (exec st env) (fun f s' => Mid (f = .next ∧ P s')) E s)
    (k : ∀ s', P s' → wpAny (model prog w) A (execs rest env) Q E s') : wpAny (model prog w) A (execs (st :: rest) env) Q E s :=
  wpAny_execs_cons (wpAny_mono h (fun f s' q => by obtain ⟨rfl, p⟩ := q; exact k s' p) fun _ _ e => e)
theorem ne_alive {h : Heap} {a b : Addr} (ha : h.get? a = none) (hb : ∃ o, h.get? b = some o) : b ≠ a := fun e => by obtain ⟨o, q⟩ := hb; rw [e, ha] at q; cases q
theorem pairT_ok : ∀ p ∈ pairT, 0 ≤ p.1 ∧ p.1 < 29 ∧ 0 ≤ p.2 ∧ p.2 ≤ 8 := by decide +kernel
theorem good0 : Good 0 atomT pairT where
  t1 := by decide
  t2 := by decide
  p1 := by decide
  p2 := by decide
  txt := by decide +kernel
  pair := fun p hp => have ⟨a, b, c, d⟩ := pairT_ok p hp; ⟨p.1.toNat, (Int.toNat_of_nonneg a).symm, (Int.toNat_lt a).mpr b, c, d⟩

theorem inv_start {w : World} {g h0 h1 h2 h3 h4 : Heap} {L row tx pr : Addr} {a : SA} {o o' : Obj} {ma mb mc md : Str → Option Value} {ts : List Str} {ps : List (Int × Int)}
  (z1 : h0.get? (L + 1) = some o') (z2 : h0.get? (L + 1 + 1) = some o) (g1 : g.get? (L + 1) = none) (g2 : g.get? (L + 1 + 1) = none) (d : o.data = .cell none) (F0 : Fr g L h0 md) (F1 : Fr g L h1 ma) (F2 : Fr g L h2 mb) (F3 : Fr g L h3 mc)
  (k1 : Keeps [L] h0 h1) (k2 : Keeps [L, L + 1] h1 h2) (k3 : Keeps [L, L + 1 + 1] h2 h3) (k4 : Keeps [L] h3 h4)
  (f1 : h0.get? row = none) (R1 : RowAt h1 row) (fa : ∀ b ∈ a.all, h1.get? b = none) (Y2 : SymAt PR w g h2 a ts ps) (C2 : CellAt h2 (L + 1) (.ref a.sg))
  (f3 : h2.get? tx = none) (T3 : KdAt kStr h3 tx ts) (C3 : CellAt h3 (L + 1 + 1) (.ref tx)) (f4 : h3.get? pr = none) (P4 : KdAt (kPair PR w) h4 pr ps) : Inv w g L ⟨a, tx, pr, row, []⟩ h4 ts ps ts ps := by
  have n1 : L + 1 ≠ L := Nat.ne_of_gt (Nat.lt_succ_self L)
  have n2 : L + 1 + 1 ≠ L := Nat.ne_of_gt (Nat.lt_succ_of_lt (Nat.lt_succ_self L))
  have n12 : L + 1 + 1 ≠ L + 1 := Nat.ne_of_gt (Nat.lt_succ_self _)
  have al : ∀ {h m}, Fr g L h m → ∃ o, h.get? L = some o := fun F => let ⟨o, _, _, q, _⟩ := F.ns; ⟨o, q⟩
  have x1 := k1 _ _ z1 (by simp)
  have x2 := k1 _ _ z2 (by simpa using n2)
  have y2 := k2 _ _ x2 (by simpa using n2)
  have rL : row ≠ L := (ne_alive f1 (al F0)).symm
  have r1 : row ≠ L + 1 := (ne_alive f1 ⟨_, z1⟩).symm
  have r2 : row ≠ L + 1 + 1 := (ne_alive f1 ⟨_, z2⟩).symm
  have R2 := R1.but k2 (by simpa using ⟨rL, r1⟩)
  have R3 := R2.but k3 (by simpa using ⟨rL, r2⟩)
  have ha : ∀ {r h}, RowAt h r → ∃ o, h.get? r = some o := fun R => let ⟨_, _, _, q, _⟩ := R; ⟨_, q⟩
  have hc : ∀ {h c v}, CellAt h c v → ∃ o, h.get? c = some o := fun R => let ⟨o, q, _⟩ := R; ⟨o, q⟩
  have C2' := C2.but k3 (by simpa using ⟨n1, n12.symm⟩)
  have t0 : tx ≠ L := (ne_alive f3 (al F2)).symm
  have t1 : tx ≠ L + 1 := (ne_alive f3 (hc C2)).symm
  have t2 : tx ≠ L + 1 + 1 := (ne_alive f3 ⟨_, y2⟩).symm
  have tr : tx ≠ row := (ne_alive f3 (ha R2)).symm
  have p0 : pr ≠ L := (ne_alive f4 (al F3)).symm
  have p1 : pr ≠ L + 1 := (ne_alive f4 (hc C2')).symm
  have p2 : pr ≠ L + 1 + 1 := (ne_alive f4 (hc C3)).symm
  have prr : pr ≠ row := (ne_alive f4 (ha R3)).symm
  have pt : pr ≠ tx := (ne_alive f4 (let ⟨_, _, q, _⟩ := T3; ⟨_, q⟩)).symm
  have aL : ∀ b ∈ a.all, b ≠ L := fun b hb => (ne_alive (fa b hb) (al F1)).symm
  have a1 : ∀ b ∈ a.all, b ≠ L + 1 := fun b hb => (ne_alive (fa b hb) ⟨_, x1⟩).symm
  have a2 : ∀ b ∈ a.all, b ≠ L + 1 + 1 := fun b hb => (ne_alive (fa b hb) ⟨_, x2⟩).symm
  have ar : ∀ b ∈ a.all, b ≠ row := fun b hb => (ne_alive (fa b hb) (ha R1)).symm
  have nt2 : NoTups h2 [L, L + 1 + 1] := fun b hb => (List.mem_cons.mp hb).elim (fun e => NoTups.ns F2.ns b (by simp [e])) (NoTups.cons y2 (.inr fun a k e => by rw [d] at e; cases e) (.nil _) b)
  have nt3 := NoTups.ns F3.ns
  have Y3 := Y2.but k3 nt2 (fun b hb q => by simp only [List.mem_cons, List.not_mem_nil, or_false] at q; exact q.elim (aL b hb) (a2 b hb))
  have Y4 := Y3.but k4 nt3 (fun b hb q => aL b hb (List.mem_singleton.mp q))
  have ng : ∀ {h m b}, Fr g L h m → h.get? b = none → g.get? b = none := fun F e => none_back (S := []) (fun b o e _ => F.keep b o e) e (by simp)
  have at' : ∀ b ∈ a.all, b ≠ tx := fun b hb => ne_alive f3 (Y2.here b hb)
  have ap : ∀ b ∈ a.all, b ≠ pr := fun b hb => ne_alive f4 (Y3.here b hb)
  have own : ∀ b, b ∈ LP.own ⟨a, tx, pr, row, []⟩ L → b = L + 1 ∨ b = L + 1 + 1 ∨ b = tx ∨ b = pr ∨ b = row := fun b hb => by simpa only [LP.own, List.map_nil, List.mem_cons, List.not_mem_nil, or_false] using hb
  refine { sym := Y4, cS := C2'.but k4 (by simpa using n1), cT := C3.but k4 (by simpa using n2), tx := T3.but k4 nt3 (by simpa using t0), pr := P4, row := R3.but k4 (by simpa using rL), fresh := ?_, offS := ?_, offL := ?_, n1 := ?_, n2 := ?_, n3 := pt.symm, n4 := tr, n5 := prr, kept := fun _ h => nomatch h }
  · intro b hb
    rcases own b hb with rfl | rfl | rfl | rfl | rfl
    · exact g1
    · exact g2
    · exact ng F2 f3
    · exact ng F3 f4
    · exact ng F0 f1
  · intro b hb q
    rcases own b hb with rfl | rfl | rfl | rfl | rfl
    · exact a1 _ q rfl
    · exact a2 _ q rfl
    · exact at' _ q rfl
    · exact ap _ q rfl
    · exact ar _ q rfl
  · intro q
    rcases List.mem_append.mp q with q | q
    · exact aL _ q rfl
    · rcases own _ q with e | e | e | e | e
      · exact n1 e.symm
      · exact n2 e.symm
      · exact t0 e.symm
      · exact p0 e.symm
      · exact rL e.symm
  · simpa using ⟨t1.symm, p1.symm, r1.symm⟩
  · simpa using ⟨t2.symm, p2.symm, r2.symm⟩

theorem t_law {w : World} {mean : ExcName → Option Value} {mg mb : Str → Option Value} {g : Heap} {dp un : Nat} {fr : Option (List Env)} {gd : Option (List Code)} {s : Shared} {L fa l : Addr} {cdv : Value} {m : Str → Option Value} {vs : List Value} {ns : List Int} {o o' : Obj} {Q : Flow → Shared → Prop}
  (X : (hd.heap_39 w.params).In g) (T : Top hd.view_39 (looseW hd.view_39 []) mean mg mb g) (hA : dp + 200 < recursionLimit) (hU : un + 4000 < cLine) (F : Fr g L s.heap m) (m1 : m (Str.ofString "script") = some (.ref l)) (hl : g.IsList l vs.toArray) (hi : IntsAre vs ns) (hz : ns.length ≤ 63)
  (N : News g L s.heap [(L + 1 + 1, o), (L + 1, o')]) (d : o.data = .cell none) (d' : o'.data = .cell none) (ret : ∀ h' tk' m', Fr g L h' m' → Q (.ret (.bool true)) { s with heap := h', toks := tk' }) :
  wpAny (model PySem.Challenge.rw_no0153_01.row.toRowW.prog w) (Around.deeper ⟨none, dp, fr, gd, un⟩ (LEnv L fa cdv)) (execs lawBody (LEnv L fa cdv)) Q (fun _ _ => False) s := by
  rw [lawBody_eq]
  have z2 := N _ (.head _)
  have z1 := N _ (.tail _ (.head _))
  dsimp only at z1 z2
  have n12 : L + 1 + 1 ≠ L + 1 := Nat.ne_of_gt (Nat.lt_succ_self _)
  refine seq_next (t_s0 X T hA hU F m1 hl hi hz) ?_
  rintro _ ⟨h1, tk1, row, rfl, F1, k1, f1, R1⟩
  have x1 := k1 _ _ z1.1 (by simp)
  have x2 := k1 _ _ z2.1 (by simpa using z2.2.1)
  have nrL : row ≠ L := fun e => by obtain ⟨_, _, _, q, _⟩ := F.ns; rw [e, q] at f1; cases f1
  refine seq_next (t_s1 X T hA hU F1 x1 d' z1.2.2) ?_
  rintro _ ⟨h2, tk2, a, rfl, F2, k2, fa, Y2, C2⟩
  have y2 := k2 _ _ x2 (by simpa using z2.2.1)
  refine seq_next (t_s2 X T hA hU F2 y2 d z2.2.2) ?_
  rintro _ ⟨h3, tk3, tx, rfl, F3, k3, f3, T3, C3⟩
  refine seq_next (t_s3 X T hA hU F3 C3 z2.2.2 T3) ?_
  rintro _ ⟨h4, tk4, pr, rfl, F4, k4, f4, P4⟩
  dsimp only at F1 F2 F3 F4 k1 k2 k3 k4 f3 f4 fa ⊢
  have I4 := inv_start z1.1 z2.1 z1.2.2 z2.2.2 d F F1 F2 F3 k1 k2 k3 k4 f1 R1 fa Y2 C2 f3 T3 C3 f4 P4
  clear k1 k2 k3 k4 F1 F2 F3 f1 R1 fa Y2 C2 f3 T3 C3 f4 P4 x1 x2 y2 N z1 z2 d d' F
  have q1 : (fun y => if y = (Str.ofString "pairs") then some (Value.ref pr) else (fun y => if y = (Str.ofString "row") then some (Value.ref row) else m y) y) (Str.ofString "row") = some (.ref row) := (if_neg (by decide)).trans (if_pos rfl)
  have q2 : (fun y => if y = (Str.ofString "pairs") then some (Value.ref pr) else (fun y => if y = (Str.ofString "row") then some (Value.ref row) else m y) y) (Str.ofString "pairs") = some (.ref pr) := if_pos rfl
  generalize (fun y => if y = (Str.ofString "pairs") then some (Value.ref pr) else (fun y => if y = (Str.ofString "row") then some (Value.ref row) else m y) y) = m4 at F4 q1 q2
  refine seq_next (t_if4 (i := 0) X T hA hU F4 I4 rfl) ?_
  rintro _ ⟨h5, tk5, rfl, F5, I5⟩
  refine seq_next (t_if5 (i := 0) X T hA hU F5 I5 rfl q2) ?_
  rintro _ ⟨h6, tk6, rfl, F6, I6⟩
  refine seq_next (t_loop X T hA hU F6 I6 rfl good0 q1 q2) ?_
  rintro _ ⟨h7, tk7, m7, ts, ps, rfl, F7, b1, b2, I7, G7⟩
  exact t_end X T hA hU F7 I7 (by omega) G7 b1 b2 ret
end Mine

end
open PySem PySem.W PySem.Calls PyProof.Rows PyProof.Rows.LCg
set_option maxRecDepth 100000 in
set_option maxHeartbeats 8000000 in
theorem PySem.Challenge.cw_no0153_01_holds : PySem.Challenge.rw_no0153_01.Holds := by
  refine Mine.hd ⟨Mine.hl, ?_⟩
  k_go0
  w_top off
  (all_goals try k_fold)
  have hX := ‹(Mine.hd.heap_39 _).In _›
  have hT := ‹Top Mine.hd.view_39 (looseW Mine.hd.view_39 []) _ _ _ _›
  have hI := ‹IntsAre _ _›
  have hL := ‹Heap.IsList _ _ (List.toArray _)›
  have hF := ‹Fr _ _ _ _›
  have hN := ‹News _ _ _ _›
  have hc := ‹¬ (63 : Int) < ((List.length _ : Nat) : Int)›
  refine wpAny_mono (Mine.t_law hX hT (by decide) (by decide) hF rfl hL hI (by omega) hN ?_ ?_ ?_) (fun _ _ q => q) (fun _ _ q => q.elim)
  · assumption
  · assumption
  · intro h' tk' m' F'
    k_end
    wrow_close

