import PyProof.Rows.All
import Wide.All
import OpenK.AllK
import Wide.FinOn
import PySem.Challenge.RW_ov0082_01
open PySem PySem.W PySem.Spec PySem.Calls PyProof.Rows
set_option Elab.async false
set_option maxRecDepth 100000
set_option maxHeartbeats 8000000
namespace Mine
section
local macro_rules | `(tactic| o_head $_) => `(tactic| assumption)
theorem hdk (h : PySem.Challenge.rw_ov0082_01.row.Holds) : PySem.Challenge.rw_ov0082_01.row.Holds := by k_head
end
section
open PySem.W PyProof.Rows
/-- the lines of the defs and their codes -/
noncomputable def lnes : List (Nat × Nat) := [(1,20), (8,30), (12,37), (22,44), (26,51), (28,58), (30,65), (34,72), (39,79), (45,86), (58,93), (69,100), (77,107), (82,114), (91,121), (96,128), (103,135), (111,142), (118,149), (138,156), (145,161), (149,169), (151,176), (156,183), (160,190), (170,197), (180,204), (212,211), (230,218), (241,247), (243,254), (254,261), (256,268), (258,275), (263,282), (267,289), (275,296), (279,301), (285,306), (301,313), (306,318), (311,325), (317,332), (319,345), (325,364), (330,371), (336,378), (339,385), (345,392), (353,399), (359,406), (369,413), (377,420), (383,427), (391,434), (405,441), (407,448), (413,455), (415,460), (429,467), (433,472), (441,479), (450,486), (457,493), (464,500), (471,507), (480,514), (502,521), (507,528), (510,535), (518,542), (520,549), (525,556), (541,561), (544,568), (546,574), (553,581), (561,588), (566,593), (575,598), (577,605), (580,610), (584,615), (588,622), (591,629), (605,636), (609,643), (620,648), (623,653), (627,658), (629,663)]
noncomputable def look (d : Obj) (l : List (Nat × Obj)) (a : Nat) : Obj := @List.rec (Nat × Obj) (fun _ => Obj) d (fun p _ ih => @Bool.rec (fun _ => Obj) ih p.2 (Nat.beq p.1 a)) l
noncomputable def lnesV (l : List (Nat × Nat)) : List Value := @List.rec (Nat × Nat) (fun _ => List Value) [] (fun p _ ih => .int (Int.ofNat p.1) 0 :: .int 0 0 :: .ref p.2 :: ih) l
noncomputable def emptyO : Obj := { cls := Value.none, data := Data.fields #[] }
noncomputable def side (o : Obj) : Obj := match o.data with
  | .func f => { cls := Value.none, data := Data.func { name := f.name, qualname := f.qualname, params := f.params, body := f.body, scope := f.scope, globals := 0, closure := [], defaults := Value.none, kwdefaults := Value.none } }
  | _ => emptyO
noncomputable def sp (P : Params) : List (Nat × Obj) := [
  (0, boot_o_0 P),
  (1, boot_o_1 P),
  (4, boot_o_4 P),
  (5, boot_o_5 P),
  (6, boot_o_6 P),
  (7, boot_o_7 P),
  (9, boot_o_9 P),
  (10, boot_o_10 P),
  (11, { cls := Value.type "tuple", data := Data.seq #[] }),
  (12, { cls := Value.none, data := Data.fields (lnesV lnes).toArray }),
  (13, { cls := Value.type "code", data := Data.fields #[Value.str (Str.ofString "<module>") 182, Value.str (Str.ofString "<module>") 183, Value.str (Str.ofString "/claim/cut.py") 184, Value.int 1 0, Value.int 0 0, Value.int 0 0, Value.int 0 0, Value.int 0 0, Value.ref 11, Value.bool false, Value.int 181 0, Value.ref 12, Value.none, Value.none, Value.none, Value.none, Value.int 185 0, Value.int 1 0, Value.str (Str.ofString "/claim/cut.py") 186] }),
  (14, { cls := Value.type "frame", slots := #[some (Value.ref 13), some (Value.ref 3), some (Value.ref 3), none, some (Value.str (Str.ofString "__main__") 164), none, some (Value.ref 0)] }),
  (213, { cls := Value.type "tuple", data := Data.seq #[] }),
  (214, { cls := Value.type "builtin_function_or_method", data := Data.fields #[Value.builtin "type.__prepare__", Value.type "type"] }),
  (215, { cls := Value.type "dict", data := Data.dict #[{ hash := PyData.keyHash P (Str.ofString "__module__"), key := Value.str (Str.ofString "__module__") 480, val := Value.str (Str.ofString "vectorcove.values") 471 }, { hash := PyData.keyHash P (Str.ofString "__qualname__"), key := Value.str (Str.ofString "__qualname__") 482, val := Value.str (Str.ofString "Vector") 481 }, { hash := PyData.keyHash P (Str.ofString "__firstlineno__"), key := Value.str (Str.ofString "__firstlineno__") 484, val := Value.int 230 483 }, { hash := PyData.keyHash P (Str.ofString "__init__"), key := Value.str (Str.ofString "__init__") 494, val := Value.ref 227 }, { hash := PyData.keyHash P (Str.ofString "copy"), key := Value.str (Str.ofString "copy") 501, val := Value.ref 234 }, { hash := PyData.keyHash P (Str.ofString "__static_attributes__"), key := Value.str (Str.ofString "__static_attributes__") 507, val := Value.ref 235 }] 6 }),
  (216, { cls := Value.type "tuple", data := Data.seq #[] }),
  (217, { cls := Value.none, data := Data.fields #[Value.int 232 0, Value.int 4 0, Value.ref 226, Value.int 239 0, Value.int 4 0, Value.ref 233] }),
  (218, { cls := Value.type "code", data := Data.fields #[Value.str (Str.ofString "Vector") 475, Value.str (Str.ofString "Vector") 476, Value.str (Str.ofString "/claim/cut.py") 477, Value.int 230 0, Value.int 0 0, Value.int 0 0, Value.int 0 0, Value.int 0 0, Value.ref 216, Value.bool false, Value.int 181 0, Value.ref 217, Value.none, Value.none, Value.none, Value.none, Value.int 478 0, Value.int 230 0, Value.str (Str.ofString "/claim/cut.py") 479] }),
  (219, { cls := Value.type "frame", slots := #[some (Value.ref 218), some (Value.ref 3), some (Value.ref 215), none, some (Value.str (Str.ofString "vectorcove.values") 471), none, some (Value.ref 0)] }),
  (240, { cls := Value.type "super", data := Data.fields #[Value.ref 237, Value.ref 237, Value.ref 237] }),
  (241, { cls := Value.type "builtin_function_or_method", data := Data.fields #[Value.builtin "object.__init_subclass__", Value.ref 237] }),
  (328, { cls := Value.type "builtin_function_or_method", data := Data.fields #[Value.builtin "type.__prepare__", Value.type "type"] }),
  (329, { cls := Value.type "dict", data := Data.dict #[{ hash := PyData.keyHash P (Str.ofString "__module__"), key := Value.str (Str.ofString "__module__") 620, val := Value.str (Str.ofString "vectorcove.errors") 611 }, { hash := PyData.keyHash P (Str.ofString "__qualname__"), key := Value.str (Str.ofString "__qualname__") 622, val := Value.str (Str.ofString "CoveError") 621 }, { hash := PyData.keyHash P (Str.ofString "__firstlineno__"), key := Value.str (Str.ofString "__firstlineno__") 624, val := Value.int 317 623 }, { hash := PyData.keyHash P (Str.ofString "__static_attributes__"), key := Value.str (Str.ofString "__static_attributes__") 625, val := Value.ref 334 }] 4 }),
  (330, { cls := Value.type "tuple", data := Data.seq #[] }),
  (332, { cls := Value.type "code", data := Data.fields #[Value.str (Str.ofString "CoveError") 615, Value.str (Str.ofString "CoveError") 616, Value.str (Str.ofString "/claim/cut.py") 617, Value.int 317 0, Value.int 0 0, Value.int 0 0, Value.int 0 0, Value.int 0 0, Value.ref 330, Value.bool false, Value.int 181 0, Value.ref 331, Value.none, Value.none, Value.none, Value.none, Value.int 618 0, Value.int 317 0, Value.str (Str.ofString "/claim/cut.py") 619] }),
  (333, { cls := Value.type "frame", slots := #[some (Value.ref 332), some (Value.ref 3), some (Value.ref 329), none, some (Value.str (Str.ofString "vectorcove.errors") 611), none, some (Value.ref 0)] }),
  (338, { cls := Value.type "super", data := Data.fields #[Value.ref 336, Value.ref 336, Value.ref 336] }),
  (339, { cls := Value.type "builtin_function_or_method", data := Data.fields #[Value.builtin "object.__init_subclass__", Value.ref 336] }),
  (341, { cls := Value.type "builtin_function_or_method", data := Data.fields #[Value.builtin "type.__prepare__", Value.type "type"] }),
  (342, { cls := Value.type "dict", data := Data.dict #[{ hash := PyData.keyHash P (Str.ofString "__module__"), key := Value.str (Str.ofString "__module__") 640, val := Value.str (Str.ofString "vectorcove.errors") 611 }, { hash := PyData.keyHash P (Str.ofString "__qualname__"), key := Value.str (Str.ofString "__qualname__") 642, val := Value.str (Str.ofString "Refusal") 641 }, { hash := PyData.keyHash P (Str.ofString "__firstlineno__"), key := Value.str (Str.ofString "__firstlineno__") 644, val := Value.int 319 643 }, { hash := PyData.keyHash P (Str.ofString "__init__"), key := Value.str (Str.ofString "__init__") 652, val := Value.ref 353 }, { hash := PyData.keyHash P (Str.ofString "__static_attributes__"), key := Value.str (Str.ofString "__static_attributes__") 654, val := Value.ref 354 }] 5 }),
  (343, { cls := Value.type "tuple", data := Data.seq #[] }),
  (344, { cls := Value.none, data := Data.fields #[Value.int 321 0, Value.int 4 0, Value.ref 352] }),
  (345, { cls := Value.type "code", data := Data.fields #[Value.str (Str.ofString "Refusal") 635, Value.str (Str.ofString "Refusal") 636, Value.str (Str.ofString "/claim/cut.py") 637, Value.int 319 0, Value.int 0 0, Value.int 0 0, Value.int 0 0, Value.int 0 0, Value.ref 343, Value.bool false, Value.int 181 0, Value.ref 344, Value.none, Value.none, Value.none, Value.none, Value.int 638 0, Value.int 319 0, Value.str (Str.ofString "/claim/cut.py") 639] }),
  (346, { cls := Value.type "frame", slots := #[some (Value.ref 345), some (Value.ref 3), some (Value.ref 342), none, some (Value.str (Str.ofString "vectorcove.errors") 611), none, some (Value.ref 0)] }),
  (357, { cls := Value.type "super", data := Data.fields #[Value.ref 356, Value.ref 356, Value.ref 356] }),
  (358, { cls := Value.type "builtin_function_or_method", data := Data.fields #[Value.builtin "object.__init_subclass__", Value.ref 356] })]
noncomputable def ob (P : Params) (a : Nat) : Obj := look (look (side (look emptyO (hdk.heap_1 P) (Nat.add a 2))) (sp P) a) (hdk.heap_1 P) a
/-- the main dict when m names are bound and the text's name is v -/
noncomputable def mainO (P : Params) (m : Nat) (v : Value) : Obj := match (look emptyO (hdk.heap_1 P) 3).data with
  | .dict es _ => match es.toList.take m with
    | e :: r => { cls := Value.type "dict", data := .dict (List.toArray ({ hash := e.hash, key := e.key, val := v } :: r)) m }
    | [] => emptyO
  | _ => emptyO
noncomputable def tabO (r : Nat) : Obj := { cls := Value.none, data := Data.fields (lnesV (lnes.take r)).toArray }
/-- the objects behind a cut: m names, the text's name v, r defs, whether the classes' notes are laid -/
noncomputable def obAt (P : Params) (m : Nat) (v : Value) (r : Nat) (c : Obj) (a : Nat) : Obj := look (ob P a) [(3, mainO P m v), (12, tabO r), (2, c)] a
noncomputable def bt (f : Nat → Obj) (n : Nat) : Nat → Nat → Nat → BT := fun fuel => @Nat.rec (fun _ => Nat → Nat → BT) (fun _ _ => BT.nil) (fun _ ih a b => @Bool.rec (fun _ => BT) BT.nil (BT.node (f b) (ih (Nat.mul 2 a) (Nat.add a b)) (ih (Nat.mul 2 a) (Nat.add (Nat.mul 2 a) b))) (Nat.blt b n)) fuel
noncomputable def stAt (P : Params) (os : OsState) (n toks m : Nat) (v : Value) (r : Nat) (c : Obj) : SharedT := ⟨bt (obAt P m v r c) n 12 1 0, n, {}, #[], {}, toks, os⟩
noncomputable abbrev pw : Program := PySem.Challenge.pw_ov0082_01
noncomputable def env0 : Env := { scope := pw.main.scope, locals := mainNs, globals := mainNs, cells := [], code := .ref 13, frame := some 14 }
noncomputable def body0 : List Stmt := behindTheImports pw
noncomputable def cod0 : Code := .body body0 env0
noncomputable def c0 (_ : Params) : Obj := { cls := Value.none, data := Data.dict #[] 0 }
noncomputable def c1 (P : Params) : Obj := look emptyO (hdk.heap_1 P) 2
theorem hdOpen : ∀ w : World, (fencedOpening treeTable pw w 7126).map (fun s => (s.heap, s.gens, s.drawn, s.toks)) = some (boot_heap w.params, Array.mk [], boot_drawn, boot_toks) :=
  boot_open (by kernel_rfl) (by decide +kernel) (fun s => by kernel_rfl)
theorem hdSize (w : World) : ((boot_heap w.params).isNs mainGlobals && (Array.mk [] : Array GenState).size == 0, (boot_heap w.params).objs.size, (boot_heap w.params).nsMap mainGlobals "__annotations__") = (true, 11, some (.ref 6)) := by kernel_rfl
theorem hdPre (w : World) (os : OsState) : topGo treeTable pw w 11 (some (.ref 6)) 12 ⟨boot_heap w.params, Array.mk [], boot_drawn, boot_toks, os⟩ (topStub pw) = some (SharedT.abs (stAt w.params os 15 187 9 (.str (Str.ofString "__main__") 164) 0 (c0 w.params)), ⟨denote treeTable cod0, cod0, ⟨0,0,0,0⟩, [topFrame ⟨0,0,0,0⟩]⟩) := by
  rw [PySem.W.Fast.te15667345088766844465, PySem.W.Fast.te14364793385576792824, PySem.W.Fast.te11892475500146522536]
  kernel_rfl
theorem hdBlock (w : World) (os : OsState) : segRun treeTable pw w 11 (some (.ref 6)) 1 1 (SharedT.abs (stAt w.params os 15 187 9 (.str (Str.ofString "__main__") 164) 0 (c0 w.params))) (blockOf body0 env0 cod0 ⟨0,0,0,0⟩ [topFrame ⟨0,0,0,0⟩]) = some (Flow.next, SharedT.abs (stAt w.params os 15 187 9 (.str (Str.ofString "__main__") 164) 0 (c0 w.params)), cod0, ⟨0,0,0,0⟩) := by
  kernel_rfl
theorem hdP0 (w : World) : (fun os => segRunT treeTable pw w 11 (some (.ref 6)) 1 3501 (stAt w.params os 15 187 9 (.str (Str.ofString "__main__") 164) 0 (c0 w.params)) (piecesOf ((body0.drop 0).take 106) env0 cod0 ⟨0, 0, 0, 0⟩ [topFrame ⟨0, 0, 0, 0⟩])) = fun os => some (Flow.next, stAt w.params os 665 1056 105 (.str (Str.ofString "law_ov0082_01") 1002) 91 (c1 w.params), cod0, ⟨629, 0, 672, 103⟩) := by
  rw [PySem.W.Fast.te10110043849684766642, PySem.W.Fast.te14364793385576792824]
  kernel_rfl
theorem hdBody : body0 = ((body0.drop 0).take 106) ++ [] := by kernel_rfl
noncomputable def H1 (P : Params) : Heap := absHeap (bt (obAt P 105 (.str (Str.ofString "law_ov0082_01") 1002) 91 (c1 P)) 665 12 1 0) 665 {}
theorem hdFin (w : World) (os : OsState) : topRun treeTable pw w 11 (some (.ref 6)) 2 (SharedT.abs (stAt w.params os 665 1056 105 (.str (Str.ofString "law_ov0082_01") 1002) 91 (c1 w.params))) ⟨doneF .next, cod0, ⟨629, 0, 672, 103⟩, [topFrame ⟨0, 0, 0, 0⟩]⟩ = some ⟨H1 w.params, #[], {}, 1056, os⟩ := by kernel_rfl
theorem hdRun (w : World) (os : OsState) : topRun treeTable pw w 11 (some (.ref 6)) (12+(1+(3501+2))) ⟨boot_heap w.params, Array.mk [], boot_drawn, boot_toks, os⟩ (topStub pw) = some ⟨H1 w.params, #[], {}, 1056, os⟩ := by
  have e := hdBody
  refine go_top (hdPre w os) ?_
  refine piece_block (hdBlock w os) ?_
  rw [show restOf body0 env0 cod0 = restOf (((body0.drop 0).take 106) ++ []) env0 cod0 from congrArg (fun b => restOf b env0 cod0) e]
  refine piece_app (segRun_of (congrFun (hdP0 w) os)) ?_
  exact piece_nil (hdFin w os)

noncomputable def vw : Program := view pw [0, 2, 3, 4, 5, 6, 7, 8, 9, 10, 11, 12, 13, 15, 16, 17, 18, 19, 20, 21, 22, 23, 24, 25, 26, 28, 29, 30, 31, 32, 33, 35, 36, 37, 38, 39, 40, 42, 43, 44, 45, 46, 47, 48, 49, 51, 52, 54, 55, 56, 57, 58, 59, 60, 61, 62, 63, 64, 65, 66, 67, 68, 69, 70, 71, 73, 74, 75, 76, 77, 78, 79, 81, 83, 84, 85, 86, 87, 88, 90, 91, 92, 93, 94, 95, 96, 97, 99, 100, 101, 102, 103, 104, 105]
theorem wsaid : PySem.Challenge.rw_ov0082_01.wellSaid = true := by
  rw [PySem.W.Fast.te9446332074065402090]
  kernel_rfl
noncomputable def lse : List Str := [Str.ofString "number_text", Str.ofString "duplicated_flags"]
noncomputable abbrev s1 (w : World) (os : OsState) : Shared := ⟨H1 w.params, #[], {}, 1056, os⟩
theorem lk1 (w : World) (os : OsState) : (staticsOk (importedModules pw.main.body) (boot_heap w.params) (H1 w.params) && namesBound pw (H1 w.params) && gensDone (s1 w os) && laidKept (boot_heap w.params) (H1 w.params)) = true := by
  rw [PySem.W.Fast.te5923862056798008813]
  kernel_rfl
noncomputable def xt (s : Shared) : Bool := xlAt vw [] s && recOk (RowW.records PySem.Challenge.rw_ov0082_01.row.toRowW) s
theorem lk2_0 (w : World) (os : OsState) : seen ((recsOf vw).map (·.name)) (ownsOf vw) [] { (s1 w os) with gens := #[] } = expectedOf vw := by
  rw [PySem.W.Fast.te5160383126252970620]
  rw [PySem.W.Fast.te3399658132070893891]
  rw [PySem.W.Fast.te5991557255702980513]
  kernel_rfl
theorem lk2_1 (w : World) (os : OsState) : (s1 w os).heap.bltView = bltViewBooted := by
  kernel_rfl
theorem lk2_2 (w : World) (os : OsState) : ((s1 w os).heap.keysOk (looseW vw lse) ((recsOf vw).map (·.name)) ((litsOf vw).map (·.1)) ((clssOf vw (looseW vw lse)).map (·.name)) && (s1 w os).heap.accountedOkI (importedModules pw.main.body) && (s1 w os).heap.isNs mainGlobals && (s1 w os).heap.isNs builtinsNs && tablesOk vw (s1 w os).heap && xt (s1 w os) && (if true then (s1 w os).gens.size == 0 else !leftWithCleanup (s1 w os).gens)) = true := by
  rw [PySem.W.Fast.te10880121769531294198]
  rw [PySem.W.Fast.te821141287760084731]
  rw [PySem.W.Fast.te3399658132070893891]
  rw [PySem.W.Fast.te7409074990110511671]
  rw [PySem.W.Fast.te13664370479719496447]
  rw [PySem.W.Fast.te14722251495701143533]
  rw [PySem.W.Fast.te5923862056798008813]
  rw [PySem.W.Fast.te10994771534591457954]
  kernel_rfl
theorem lk2_3 (w : World) (os : OsState) : tabsOk vw (s1 w os) = true := by
  rw [PySem.W.Fast.te479339242167458305]
  kernel_rfl
theorem lk2_4 (w : World) (os : OsState) : pinSeenD vw (drecsOf vw) (s1 w os) = pinGoodD (drecsOf vw) := by
  rw [PySem.W.Fast.te16090120013241838585]
  rw [PySem.W.Fast.te3247288618530077131]
  kernel_rfl
theorem lk2_5 (w : World) (os : OsState) : plainSeenE vw (looseW vw lse) (s1 w os) = plainGoodE vw (looseW vw lse) := by
  rw [PySem.W.Fast.te2386780881361962483]
  rw [PySem.W.Fast.te821141287760084731]
  kernel_rfl
theorem lk2_6 (w : World) (os : OsState) : plainSeenD vw lse (s1 w os) = plainGoodD vw lse := by
  rw [PySem.W.Fast.te11698064438423848299]
  kernel_rfl
theorem lk2_7 (w : World) (os : OsState) : wideSeen vw (s1 w os) = wideGood vw := by
  rw [PySem.W.Fast.te7317090234206586261]
  kernel_rfl
theorem lk2_8 (w : World) (os : OsState) : clsSeenW vw lse (s1 w os) = clsGoodW vw lse := by
  rw [PySem.W.Fast.te7369524293546568484]
  kernel_rfl
theorem lk2 (w : World) (os : OsState) : openSeen vw lse (importedModules pw.main.body) xt true (s1 w os) = openGood vw lse := by
  unfold openSeen openGood
  rw [lk2_0 w os, lk2_1 w os, lk2_2 w os, lk2_3 w os, lk2_4 w os, lk2_5 w os, lk2_6 w os, lk2_7 w os, lk2_8 w os]
noncomputable def asK : List Nat := [2, 3, 15, 17, 18, 20, 21, 22, 23, 24, 25, 27, 28, 30, 31, 32, 34, 35, 37, 38, 39, 41, 42, 44, 45, 46, 48, 49, 51, 52, 53, 55, 56, 58, 59, 60, 62, 63, 65, 66, 67, 69, 70, 72, 73, 74, 76, 77, 79, 80, 81, 83, 84, 86, 87, 88, 90, 91, 93, 94, 95, 97, 98, 100, 101, 102, 104, 105, 107, 108, 109, 111, 112, 114, 115, 116, 118, 119, 121, 122, 123, 125, 126, 128, 129, 130, 132, 133, 135, 136, 137, 139, 140, 142, 143, 144, 146, 147, 149, 150, 151, 153, 154, 156, 157, 158, 161, 162, 163, 164, 166, 167, 169, 170, 171, 173, 174, 176, 177, 178, 180, 181, 183, 184, 185, 187, 188, 190, 191, 192, 194, 195, 197, 198, 199, 201, 202, 204, 205, 206, 208, 209, 211, 212, 220, 221, 223, 224, 226, 227, 228, 230, 231, 233, 234, 235, 236, 237, 238, 239, 242, 244, 245, 247, 248, 249, 251, 252, 254, 255, 256, 258, 259, 261, 262, 263, 265, 266, 268, 269, 270, 272, 273, 275, 276, 277, 279, 280, 282, 283, 284, 286, 287, 289, 290, 291, 293, 294, 296, 297, 298, 301, 302, 303, 306, 307, 308, 310, 311, 313, 314, 315, 318, 319, 320, 322, 323, 325, 326, 327, 334, 335, 336, 337, 340, 347, 349, 350, 352, 353, 354, 355, 356, 359, 361, 362, 364, 365, 366, 368, 369, 371, 372, 373, 375, 376, 378, 379, 380, 382, 383, 385, 386, 387, 389, 390, 392, 393, 394, 396, 397, 399, 400, 401, 403, 404, 406, 407, 408, 410, 411, 413, 414, 415, 417, 418, 420, 421, 422, 424, 425, 427, 428, 429, 431, 432, 434, 435, 436, 438, 439, 441, 442, 443, 445, 446, 448, 449, 450, 452, 453, 455, 456, 457, 460, 461, 462, 464, 465, 467, 468, 469, 472, 473, 474, 476, 477, 479, 480, 481, 483, 484, 486, 487, 488, 490, 491, 493, 494, 495, 497, 498, 500, 501, 502, 504, 505, 507, 508, 509, 511, 512, 514, 515, 516, 518, 519, 521, 522, 523, 525, 526, 528, 529, 530, 532, 533, 535, 536, 537, 539, 540, 542, 543, 544, 546, 547, 549, 550, 551, 553, 554, 556, 557, 558, 561, 562, 563, 565, 566, 568, 569, 570, 571, 574, 575, 576, 578, 579, 581, 582, 583, 585, 586, 588, 589, 590, 593, 594, 595, 598, 599, 600, 602, 603, 605, 606, 607, 610, 611, 612, 615, 616, 617, 619, 620, 622, 623, 624, 626, 627, 629, 630, 631, 633, 634, 636, 637, 638, 640, 641, 643, 644, 645, 648, 649, 650, 653, 654, 655, 658, 659, 660, 663, 664]
theorem asK_eq (P : Params) : asK = (hdk.heap_1 P).map (·.1) := by kernel_rfl
theorem lk3 (w : World) (os : OsState) : asK.map (s1 w os).heap.get? = (hdk.heap_1 w.params).map fun p => some p.2 := by kernel_rfl
theorem hdLeft : LeftO pw vw lse xt (Hook.obs (kHook hdk.heap_1 asK asK_eq)) (Hook.val (kHook hdk.heap_1 asK asK_eq)) 7126 :=
  LeftO.of_pieces hdOpen hdSize hdRun (by decide +kernel) (fun w => funext fun os => Prod.ext (lk1 w os) (Prod.ext (lk2 w os) (lk3 w os)))
local macro_rules | `(tactic| o_law) => `(tactic| refine holds_law wsaid fun said => ?_)
local macro_rules | `(tactic| k_head) => `(tactic| (refine holds_open (q := vw) (loose := lse) (Xt := xt) (XP := XL vw []) (Yf := Hook.obs (kHook hdk.heap_1 asK asK_eq)) (Ya := Hook.val (kHook hdk.heap_1 asK asK_eq)) (YP := Hook.says (kHook hdk.heap_1 asK asK_eq)) (N := 7126) ?hl (Hook.of (kHook hdk.heap_1 asK asK_eq)) (Hook.keeps (kHook hdk.heap_1 asK asK_eq)) (fun s e => xl_of s (Bool.and_eq_true_iff.mp e).1) XL.keeps (by rfl) (by rfl) (by rfl) (fun s e => recFacts_of (Bool.and_eq_true_iff.mp e).2) (by rfl) (by first | assumption | decide +kernel) (by decide +kernel) ⟨rfl, rfl, rfl, rfl, rfl, by decide +kernel⟩ ?hw ?hc; (case hl => exact hdLeft)))
open_top hd for PySem.Challenge.rw_ov0082_01
end
noncomputable abbrev PR : Program := PySem.Challenge.rw_ov0082_01.row.prog

/-- what a call of f does, told over a ledger: it makes tl and gives back r -/
def Ctr (w : World) (p : Program) (loose : List Str) (mean : ExcName → Option Value) (mg mb : Str → Option Value) (f : Addr) (need : Nat) (news : List (Addr × Obj)) (args : List Value) (Out : List (Addr × Obj) → Value → Prop) : Prop :=
  ∀ (dp un : Nat) (gd : Option (List Code)) (cn : Str) (cs : Scope) (a : Addr) (ccd : Value) (cl : List (Str × Addr)) (outer : List Env) (A₀ : Around) (base h₀ : Heap) (L : Addr) (m : Str → Option Value) (s : Shared)
    (Q E : Value → Shared → Prop),
    Below A₀ base outer h₀ → Fr h₀ L s.heap m → (hdk.heap_1 w.params).In h₀ → News h₀ L s.heap news → Top p loose mean mg mb h₀ → cs.kind = .function → dp + need < recursionLimit → un + 8 * need + 64 < cLine →
    (∀ r tl h' tk', Fr h₀ L h' m → News h₀ L h' (tl ++ news) → Out tl r → Q r { s with heap := h', toks := tk' }) →
    wpAny (model PySem.Challenge.rw_ov0082_01.row.prog w) (ktrTop dp un gd cn cs L a ccd cl outer) (call (.ref f) args) Q E s

section
variable {w : World} {p : Program} {loose : List Str} {mean : ExcName → Option Value} {mg mb : Str → Option Value} {f : Addr} {need : Nat} {news : List (Addr × Obj)} {args : List Value} {Out : List (Addr × Obj) → Value → Prop}
theorem Ctr.use {dp un : Nat} {gd : Option (List Code)} {cn : Str} {cs : Scope} {a : Addr} {ccd : Value} {cl : List (Str × Addr)} {outer : List Env} {A₀ : Around} {base h₀ : Heap} {L : Addr} {m : Str → Option Value} {s : Shared}
    {Q E : Value → Shared → Prop} (C : Ctr w p loose mean mg mb f need news args Out)
    (B : Below A₀ base outer h₀) (F : Fr h₀ L s.heap m) (X : (hdk.heap_1 w.params).In h₀) (N : News h₀ L s.heap news) (T : Top p loose mean mg mb h₀) (hk : cs.kind = .function)
    (hd : dp + need < recursionLimit) (hu : un + 8 * need + 64 < cLine)
    (ret : ∀ r tl h' tk', Fr h₀ L h' m → News h₀ L h' (tl ++ news) → Out tl r → Q r { s with heap := h', toks := tk' }) :
    wpAny (model PySem.Challenge.rw_ov0082_01.row.prog w) (ktrTop dp un gd cn cs L a ccd cl outer) (call (.ref f) args) Q E s := C _ _ _ _ _ _ _ _ _ _ _ _ _ _ _ _ _ B F X N T hk hd hu ret
end

/-- where a contract does not fit the walk stops -/
def Stuck (_n : Nat) (P : Prop) : Prop := P
theorem stuck (n : Nat) {P : Prop} (h : Stuck n P) : P := h
theorem memTail {α : Type} {a b : α} {l : List α} (h : a ∈ l) : a ∈ b :: l := List.mem_cons_of_mem _ h
theorem memHead {α : Type} {a : α} {l : List α} : a ∈ a :: l := List.mem_cons_self
theorem allNe_lt {d : Addr} {l : List (Addr × Obj)} (h : ∀ p ∈ l, p.1 < d) : ∀ p ∈ l, p.1 ≠ d := fun p hp => Nat.ne_of_lt (h p hp)
theorem allNe_lt2 {d x : Addr} {l : List (Addr × Obj)} (h : ∀ p ∈ l, p.1 < d) (h2 : @LT.lt Nat _ d x) : ∀ p ∈ l, p.1 ≠ x := fun p hp => Nat.ne_of_lt (Nat.lt_trans (h p hp) h2)
theorem lt_of_mem {l : List (Addr × Obj)} {a b : Addr} {o : Obj} (h : ∀ p ∈ l, p.1 < b) (hm : (a, o) ∈ l) : @LT.lt Nat _ a b := h _ hm
theorem all_sub {l l' : List (Addr × Obj)} {d : Addr} (h : ∀ p ∈ l, p.1 < d) (hs : ∀ p ∈ l', p ∈ l) : ∀ p ∈ l', p.1 < d := fun p hp => h p (hs p hp)
theorem lt_up {news : List (Addr × Obj)} {a b : Addr} (h : ∀ q ∈ news, q.1 < a) (k : @LT.lt Nat _ a b) : ∀ q ∈ news, q.1 < b := fun q hq => Nat.lt_trans (h q hq) k
theorem news_sub {h₀ h : Heap} {L : Addr} {l l' : List (Addr × Obj)} (N : News h₀ L h l) (hs : ∀ p ∈ l', p ∈ l) : News h₀ L h l' := fun p hp => N p (hs p hp)

inductive IsVD (kind : Str) (l : Addr) : Obj → Prop
  | mk (h1 h2 h3 h4 h5 : Int) (t1 t2 t3 t4 t5 tk : Tok) (n : Nat) :
    IsVD kind l (dictOf [⟨h1, .str (Str.ofString "kind") t1, .str kind tk⟩, ⟨h2, .str (Str.ofString "items") t2, .ref l⟩, ⟨h3, .str (Str.ofString "attrs") t3, .none⟩, ⟨h4, .str (Str.ofString "shared") t4, .bool false⟩, ⟨h5, .str (Str.ofString "loose") t5, .bool false⟩] n)

/-- a Vector without attributes stands in the ledger at x: its kind, its list -/
def VecAt (news : List (Addr × Obj)) (x : Addr) (kind : Str) (l : Addr) : Prop :=
  ∃ dx od, (x, instObj 237 dx) ∈ news ∧ (dx, od) ∈ news ∧ IsVD kind l od
theorem VecAt.mono {news news' : List (Addr × Obj)} {x : Addr} {kind : Str} {l : Addr} (h : VecAt news x kind l) (hs : ∀ p ∈ news, p ∈ news') : VecAt news' x kind l :=
  let ⟨dx, od, a, b, c⟩ := h; ⟨dx, od, hs _ a, hs _ b, c⟩

inductive Kd | int | dbl | chr | lst deriving DecidableEq
noncomputable def Kd.str : Kd → Str
  | .int => Str.ofString "integer"
  | .dbl => Str.ofString "double"
  | .chr => Str.ofString "character"
  | .lst => Str.ofString "list"
noncomputable def Kd.most : Kd → Nat
  | .lst => 3
  | _ => 5
noncomputable def datOf : Kd → Nat → Dat
  | .int, 0 => .int (-1) | .int, 1 => .int 0 | .int, 2 => .int 1 | .int, 3 => .int 2 | .int, _ => .none
  | .dbl, 0 => .tuple [.int 0, .int 0] | .dbl, 1 => .tuple [.int 1, .int 2] | .dbl, 2 => .tuple [.int 1, .int 1] | .dbl, 3 => .tuple [.int 1, .int 0] | .dbl, _ => .none
  | .chr, 0 => .str (Str.ofString "") | .chr, 1 => .str (Str.ofString "x") | .chr, 2 => .str (Str.ofString "NA") | .chr, 3 => .str (Str.ofString "y") | .chr, _ => .none
  | .lst, c => .list [.int (c : Int)]

/-- the value v stands for the item c of the kind kd -/
def ItemIn (news : List (Addr × Obj)) (kd : Kd) (v : Value) (c : Nat) : Prop := c < kd.most ∧ match kd with
  | .lst => ∃ x l t k, v = .ref x ∧ VecAt news x (Str.ofString "integer") l ∧ (l, listOf [Value.int (c : Int) t].toArray k) ∈ news
  | kd => DatIn news v (datOf kd c)
theorem ItemIn.mono {news news' : List (Addr × Obj)} {kd : Kd} {v : Value} {c : Nat} (h : ItemIn news kd v c) (hs : ∀ p ∈ news, p ∈ news') : ItemIn news' kd v c := by
  refine ⟨h.1, ?_⟩
  have h2 := h.2
  cases kd with
  | lst => obtain ⟨x, l, t, k, a, b, c⟩ := h2; exact ⟨x, l, t, k, a, b.mono hs, hs _ c⟩
  | _ => exact DatIn.mono hs h2
theorem ItemIn.handed {news : List (Addr × Obj)} {kd : Kd} {v : Value} {c : Nat} (h : ItemIn news kd v c) : handedIn v = true := by
  have h2 := h.2
  cases kd with
  | lst => obtain ⟨x, l, t, k, rfl, _⟩ := h2; rfl
  | _ => exact DatIn.handed h2

def Items (news : List (Addr × Obj)) (kd : Kd) (vs : List Value) (cs : List Nat) : Prop :=
  vs.length = cs.length ∧ ∀ (i c : Nat), cs[i]? = some c → ∃ v : Value, vs[i]? = some v ∧ ItemIn news kd v c
theorem Items.mono {news news' : List (Addr × Obj)} {kd : Kd} {vs : List Value} {cs : List Nat} (h : Items news kd vs cs) (hs : ∀ p ∈ news, p ∈ news') : Items news' kd vs cs :=
  ⟨h.1, fun i c e => let ⟨v, a, b⟩ := h.2 i c e; ⟨v, a, b.mono hs⟩⟩
theorem Items.nil {news : List (Addr × Obj)} {kd : Kd} : Items news kd [] [] := ⟨rfl, fun i c e => by simp at e⟩
theorem Items.snoc {news : List (Addr × Obj)} {kd : Kd} {vs : List Value} {cs : List Nat} {v : Value} {c : Nat} (h : Items news kd vs cs) (k : ItemIn news kd v c) : Items news kd (vs ++ [v]) (cs ++ [c]) := by
  refine ⟨by simp [h.1], fun i c' e => ?_⟩
  by_cases hi : i < cs.length
  · rw [List.getElem?_append_left hi] at e
    obtain ⟨u, a, b⟩ := h.2 i c' e
    exact ⟨u, by rw [List.getElem?_append_left (by rw [h.1]; exact hi)]; exact a, b⟩
  · rw [List.getElem?_append_right (Nat.not_lt.mp hi)] at e
    have : i - cs.length = 0 := by
      cases q : i - cs.length with
      | zero => rfl
      | succ n => rw [q] at e; simp at e
    rw [this] at e
    obtain rfl : c = c' := by simpa using e
    refine ⟨v, ?_, k⟩
    rw [List.getElem?_append_right (by rw [h.1]; exact Nat.not_lt.mp hi), h.1, this]
    rfl
theorem Items.append {news : List (Addr × Obj)} {kd : Kd} {vs us : List Value} {cs es : List Nat} (h : Items news kd vs cs) (k : Items news kd us es) : Items news kd (vs ++ us) (cs ++ es) := by
  refine ⟨by simp [h.1, k.1], fun i c e => ?_⟩
  by_cases hi : i < cs.length
  · rw [List.getElem?_append_left hi] at e
    obtain ⟨u, a, b⟩ := h.2 i c e
    exact ⟨u, by rw [List.getElem?_append_left (by rw [h.1]; exact hi)]; exact a, b⟩
  · rw [List.getElem?_append_right (Nat.not_lt.mp hi)] at e
    obtain ⟨u, a, b⟩ := k.2 _ c e
    exact ⟨u, by rw [List.getElem?_append_right (by rw [h.1]; exact Nat.not_lt.mp hi), h.1]; exact a, b⟩
theorem Items.get {news : List (Addr × Obj)} {kd : Kd} {vs : List Value} {cs : List Nat} (h : Items news kd vs cs) {i : Nat} (hi : i < cs.length) : ∃ v, vs[i]? = some v ∧ ItemIn news kd v (cs.getD i 0) := by
  obtain ⟨v, a, b⟩ := h.2 i cs[i] (by simp [hi])
  exact ⟨v, a, by simpa [List.getD, hi] using b⟩

theorem items_le {nb : List (Addr × Obj)} {kd : Kd} {vs : List Value} {cs : List Nat} {n : Nat} (h : Items nb kd vs cs) (b : cs.length ≤ n) : vs.length ≤ n := by rw [h.1]; exact b
theorem lt0 {j1 j6 j7 : Nat} (j8 : j1 + j7 < j6) : j1 < j6 := Nat.lt_of_le_of_lt (Nat.le_add_right j1 j7) j8
theorem lt1 {j1 j2 j6 j7 : Nat} (j8 : j1 + j7 < j6) (j9 : Nat.ble j2 j7 = true) : j1 + j2 < j6 := Nat.lt_of_le_of_lt (Nat.add_le_add_left (Nat.le_of_ble_eq_true j9) j1) j8
theorem lt2 {j1 j2 j3 j6 j7 : Nat} (j8 : j1 + j7 < j6) (j9 : Nat.ble (j2 + j3) j7 = true) : j1 + j2 + j3 < j6 := Nat.add_assoc j1 j2 j3 ▸ lt1 j8 j9
theorem lt3 {j1 j2 j3 j4 j6 j7 : Nat} (j8 : j1 + j7 < j6) (j9 : Nat.ble (j2 + j3 + j4) j7 = true) : j1 + j2 + j3 + j4 < j6 := by have := lt1 j8 j9; omega
theorem lt4 {j1 j2 j3 j4 j5 j6 j7 : Nat} (j8 : j1 + j7 < j6) (j9 : Nat.ble (j2 + j3 + j4 + j5) j7 = true) : j1 + j2 + j3 + j4 + j5 < j6 := by have := lt1 j8 j9; omega
theorem ltS {j1 j2 j3 j6 : Nat} (j8 : j1 + j2 + j3 < j6) : j1 + (j2 + j3) < j6 := Nat.add_assoc j1 j2 j3 ▸ j8
theorem le1 {j1 j7 j0 : Nat} (j8 : j1 ≤ j7) (j9 : Nat.ble j7 j0 = true) : j1 ≤ j0 := Nat.le_trans j8 (Nat.le_of_ble_eq_true j9)
--M{
local macro_rules | `(tactic| ktn_lt) => `(tactic| first | assumption | (refine' lt_of_mem ?a ?b; (case a => assumption); (case b => k_mem)) | (refine' all_sub ?a ?b; (case a => assumption); (case b => kqd_sub)))
local macro_rules | `(tactic| k_room) => `(tactic| ktr_room)
local macro_rules | `(tactic| k_units) => `(tactic| ktr_units)
local macro_rules | `(tactic| cb_units) => `(tactic| ((try simp only [units_in1, units_deeper, Around.mark_units, units_caller, depth_under_make, depth_under_kw, depth_in1, depth_deeper, depth_caller]); (try dsimp only [ktrTop]); (with_reducible first | apply lt4 | apply lt3 | apply lt2 | apply lt1 | apply lt0) <;> first | assumption | exact ltS (by assumption) | exact rfl))
local macro_rules | `(tactic| k_room) => `(tactic| cb_units)
local macro_rules | `(tactic| k_units) => `(tactic| cb_units)
local macro_rules | `(tactic| cell_enter) => `(tactic| ((case kA => exact rfl); (case kF => exact rfl); (case kK => first | exact rfl | assumption); (case k1 => k_asm); (case k2 => k_asm); (case k3 => k_asm); (case k4 => k_asm); (case k5 => k_asm); (case k6 => k_is); (case k7 => k_is); (case k8 => k_room); (case k9 => first | exact BindsTo.of_eq rfl | exact binds_K (by k_in) rfl (by k_is) rfl rfl rfl); (case c2 => exact rfl); (case c3 => exact rfl); (case c4 => exact rfl)))
local macro_rules | `(tactic| k_enter) => `(tactic| first
  | (refine' code_def ?k1 ?k2 ?k3 ?k4 ?k5 ?kA ?kF ?kK ?k6 ?k7 ?k8 ?k9 ?kB ?_ ?c2 ?c3 ?c4 ?c5; cell_enter; (case c5 => decide); (case kB => exact locs rfl); k_whole; intro g' L' h' FG' F' N' B' X' T'; (try dsimp only); (try k_lift B'); (try k_fold))
  | (refine' code_defC ?k1 ?k2 ?k3 ?k4 ?k5 ?kA ?kF ?kK ?k6 ?k7 ?k8 ?k9 ?kB ?kD ?_ ?c2 ?c3 ?c4; cell_enter; (case kB => exact rfl); (case kD => decide +kernel); k_whole; intro g' L' h' tk' cells' FG' F' N' Y' B' X' T' l1; (try k_lt l1); k_cells Y'; (try simp only [List.cons_append, List.nil_append] at N'); (try dsimp only); (try k_lift B'); (try k_fold)))
local macro_rules | `(tactic| k_mem) => `(tactic| (refine' memTail ?_; k_mem))
local macro_rules | `(tactic| k_mem) => `(tactic| first | with_reducible assumption | exact memHead)
local macro_rules | `(tactic| size_fits) => `(tactic| ((simp only [List.size_toArray, List.length_append, List.length_cons, List.length_nil, List.length_reverse, List.length_map, sizeLine_eq]); first | exact le1 (by assumption) (by exact rfl) | omega))
local macro_rules | `(tactic| walk_at "call type:list") => `(tactic| f_two (call (Value.type "list") [Value.ref _]), (list_copyK ?F ?N ?l ?_ ?f))
local macro_rules | `(tactic| k_ne) => `(tactic| first | (refine neN ?_; (try dsimp only); omega) | (refine neN (Nat.ne_of_gt ?_); ktn_lt) | (refine neN (Nat.ne_of_lt ?_); ktn_lt))
local macro_rules | `(tactic| k_all) => `(tactic| first | exact allNe_lt (by assumption) | exact allNe_lt2 (by assumption) (by assumption) | (refine' allNe_lt2 ?a ?b; (case a => assumption); (case b => omega)))
--M}
--M{
local macro_rules | `(tactic| k_clsL) => `(tactic| ((try case F => k_asm); (try case N => k_asm); (try case B => k_asm); (try case X => k_asm); (try case k => first | exact rfl | assumption); (try case d => k_room); (try case l => exact News.isList (by k_asm) (by k_mem)); (try case m => k_mem); (try case a => k_mem); (try case b => k_mem); (try case R => assumption); (try case x => assumption); (try case K => assumption); (try case o => assumption); (try case S => assumption); (try case T => assumption); (try case v => assumption); (try case c => assumption); (try case e => exact rfl); (try case i => repeat constructor); (try case j => decide); (try case y => first | assumption | exact le1 (by assumption) (by exact rfl) | omega); (try case z => first | assumption | exact le1 (by assumption) (by exact rfl) | omega | (simp only [List.toList_toArray, List.length_reverse]; omega)); (try case s => kqd_sub); (try case u => k_units); (try case g => with_unfolding_all rfl); (try case t => intro _; with_unfolding_all rfl); (try case f => size_fits); (fail_if_success (first | (case' F => skip) | (case' N => skip) | (case' l => skip) | (case' m => skip) | (case' a => skip) | (case' b => skip) | (case' R => skip) | (case' x => skip) | (case' K => skip) | (case' o => skip) | (case' S => skip) | (case' T => skip) | (case' v => skip) | (case' c => skip) | (case' e => skip) | (case' i => skip) | (case' j => skip) | (case' y => skip) | (case' z => skip) | (case' s => skip) | (case' u => skip) | (case' g => skip) | (case' t => skip) | (case' f => skip)))))
local macro_rules | `(tactic| row_wit1 $r) => `(tactic| (k_here; k_dflt (refine' $r; k_clsL); intros; (try k_sweep)))
local macro_rules | `(tactic| f_two $g, $r) => `(tactic| ((with_reducible show wpAny _ _ $g _ _ _); row_wit1 $r))
local macro_rules | `(tactic| ktr_unf) => `(tactic| first | ((with_reducible show VecAt _ _ _ _); ktr_rel) | ((with_reducible show _ ∈ _); k_mem) | assumption | ((with_reducible show ∀ _, _ ∈ _ → _ ∈ _); kqd_sub) | exact Items.mono (by assumption) (by kqd_sub) | exact ItemIn.mono (by assumption) (by kqd_sub) | exact le1 (by assumption) (by exact rfl) | exact items_le (by assumption) (by assumption) | omega)
local macro_rules | `(tactic| row_wit2 $n $t) => `(tactic| (k_here; (with_reducible show wpAny _ _ (call (Value.ref $n) _) _ _ _); k_dflt (refine' Ctr.use ?C ?B ?F ?X ?N ?T ?k ?d ?u ?r; (case N => k_asm); (case C => (apply $t <;> ktr_unf)); k_clsL); intro r9 tl9 h9 tk9 F9 N9 q9))
local macro_rules | `(tactic| k_caughtNB) => `(tactic| ((rename News _ _ _ _ => N9); (try simp only [List.cons_append, List.nil_append] at N9); (try dsimp only); (try k_sweep)))
local macro_rules | `(tactic| k_caught0) => `(tactic| ((rename _ => q9); k_dflt (obtain ⟨x9, dx9, od9, l9, us9, k9, e9, v9, z9, h9, e9', n9, n9', n9''⟩ := q9; subst e9; subst e9'; cases v9); k_caughtNB))
local macro_rules | `(tactic| k_caughtB) => `(tactic| ((rename _ => q9); k_dflt (obtain ⟨l9, us9, k9, e9, z9, h9, e9', n9⟩ := q9; subst e9; subst e9'); k_caughtNB))
local macro_rules | `(tactic| k_caughtN0) => `(tactic| ((rename _ => q9); k_dflt (obtain ⟨e9, e9'⟩ := q9; subst e9; subst e9'); k_caughtNB))
--M}

section
variable {w : World} {p : Program} {loose : List Str} {mean : ExcName → Option Value} {mg mb : Str → Option Value} {news : List (Addr × Obj)}

theorem vector_spec (kind : Str) (t : Tok) (l : Addr) : Ctr w p loose mean mg mb 237 3 news [.str kind t, .ref l]
    (fun tl r => ∃ x dx od, tl = [(x, instObj 237 dx), (dx, od)] ∧ @LT.lt Nat _ dx x ∧ (∀ q ∈ news, q.1 < dx) ∧ IsVD kind l od ∧ r = .ref x) := by
  unfold Ctr
  (w_top off; k_fill)
  intro dp un gd cn cs a ccd cl outer A₀ base h₀ L m s Q E B F X N T hk hd hu hret
  k_dflt (refine' call_cls F X N ?k4 ?k5 ?k6 ?_; (case k4 => k_is); (case k5 => k_is); (case k6 => k_is))
  intro x' d' h' F' N' l1 l2
  k_lt2 l2
  k_dflt k_enter
  k_steps
  exact hret _ [(x', _), (d', _)] _ _ (by k_asm) (by k_asm) ⟨_, _, _, rfl, l2, l1, IsVD.mk .., rfl⟩
end
--M{
local macro_rules | `(tactic| ktr_rel) => `(tactic| (refine' ⟨_, _, ?va, ?vb, ?vc⟩; (case va => k_mem); (case vb => k_mem); (case vc => exact IsVD.mk ..)))
--M}
--M{
local macro_rules | `(tactic| walk_at "call ref") => `(tactic| (row_wit2 237 vector_spec; (rename _ => q9); k_dflt (obtain ⟨x9, dx9, od9, e9, l9, m9, v9, e9'⟩ := q9; subst e9; subst e9'; cases v9); k_caughtNB))
--M}

section
variable {prog : Program} {w : World} {A : Around} {E : Value → Shared → Prop} {s : Shared} {env : Env} {h₀ : Heap} {x : Str} {body : List Stmt} {Q : Flow → Shared → Prop}

/-- the list object lo lies at l: below, or in the ledger -/
def Src (h₀ : Heap) (l : Addr) (lo : Obj) (nw : List (Addr × Obj)) : Prop := h₀.get? l = some lo ∨ (l, lo) ∈ nw

/-- the end of a turn -/
def TEnd (h₀ : Heap) (L : Addr) (J : (Str → Option Value) → List (Addr × Obj) → Prop) (I : Addr) (oI : Obj) (s₁ s₂ : Shared) : Prop :=
  ∃ h' tk m' nw, s₂ = { s₁ with heap := h', toks := tk } ∧ Fr h₀ L h' m' ∧ News h₀ L h' ((I, oI) :: nw) ∧ (∀ p ∈ nw, p.1 ≠ I) ∧ J m' nw
def TPost (h₀ : Heap) (L : Addr) (J : (Str → Option Value) → List (Addr × Obj) → Prop) (I : Addr) (oI : Obj) (s₁ : Shared) (Q : Flow → Shared → Prop) (f : Flow) (s₂ : Shared) : Prop :=
  match f with
  | .ret v => Q (.ret v) s₂
  | .brk => Q .next s₂
  | _ => TEnd h₀ L J I oI s₁ s₂
theorem TEnd.intro {L : Addr} {J : (Str → Option Value) → List (Addr × Obj) → Prop} {I : Addr} {oI : Obj} {s₁ : Shared} {h' : Heap} {tk : Nat} {m' : Str → Option Value} {all : List (Addr × Obj)} (nw : List (Addr × Obj))
    (F : Fr h₀ L h' m') (N : News h₀ L h' all) (hs : ∀ p ∈ (I, oI) :: nw, p ∈ all) (off : ∀ p ∈ nw, p.1 ≠ I) (j : J m' nw) : TEnd h₀ L J I oI s₁ { s₁ with heap := h', toks := tk } :=
  ⟨h', tk, m', nw, rfl, F, news_sub N hs, off, j⟩

theorem for_list {l : Addr} {vs : List Value} {lo : Obj} {m₀ : Str → Option Value} {news : List (Addr × Obj)} (J : Nat → (Str → Option Value) → List (Addr × Obj) → Prop)
    (hh : A.handled = none) (F : Fr h₀ env.locals s.heap m₀) (N : News h₀ env.locals s.heap news) (hlc : lo.cls = .type "list") (hld : ∃ n, lo.data = .seq vs.toArray n) (hj : J 0 m₀ news) (hS : ∀ i m nw, J i m nw → Src h₀ l lo nw)
    (turn : ∀ i v m₁ nw h tk I oI, vs[i]? = some v → J i m₁ nw → (∀ p ∈ nw, p.1 ≠ I) → Fr h₀ env.locals h (fun y => if y = x then some v else m₁ y) → News h₀ env.locals h ((I, oI) :: nw) →
      wpAny (model prog w) A (execs body env) (TPost h₀ env.locals (J (i + 1)) I oI { s with heap := h, toks := tk } Q) E { s with heap := h, toks := tk })
    (done : ∀ m₁ nw h tk, J vs.length m₁ nw → Fr h₀ env.locals h m₁ → News h₀ env.locals h nw → Q .next { s with heap := h, toks := tk }) :
    wpAny (model prog w) A (pyIter (.ref l)) (fun it s₂ => LoopAtV prog w A h₀ env x body Q E it s₂) E s := by
  have hget : s.heap.get? l = some lo := (hS _ _ _ hj).elim (fun e => F.keep _ _ e) fun hm => (N _ hm).1
  have hls : s.heap.IsList l vs.toArray := ⟨lo, hget, hlc, hld⟩
  have hlt : l < s.heap.objs.size := Heap.lt_size hget
  have hL : env.locals < s.heap.objs.size := F.ns.lt
  have hlL : env.locals ≠ l := by
    intro e
    rcases hS _ _ _ hj with q | q
    · exact absurd (Heap.lt_size q) (by rw [← e]; exact Nat.not_lt.mpr F.above)
    · exact (N _ q).2.1 e.symm
  refine wpAny_pyIter_list hls ?_
  have W := Walks.list (prog := prog) (w := w) hh s.heap.objs.size l (Nat.ne_of_lt hlt) vs.toArray
  have hlen : vs.toArray.size = vs.length := by simp
  rw [hlen] at W
  refine ⟨_, _, _, vs.length, _, _, m₀, news, fun i m nw => J i m nw, rfl, W, ?_, ?_, ?_, ⟨⟨_, Heap.get?_push_size _ rfl, rfl, rfl⟩, hls.at fun o e => Heap.get?_push_of_some _ e⟩, F.push _, (fun p hp => ⟨Heap.get?_push_of_some _ (N p hp).1, (N p hp).2⟩), hj, ?_, ?_⟩
  · intro hm
    rcases List.mem_cons.mp hm with e | hm
    · exact absurd hL (e ▸ Nat.lt_irrefl _)
    · exact hlL (List.mem_singleton.mp hm)
  · intro b hb
    rw [List.mem_singleton.mp hb]
    exact next_is_new F
  · intro p hp hI
    exact absurd (Heap.lt_size (N p hp).1) ((List.mem_singleton.mp hI) ▸ Nat.lt_irrefl _)
  · rintro i v m₁ nw s₁ own ⟨hh', tk', rfl⟩ hin hP hJ hoff hown hownh hall hst F₁ N₁
    obtain ⟨⟨oI, hoI, _⟩, _⟩ := hst
    have hI0 : h₀.get? s.heap.objs.size = none := next_is_new F
    have hIo : (s.heap.objs.size, oI) ∈ own := hall _ (List.mem_cons.mpr (.inl rfl)) hI0 _ hoI
    have hne : ∀ p ∈ nw, p.1 ≠ s.heap.objs.size := fun p hp e => hoff p hp (List.mem_singleton.mpr e)
    have hP' : vs[i]? = some v := by simpa using hP
    have N₂ : News h₀ env.locals hh' ((s.heap.objs.size, oI) :: nw) := fun p hp => (List.mem_cons.mp hp).elim (fun e => by rw [e]; exact N₁ _ (List.mem_append_left _ hIo)) fun hp => N₁ _ (List.mem_append_right _ hp)
    refine wpAny_mono (turn i v m₁ nw hh' tk' _ oI hP' hJ hne F₁ N₂) (fun f s₂ p => ?_) fun _ _ e => e
    have fin : TEnd h₀ env.locals (J (i + 1)) s.heap.objs.size oI { s with heap := hh', toks := tk' } s₂ → LoopStepU h₀ env.locals [s.heap.objs.size] own (J (i + 1)) { s with heap := hh', toks := tk' } .next s₂ := by
      rintro ⟨h', tk, m', nw', e, F', N', off', hJ'⟩
      refine ⟨rfl, h', tk, m', nw', e, F', fun p hp => ?_, fun p hp hq => off' p hp (List.mem_singleton.mp hq), hJ'⟩
      rcases List.mem_append.mp hp with hp | hp
      · have n1 := N₁ p (List.mem_append_left _ hp)
        rcases List.mem_cons.mp (hown p hp) with e | e
        · have : p = (s.heap.objs.size, oI) := by
            have h4 := n1.1
            rw [e, hoI] at h4
            exact Prod.ext e (Option.some.inj h4).symm
          rw [this]; exact N' _ (.head _)
        · have e' : p.1 = l := List.mem_singleton.mp e
          refine ⟨?_, n1.2⟩
          have h5 : hh'.get? l = some lo := (hS _ _ _ hJ).elim (fun e => F₁.keep _ _ e) fun hm => (N₂ _ (.tail _ hm)).1
          have h4 := n1.1
          rw [e', h5] at h4
          have h6 : h'.get? l = some lo := (hS _ _ _ hJ').elim (fun e => F'.keep _ _ e) fun hm => (N' _ (.tail _ hm)).1
          rw [e', h6]; exact h4
      · exact N' p (.tail _ hp)
    cases f with
    | ret v => exact .ret p
    | brk => exact .brk p
    | next => exact .next (fin p)
    | cont => exact .cont (fin p)
  · rintro h' tk m' nw' F' N' _ hJ
    exact done m' nw' h' tk hJ F' N'

theorem for_range {r : Addr} {b₀ : Int} {t₀ u₀ v₀ : Tok} {n : Nat} {m₀ : Str → Option Value} {news : List (Addr × Obj)} (J : Nat → (Str → Option Value) → List (Addr × Obj) → Prop)
    (hh : A.handled = none) (hr : IsRange s.heap r 0 b₀ 1 t₀ u₀ v₀) (hsmall : Builtin.Range.small 0 b₀ 1 = true) (hn : Builtin.Range.rangeSize 0 b₀ 1 = (n : Int)) (F : Fr h₀ env.locals s.heap m₀) (N : News h₀ env.locals s.heap news) (hj : J 0 m₀ news)
    (turn : ∀ (i : Nat) t m₁ nw h tk I oI, i < n → J i m₁ nw → (∀ p ∈ nw, p.1 ≠ I) → Fr h₀ env.locals h (fun y => if y = x then some (.int (i : Int) t) else m₁ y) → News h₀ env.locals h ((I, oI) :: nw) →
      wpAny (model prog w) A (execs body env) (TPost h₀ env.locals (J (i + 1)) I oI { s with heap := h, toks := tk } Q) E { s with heap := h, toks := tk })
    (done : ∀ m₁ nw h tk, J n m₁ nw → Fr h₀ env.locals h m₁ → News h₀ env.locals h nw → Q .next { s with heap := h, toks := tk }) :
    wpAny (model prog w) A (pyIter (.ref r)) (fun it s₂ => LoopAtV prog w A h₀ env x body Q E it s₂) E s := by
  refine wpAny_pyIter_range hr hsmall ?_
  have W : Walks prog w A s.heap.objs.size [s.heap.objs.size] [s.heap.objs.size] n (fun i v => i < n ∧ ∃ t, v = .int (0 + i * 1) t)
      (fun i h => IsRangeIter h s.heap.objs.size (0 + (i : Nat) * 1) ((n : Int) - (i : Nat)) 1) := (Walks.range hh _ 0 1 n).bound
  refine ⟨_, _, _, n, _, _, m₀, news, J, rfl, W, ?_, ?_, ?_, (by show IsRangeIter _ _ _ _ _; rw [hn]; simpa using Heap.get?_push_size _ rfl), F.push _, (fun p hp => ⟨Heap.get?_push_of_some _ (N p hp).1, (N p hp).2⟩), hj, ?_, ?_⟩
  · intro hm
    exact absurd F.ns.lt ((List.mem_singleton.mp hm) ▸ Nat.lt_irrefl _)
  · intro b hb
    rw [List.mem_singleton.mp hb]
    exact next_is_new F
  · intro p hp hI
    exact absurd (Heap.lt_size (N p hp).1) ((List.mem_singleton.mp hI) ▸ Nat.lt_irrefl _)
  · rintro i v m₁ nw s₁ own ⟨hh', tk', rfl⟩ hin ⟨_, t, rfl⟩ hJ hoff hown hownh hall hst F₁ N₁
    have hI0 : h₀.get? s.heap.objs.size = none := next_is_new F
    obtain ⟨oI, hoI⟩ : ∃ oI, hh'.get? s.heap.objs.size = some oI := ⟨_, hst⟩
    have hIo : (s.heap.objs.size, oI) ∈ own := hall _ (List.mem_singleton.mpr rfl) hI0 _ hoI
    have hne : ∀ p ∈ nw, p.1 ≠ s.heap.objs.size := fun p hp e => hoff p hp (List.mem_singleton.mpr e)
    have N₂ : News h₀ env.locals hh' ((s.heap.objs.size, oI) :: nw) := fun p hp => (List.mem_cons.mp hp).elim (fun e => by rw [e]; exact N₁ _ (List.mem_append_left _ hIo)) fun hp => N₁ _ (List.mem_append_right _ hp)
    have ez : (0 : Int) + (i : Int) * 1 = (i : Int) := by omega
    rw [ez] at F₁
    refine wpAny_mono (turn i t m₁ nw hh' tk' _ oI hin hJ hne F₁ N₂) (fun f s₂ p => ?_) fun _ _ e => e
    have fin : TEnd h₀ env.locals (J (i + 1)) s.heap.objs.size oI { s with heap := hh', toks := tk' } s₂ → LoopStepU h₀ env.locals [s.heap.objs.size] own (J (i + 1)) { s with heap := hh', toks := tk' } .next s₂ := by
      rintro ⟨h', tk, m', nw', e, F', N', off', hJ'⟩
      refine ⟨rfl, h', tk, m', nw', e, F', fun p hp => ?_, fun p hp hq => off' p hp (List.mem_singleton.mp hq), hJ'⟩
      rcases List.mem_append.mp hp with hp | hp
      · have n1 := N₁ p (List.mem_append_left _ hp)
        have e := List.mem_singleton.mp (hown p hp)
        have : p = (s.heap.objs.size, oI) := by
          have h4 := n1.1
          rw [e, hoI] at h4
          exact Prod.ext e (Option.some.inj h4).symm
        rw [this]; exact N' _ (.head _)
      · exact N' p (.tail _ hp)
    cases f with
    | ret v => exact .ret p
    | brk => exact .brk p
    | next => exact .next (fin p)
    | cont => exact .cont (fin p)
  · rintro h' tk m' nw' F' N' _ hJ
    exact done m' nw' h' tk hJ F' N'
end

section
open LCg LCt
variable {prog : Program} {w : World} {A : Around} {s : Shared} {h₀ : Heap} {L : Addr} {m : Str → Option Value} {env : Env}
/-- the turns of a comprehension by what holds between them -/
theorem comp_inv {elt : Expr} {x : Str} {scope : Scope} {cl : List (Str × Addr)} {S : List (Addr × Obj) → Prop} {P : Nat → Value → Prop} {Fin : List Value → List (Addr × Obj) → Prop} {n : Nat} {news : List (Addr × Obj)}
    (J : Nat → List Value → List (Addr × Obj) → Prop) (h0 : J 0 [] news)
    (turn : ∀ i ys nw, i < n → J i ys nw → ∀ v I oI C oC D m₂ h tk (E' : Value → Shared → Prop), P i v → NsObj oC m₂ → m₂ x = some v → Fr h₀ L h m → News h₀ L h ((I, oI) :: (C, oC) :: (D, lst ys) :: nw) → Off3 I C D nw → ((@Ne Nat I C) ∧ (@Ne Nat I D) ∧ (@Ne Nat C D)) →
      wpAny (model prog w) A (eval elt (compEnvC scope cl C env)) (CompEnd h₀ L m { s with heap := h, toks := tk } I oI C oC D (lst ys) S (fun y nw' => J (i + 1) (ys ++ [y]) nw')) E' { s with heap := h, toks := tk })
    (done : ∀ ys nw, J n ys nw → Fin ys nw) : CompRest prog w A h₀ L m env elt x scope cl s S P Fin n 0 [] news := by
  have all : ∀ k i ys nw, i + k = n → J i ys nw → CompRest prog w A h₀ L m env elt x scope cl s S P Fin k i ys nw := by
    intro k
    induction k with
    | zero =>
      intro i ys nw e j
      obtain rfl : i = n := by omega
      exact CompRest.zero (done ys nw j)
    | succ k ih =>
      intro i ys nw e j
      refine CompRest.succ fun v I oI C oC D m₂ h tk E' hP hN hx F N off ne => ?_
      refine wpAny_mono (turn i ys nw (by omega) j v I oI C oC D m₂ h tk E' hP hN hx F N off ne) (fun y s₂ q => ?_) fun _ _ e => e
      obtain ⟨h', tk', nw', e', F', N', off', hS, j'⟩ := q
      exact ⟨h', tk', nw', e', F', N', off', hS, ih _ _ _ (by omega) j'⟩
  exact all n 0 [] news (by omega) h0
theorem compT_inv {ct elt : Expr} {x : Str} {scope : Scope} {cl : List (Str × Addr)} {S : List (Addr × Obj) → Prop} {P : Nat → Value → Prop} {Fin : List Value → List (Addr × Obj) → Prop} {n : Nat} {news : List (Addr × Obj)}
    (J : Nat → List Value → List (Addr × Obj) → Prop) (h0 : J 0 [] news)
    (turn : ∀ i ys nw, i < n → J i ys nw → ∀ v I oI C oC D m₂ h tk (E' : Value → Shared → Prop), P i v → NsObj oC m₂ → m₂ x = some v → Fr h₀ L h m → News h₀ L h ((I, oI) :: (C, oC) :: (D, lst ys) :: nw) → Off3 I C D nw → ((@Ne Nat I C) ∧ (@Ne Nat I D) ∧ (@Ne Nat C D)) →
      wpAny (model prog w) A (isTrue ct (compEnvC scope cl C env) (eval ct (compEnvC scope cl C env))) (fun ok s' => if ok = true then
        wpAny (model prog w) A (eval elt (compEnvC scope cl C env)) (CompEnd h₀ L m { s with heap := h, toks := tk } I oI C oC D (lst ys) S (fun y nw' => J (i + 1) (ys ++ [y]) nw')) E' s'
        else CompEnd h₀ L m { s with heap := h, toks := tk } I oI C oC D (lst ys) S (fun _ nw' => J (i + 1) ys nw') Value.none s') E' { s with heap := h, toks := tk })
    (done : ∀ ys nw, J n ys nw → Fin ys nw) : CompRestT prog w A h₀ L m env ct elt x scope cl s S P Fin n 0 [] news := by
  have all : ∀ k i ys nw, i + k = n → J i ys nw → CompRestT prog w A h₀ L m env ct elt x scope cl s S P Fin k i ys nw := by
    intro k
    induction k with
    | zero =>
      intro i ys nw e j
      obtain rfl : i = n := by omega
      exact CompRestT.zero (done ys nw j)
    | succ k ih =>
      intro i ys nw e j
      refine CompRestT.succ fun v I oI C oC D m₂ h tk E' hP hN hx F N off ne => ?_
      refine wpAny_mono (turn i ys nw (by omega) j v I oI C oC D m₂ h tk E' hP hN hx F N off ne) (fun ok s₂ q => ?_) fun _ _ e => e
      cases ok with
      | true =>
        simp only [if_true] at q ⊢
        refine wpAny_mono q (fun y s₃ q => ?_) fun _ _ e => e
        obtain ⟨h', tk', nw', e', F', N', off', hS, j'⟩ := q
        exact ⟨h', tk', nw', e', F', N', off', hS, ih _ _ _ (by omega) j'⟩
      | false =>
        simp only [Bool.false_eq_true, if_false] at q ⊢
        obtain ⟨h', tk', nw', e', F', N', off', hS, j'⟩ := q
        exact ⟨h', tk', nw', e', F', N', off', hS, ih _ _ _ (by omega) j'⟩
  exact all n 0 [] news (by omega) h0
theorem CompEnd.sub {I C D : Addr} {s₁ : Shared} {oI oC oD : Obj} {S : List (Addr × Obj) → Prop} {rest : Value → List (Addr × Obj) → Prop} {y : Value} {h' : Heap} {tk : Nat} {all nw : List (Addr × Obj)}
    (F : Fr h₀ L h' m) (N : News h₀ L h' all) (hs : ∀ p ∈ (I, oI) :: (C, oC) :: (D, oD) :: nw, p ∈ all) (off : Off3 I C D nw) (hS : S nw) (r : rest y nw) :
    CompEnd h₀ L m s₁ I oI C oC D oD S rest y { s₁ with heap := h', toks := tk } := CompEnd.intro F N nw hs off hS r
end

section
variable {prog : Program} {w : World} {A : Around} {E : Value → Shared → Prop} {s : Shared} {env : Env} {h₀ : Heap} {x : Str} {body : List Stmt} {Q : Flow → Shared → Prop}
/-- the loop's start at the iterable -/
def IterGoal (prog : Program) (w : World) (A : Around) (h₀ : Heap) (env : Env) (x : Str) (body : List Stmt) (Q : Flow → Shared → Prop) (E : Value → Shared → Prop) (xv : Value) (s₁ : Shared) : Prop :=
  wpAny (model prog w) A (pyIter xv) (fun it s₂ => LoopAtV prog w A h₀ env x body Q E it s₂) E s₁
theorem For_mine {m : Str → Option Value} {px pos : Pos} {iter : PySem.Expr} (_F : Fr h₀ env.locals s.heap m) (hx : env.kindOf x = some .local)
    (hp : (env.scope.kind == .class || (env.scope.kind == .module && env.locals != env.globals)) = false)
    (h : wpAny (model prog w) A (eval iter env) (IterGoal prog w A h₀ env x body Q E) E s)
    (hs : ∀ x, foldedSetIterable iter env x = pure x := by intro _; rfl)
    (hE : PassesOwn (model prog w) A env E := by passes_own) :
    wpAny (model prog w) A (exec (.For (.Name x px) iter body [] pos) env) Q E s := For_invV h₀ hx hp h hs hE

/-- the state between two turns: tracked names ps c, forgotten names stored, all else as before -/
def MapIs {σ : Type} (x : Str) (ps : σ → List (Str × Value)) (stored : List Str) (m₀ : Str → Option Value) (P : σ → List (Addr × Obj) → Prop) (m : Str → Option Value) (nw : List (Addr × Obj)) : Prop :=
  ∃ c, P c nw ∧ (∀ q ∈ ps c, m q.1 = some q.2) ∧ ∀ z, z ≠ x → (∀ q ∈ ps c, z ≠ q.1) → stored.contains z = false → m z = m₀ z
theorem MapIs.intro {σ : Type} {x : Str} {ps : σ → List (Str × Value)} {stored : List Str} {m₀ : Str → Option Value} {P : σ → List (Addr × Obj) → Prop} {m : Str → Option Value} {nw : List (Addr × Obj)} (c : σ)
    (h : P c nw) (k : ∀ q ∈ ps c, m q.1 = some q.2) (l : ∀ z, z ≠ x → (∀ q ∈ ps c, z ≠ q.1) → stored.contains z = false → m z = m₀ z) : MapIs x ps stored m₀ P m nw := ⟨c, h, k, l⟩

theorem loop_list {σ : Type} {l : Addr} {vs : List Value} {lo : Obj} {m₀ : Str → Option Value} {news : List (Addr × Obj)} (ps : σ → List (Str × Value)) (stored : List Str) (P : Nat → σ → List (Addr × Obj) → Prop) (c₀ : σ)
    (hh : A.handled = none) (F : Fr h₀ env.locals s.heap m₀) (N : News h₀ env.locals s.heap news) (hlc : lo.cls = .type "list") (hld : ∃ n, lo.data = .seq vs.toArray n)
    (hp : P 0 c₀ news) (hm : ∀ q ∈ ps c₀, m₀ q.1 = some q.2) (hS : ∀ i c nw, P i c nw → Src h₀ l lo nw)
    (turn : ∀ i v c nw h tk I oI (u : Str → Option Value), vs[i]? = some v → P i c nw → (∀ p ∈ nw, p.1 ≠ I) → Fr h₀ env.locals h (fun y => if y = x then some v else kstB (fun z => if stored.contains z then u z else m₀ z) (ps c) y) → News h₀ env.locals h ((I, oI) :: nw) →
      wpAny (model prog w) A (execs body env) (TPost h₀ env.locals (MapIs x ps stored m₀ (P (i + 1))) I oI { s with heap := h, toks := tk } Q) E { s with heap := h, toks := tk })
    (done : ∀ c nw h tk (u : Str → Option Value), P vs.length c nw → Fr h₀ env.locals h (fun y => if y = x then u y else kstB (fun z => if stored.contains z then u z else m₀ z) (ps c) y) → News h₀ env.locals h nw → Q .next { s with heap := h, toks := tk }) :
    IterGoal prog w A h₀ env x body Q E (.ref l) s := by
  refine for_list (fun i m nw => MapIs x ps stored m₀ (P i) m nw) hh F N hlc hld ⟨c₀, hp, hm, fun _ _ _ _ => rfl⟩ (fun i m nw ⟨c, h, _⟩ => hS i c nw h) ?_ ?_
  · rintro i v m₁ nw h tk I oI hv ⟨c, h1, h2, h3⟩ hne F₁ N₁
    exact turn i v c nw h tk I oI m₁ hv h1 hne (kst_fr h2 h3 F₁) N₁
  · rintro m₁ nw h tk ⟨c, h1, h2, h3⟩ F₁ N₁
    exact done c nw h tk m₁ h1 (kst_frOut h2 h3 F₁) N₁

theorem loop_range {σ : Type} {r : Addr} {b₀ : Int} {t₀ u₀ v₀ : Tok} {n : Nat} {m₀ : Str → Option Value} {news : List (Addr × Obj)} (ps : σ → List (Str × Value)) (stored : List Str) (P : Nat → σ → List (Addr × Obj) → Prop) (c₀ : σ)
    (hh : A.handled = none) (hr : IsRange s.heap r 0 b₀ 1 t₀ u₀ v₀) (hb : b₀ = (n : Int)) (hn : n ≤ 100000) (F : Fr h₀ env.locals s.heap m₀) (N : News h₀ env.locals s.heap news)
    (hp : P 0 c₀ news) (hm : ∀ q ∈ ps c₀, m₀ q.1 = some q.2)
    (turn : ∀ (i : Nat) t c nw h tk I oI (u : Str → Option Value), i < n → P i c nw → (∀ p ∈ nw, p.1 ≠ I) → Fr h₀ env.locals h (fun y => if y = x then some (.int (i : Int) t) else kstB (fun z => if stored.contains z then u z else m₀ z) (ps c) y) → News h₀ env.locals h ((I, oI) :: nw) →
      wpAny (model prog w) A (execs body env) (TPost h₀ env.locals (MapIs x ps stored m₀ (P (i + 1))) I oI { s with heap := h, toks := tk } Q) E { s with heap := h, toks := tk })
    (done : ∀ c nw h tk (u : Str → Option Value), P n c nw → Fr h₀ env.locals h (fun y => if y = x then u y else kstB (fun z => if stored.contains z then u z else m₀ z) (ps c) y) → News h₀ env.locals h nw → Q .next { s with heap := h, toks := tk }) :
    IterGoal prog w A h₀ env x body Q E (.ref r) s := by
  subst hb
  have hsm : Builtin.Range.small 0 (n : Int) 1 = true := small_one (by decide) (by decide) (by omega) (by omega)
  have hsz : Builtin.Range.rangeSize 0 (n : Int) 1 = (n : Int) := by rw [rangeSize_one]; split <;> omega
  refine for_range (fun i m nw => MapIs x ps stored m₀ (P i) m nw) hh hr hsm hsz F N ⟨c₀, hp, hm, fun _ _ _ _ => rfl⟩ ?_ ?_
  · rintro i t m₁ nw h tk I oI hi ⟨c, h1, h2, h3⟩ hne F₁ N₁
    exact turn i t c nw h tk I oI m₁ hi h1 hne (kst_fr h2 h3 F₁) N₁
  · rintro m₁ nw h tk ⟨c, h1, h2, h3⟩ F₁ N₁
    exact done c nw h tk m₁ h1 (kst_frOut h2 h3 F₁) N₁
end
section
variable {prog : Program} {w : World} {A : Around} {E : Value → Shared → Prop} {s : Shared} {env : Env} {h₀ : Heap} {x : Str} {body : List Stmt} {Q : Flow → Shared → Prop}
/-- the ledger of a loop: a part that turns, a part that stays -/
def LedIs {σ : Type} (Led : σ → List (Addr × Obj)) (cst : List (Addr × Obj)) (P : σ → Prop) (c : σ) (nw : List (Addr × Obj)) : Prop := nw = Led c ++ cst ∧ P c
abbrev LPost {σ : Type} (h₀ : Heap) (L : Addr) (x : Str) (Led : σ → List (Addr × Obj)) (cst : List (Addr × Obj)) (ps : σ → List (Str × Value)) (stored : List Str) (m₀ : Str → Option Value) (P : σ → Prop) (I : Addr) (oI : Obj) (s₁ : Shared) (Q : Flow → Shared → Prop) (f : Flow) (s₂ : Shared) : Prop :=
  TPost h₀ L (MapIs x ps stored m₀ (LedIs Led cst P)) I oI s₁ Q f s₂
theorem LEnd.next {σ : Type} {L : Addr} {Led : σ → List (Addr × Obj)} {cst : List (Addr × Obj)} {ps : σ → List (Str × Value)} {stored : List Str} {m₀ : Str → Option Value} {P : σ → Prop} {I : Addr} {oI : Obj} {s₁ : Shared} {Q : Flow → Shared → Prop}
    {h' : Heap} {tk : Nat} {m' : Str → Option Value} {all : List (Addr × Obj)} (c : σ) (F : Fr h₀ L h' m') (N : News h₀ L h' all) (hs : ∀ p ∈ (I, oI) :: (Led c ++ cst), p ∈ all) (off : ∀ p ∈ Led c ++ cst, p.1 ≠ I) (hp : P c)
    (hk : ∀ q ∈ ps c, m' q.1 = some q.2) (hr : ∀ z, z ≠ x → (∀ q ∈ ps c, z ≠ q.1) → stored.contains z = false → m' z = m₀ z) :
    LPost h₀ L x Led cst ps stored m₀ P I oI s₁ Q .next { s₁ with heap := h', toks := tk } := TEnd.intro (Led c ++ cst) F N hs off ⟨c, ⟨rfl, hp⟩, hk, hr⟩
theorem LEnd.ret {σ : Type} {L : Addr} {Led : σ → List (Addr × Obj)} {cst : List (Addr × Obj)} {ps : σ → List (Str × Value)} {stored : List Str} {m₀ : Str → Option Value} {P : σ → Prop} {I : Addr} {oI : Obj} {s₁ s₂ : Shared} {Q : Flow → Shared → Prop}
    {v : Value} (h : Q (.ret v) s₂) : LPost h₀ L x Led cst ps stored m₀ P I oI s₁ Q (.ret v) s₂ := h

theorem loop_listL {σ : Type} {l : Addr} {vs : List Value} {k : Nat} {m₀ : Str → Option Value} {news cst : List (Addr × Obj)} (Led : σ → List (Addr × Obj)) (ps : σ → List (Str × Value)) (stored : List Str) (P : Nat → σ → Prop) (c₀ : σ)
    (hh : A.handled = none) (F : Fr h₀ env.locals s.heap m₀) (N : News h₀ env.locals s.heap news) (hn : ∀ p ∈ Led c₀ ++ cst, p ∈ news) (hS : (l, listOf vs.toArray k) ∈ cst)
    (hp : P 0 c₀) (hm : ∀ q ∈ ps c₀, m₀ q.1 = some q.2)
    (turn : ∀ i v c h tk I oI (u : Str → Option Value), vs[i]? = some v → P i c → (∀ p ∈ Led c ++ cst, p.1 ≠ I) → Fr h₀ env.locals h (fun y => if y = x then some v else kstB (fun z => if stored.contains z then u z else m₀ z) (ps c) y) → News h₀ env.locals h ((I, oI) :: (Led c ++ cst)) →
      wpAny (model prog w) A (execs body env) (LPost h₀ env.locals x Led cst ps stored m₀ (P (i + 1)) I oI { s with heap := h, toks := tk } Q) E { s with heap := h, toks := tk })
    (done : ∀ c h tk (u : Str → Option Value), P vs.length c → Fr h₀ env.locals h (fun y => if y = x then u y else kstB (fun z => if stored.contains z then u z else m₀ z) (ps c) y) → News h₀ env.locals h (Led c ++ cst) → Q .next { s with heap := h, toks := tk }) :
    IterGoal prog w A h₀ env x body Q E (.ref l) s := by
  refine loop_list ps stored (fun i => LedIs Led cst (P i)) c₀ hh F (news_sub N hn) rfl ⟨_, rfl⟩ ⟨rfl, hp⟩ hm (fun i c nw h => by obtain ⟨rfl, _⟩ := h; exact .inr (List.mem_append_right _ hS)) ?_ ?_
  · rintro i v c nw h tk I oI u hv ⟨rfl, h1⟩ hne F₁ N₁
    exact turn i v c h tk I oI u hv h1 hne F₁ N₁
  · rintro c nw h tk u ⟨rfl, h1⟩ F₁ N₁
    exact done c h tk u h1 F₁ N₁
theorem loop_rangeL {σ : Type} {r : Addr} {b₀ : Int} {t₀ u₀ v₀ : Tok} (n : Nat) {m₀ : Str → Option Value} {news cst : List (Addr × Obj)} (Led : σ → List (Addr × Obj)) (ps : σ → List (Str × Value)) (stored : List Str) (P : Nat → σ → Prop) (c₀ : σ)
    (hh : A.handled = none) (hr : IsRange s.heap r 0 b₀ 1 t₀ u₀ v₀) (hb : b₀ = (n : Int)) (hnn : n ≤ 100000) (F : Fr h₀ env.locals s.heap m₀) (N : News h₀ env.locals s.heap news) (hn : ∀ p ∈ Led c₀ ++ cst, p ∈ news)
    (hp : P 0 c₀) (hm : ∀ q ∈ ps c₀, m₀ q.1 = some q.2)
    (turn : ∀ (i : Nat) t c h tk I oI (u : Str → Option Value), i < n → P i c → (∀ p ∈ Led c ++ cst, p.1 ≠ I) → Fr h₀ env.locals h (fun y => if y = x then some (.int (i : Int) t) else kstB (fun z => if stored.contains z then u z else m₀ z) (ps c) y) → News h₀ env.locals h ((I, oI) :: (Led c ++ cst)) →
      wpAny (model prog w) A (execs body env) (LPost h₀ env.locals x Led cst ps stored m₀ (P (i + 1)) I oI { s with heap := h, toks := tk } Q) E { s with heap := h, toks := tk })
    (done : ∀ c h tk (u : Str → Option Value), P n c → Fr h₀ env.locals h (fun y => if y = x then u y else kstB (fun z => if stored.contains z then u z else m₀ z) (ps c) y) → News h₀ env.locals h (Led c ++ cst) → Q .next { s with heap := h, toks := tk }) :
    IterGoal prog w A h₀ env x body Q E (.ref r) s := by
  refine loop_range ps stored (fun i => LedIs Led cst (P i)) c₀ hh hr hb hnn F (news_sub N hn) ⟨rfl, hp⟩ hm ?_ ?_
  · rintro i t c nw h tk I oI u hi ⟨rfl, h1⟩ hne F₁ N₁
    exact turn i t c h tk I oI u hi h1 hne F₁ N₁
  · rintro c nw h tk u ⟨rfl, h1⟩ F₁ N₁
    exact done c h tk u h1 F₁ N₁
end
--M{
local macro_rules | `(tactic| walk_at "exec For Name Name cons nil") => `(tactic| (k_here; (rename Fr _ _ _ _ => lF'); (with_unfolding_all refine' For_mine lF' ?k1 ?k2 ?_; (case k1 => exact rfl); (case k2 => exact rfl); k_whole)))
local macro_rules | `(tactic| walk_at "exec For Name Call cons nil") => `(tactic| (k_here; (rename Fr _ _ _ _ => lF'); (with_unfolding_all refine' For_mine lF' ?k1 ?k2 ?_; (case k1 => exact rfl); (case k2 => exact rfl); k_whole)))
local macro_rules | `(tactic| walk_at "exec For Name List cons nil") => `(tactic| (k_here; (rename Fr _ _ _ _ => lF'); (with_unfolding_all refine' For_mine lF' ?k1 ?k2 ?_; (case k1 => exact rfl); (case k2 => exact rfl); k_whole)))
--M}

section
variable {w : World} {p : Program} {loose : List Str} {mean : ExcName → Option Value} {mg mb : Str → Option Value} {news : List (Addr × Obj)}

theorem get_attr_spec {x l : Addr} {K : Str} (hv : VecAt news x K l) (nm : Str) (t : Tok) : Ctr w p loose mean mg mb 283 2 news [.ref x, .str nm t]
    (fun tl r => tl = [] ∧ r = .none) := by
  unfold Ctr
  (w_top off; k_fill)
  intro dp un gd cn cs a ccd cl outer A₀ base h₀ L m s Q E B F X N T hk hd hu hret
  obtain ⟨dx, od, hx, hdx, hod⟩ := hv
  cases hod
  refine wpAny_call ?_
  k_dflt k_enter
  k_steps
  exact hret _ [] _ _ (by k_asm) (by k_asm) ⟨rfl, rfl⟩

end
--M{
local macro_rules | `(tactic| walk_at "call ref") => `(tactic| (row_wit2 283 get_attr_spec; k_caughtN0))
--M}
section
variable {w : World} {p : Program} {loose : List Str} {mean : ExcName → Option Value} {mg mb : Str → Option Value} {news : List (Addr × Obj)}
theorem is_factor_spec {x l : Addr} {kd : Kd} (hv : VecAt news x kd.str l) : Ctr w p loose mean mg mb 529 4 news [.ref x] (fun tl r => tl = [] ∧ r = .bool false) := by
  unfold Ctr
  (w_top off; k_fill)
  intro dp un gd cn cs a ccd cl outer A₀ base h₀ L m s Q E B F X N T hk hd hu hret
  obtain ⟨dx, od, hx, hdx, hod⟩ := hv
  cases hod
  cases kd
  all_goals (
    dsimp only [Kd.str] at hdx
    refine wpAny_call ?_
    k_dflt k_enter
    k_steps
    exact hret _ [] _ _ (by k_asm) (by first | k_asm | exact news_sub (by k_asm) (by kqd_sub)) ⟨rfl, rfl⟩)
end
--M{
local macro_rules | `(tactic| walk_at "call ref") => `(tactic| (row_wit2 529 is_factor_spec; k_caughtN0))
--M}

noncomputable def kds : List Kd := [.int, .dbl, .chr, .lst]
theorem mem_kds (kd : Kd) : kd ∈ kds := by cases kd <;> decide
section
variable {prog : Program} {w : World} {A : Around} {E : Value → Shared → Prop} {s : Shared} {kd : Kd} {x y : Str} {t u : Tok} {Q : Value → Shared → Prop}
theorem kd_eq_lit (h : (kds.all fun k => !(k.str == x)) = true) (hQ : Q (.bool false) s) : wpAny (model prog w) A (compareOp .Eq (.str kd.str t) (.str x u)) Q E s := by
  have e : (kd.str == x) = false := by simpa using List.all_eq_true.mp h kd (mem_kds kd)
  exact eq_str (by rw [e]; exact hQ)
theorem kd_ne_self (hQ : Q (.bool false) s) : wpAny (model prog w) A (compareOp .NotEq (.str x t) (.str x u)) Q E s := by
  have e : (x != x) = false := by simp
  exact ne_str (by rw [e]; exact hQ)
theorem kd_eq_self (hQ : Q (.bool true) s) : wpAny (model prog w) A (compareOp .Eq (.str x t) (.str x u)) Q E s := by
  have e : (x == x) = true := by simp
  exact eq_str (by rw [e]; exact hQ)
end
--M{
local macro_rules | `(tactic| walk_at "compareOp Eq str str") => `(tactic| (k_here; (with_reducible show wpAny _ _ (compareOp CmpOp.Eq (Value.str (Kd.str _) _) (Value.str _ _)) _ _ _); first | (with_reducible refine kd_eq_self ?_) | (refine kd_eq_lit (by decide) ?_)))
local macro_rules | `(tactic| walk_at "compareOp NotEq str str") => `(tactic| (k_here; (with_reducible show wpAny _ _ (compareOp CmpOp.NotEq (Value.str (Kd.str _) _) (Value.str _ _)) _ _ _); (with_reducible refine kd_ne_self ?_)))
--M}
def VecOut (news : List (Addr × Obj)) (K : Str) (l : Addr) (tl : List (Addr × Obj)) (r : Value) : Prop :=
  ∃ x dx od, tl = [(x, instObj 237 dx), (dx, od)] ∧ @LT.lt Nat _ dx x ∧ (∀ q ∈ news, q.1 < dx) ∧ IsVD K l od ∧ r = .ref x
section
variable {w : World} {p : Program} {loose : List Str} {mean : ExcName → Option Value} {mg mb : Str → Option Value} {news : List (Addr × Obj)}
theorem plain_spec {x l : Addr} {kd : Kd} (hv : VecAt news x kd.str l) : Ctr w p loose mean mg mb 582 6 news [.ref x] (VecOut news kd.str l) := by
  unfold Ctr
  (w_top off; k_fill)
  intro dp un gd cn cs a ccd cl outer A₀ base h₀ L m s Q E B F X N T hk hd hu hret
  obtain ⟨dx, od, hx, hdx, hod⟩ := hv
  cases hod
  refine wpAny_call ?_
  k_dflt k_enter
  k_steps
  rename _ < _ => lt1
  rename ∀ q ∈ news, _ => lt2
  exact hret _ [_, _] _ _ (by k_asm) (by k_asm) ⟨_, _, _, rfl, lt1, lt2, IsVD.mk .., rfl⟩
end
--M{
local macro_rules | `(tactic| walk_at "call ref") => `(tactic| (row_wit2 582 plain_spec; (rename _ => q9); k_dflt (obtain ⟨x9, dx9, od9, e9, l9, m9, v9, e9'⟩ := q9; subst e9; subst e9'; cases v9); k_caughtNB))
--M}

noncomputable def Kd.ord : Kd → Nat
  | .int => 2 | .dbl => 3 | .chr => 4 | .lst => 5
noncomputable def Kd.listed : Kd → Bool
  | .lst => true | _ => false
theorem Kd.ord_pos (kd : Kd) : 2 ≤ kd.ord ∧ kd.ord ≤ 5 := by cases kd <;> decide
theorem wpAny_forIn_rng {M : Model} {A : Around} {E : Value → Shared → Prop} {s : Shared} {β : Type} (f : Nat → β → Sem (ForInStep β)) (I : List Nat → β → Shared → Prop) (Q : β → Shared → Prop)
    (turn : ∀ x rest b s, I (x :: rest) b s → wpAny M A (f x b) (fun r s' => match r with | .yield b' => I rest b' s' | .done b' => Q b' s') E s)
    (fin : ∀ b s, I [] b s → Q b s) (r : Std.Legacy.Range) (b : β) (h : I (List.range' r.start r.size r.step) b s) : wpAny M A (forIn r b f) Q E s := by
  rw [Std.Legacy.Range.forIn_eq_forIn_range']
  exact wpAny_forIn_list f I Q turn fin _ b h

open PySem.MeetsSeq PySem.MeetsSeq2 AutoSeq1 in
theorem tuple_index (l : Addr) (items : Array Value) (n : Nat) (x : Value) (e : Value → Bool) (he : ∀ y, y ∈ items → EqGives y x (e y)) (j : Nat) (hj : j < items.size) (hit : e items[j] = true) (hno : ∀ m (hm : m < items.size), m < j → e items[m] = false) :
    Meets (Builtin.«tuple.index» ⟨[.ref l, x], []⟩)
      (fun _ R s => s.heap.get? l = some { cls := .type "tuple", dict := none, data := .seq items n, slots := #[] } ∧ R (.ok (.ret (.int (j : Int) s.toks))) { s with toks := s.toks + 1 }) :=
  .of_wp fun prog w A R s h => by
    obtain ⟨hp, g, d, tk, os⟩ := s; obtain ⟨hl, h⟩ := h
    wp_walk using wpAny_loadPart' hl, wpAny_forIn_rng _ (fun rest b s' => b.1 = none ∧ s' = ⟨hp, g, d, tk, os⟩ ∧ ∃ i, rest = List.range' i (items.size - i) ∧ i ≤ j) _
    case turn =>
      rintro y rest b s' ⟨hb, rfl, i, hr, hi⟩
      have hi' : i < items.size := Nat.lt_of_le_of_lt hi hj
      rw [show items.size - i = (items.size - (i + 1)) + 1 by omega, List.range'_succ] at hr
      obtain ⟨rfl, rfl⟩ := List.cons.inj hr
      have hx : items[y]? = some items[y] := by simp [hi']
      rw [hx]
      refine wpAny_bind (he items[y] (by simp) prog w _ _ _ _ ?_)
      by_cases hij : y = j
      · subst hij
        rw [hit]
        wp_walk
        exact ⟨_, rfl, h⟩
      · rw [hno y hi' (by omega)]
        wp_walk
        exact ⟨rfl, rfl, y + 1, rfl, by omega⟩
    case fin =>
      rintro ⟨b1, b2⟩ s' ⟨hb, rfl, i, hr, hi⟩
      rw [show items.size - i = (items.size - (i + 1)) + 1 by omega, List.range'_succ] at hr
      cases hr
    case h =>
      refine ⟨rfl, rfl, 0, ?_, Nat.zero_le _⟩
      simp [Std.Legacy.Range.size]

section
variable {prog : Program} {w : World} {A : Around} {E : Value → Shared → Prop} {s : Shared} {h₀ : Heap} {L D : Addr} {news : List (Addr × Obj)} {its : Array Value} {n : Nat}
noncomputable abbrev tupOf (its : Array Value) (n : Nat) : Obj := { cls := .type "tuple", data := .seq its n }
theorem tup_method {name : Str} {id : String} {pl : Sem Bool} {Q : Value × List Value → Shared → Prop} (N : News h₀ L s.heap news) (hm : (D, tupOf its n) ∈ news) (slot : Slot "tuple" name id) (hty : typeOf (.builtin id) = pure (.type "method_descriptor"))
    (h : Q (.builtin id, [.ref D]) s) : wpAny (model prog w) A (getMethod (.ref D) name pl) Q E s :=
  getMethod_builtin ⟨_, (N _ hm).1, rfl⟩ PySem.F.plainAttrs_tuple slot hty (fun a e => by cases e; exact ⟨_, (N _ hm).1, rfl⟩) h
noncomputable abbrev kindsOf (a0 a1 a2 a3 a4 a5 a6 : Tok) : Array Value := #[.str (Str.ofString "NULL") a0, .str (Str.ofString "logical") a1, .str (Str.ofString "integer") a2, .str (Str.ofString "double") a3, .str (Str.ofString "character") a4, .str (Str.ofString "list") a5, .str (Str.ofString "expression") a6]
noncomputable def isStrV (x : Str) : Value → Bool
  | .str z _ => z == x
  | _ => false
theorem kinds_index {kd : Kd} {t a0 a1 a2 a3 a4 a5 a6 : Tok} {Q : Value → Shared → Prop} (N : News h₀ L s.heap news) (hm : (D, tupOf (kindsOf a0 a1 a2 a3 a4 a5 a6) n) ∈ news) (h : Q (.int (kd.ord : Int) s.toks) { s with toks := s.toks + 1 }) :
    wpAny (model prog w) A (call (.builtin "tuple.index") [.ref D, .str kd.str t]) Q E s := by
  refine call_meets PySem.F.slot_tuple_index ⟨_, (N _ hm).1, rfl⟩ PySem.F.entry_tuple_index (PySem.F.args_tuple_index_2 _ _)
    (tuple_index D _ n _ (isStrV kd.str) ?_ kd.ord ?_ ?_ ?_) ⟨(N _ hm).1, h⟩
  · intro y hy
    have : ∃ z u, y = .str z u := by
      simp only [kindsOf, List.mem_toArray, List.mem_cons, List.not_mem_nil, or_false] at hy
      rcases hy with rfl | rfl | rfl | rfl | rfl | rfl | rfl <;> exact ⟨_, _, rfl⟩
    obtain ⟨z, u, rfl⟩ := this
    exact eqGives_str z kd.str u t
  · cases kd <;> (show _ < 7; decide)
  · cases kd <;> rfl
  · intro m hm hlt
    cases kd <;> (simp only [Kd.ord] at hlt; (repeat (first | omega | (cases m with | zero => rfl | succ m => ?_)))) <;> first | omega | skip
end
section
variable {prog : Program} {w : World} {A : Around} {E : Value → Shared → Prop} {s : Shared} {h₀ : Heap} {L D : Addr} {news : List (Addr × Obj)} {its : Array Value} {n : Nat}
theorem kd_in {kd : Kd} {ys : List Str} {b : Bool} {t : Tok} {Q : Value → Shared → Prop} (N : News h₀ L s.heap news) (hm : (D, tupOf its n) ∈ news) (hi : StrsAre its.toList ys) (e : (kds.all fun k => ys.any (· == k.str) == b) = true) (h : Q (.bool b) s) :
    wpAny (model prog w) A (compareOp .In (.str kd.str t) (.ref D)) Q E s := by
  refine in_tuple_strs (News.isTup N hm) hi ?_
  have := List.all_eq_true.mp e kd (mem_kds kd)
  rw [beq_iff_eq.mp this]; exact h
theorem kd_inL {kd : Kd} {ys : List Str} {t : Tok} {Q : Value → Shared → Prop} (N : News h₀ L s.heap news) (hm : (D, tupOf its n) ∈ news) (hi : StrsAre its.toList ys) (e : (kds.all fun k => ys.any (· == k.str) == k.listed) = true) (h : Q (.bool kd.listed) s) :
    wpAny (model prog w) A (compareOp .In (.str kd.str t) (.ref D)) Q E s := by
  refine in_tuple_strs (News.isTup N hm) hi ?_
  have := List.all_eq_true.mp e kd (mem_kds kd)
  rw [beq_iff_eq.mp this]; exact h
theorem kinds_item {kd : Kd} {value slice : PySem.Expr} {k : Int} {t a0 a1 a2 a3 a4 a5 a6 : Tok} {Q : Value → Shared → Prop} (N : News h₀ L s.heap news) (hm : (D, tupOf (kindsOf a0 a1 a2 a3 a4 a5 a6) n) ∈ news) (e : k = (kd.ord : Int)) (h : ∀ u, Q (.str kd.str u) s)
    (hs : subscripted slice false (.ref D) (.int k t) = operate [.ref D, .int k t] (getItem (.ref D) (.int k t)) := by with_unfolding_all rfl) :
    wpAny (model prog w) A (subscriptTail value slice (.ref D) (.int k t)) Q E s := by
  have b := Kd.ord_pos kd
  subst e
  cases kd
  · exact item_tupleT (x := .str (Str.ofString "integer") a2) (News.isTup N hm) (by decide) (by decide) rfl rfl (h a2) hs
  · exact item_tupleT (x := .str (Str.ofString "double") a3) (News.isTup N hm) (by decide) (by decide) rfl rfl (h a3) hs
  · exact item_tupleT (x := .str (Str.ofString "character") a4) (News.isTup N hm) (by decide) (by decide) rfl rfl (h a4) hs
  · exact item_tupleT (x := .str (Str.ofString "list") a5) (News.isTup N hm) (by decide) (by decide) rfl rfl (h a5) hs
end
--M{
local macro_rules | `(tactic| walk_at "getMethod ref") => `(tactic| f_two (getMethod (Value.ref _) (PySem.Str.ofString "index") _), (tup_method ?N ?m PySem.F.slot_tuple_index PySem.F.type_tuple_index ?_))
local macro_rules | `(tactic| walk_at "call builtin:tuple.index") => `(tactic| row_wit1 (kinds_index ?N ?m ?_))
local macro_rules | `(tactic| walk_at "compareOp In str ref") => `(tactic| ((with_reducible show wpAny _ _ (compareOp CmpOp.In (Value.str (Kd.str _) _) (Value.ref _)) _ _ _); first | row_wit1 (kd_in (b := true) ?N ?m ?i ?j ?_) | row_wit1 (kd_inL ?N ?m ?i ?j ?_)))
--M}
section
variable {w : World} {p : Program} {loose : List Str} {mean : ExcName → Option Value} {mg mb : Str → Option Value} {news : List (Addr × Obj)}
theorem kind_order_spec (kd : Kd) (t : Tok) : Ctr w p loose mean mg mb 365 2 news [.str kd.str t] (fun tl r => tl = [] ∧ ∃ u, r = .int (kd.ord : Int) u) := by
  unfold Ctr
  (w_top off; k_fill)
  intro dp un gd cn cs a ccd cl outer A₀ base h₀ L m s Q E B F X N T hk hd hu hret
  refine wpAny_call ?_
  k_dflt k_enter
  k_steps
  all_goals exact hret _ [] _ _ (by k_asm) (by first | k_asm | exact news_sub (by k_asm) (by kqd_sub)) ⟨rfl, _, rfl⟩
end

--M{
local macro_rules | `(tactic| walk_at "call ref") => `(tactic| (row_wit2 365 kind_order_spec; (rename _ => q9); k_dflt (obtain ⟨e9, u9, e9'⟩ := q9; subst e9; subst e9'); k_caughtNB))
--M}
section
variable {w : World} {p : Program} {loose : List Str} {mean : ExcName → Option Value} {mg mb : Str → Option Value} {news : List (Addr × Obj)}
theorem common_kind_spec (kd : Kd) {l : Addr} {t u : Tok} {n : Nat} (hl : (l, listOf #[.str kd.str t, .str kd.str u] n) ∈ news) : Ctr w p loose mean mg mb 372 4 news [.ref l] (fun tl r => tl = [] ∧ ∃ u, r = .str kd.str u) := by
  unfold Ctr
  (w_top off; k_fill)
  intro dp un gd cn cs a ccd cl outer A₀ base h₀ L m s Q E B F X N T hk hd hu hret
  refine wpAny_call ?_
  k_dflt k_enter
  k_steps
  rename Fr _ _ _ _ => F1
  rename News _ _ _ _ => N1
  refine loop_listL (σ := Int × Tok) (vs := [.str kd.str t, .str kd.str u]) (k := n) (cst := _) (fun _ => []) (fun c => [(Str.ofString "most", Value.int c.1 c.2)]) [] (fun i c => c.1 = if i = 0 then 0 else (kd.ord : Int)) (0, _) (by rfl) F1 N1 (fun p h => h) (List.mem_cons_of_mem _ hl) rfl (by kst_all) ?_ ?_
  · intro i v c h tk I oI u hv hp hne F2 N2
    obtain ⟨mst, tm⟩ := c
    have hv' : ∃ tv, v = .str kd.str tv := by
      match i, hv with
      | 0, hv => exact ⟨t, by simpa using hv.symm⟩
      | 1, hv => exact ⟨_, by simpa using hv.symm⟩
    obtain ⟨tv, rfl⟩ := hv'
    clear hv F1 N1
    dsimp only [kstB] at F2 hp
    simp only [List.nil_append] at N2 hne
    k_steps
    refine LEnd.next (_, _) (by k_asm) (by k_asm) (by kqd_sub) (by simpa using hne) ?_ (by kst_all) (by kst_same)
    have := kd.ord_pos
    subst hp
    dsimp only
    repeat' split
    all_goals omega
  · intro c h tk u hp F2 N2
    obtain ⟨mst, tm⟩ := c
    clear F1 N1
    dsimp only [kstB] at F2 hp
    simp only [List.nil_append] at N2
    have he : mst = (kd.ord : Int) := by simpa using hp
    subst he
    k_steps
    refine kinds_item (by k_asm) (by k_mem) rfl ?_
    intro u9
    k_steps
    exact hret _ [] _ _ (by k_asm) (by first | k_asm | exact news_sub (by k_asm) (by kqd_sub)) ⟨rfl, _, rfl⟩
end
--M{
local macro_rules | `(tactic| walk_at "call ref") => `(tactic| (row_wit2 372 common_kind_spec; (rename _ => q9); k_dflt (obtain ⟨e9, u9, e9'⟩ := q9; subst e9; subst e9'); k_caughtNB))
--M}

section
variable {w : World} {p : Program} {loose : List Str} {mean : ExcName → Option Value} {mg mb : Str → Option Value} {news : List (Addr × Obj)}
theorem names_of_spec {x l : Addr} {kd : Kd} (hv : VecAt news x kd.str l) : Ctr w p loose mean mg mb 307 5 news [.ref x] (fun tl r => tl = [] ∧ r = .none) := by
  unfold Ctr
  (w_top off; k_fill)
  intro dp un gd cn cs a ccd cl outer A₀ base h₀ L m s Q E B F X N T hk hd hu hret
  obtain ⟨dx, od, hx, hdx, hod⟩ := hv
  cases hod
  refine wpAny_call ?_
  k_dflt k_enter
  k_steps
  exact hret _ [] _ _ (by k_asm) (by first | k_asm | exact news_sub (by k_asm) (by kqd_sub)) ⟨rfl, rfl⟩
end
--M{
local macro_rules | `(tactic| walk_at "call ref") => `(tactic| (row_wit2 307 names_of_spec; k_caughtN0))
--M}
section
variable {w : World} {p : Program} {loose : List Str} {mean : ExcName → Option Value} {mg mb : Str → Option Value} {news : List (Addr × Obj)}
/-- a new vector with a list of its own -/
def VecNew (news : List (Addr × Obj)) (K : Str) (vs : List Value) (tl : List (Addr × Obj)) (r : Value) : Prop :=
  ∃ x dx od l k, tl = [(x, instObj 237 dx), (dx, od), (l, listOf vs.toArray k)] ∧ @LT.lt Nat _ dx x ∧ @LT.lt Nat _ l dx ∧ (∀ q ∈ news, q.1 < l) ∧ IsVD K l od ∧ r = .ref x
theorem as_kind_spec {x l : Addr} {kd : Kd} {vs : List Value} {k : Nat} (t : Tok) (nl : Addr) (hv : VecAt news x kd.str l) (hl : (l, listOf vs.toArray k) ∈ news) (hz : vs.length ≤ 1000) : Ctr w p loose mean mg mb 473 7 news [.ref x, .str kd.str t, .ref nl]
    (VecNew news kd.str vs) := by
  unfold Ctr
  (w_top off; k_fill)
  intro dp un gd cn cs a ccd cl outer A₀ base h₀ L m s Q E B F X N T hk hd hu hret
  obtain ⟨dx, od, hx, hdx, hod⟩ := hv
  cases hod
  refine wpAny_call ?_
  k_dflt k_enter
  k_steps
  exact hret _ [_, _, _] _ _ (by k_asm) (news_sub (by k_asm) (by kqd_sub)) ⟨_, _, _, _, _, rfl, by ktn_lt, by ktn_lt, by ktn_lt, IsVD.mk .., rfl⟩
end
--M{
local macro_rules | `(tactic| walk_at "call ref") => `(tactic| (row_wit2 473 as_kind_spec; (rename _ => q9); k_dflt (obtain ⟨x9, dx9, od9, l9, k9, e9, a9, b9, c9, v9, e9'⟩ := q9; subst e9; subst e9'; cases v9); k_caughtNB))
--M}
--M{
local macro_rules | `(tactic| k_all) => `(tactic| first | (refine' allNe_lt (all_sub ?a ?b); (case a => assumption); (case b => kqd_sub)) | (refine' allNe_lt (lt_up (all_sub ?a ?c) ?b); (case b => assumption); (case a => assumption); (case c => kqd_sub)) | (refine' allNe_lt (lt_up (lt_up (all_sub ?a ?c) ?b) ?d); (case d => assumption); (case b => assumption); (case a => assumption); (case c => kqd_sub)) | fail)
--M}
def BothOut (news : List (Addr × Obj)) (K : Str) (us vs : List Value) (tl : List (Addr × Obj)) (r : Value) : Prop :=
  ∃ t n a da oa la ka b db ob lb kb, tl = [(t, tupOf #[.ref a, .ref b] n), (a, instObj 237 da), (da, oa), (la, listOf us.toArray ka), (b, instObj 237 db), (db, ob), (lb, listOf vs.toArray kb)] ∧ IsVD K la oa ∧ IsVD K lb ob ∧ r = .ref t ∧ (∀ q ∈ news, q.1 ≠ t) ∧ (∀ q ∈ news, q.1 ≠ a) ∧ (∀ q ∈ news, q.1 ≠ da) ∧ (∀ q ∈ news, q.1 ≠ la) ∧ (∀ q ∈ news, q.1 ≠ b) ∧ (∀ q ∈ news, q.1 ≠ db) ∧ (∀ q ∈ news, q.1 ≠ lb)
section
variable {w : World} {p : Program} {loose : List Str} {mean : ExcName → Option Value} {mg mb : Str → Option Value} {news : List (Addr × Obj)}
theorem both_kinds_spec {xu lu xv lv : Addr} {kd : Kd} {us vs : List Value} {ku kv : Nat} (hu' : VecAt news xu kd.str lu) (hv' : VecAt news xv kd.str lv) (hlu : (lu, listOf us.toArray ku) ∈ news) (hlv : (lv, listOf vs.toArray kv) ∈ news)
    (hzu : us.length ≤ 1000) (hzv : vs.length ≤ 1000) : Ctr w p loose mean mg mb 589 9 news [.ref xu, .ref xv] (BothOut news kd.str us vs) := by
  unfold Ctr
  (w_top off; k_fill)
  intro dp un gd cn cs a ccd cl outer A₀ base h₀ L m s Q E B F X N T hk hd hu hret
  obtain ⟨dx, od, hx, hdx, hod⟩ := hu'
  cases hod
  obtain ⟨dx, od, hx, hdx, hod⟩ := hv'
  cases hod
  refine wpAny_call ?_
  k_dflt k_enter
  k_steps
  exact hret _ [_, _, _, _, _, _, _] _ _ (by k_asm) (news_sub (by k_asm) (by kqd_sub)) ⟨_, _, _, _, _, _, _, _, _, _, _, _, rfl, IsVD.mk .., IsVD.mk .., rfl, by k_all, by k_all, by k_all, by k_all, by k_all, by k_all, by k_all⟩
end
--M{
local macro_rules | `(tactic| walk_at "call ref") => `(tactic| (row_wit2 589 both_kinds_spec; (rename _ => q9); k_dflt (obtain ⟨t9, n9, a9, da9, oa9, la9, ka9, b9, db9, ob9, lb9, kb9, e9, v9, w9, e9', n91, n92, n93, n94, n95, n96, n97⟩ := q9; subst e9; subst e9'; cases v9; cases w9); k_caughtNB))
--M}

section
variable {w : World} {p : Program} {loose : List Str} {mean : ExcName → Option Value} {mg mb : Str → Option Value} {news : List (Addr × Obj)}
theorem is_listed_spec {x l : Addr} {kd : Kd} (hv : VecAt news x kd.str l) : Ctr w p loose mean mg mb 543 3 news [.ref x] (fun tl r => tl = [] ∧ r = .bool kd.listed) := by
  unfold Ctr
  (w_top off; k_fill)
  intro dp un gd cn cs a ccd cl outer A₀ base h₀ L m s Q E B F X N T hk hd hu hret
  obtain ⟨dx, od, hx, hdx, hod⟩ := hv
  cases hod
  refine wpAny_call ?_
  k_dflt k_enter
  k_steps
  exact hret _ [] _ _ (by k_asm) (by first | k_asm | exact news_sub (by k_asm) (by kqd_sub)) ⟨rfl, rfl⟩
end
--M{
local macro_rules | `(tactic| walk_at "call ref") => `(tactic| (row_wit2 543 is_listed_spec; k_caughtN0))
--M}
noncomputable def txt (i : Int) : Str := Str.ofString (toString i)
section
variable {w : World} {p : Program} {loose : List Str} {mean : ExcName → Option Value} {mg mb : Str → Option Value} {news : List (Addr × Obj)}
theorem key_none {kd : Kd} {t : Tok} : Ctr w p loose mean mg mb 536 3 news [.str kd.str t, .none] (fun tl r => tl = [] ∧ ∃ u, r = .str (Str.ofString "NA") u) := by
  unfold Ctr
  (w_top off; k_fill)
  intro dp un gd cn cs a ccd cl outer A₀ base h₀ L m s Q E B F X N T hk hd hu hret
  refine wpAny_call ?_
  k_dflt k_enter
  k_steps
  exact hret _ [] _ _ (by k_asm) (by first | k_asm | exact news_sub (by k_asm) (by kqd_sub)) ⟨rfl, _, rfl⟩
theorem key_int {t u : Tok} {i : Int} (h0 : -1 ≤ i) (h1 : i ≤ 2) : Ctr w p loose mean mg mb 536 3 news [.str (Str.ofString "integer") t, .int i u] (fun tl r => tl = [] ∧ ∃ u, r = .str (txt i) u) := by
  unfold Ctr
  (w_top off; k_fill)
  intro dp un gd cn cs a ccd cl outer A₀ base h₀ L m s Q E B F X N T hk hd hu hret
  refine wpAny_call ?_
  k_dflt k_enter
  k_steps
  exact hret _ [] _ _ (by k_asm) (by first | k_asm | exact news_sub (by k_asm) (by kqd_sub)) ⟨rfl, _, rfl⟩
theorem key_chr {t u : Tok} {x : Str} (hx : x.length ≤ 2) : Ctr w p loose mean mg mb 536 3 news [.str (Str.ofString "character") t, .str x u] (fun tl r => tl = [] ∧ ∃ u, r = .str (Str.ofString "=" ++ x) u) := by
  unfold Ctr
  (w_top off; k_fill)
  intro dp un gd cn cs a ccd cl outer A₀ base h₀ L m s Q E B F X N T hk hd hu hret
  refine wpAny_call ?_
  k_dflt k_enter
  k_steps
  exact hret _ [] _ _ (by k_asm) (by first | k_asm | exact news_sub (by k_asm) (by kqd_sub)) ⟨rfl, _, rfl⟩
theorem key_dbl {t tp tq : Tok} {y : Addr} {i j : Int} {n : Nat} (hy : (y, tupOf #[.int i tp, .int j tq] n) ∈ news) (h0 : 0 ≤ i) (h1 : i ≤ 2) (h2 : 0 ≤ j) (h3 : j ≤ 2) : Ctr w p loose mean mg mb 536 3 news [.str (Str.ofString "double") t, .ref y] (fun tl r => tl = [] ∧ ∃ u, r = .str ((txt i ++ Str.ofString "/") ++ txt j) u) := by
  unfold Ctr
  (w_top off; k_fill)
  intro dp un gd cn cs a ccd cl outer A₀ base h₀ L m s Q E B F X N T hk hd hu hret
  refine wpAny_call ?_
  k_dflt k_enter
  k_steps
  exact hret _ [] _ _ (by k_asm) (by first | k_asm | exact news_sub (by k_asm) (by kqd_sub)) ⟨rfl, _, rfl⟩
end
noncomputable def keyDat : Dat → Str
  | .int i => txt i
  | .str x => Str.ofString "=" ++ x
  | .tuple [.int i, .int j] => (txt i ++ Str.ofString "/") ++ txt j
  | _ => Str.ofString "NA"
noncomputable def keyOf (kd : Kd) (c : Nat) : Str := keyDat (datOf kd c)
theorem keyOf_inj {kd : Kd} (hkd : kd.listed = false) : ∀ c < 5, ∀ d < 5, keyOf kd c = keyOf kd d → c = d := by
  cases kd with
  | lst => cases hkd
  | int => decide +kernel
  | dbl => decide +kernel
  | chr => decide +kernel
section
variable {prog : Program} {w : World} {A : Around} {E : Value → Shared → Prop} {s : Shared} {env : Env} {h₀ : Heap} {x : Str} {body : List Stmt} {Q : Flow → Shared → Prop}
theorem loop_dict0 {d : Addr} {o : Obj} {m₀ : Str → Option Value} {news : List (Addr × Obj)} (hh : A.handled = none) (lo : (d == sysModules) = false) (hd : Obj.IsDictOf (PySem.strKind prog w) o []) (F : Fr h₀ env.locals s.heap m₀) (N : News h₀ env.locals s.heap news) (hm : (d, o) ∈ news)
    (done : ∀ h tk, Fr h₀ env.locals h m₀ → News h₀ env.locals h news → Q .next { s with heap := h, toks := tk }) : IterGoal prog w A h₀ env x body Q E (.ref d) s := by
  have hD : s.heap.DictOf (PySem.strKind prog w) d [] := Heap.dictOf_iff.mpr ⟨o, (N _ hm).1, hd⟩
  obtain ⟨ep, hA⟩ := hD.dictAt
  have hlt : d < s.heap.objs.size := hA.lt_size
  have hL : env.locals < s.heap.objs.size := F.ns.lt
  refine wpAny_pyIter_dict lo hA ?_
  have up : ∀ b o, s.heap.get? b = some o → (s.heap.push { cls := .type "dict_keyiterator", data := .fields #[.ref d, .int 0 0, .int (([] : List (Str × Value)).length : Nat) 0, .int ep 0] }).get? b = some o := fun b o e => Heap.get?_push_of_some _ e
  refine ⟨_, _, _, 0, _, _, m₀, news, fun _ m nw => m = m₀ ∧ nw = news, rfl, Walks.dictKeys (K := Str) (knd := PySem.strKind prog w) hh s.heap.objs.size d (Nat.ne_of_lt hlt) [] ep, ?_, ?_, ?_, ⟨⟨_, Heap.get?_push_size _ rfl, rfl, rfl⟩, hA.keep up⟩, F.keeps up, N.grown up, ⟨rfl, rfl⟩, ?_, ?_⟩
  · intro hm'
    rcases List.mem_cons.mp hm' with e | hm'
    · exact absurd hL (e ▸ Nat.lt_irrefl _)
    · exact (N _ hm).2.1 (List.mem_singleton.mp hm').symm
  · intro b hb
    rw [List.mem_singleton.mp hb]
    exact next_is_new F
  · intro p hp hI
    exact absurd (Heap.lt_size (N p hp).1) ((List.mem_singleton.mp hI) ▸ Nat.lt_irrefl _)
  · intro i v m₁ nw s₁ own _ hi
    exact absurd hi (Nat.not_lt_zero _)
  · rintro h' tk m' nw' F' N' _ ⟨rfl, rfl⟩
    exact done h' tk F' N'
end
section
variable {w : World} {p : Program} {loose : List Str} {mean : ExcName → Option Value} {mg mb : Str → Option Value} {news : List (Addr × Obj)}
theorem item_key_spec {kd : Kd} {v : Value} {c : Nat} (t : Tok) (hkd : kd.listed = false) (hi : ItemIn news kd v c) : Ctr w p loose mean mg mb 536 3 news [.str kd.str t, v] (fun tl r => tl = [] ∧ ∃ u, r = .str (keyOf kd c) u) := by
  obtain ⟨hc, hd⟩ := hi
  cases kd with
  | lst => cases hkd
  | int =>
    have hc' : c < 5 := hc
    have hd' : DatIn news v (datOf .int c) := hd
    match c, hc' with
    | 0, _ | 1, _ | 2, _ | 3, _ => cases hd'; exact key_int (by decide) (by decide)
    | 4, _ => cases hd'; exact key_none
  | dbl =>
    have hc' : c < 5 := hc
    have hd' : DatIn news v (datOf .dbl c) := hd
    match c, hc' with
    | 0, _ | 1, _ | 2, _ | 3, _ =>
      cases hd' with
      | tuple hm r =>
        cases r with
        | cons h1 r =>
          cases r with
          | cons h2 r =>
            cases r; cases h1; cases h2
            exact key_dbl hm (by decide) (by decide) (by decide) (by decide)
    | 4, _ => cases hd'; exact key_none
  | chr =>
    have hc' : c < 5 := hc
    have hd' : DatIn news v (datOf .chr c) := hd
    match c, hc' with
    | 0, _ | 1, _ | 2, _ | 3, _ => cases hd'; exact key_chr (by decide)
    | 4, _ => cases hd'; exact key_none

theorem same_attrs_spec {x l y r : Addr} {K K' : Str} (hv : VecAt news x K l) (hw : VecAt news y K' r) : Ctr w p loose mean mg mb 480 3 news [.ref x, .ref y] (fun tl r => tl = [] ∧ r = .bool true) := by
  unfold Ctr
  (w_top off; k_fill)
  intro dp un gd cn cs a ccd cl outer A₀ base h₀ L m s Q E B F X N T hk hd hu hret
  obtain ⟨dx, od, hx, hdx, hod⟩ := hv
  cases hod
  obtain ⟨dy, oe, hy, hdy, hoe⟩ := hw
  cases hoe
  refine wpAny_call ?_
  k_dflt k_enter
  k_steps
  rename Fr _ _ _ _ => F1
  rename News _ _ _ _ => N1
  refine' loop_dict0 ?a ?b ?c F1 N1 ?d ?_
  case d => exact List.mem_cons_of_mem _ List.mem_cons_self
  case a => rfl
  case b => assumption
  case c => assumption
  intro h tk F2 N2
  clear F1 N1
  k_steps
  all_goals exact hret _ [] _ _ (by k_asm) (by first | k_asm | exact news_sub (by k_asm) (by kqd_sub)) ⟨rfl, rfl⟩
end

section
variable {prog : Program} {w : World} {A : Around} {E : Value → Shared → Prop} {s : Shared} {h₀ : Heap} {L : Addr} {news : List (Addr × Obj)}
theorem tail_builtin {value slice : PySem.Expr} {o i : Value} {T id : String} {Q : Value → Shared → Prop} (hT : s.TypeIs o T)
    (hl : typeLookup (.type T) "__getitem__" = pure (some (.builtin id))) (h : wpAny (model prog w) A (getItem o i) Q E s)
    (hs : subscripted slice false o i = operate [o, i] (getItem o i)) : wpAny (model prog w) A (subscriptTail value slice o i) Q E s := by
  unfold subscriptTail
  refine wpAny_bind ?_
  rw [getitemInPython_of_ne hT.not_modules]
  refine wpAny_bind (wpAny_specialOf hT hl ?_)
  have fin : wpAny (model prog w) A (subscripted slice false o i) (fun r s₃ => wpAny (model prog w) A (letTemporaryGo value o r >>= fun _ => pure r) Q E s₃) E s := by
    rw [hs]
    exact wpAny_operating (wpAny_mono h (fun r s₃ h₃ => wpAny_bind (wpAny_letTemporaryGo (wpAny_pure h₃))) fun _ _ x => x)
  first
    | exact wpAny_pure (wpAny_bind fin)
    | exact wpAny_bind (wpAny_pure (wpAny_bind fin))
    | exact wpAny_bind fin
theorem item_at {value slice : PySem.Expr} {l : Addr} {vs : List Value} {k n : Nat} {t : Tok} {x : Value} {Q : Value → Shared → Prop} (N : News h₀ L s.heap news) (hm : (l, listOf vs.toArray k) ∈ news) (hx : vs[n]? = some x) (hz : vs.length ≤ 1000) (h : Q x s)
    (hs : subscripted slice false (.ref l) (.int (n : Int) t) = operate [.ref l, .int (n : Int) t] (getItem (.ref l) (.int (n : Int) t)) := by with_unfolding_all rfl) :
    wpAny (model prog w) A (subscriptTail value slice (.ref l) (.int (n : Int) t)) Q E s := by
  have hn : n < vs.length := (List.getElem?_eq_some_iff.mp hx).1
  have hl : s.heap.IsList l vs.toArray := News.isList N hm
  exact tail_builtin hl.typeIs slot_list_getitem.lookup (wpAny_getItem_list hl (by omega) (by omega) (by simpa using hx) h) hs
end
--M{
local macro_rules | `(tactic| walk_at "subscriptTail Name Name ref int") => `(tactic| f_two (subscriptTail _ _ (Value.ref _) (Value.int (Nat.cast _) _)), (item_at ?N ?m ?x ?z ?_ ?g))
local macro_rules | `(tactic| walk_at "subscriptTail Attribute Name ref int") => `(tactic| f_two (subscriptTail _ _ (Value.ref _) (Value.int (Nat.cast _) _)), (item_at ?N ?m ?x ?z ?_ ?g))
local macro_rules | `(tactic| walk_at "subscriptTail") => `(tactic| f_two (subscriptTail _ _ (Value.ref _) (Value.int (Nat.cast _) _)), (item_at ?N ?m ?x ?z ?_ ?g))
--M}
--M{
local macro_rules | `(tactic| walk_at "call ref") => `(tactic| (row_wit2 480 same_attrs_spec; k_caughtN0))
--M}
section
variable {w : World} {p : Program} {loose : List Str} {mean : ExcName → Option Value} {mg mb : Str → Option Value} {news : List (Addr × Obj)}
theorem identical_spec {x l y r : Addr} {i j : Int} {ti tj : Tok} {ki kj : Nat} (hv : VecAt news x (Kd.str .int) l) (hl : (l, listOf [Value.int i ti].toArray ki) ∈ news) (hw : VecAt news y (Kd.str .int) r) (hr : (r, listOf [Value.int j tj].toArray kj) ∈ news) :
    Ctr w p loose mean mg mb 522 6 news [.ref x, .ref y] (fun tl r => tl = [] ∧ r = .bool (i == j)) := by
  unfold Ctr
  (w_top off; k_fill)
  intro dp un gd cn cs a ccd cl outer A₀ base h₀ L m s Q E B F X N T hk hd hu hret
  obtain ⟨dx, od, hx, hdx, hod⟩ := hv
  cases hod
  obtain ⟨dy, oe, hy, hdy, hoe⟩ := hw
  cases hoe
  refine wpAny_call ?_
  k_dflt k_enter
  k_steps
  all_goals exact hret _ [] _ _ (by k_asm) (by first | k_asm | exact news_sub (by k_asm) (by kqd_sub)) ⟨rfl, by first | rfl | (rename @Eq Int _ _ => he; simp [he])⟩
end

--M{
local macro_rules | `(tactic| walk_at "call ref") => `(tactic| (row_wit2 522 identical_spec; k_caughtN0))
--M}
section
variable {w : World} {p : Program} {loose : List Str} {mean : ExcName → Option Value} {mg mb : Str → Option Value} {news : List (Addr × Obj)}
theorem find_at {α : Type} {p : α → Bool} : ∀ {l : List α} {i : Nat} (hi : i < l.length), (∀ q ∈ l.take i, p q = false) → p l[i] = true → l.find? p = some l[i]
  | [], i, hi, _, _ => absurd hi (Nat.not_lt_zero _)
  | a :: l, 0, _, _, h => by simp only [List.getElem_cons_zero] at h ⊢; rw [List.find?_cons, h]
  | a :: l, i + 1, hi, hp, h => by
    have ha : p a = false := hp a (by simp)
    simp only [List.getElem_cons_succ] at h ⊢
    rw [List.find?_cons, ha]
    exact find_at (by simpa using hi) (fun q hq => hp q (by simp [hq])) h
/-- the places are ints that lie in the list -/
def PlacesAre (vs : List Value) (ps : List Nat) : Prop := vs.length = ps.length ∧ ∀ (i q : Nat), ps[i]? = some q → ∃ t, vs[i]? = some (Value.int (q : Int) t)
def optV (o : Option Nat) (r : Value) : Prop := match o with
  | some q => ∃ t, r = .int (q : Int) t
  | none => r = .none
theorem list_place_spec {v : Value} {li lp : Addr} {vs us : List Value} {cs ps : List Nat} {c ki kp : Nat} (hv : ItemIn news .lst v c) (hli : (li, listOf vs.toArray ki) ∈ news) (hlp : (lp, listOf us.toArray kp) ∈ news)
    (hI : Items news .lst vs cs) (hP : PlacesAre us ps) (hlt : ∀ q ∈ ps, q < cs.length) (hz : vs.length ≤ 1000) :
    Ctr w p loose mean mg mb 550 8 news [v, .ref li, .ref lp] (fun tl r => tl = [] ∧ optV (ps.find? (fun q => cs.getD q 0 == c)) r) := by
  unfold Ctr
  (w_top off; k_fill)
  intro dp un gd cn cs' a ccd cl outer A₀ base h₀ L m s Q E B F X N T hk hd hu hret
  obtain ⟨hc, x, l, t, k, rfl, hva, hl⟩ := hv
  obtain ⟨dx, od, hx, hdx, hod⟩ := hva
  cases hod
  refine wpAny_call ?_
  k_dflt k_enter
  k_steps
  rename Fr _ _ _ _ => F1
  rename News _ _ _ _ => N1
  refine loop_listL (σ := Unit) (vs := us) (k := kp) (cst := _) (fun _ => []) (fun _ => []) [] (fun i _ => ∀ q ∈ ps.take i, (cs.getD q 0 == c) = false) () (by rfl) F1 N1 (fun p h => h) hlp (fun q h => nomatch h) (by kst_all) ?_ ?_
  · intro i v c' h tk I oI u hv hp hne F2 N2
    clear F1 N1
    dsimp only [kstB] at F2 hp
    simp only [List.nil_append] at N2 hne
    have hi : i < ps.length := by
      have := (List.getElem?_eq_some_iff.mp hv).1
      rw [← hP.1]; exact this
    obtain ⟨t1, ht1⟩ := hP.2 i ps[i] (by simp [hi])
    obtain rfl : v = .int (ps[i] : Int) t1 := by rw [hv] at ht1; exact Option.some.inj ht1
    have hq := hlt ps[i] (List.getElem_mem _)
    obtain ⟨v2, hv2, hc2, x2, l2, t2, k2, rfl, hva2, hl2⟩ := hI.get hq
    obtain ⟨dx2, od2, hx2, hdx2, hod2⟩ := hva2
    cases hod2
    k_steps
    · dsimp only
      refine LEnd.ret ?_
      k_steps
      refine hret _ [] _ _ (by k_asm) (by first | k_asm | exact news_sub (by k_asm) (by kqd_sub)) ⟨rfl, ?_⟩
      rename @Eq Int _ _ => he
      have e : ps.find? (fun q => cs.getD q 0 == c) = some ps[i] := find_at hi hp (by simpa using Int.ofNat.inj he)
      rw [e]
      exact ⟨_, rfl⟩
    · rename @Ne Int _ _ => he
      refine LEnd.next () (by k_asm) (by k_asm) (by kqd_sub) (by simpa using hne) ?_ (by kst_all) (by kst_same)
      intro q hq
      rw [List.take_add_one, List.mem_append] at hq
      rcases hq with hq | hq
      · exact hp q hq
      · simp [hi] at hq
        subst hq
        simpa using fun e => he (congrArg _ e)
  · intro c' h tk u hp F2 N2
    clear F1 N1
    dsimp only [kstB] at F2 hp
    simp only [List.nil_append] at N2
    k_steps
    refine hret _ [] _ _ (by k_asm) (by first | k_asm | exact news_sub (by k_asm) (by kqd_sub)) ⟨rfl, ?_⟩
    rw [hP.1, List.take_length] at hp
    rw [List.find?_eq_none.mpr (by simpa using hp)]
    rfl
end

/-- the place of the first like item -/
noncomputable def plc (cs : List Nat) (c : Nat) : Option Nat := (List.range cs.length).find? (fun q => cs.getD q 0 == c)
theorem idxOf_at {cs : List Nat} {i c : Nat} (h : cs[i]? = some c) (hn : c ∉ cs.take i) : cs.idxOf c = i := by
  have hi := (List.getElem?_eq_some_iff.mp h).1
  have e : cs = cs.take i ++ c :: cs.drop (i + 1) := by
    have := List.take_append_drop i cs
    rw [List.drop_eq_getElem_cons hi, (List.getElem?_eq_some_iff.mp h).2] at this
    exact this.symm
  rw [e, List.idxOf_append, if_neg hn]
  simp
  omega
theorem idxOf_lt {cs : List Nat} {c i : Nat} (h : c ∈ cs.take i) : cs.idxOf c < i := by
  have hs : cs = cs.take i ++ cs.drop i := (List.take_append_drop i cs).symm
  have e : cs.idxOf c = (cs.take i).idxOf c := by
    conv => lhs; rw [hs]
    rw [List.idxOf_append, if_pos h]
  rw [e]
  have := List.idxOf_lt_length_iff.mpr h
  rw [List.length_take] at this
  omega
theorem ne_lt_idxOf {k : Nat} : ∀ {ns : List Nat} {j : Nat}, j < ns.idxOf k → ∀ (h2 : j < ns.length), ns[j] ≠ k
  | n :: r, 0, h, _ => by
    intro e
    simp only [List.getElem_cons_zero] at e
    subst e
    simp at h
  | n :: r, j + 1, h, h2 => by
    have hn : n ≠ k := by intro e; subst e; simp at h
    have hb : (n == k) = false := by simpa using hn
    rw [List.idxOf_cons, hb, cond_false] at h
    simp only [List.getElem_cons_succ]
    exact ne_lt_idxOf (by omega) (by simpa using h2)
theorem getD_of {cs : List Nat} {i c : Nat} (h : cs[i]? = some c) : cs.getD i 0 = c := by simp [List.getD, h]
theorem plc_eq (cs : List Nat) (c : Nat) : plc cs c = if c ∈ cs then some (cs.idxOf c) else none := by
  unfold plc
  by_cases h : c ∈ cs
  · rw [if_pos h]
    have hi := List.idxOf_lt_length_iff.mpr h
    have := find_at (p := fun q => cs.getD q 0 == c) (l := List.range cs.length) (i := cs.idxOf c) (by simpa using hi) (fun q hq => ?_) ?_
    · simpa using this
    · have hq' : q < cs.idxOf c := by
        have := List.mem_take_iff_getElem.mp hq
        obtain ⟨j, hj, rfl⟩ := this
        simp at hj ⊢
        omega
      have hql : q < cs.length := by omega
      simp only [List.getD, List.getElem?_eq_getElem hql, Option.getD_some, beq_eq_false_iff_ne, ne_eq]
      exact ne_lt_idxOf hq' hql
    · simp only [List.getElem_range, List.getD, List.getElem?_eq_getElem hi, Option.getD_some, beq_iff_eq]
      exact List.getElem_idxOf hi
  · rw [if_neg h]
    rw [List.find?_eq_none]
    intro q hq
    have hql : q < cs.length := by simpa using hq
    simp only [List.getD, List.getElem?_eq_getElem hql, Option.getD_some, beq_iff_eq]
    exact fun e => h (e ▸ List.getElem_mem _)
/-- the first places -/
noncomputable def fps (cs : List Nat) (n : Nat) : List Nat := (List.range n).map fun i => cs.idxOf (cs.getD i 0)
noncomputable def kpt (cs : List Nat) (n : Nat) : List Nat := (List.range n).filter fun i => cs.idxOf (cs.getD i 0) == i
theorem fps_succ (cs : List Nat) (n : Nat) : fps cs (n + 1) = fps cs n ++ [cs.idxOf (cs.getD n 0)] := by simp [fps, List.range_succ]
theorem kpt_succ (cs : List Nat) (n : Nat) : kpt cs (n + 1) = kpt cs n ++ (if cs.idxOf (cs.getD n 0) = n then [n] else []) := by
  simp only [kpt, List.range_succ, List.filter_append, List.filter_cons, List.filter_nil, beq_iff_eq]
theorem kpt_lt {cs : List Nat} {n q : Nat} (h : q ∈ kpt cs n) : q < n := by
  have := (List.mem_filter.mp h).1
  simpa using this
/-- among the kept ones the like one is the first -/
theorem kpt_find {cs : List Nat} {i c : Nat} (h : cs[i]? = some c) : (kpt cs i).find? (fun q => cs.getD q 0 == c) = if cs.idxOf c < i then some (cs.idxOf c) else none := by
  have hi := (List.getElem?_eq_some_iff.mp h).1
  unfold kpt
  rw [List.find?_filter]
  by_cases hlt : cs.idxOf c < i
  · rw [if_pos hlt]
    have hj : cs.idxOf c < cs.length := by omega
    have hg : cs.getD (cs.idxOf c) 0 = c := by
      simp only [List.getD, List.getElem?_eq_getElem hj, Option.getD_some]
      exact List.getElem_idxOf hj
    have := find_at (p := fun q => (cs.idxOf (cs.getD q 0) == q) && (cs.getD q 0 == c)) (l := List.range i) (i := cs.idxOf c) (by simpa using hlt) (fun q hq => ?_) ?_
    · simp only [List.getElem_range] at this
      rw [← this]
      congr 1; funext q; simp [Bool.beq_eq_decide_eq]
    · have hq' : q < cs.idxOf c := by
        obtain ⟨j, hj, rfl⟩ := List.mem_take_iff_getElem.mp hq
        simp at hj ⊢
        omega
      have hql : q < cs.length := by omega
      have : (cs.getD q 0 == c) = false := by
        simp only [List.getD, List.getElem?_eq_getElem hql, Option.getD_some, beq_eq_false_iff_ne, ne_eq]
        exact ne_lt_idxOf hq' hql
      rw [this, Bool.and_false]
    · simp only [List.getElem_range, hg, beq_self_eq_true, Bool.and_self]
  · rw [if_neg hlt, List.find?_eq_none]
    intro q hq
    have hqi : q < i := by simpa using hq
    intro e
    simp only [beq_iff_eq, decide_eq_true_eq] at e
    obtain ⟨e1, e2⟩ := e
    rw [e2] at e1
    omega
theorem find_congr_and {α : Type} (p q : α → Bool) (l : List α) : l.find? (fun a => decide (p a = true ∧ q a = true)) = l.find? (fun a => p a && q a) := by
  congr 1; funext a; simp
open PyProof.V in
/-- the dict of the first places of the first i items -/
def KnownIs (w : World) (o : Obj) (kd : Kd) (cs : List Nat) (i : Nat) : Prop :=
  ∃ kvs, o.IsDictOf (PySem.strKind PySem.Challenge.rw_ov0082_01.row.prog w) kvs ∧ kvs.length ≤ i ∧ ∀ c < 5, (c ∈ cs.take i → ∃ t, valueAt kvs (keyOf kd c) = some (.int (cs.idxOf c : Nat) t)) ∧ (c ∉ cs.take i → valueAt kvs (keyOf kd c) = none)
theorem KnownIs.nil {w : World} {o : Obj} {kd : Kd} {cs : List Nat} (h : o.IsDictOf (PySem.strKind PySem.Challenge.rw_ov0082_01.row.prog w) []) : KnownIs w o kd cs 0 :=
  ⟨[], h, Nat.le_refl _, fun c _ => ⟨fun h => by simp at h, fun _ => rfl⟩⟩
theorem valueAt_append {kvs : List (Str × Value)} {k x : Str} {v : Value} (h : valueAt kvs k = none) : valueAt (kvs ++ [(k, v)]) x = if x = k then some v else valueAt kvs x := by
  unfold valueAt at h ⊢
  rw [List.find?_append]
  by_cases e : x = k
  · subst e
    rw [if_pos rfl]
    have : kvs.find? (fun kv => decide (kv.1 = x)) = none := by simpa using h
    rw [this]; simp
  · rw [if_neg e]
    have : decide (k = x) = false := by simpa using fun q : k = x => e q.symm
    cases hf : kvs.find? (fun kv => decide (kv.1 = x)) with
    | some p => simp
    | none => simp [List.find?_cons, this]
section
variable {w : World} {A : Around} {E : Value → Shared → Prop} {s : Shared} {h₀ : Heap} {L d : Addr} {m : Str → Option Value} {news : List (Addr × Obj)} {g : Obj → List (Addr × Obj)} {o : Obj} {kd : Kd} {cs : List Nat} {i c : Nat} {t u : Tok}
theorem setdef_known {Q : Value → Shared → Prop} (F : Fr h₀ L s.heap m) (N : News h₀ L s.heap news) (U : UpdF d o news g) (lo : (d == sysModules) = false) (hK : KnownIs w o kd cs i) (hi : cs[i]? = some c) (hc : c < 5) (hkd : kd.listed = false) (hz : i ≤ 1000)
    (h : ∀ h' o' t', Fr h₀ L h' m → News h₀ L h' (g o') → KnownIs w o' kd cs (i + 1) → Q (.int (cs.idxOf c : Nat) t') { s with heap := h', toks := s.toks + 1 }) :
    wpAny (model PySem.Challenge.rw_ov0082_01.row.prog w) A (call (.builtin "dict.setdefault") [.ref d, .str (keyOf kd c) u, .int (i : Int) t]) Q E s := by
  obtain ⟨kvs, hd, hl, hv⟩ := hK
  have htk : cs.take (i + 1) = cs.take i ++ [c] := by rw [List.take_add_one, hi]; rfl
  by_cases hm : c ∈ cs.take i
  · obtain ⟨t', ht'⟩ := (hv c hc).1 hm
    have ⟨pre, post, e, hg, a, b⟩ := U.split
    refine kob_setdef_there (knd := PySem.strKind _ _) N (by rw [e]; exact List.mem_append_right _ (.head _)) hd lo (strKind_is _ _ _ _) (PySem.F.args_dict_setdefault_3 _ _ _) ht' (by rw [sizeLine_eq]; omega) ?_
    refine h s.heap o t' F (by rw [hg o, ← e]; exact N) ⟨kvs, hd, by omega, fun b hb => ?_⟩
    have hbt : b ∈ cs.take (i + 1) ↔ b ∈ cs.take i := by
      rw [htk, List.mem_append, List.mem_singleton]
      exact ⟨fun x => x.elim id fun x => x ▸ hm, .inl⟩
    rw [hbt]; exact hv b hb
  · have hn := (hv c hc).2 hm
    refine kob_setdef_new (knd := PySem.strKind _ _) F N U hd lo (strKind_is _ _ _ _) (PySem.F.args_dict_setdefault_3 _ _ _) hn (by rw [sizeLine_eq]; omega) fun h' o' F' N' hd' => ?_
    rw [idxOf_at hi hm] at h
    refine h h' o' t F' N' ⟨_, hd', ?_, fun b hb => ?_⟩
    · have : stored kvs (keyOf kd c) (.int (i : Int) t) = kvs ++ [(keyOf kd c, .int (i : Int) t)] := by
        unfold stored
        rw [if_neg]
        rw [← valueAt_isSome_eq_any, hn]; simp
      rw [this, List.length_append]; simp; omega
    · have e : stored kvs (keyOf kd c) (.int (i : Int) t) = kvs ++ [(keyOf kd c, .int (i : Int) t)] := by
        unfold stored
        rw [if_neg]
        rw [← valueAt_isSome_eq_any, hn]; simp
      rw [e, valueAt_append hn, htk, List.mem_append, List.mem_singleton]
      by_cases hbc : b = c
      · subst hbc
        rw [if_pos rfl, idxOf_at hi hm]
        exact ⟨fun _ => ⟨_, rfl⟩, fun x => absurd (.inr rfl) x⟩
      · rw [if_neg (fun q => hbc (keyOf_inj hkd b hb c hc q))]
        have : (b ∈ cs.take i ∨ b = c) ↔ b ∈ cs.take i := ⟨fun x => x.elim id fun x => absurd x hbc, .inl⟩
        rw [this]; exact hv b hb
theorem get_known {Q : Value → Shared → Prop} (N : News h₀ L s.heap news) (hp : (d, o) ∈ news) (lo : (d == sysModules) = false) (hK : KnownIs w o kd cs cs.length) (hc : c < 5) (h : ∀ r, optV (plc cs c) r → Q r { s with toks := s.toks + 1 }) :
    wpAny (model PySem.Challenge.rw_ov0082_01.row.prog w) A (call (.builtin "dict.get") [.ref d, .str (keyOf kd c) u]) Q E s := by
  obtain ⟨kvs, hd, hl, hv⟩ := hK
  refine kdg_get1 (knd := PySem.strKind _ _) N hp hd lo (strKind_is _ _ _ _) _ rfl ?_
  refine h _ ?_
  rw [plc_eq]
  have := hv c hc
  rw [List.take_length] at this
  by_cases hm : c ∈ cs
  · rw [if_pos hm]
    obtain ⟨t', ht'⟩ := this.1 hm
    rw [ht']; exact ⟨_, rfl⟩
  · rw [if_neg hm, this.2 hm]; rfl
end
theorem nm1 {P : Prop} {h₀ h : Heap} {L a : Addr} {oa : Obj} {rest : List (Addr × Obj)} (_ : News h₀ L h ((a, oa) :: rest)) (k : ∀ a', a' = a → P) : P := k a rfl
theorem nm2 {P : Prop} {h₀ h : Heap} {L a b : Addr} {oa ob : Obj} {rest : List (Addr × Obj)} (_ : News h₀ L h ((a, oa) :: (b, ob) :: rest)) (k : ∀ a' b', a' = a → b' = b → P) : P := k a b rfl rfl
theorem nm3 {P : Prop} {h₀ h : Heap} {L a b c : Addr} {oa ob oc : Obj} {rest : List (Addr × Obj)} (_ : News h₀ L h ((a, oa) :: (b, ob) :: (c, oc) :: rest)) (k : ∀ a' b' c', a' = a → b' = b → c' = c → P) : P := k a b c rfl rfl rfl
--M{
local macro_rules | `(tactic| walk_at "newList") => `(tactic| row_wit1 (newList_K ?F ?N ?_))
local macro_rules | `(tactic| walk_at "eval Dict nil nil") => `(tactic| (k_here; k_dflt (refine' newDict_K ?k1 ?k2 (TopRead.nolimit (by k_asm)) ?_; (case k1 => k_asm); (case k2 => k_asm); k_whole); intro d' h' o' F' N' l1 lo' hs' fs' hi' fi'; (try k_sweep)))
--M}
section
variable {prog : Program} {w : World} {A : Around} {E : Value → Shared → Prop} {s : Shared} {h₀ : Heap} {L : Addr} {m : Str → Option Value} {news : List (Addr × Obj)}
theorem len_at {l : Addr} {vs : List Value} {k : Nat} {Q : Value → Shared → Prop} (N : News h₀ L s.heap news) (hm : (l, listOf vs.toArray k) ∈ news) (hz : vs.length ≤ 1000) (h : Q (.int (vs.length : Nat) (s.toks + 1)) { s with toks := s.toks + 1 + 1 }) :
    wpAny (model prog w) A (call (.builtin "len") [.ref l]) Q E s :=
  len_list (News.isList N hm) (by simp only [List.size_toArray]; omega) (by simpa using h)
end
--M{
local macro_rules | `(tactic| walk_at "call builtin:len") => `(tactic| f_two (call (Value.builtin "len") [Value.ref _]), (len_at ?N ?m ?z ?_))
local macro_rules | `(tactic| walk_at "call type:range") => `(tactic| (k_here; (with_reducible show wpAny _ _ (call (Value.type "range") [Value.int _ _]) _ _ _); k_dflt (refine' range1_rows ?F ?N ?_; (case F => k_asm); (case N => k_asm)); intro h' tk' t' u' v' rg' F' N' kp'; clear kp'; (try k_sweep)))
--M}

theorem fps_length (cs : List Nat) (n : Nat) : (fps cs n).length = n := by simp [fps]
theorem kpt_length (cs : List Nat) (n : Nat) : (kpt cs n).length ≤ n := by
  have := List.length_filter_le (fun i => cs.idxOf (cs.getD i 0) == i) (List.range n)
  simpa [kpt] using this
theorem PlacesAre.nil : PlacesAre [] [] := ⟨rfl, fun i q h => by simp at h⟩
theorem PlacesAre.snoc {vs : List Value} {ps : List Nat} {q : Nat} {t : Tok} (h : PlacesAre vs ps) : PlacesAre (vs ++ [.int (q : Int) t]) (ps ++ [q]) := by
  refine ⟨by simp [h.1], fun i r e => ?_⟩
  by_cases hi : i < ps.length
  · rw [List.getElem?_append_left hi] at e
    obtain ⟨t', ht⟩ := h.2 i r e
    exact ⟨t', by rw [List.getElem?_append_left (by rw [h.1]; exact hi)]; exact ht⟩
  · rw [List.getElem?_append_right (Nat.not_lt.mp hi)] at e
    have h0 : i - ps.length = 0 := by
      cases z : i - ps.length with
      | zero => rfl
      | succ n => rw [z] at e; simp at e
    rw [h0] at e
    obtain rfl : q = r := by simpa using e
    exact ⟨t, by rw [List.getElem?_append_right (by rw [h.1]; exact Nat.not_lt.mp hi), h.1, h0]; rfl⟩
theorem optV_cases {o : Option Nat} {r : Value} (h : optV o r) : (o = none ∧ r = .none) ∨ ∃ q t, o = some q ∧ r = .int (q : Int) t := by
  cases o with
  | none => exact .inl ⟨rfl, h⟩
  | some q => obtain ⟨t, e⟩ := h; exact .inr ⟨q, t, rfl, e⟩
def ListNew (news : List (Addr × Obj)) (us : List Value → Prop) (tl : List (Addr × Obj)) (r : Value) : Prop := ∃ l vs k, tl = [(l, listOf vs.toArray k)] ∧ (∀ q ∈ news, q.1 < l) ∧ vs.length ≤ 1000 ∧ us vs ∧ r = .ref l
--M{
local macro_rules | `(tactic| walk_at "call ref") => `(tactic| (row_wit2 550 list_place_spec; (rename _ => q9); k_dflt (obtain ⟨e9, e9'⟩ := q9; subst e9); k_caughtNB))
--M}
section
variable {w : World} {p : Program} {loose : List Str} {mean : ExcName → Option Value} {mg mb : Str → Option Value} {news : List (Addr × Obj)}
theorem first_places_lst {x l : Addr} {vs : List Value} {cs : List Nat} {k : Nat} (hv : VecAt news x (Kd.str .lst) l) (hl : (l, listOf vs.toArray k) ∈ news) (hI : Items news .lst vs cs) (hz : vs.length ≤ 1000) :
    Ctr w p loose mean mg mb 557 10 news [.ref x] (ListNew news fun us => PlacesAre us (fps cs cs.length)) := by
  unfold Ctr
  (w_top off; k_fill)
  intro dp un gd cn cs' a ccd cl outer A₀ base h₀ L m s Q E B F X N T hk hd hu hret
  obtain ⟨dx, od, hx, hdx, hod⟩ := hv
  cases hod
  refine wpAny_call ?_
  k_dflt k_enter
  k_steps
  rename Fr _ _ _ _ => F1
  rename News _ _ _ _ => N1
  rename IsRange _ _ _ _ _ _ _ _ => R1
  refine nm2 N1 fun found kept e1 e2 => ?_
  subst e1 e2
  have hk1 : ∀ p ∈ news, p.1 < kept := by ktn_lt
  have hk2 : @LT.lt Nat _ kept found := by ktn_lt
  have hk3 : ∀ p ∈ news, p.1 < found := lt_up hk1 hk2
  refine loop_rangeL (σ := (List Value × Nat) × (List Value × Nat)) vs.length (cst := news) (fun c => [(found, listOf c.1.1.toArray c.1.2), (kept, listOf c.2.1.toArray c.2.2)]) (fun _ => []) [Str.ofString "first"]
    (fun i c => PlacesAre c.1.1 (fps cs i) ∧ PlacesAre c.2.1 (kpt cs i)) (([], 0), ([], 0)) (by rfl) R1 rfl (by omega) F1 N1 (fun p h => h) ⟨PlacesAre.nil, PlacesAre.nil⟩ (by kst_all) ?_ ?_
  · rintro i t ⟨⟨fv, fn⟩, ⟨kv, kn⟩⟩ h tk I oI u hi ⟨hf, hk⟩ hne F2 N2
    clear F1 N1 R1
    dsimp only at hf hk hne N2
    dsimp only [kstB] at F2
    simp only [List.cons_append, List.nil_append] at N2 hne
    have hI1 : @Ne Nat found I := hne _ memHead
    have hI2 : @Ne Nat kept I := hne _ (memTail memHead)
    have hic : i < cs.length := by rw [← hI.1]; exact hi
    obtain ⟨v2, hv2, hit⟩ := hI.get hic
    have hfl : fv.length ≤ 1000 := by rw [hf.1, fps_length]; omega
    have hkl : kv.length ≤ 1000 := by rw [hk.1]; exact Nat.le_trans (kpt_length cs i) (by omega)
    have hlt : ∀ q ∈ kpt cs i, q < cs.length := fun q hq => Nat.lt_trans (kpt_lt hq) hic
    k_steps
    rename optV _ _ => ho
    have hc : cs[i]? = some (cs.getD i 0) := by simp [List.getD, hic]
    rw [kpt_find hc] at ho
    rcases optV_cases ho with ⟨eo, e⟩ | ⟨q, tq, eo, e⟩
    · subst e
      have hid : cs.idxOf (cs.getD i 0) = i := by
        have h1 : ¬ cs.idxOf (cs.getD i 0) < i := by intro hh; rw [if_pos hh] at eo; cases eo
        by_cases hm : cs.getD i 0 ∈ cs.take i
        · exact absurd (idxOf_lt hm) h1
        · exact idxOf_at hc hm
      k_steps
      rename News _ _ _ _ => N3
      try simp only [List.push_toArray] at N3
      refine LEnd.next ((fv ++ [_], _), (kv ++ [_], _)) (by k_asm) N3 (by kqd_sub) (by simpa using hne) ⟨?_, ?_⟩ (by kst_all) (by kst_same)
      · rw [fps_succ, hid]; exact hf.snoc
      · rw [kpt_succ, if_pos hid]; exact hk.snoc
    · subst e
      have hlt' : cs.idxOf (cs.getD i 0) < i ∧ q = cs.idxOf (cs.getD i 0) := by
        by_cases hh : cs.idxOf (cs.getD i 0) < i
        · rw [if_pos hh] at eo; exact ⟨hh, (Option.some.inj eo).symm⟩
        · rw [if_neg hh] at eo; cases eo
      k_steps
      rename News _ _ _ _ => N3
      try simp only [List.push_toArray] at N3
      refine LEnd.next ((fv ++ [_], _), (kv, kn)) (by k_asm) N3 (by kqd_sub) (by simpa using hne) ⟨?_, ?_⟩ (by kst_all) (by kst_same)
      · rw [fps_succ, ← hlt'.2]; exact hf.snoc
      · rw [kpt_succ, if_neg (by omega), List.append_nil]; exact hk
  · rintro ⟨⟨fv, fn⟩, ⟨kv, kn⟩⟩ h tk u ⟨hf, hk⟩ F2 N2
    clear F1 N1 R1
    dsimp only at hf hk N2
    dsimp only [kstB] at F2
    simp only [List.cons_append, List.nil_append] at N2
    k_steps
    refine hret _ [_] _ _ (by k_asm) (news_sub (by k_asm) (by kqd_sub)) ⟨_, _, _, rfl, by ktn_lt, by rw [hf.1, fps_length]; exact hz, ?_, rfl⟩
    rw [← hI.1]; exact hf
end
--M{
local macro_rules | `(tactic| walk_at "call ref") => `(tactic| (row_wit2 536 item_key_spec; (rename _ => q9); k_dflt (obtain ⟨e9, u9, e9'⟩ := q9; subst e9; subst e9'); k_caughtNB))
--M}
section
variable {w : World} {A : Around} {E : Value → Shared → Prop} {s : Shared} {h₀ : Heap} {L d : Addr} {news : List (Addr × Obj)} {o : Obj} {kd : Kd} {cs : List Nat} {i : Nat}
theorem known_method {name : Str} {id : String} {pl : Sem Bool} {Q : Value × List Value → Shared → Prop} (slot : Slot "dict" name id) (ty : typeOf (.builtin id) = pure (.type "method_descriptor")) (N : News h₀ L s.heap news) (hp : (d, o) ∈ news) (hK : KnownIs w o kd cs i) (h : Q (.builtin id, [.ref d]) s) :
    wpAny (model PySem.Challenge.rw_ov0082_01.row.prog w) A (getMethod (.ref d) name pl) Q E s := by
  obtain ⟨kvs, hd, _⟩ := hK
  exact kob_method (knd := PySem.strKind _ _) slot ty N hp hd h
end
theorem ItemIn.lt5 {news : List (Addr × Obj)} {kd : Kd} {v : Value} {c : Nat} (h : ItemIn news kd v c) : c < 5 := Nat.lt_of_lt_of_le h.1 (by cases kd <;> decide)
--M{
local macro_rules | `(tactic| walk_at "getMethod ref") => `(tactic| f_two (getMethod (Value.ref _) (PySem.Str.ofString "setdefault") _), (known_method PySem.F.slot_dict_setdefault PySem.F.type_dict_setdefault ?N ?m ?K ?_))
local macro_rules | `(tactic| walk_at "getMethod ref") => `(tactic| f_two (getMethod (Value.ref _) (PySem.Str.ofString "get") _), (known_method PySem.F.slot_dict_get PySem.F.type_dict_get ?N ?m ?K ?_))
local macro_rules | `(tactic| walk_at "call builtin:dict.setdefault") => `(tactic| (k_here; k_dflt (refine' setdef_known ?F ?N ?U ?lo ?K ?hi ?hc ?hkd ?hz ?_; (case F => k_asm); (case N => k_asm); (case K => assumption); (case hi => assumption); (case hc => assumption); (case U => k_updF); (case lo => assumption); (case hkd => assumption); (case hz => omega)); intro h' o' t' F' N' K'; (try dsimp only at N'); (try k_sweep)))
--M}

section
variable {w : World} {p : Program} {loose : List Str} {mean : ExcName → Option Value} {mg mb : Str → Option Value} {news : List (Addr × Obj)}
theorem first_places_tab {x l : Addr} {kd : Kd} {vs : List Value} {cs : List Nat} {k : Nat} (hkd : kd.listed = false) (hv : VecAt news x kd.str l) (hl : (l, listOf vs.toArray k) ∈ news) (hI : Items news kd vs cs) (hz : vs.length ≤ 1000) :
    Ctr w p loose mean mg mb 557 10 news [.ref x] (ListNew news fun us => PlacesAre us (fps cs cs.length)) := by
  unfold Ctr
  (w_top off; k_fill)
  intro dp un gd cn cs' a ccd cl outer A₀ base h₀ L m s Q E B F X N T hk hd hu hret
  obtain ⟨dx, od, hx, hdx, hod⟩ := hv
  cases hod
  refine wpAny_call ?_
  k_dflt k_enter
  k_steps
  rename Fr _ _ _ _ => F1
  rename News _ _ _ _ => N1
  rename IsRange _ _ _ _ _ _ _ _ => R1
  rename Obj.IsDictOf (PySem.strKind _ _) _ _ => D1
  refine nm2 N1 fun found known e1 e2 => ?_
  subst e1 e2
  have hk1 : ∀ p ∈ news, p.1 < known := by ktn_lt
  have hk2 : @LT.lt Nat _ known found := by ktn_lt
  have hk3 : ∀ p ∈ news, p.1 < found := lt_up hk1 hk2
  refine loop_rangeL (σ := (List Value × Nat) × Obj) vs.length (cst := news) (fun c => [(found, listOf c.1.1.toArray c.1.2), (known, c.2)]) (fun _ => []) []
    (fun i c => PlacesAre c.1.1 (fps cs i) ∧ KnownIs w c.2 kd cs i) (([], 0), _) (by rfl) R1 rfl (by omega) F1 N1 (fun p h => h) ⟨PlacesAre.nil, KnownIs.nil D1⟩ (by kst_all) ?_ ?_
  · rintro i t ⟨⟨fv, fn⟩, o⟩ h tk I oI u hi ⟨hf, hK⟩ hne F2 N2
    clear F1 N1 R1
    dsimp only at hf hK hne N2
    dsimp only [kstB] at F2
    simp only [List.cons_append, List.nil_append] at N2 hne
    have hI1 : @Ne Nat found I := hne _ memHead
    have hI2 : @Ne Nat known I := hne _ (memTail memHead)
    have hic : i < cs.length := by rw [← hI.1]; exact hi
    obtain ⟨v2, hv2, hit⟩ := hI.get hic
    have hfl : fv.length ≤ 1000 := by rw [hf.1, fps_length]; omega
    have hc : cs[i]? = some (cs.getD i 0) := by simp [List.getD, hic]
    have hc5 := hit.lt5
    k_steps
    rename News _ _ _ _ => N3
    try simp only [List.push_toArray] at N3
    refine LEnd.next ((fv ++ [_], _), _) (by k_asm) N3 (by kqd_sub) (by simpa using hne) ⟨?_, by assumption⟩ (by kst_all) (by kst_same)
    rw [fps_succ]; exact hf.snoc
  · rintro ⟨⟨fv, fn⟩, o⟩ h tk u ⟨hf, hK⟩ F2 N2
    clear F1 N1 R1
    dsimp only at hf N2
    dsimp only [kstB] at F2
    simp only [List.cons_append, List.nil_append] at N2
    k_steps
    refine hret _ [_] _ _ (by k_asm) (news_sub (by k_asm) (by kqd_sub)) ⟨_, _, _, rfl, by ktn_lt, by rw [hf.1, fps_length]; exact hz, ?_, rfl⟩
    rw [← hI.1]; exact hf
end

section
open LCg LCt
variable {prog : Program} {w : World} {A : Around} {s : Shared} {h₀ : Heap} {L : Addr} {m : Str → Option Value} {env : Env}
/-- the end of an element: the frame and the ledger stand, J says of the value -/
def CEnd (h₀ : Heap) (L : Addr) (m : Str → Option Value) (s₁ : Shared) (led : List (Addr × Obj)) (J : Value → Prop) (y : Value) (s₂ : Shared) : Prop :=
  ∃ h' tk, s₂ = { s₁ with heap := h', toks := tk } ∧ Fr h₀ L h' m ∧ News h₀ L h' led ∧ J y
theorem CEnd.intro {s₁ : Shared} {led all : List (Addr × Obj)} {J : Value → Prop} {y : Value} {h' : Heap} {tk : Nat} (F : Fr h₀ L h' m) (N : News h₀ L h' all) (hs : ∀ p ∈ led, p ∈ all) (j : J y) :
    CEnd h₀ L m s₁ led J y { s₁ with heap := h', toks := tk } := ⟨h', tk, rfl, F, news_sub N hs, j⟩
def CGoal (prog : Program) (w : World) (A : Around) (h₀ : Heap) (L : Addr) (m : Str → Option Value) (env : Env) (elt : PySem.Expr) (x : Str) (scope : Scope) (cl : List (Str × Addr)) (Fin : Shared → List Value → List (Addr × Obj) → Prop) (xv : Value) (s₁ : Shared) : Prop := CompSrc prog w A h₀ L m env elt x scope cl Fin xv s₁
def CGoalT (prog : Program) (w : World) (A : Around) (h₀ : Heap) (L : Addr) (m : Str → Option Value) (env : Env) (ct elt : PySem.Expr) (x : Str) (scope : Scope) (cl : List (Str × Addr)) (Fin : Shared → List Value → List (Addr × Obj) → Prop) (xv : Value) (s₁ : Shared) : Prop := CompSrcT prog w A h₀ L m env ct elt x scope cl Fin xv s₁
theorem LC_U {E : Value → Shared → Prop} {elt iter : PySem.Expr} {x : Str} {px : Pos} {scope : Scope} {cl : List (Str × Addr)} {pos : Pos} {Q : Value → Shared → Prop} (F₀ : Fr h₀ L s.heap m)
    (hclos : closureFor scope env = pure cl) (hcell : ∀ y ∈ scope.names, y.2 ≠ .cell) (hkind : scope.kind = .function)
    (hnames : ∀ y ∈ scope.names, y.2 = .local → scope.names.lookup y.1 = some .local) (hx : scope.names.lookup x = some .local)
    (h : wpAny (model prog w) A (eval iter env) (CGoal prog w A h₀ L m env elt x scope cl (fun s₂ => FinE h₀ L m s₂ Q)) E s)
    (hs : ∀ x, foldedSetIterable iter env x = pure x := by intro _; rfl) :
    wpAny (model prog w) A (eval (.ListComp elt [⟨.Name x px, iter, [], 0⟩] scope pos) env) Q E s := ListComp_U F₀ hclos hcell hkind hnames hx h hs
theorem LC_T {E : Value → Shared → Prop} {ct elt iter : PySem.Expr} {x : Str} {px : Pos} {scope : Scope} {cl : List (Str × Addr)} {pos : Pos} {Q : Value → Shared → Prop} (F₀ : Fr h₀ L s.heap m)
    (hclos : closureFor scope env = pure cl) (hcell : ∀ y ∈ scope.names, y.2 ≠ .cell) (hkind : scope.kind = .function)
    (hnames : ∀ y ∈ scope.names, y.2 = .local → scope.names.lookup y.1 = some .local) (hx : scope.names.lookup x = some .local)
    (h : wpAny (model prog w) A (eval iter env) (CGoalT prog w A h₀ L m env ct elt x scope cl (fun s₂ => FinE h₀ L m s₂ Q)) E s)
    (hs : ∀ x, foldedSetIterable iter env x = pure x := by intro _; rfl) :
    wpAny (model prog w) A (eval (.ListComp elt [⟨.Name x px, iter, [ct], 0⟩] scope pos) env) Q E s := ListComp_T F₀ hclos hcell hkind hnames hx h hs
theorem LC_AU {E : Value → Shared → Prop} {elt iter : PySem.Expr} {x y : Str} {px py : Pos} {scope : Scope} {cl : List (Str × Addr)} {pos spos : Pos} {Q : Flow → Shared → Prop} (F₀ : Fr h₀ L s.heap m) (hLe : env.locals = L)
    (hsw : swapsWith (.ListComp elt [⟨.Name x px, iter, [], 0⟩] scope pos) (some (.Name y py)) spos.line env = pure true)
    (hclos : closureFor scope env = pure cl) (hcell : ∀ z ∈ scope.names, z.2 ≠ .cell) (hkind : scope.kind = .function)
    (hnames : ∀ z ∈ scope.names, z.2 = .local → scope.names.lookup z.1 = some .local) (hx : scope.names.lookup x = some .local)
    (hy : env.kindOf y = some .local) (hp : (env.scope.kind == .class || (env.scope.kind == .module && env.locals != env.globals)) = false)
    (h : wpAny (model prog w) A (eval iter env) (CGoal prog w A h₀ L m env elt x scope cl (fun s₂ => FinA h₀ L m s₂ y Q)) E s)
    (hs : ∀ x, foldedSetIterable iter env x = pure x := by intro _; rfl) :
    wpAny (model prog w) A (exec (.Assign [.Name y py] (.ListComp elt [⟨.Name x px, iter, [], 0⟩] scope pos) spos) env) Q E s := Assign_ListComp_U F₀ hLe hsw hclos hcell hkind hnames hx hy hp h hs
theorem LC_AT {E : Value → Shared → Prop} {ct elt iter : PySem.Expr} {x y : Str} {px py : Pos} {scope : Scope} {cl : List (Str × Addr)} {pos spos : Pos} {Q : Flow → Shared → Prop} (F₀ : Fr h₀ L s.heap m) (hLe : env.locals = L)
    (hsw : swapsWith (.ListComp elt [⟨.Name x px, iter, [ct], 0⟩] scope pos) (some (.Name y py)) spos.line env = pure true)
    (hclos : closureFor scope env = pure cl) (hcell : ∀ z ∈ scope.names, z.2 ≠ .cell) (hkind : scope.kind = .function)
    (hnames : ∀ z ∈ scope.names, z.2 = .local → scope.names.lookup z.1 = some .local) (hx : scope.names.lookup x = some .local)
    (hy : env.kindOf y = some .local) (hp : (env.scope.kind == .class || (env.scope.kind == .module && env.locals != env.globals)) = false)
    (h : wpAny (model prog w) A (eval iter env) (CGoalT prog w A h₀ L m env ct elt x scope cl (fun s₂ => FinA h₀ L m s₂ y Q)) E s)
    (hs : ∀ x, foldedSetIterable iter env x = pure x := by intro _; rfl) :
    wpAny (model prog w) A (exec (.Assign [.Name y py] (.ListComp elt [⟨.Name x px, iter, [ct], 0⟩] scope pos) spos) env) Q E s := Assign_ListComp_T F₀ hLe hsw hclos hcell hkind hnames hx hy hp h hs
theorem Off1.ne {D : Addr} : ∀ {l : List (Addr × Obj)}, Off1 D l → ∀ p ∈ l, p.1 ≠ D
  | [], _, _, h => nomatch h
  | _ :: _, x, p, h => by
    rcases List.mem_cons.mp h with rfl | h
    · exact x.1
    · exact Off1.ne x.2 p h

theorem comp_rangeC {elt : PySem.Expr} {x : Str} {scope : Scope} {cl : List (Str × Addr)} {Fin : Shared → List Value → List (Addr × Obj) → Prop} {r : Addr} {b : Int} {t u v : Tok} (n : Nat) {news : List (Addr × Obj)} {s₁ : Shared}
    (J : Nat → List Value → Prop) (hh : A.handled = none) (F : Fr h₀ L s₁.heap m) (N : News h₀ L s₁.heap news) (hr : IsRange s₁.heap r 0 b 1 t u v) (hb : b = (n : Int)) (hz : n ≤ 1000) (h0 : J 0 [])
    (turn : ∀ i ys, i < n → J i ys → ∀ t I oI C oC D m₂ h tk (E' : Value → Shared → Prop), NsObj oC m₂ → m₂ x = some (.int (i : Int) t) → Fr h₀ L h m → News h₀ L h ((I, oI) :: (C, oC) :: (D, lst ys) :: news) → 
      wpAny (model prog w) A (eval elt (compEnvC scope cl C env)) (CEnd h₀ L m { s₁ with heap := h, toks := tk } ((I, oI) :: (C, oC) :: (D, lst ys) :: news) (fun y => J (i + 1) (ys ++ [y]))) E' { s₁ with heap := h, toks := tk })
    (done : ∀ g ys, J n ys → Fin { s₁ with heap := g } ys news) : CGoal prog w A h₀ L m env elt x scope cl Fin (.ref r) s₁ := by
  subst hb
  have hsm : Builtin.Range.small 0 (n : Int) 1 = true := small_one (by decide) (by decide) (by omega) (by omega)
  have hsz : Builtin.Range.rangeSize 0 (n : Int) 1 = (n : Int) := by rw [rangeSize_one]; split <;> omega
  refine CompSrc.range hh F N hr hsm hsz (by rw [sizeLine_eq]; omega) fun g => ?_
  refine comp_inv (fun i ys nw => nw = news ∧ J i ys) ⟨rfl, h0⟩ ?_ ?_
  · rintro i ys nw hi ⟨rfl, hj⟩ v I oI C oC D m₂ h tk E' ⟨t, rfl⟩ hN hx F' N' off ne
    rw [Int.zero_add] at hx
    refine wpAny_mono (turn i ys hi hj t I oI C oC D m₂ h tk E' hN hx F' N') (fun y s₂ q => ?_) fun _ _ e => e
    obtain ⟨h', tk', rfl, F2, N2, j⟩ := q
    exact ⟨h', tk', nw, rfl, F2, N2, off, trivial, rfl, j⟩
  · rintro ys nw ⟨rfl, hj⟩
    exact done g ys hj
theorem compT_rangeC {ct elt : PySem.Expr} {x : Str} {scope : Scope} {cl : List (Str × Addr)} {Fin : Shared → List Value → List (Addr × Obj) → Prop} {r : Addr} {b : Int} {t u v : Tok} (n : Nat) {news : List (Addr × Obj)} {s₁ : Shared}
    (J : Nat → List Value → Prop) (hh : A.handled = none) (F : Fr h₀ L s₁.heap m) (N : News h₀ L s₁.heap news) (hr : IsRange s₁.heap r 0 b 1 t u v) (hb : b = (n : Int)) (hz : n ≤ 1000) (h0 : J 0 [])
    (turn : ∀ i ys, i < n → J i ys → ∀ t I oI C oC D m₂ h tk (E' : Value → Shared → Prop), NsObj oC m₂ → m₂ x = some (.int (i : Int) t) → Fr h₀ L h m → News h₀ L h ((I, oI) :: (C, oC) :: (D, lst ys) :: news) → 
      wpAny (model prog w) A (isTrue ct (compEnvC scope cl C env) (eval ct (compEnvC scope cl C env))) (fun ok s' => if ok = true then
        wpAny (model prog w) A (eval elt (compEnvC scope cl C env)) (CEnd h₀ L m { s₁ with heap := h, toks := tk } ((I, oI) :: (C, oC) :: (D, lst ys) :: news) (fun y => J (i + 1) (ys ++ [y]))) E' s'
        else CEnd h₀ L m { s₁ with heap := h, toks := tk } ((I, oI) :: (C, oC) :: (D, lst ys) :: news) (fun _ => J (i + 1) ys) Value.none s') E' { s₁ with heap := h, toks := tk })
    (done : ∀ g ys, J n ys → Fin { s₁ with heap := g } ys news) : CGoalT prog w A h₀ L m env ct elt x scope cl Fin (.ref r) s₁ := by
  subst hb
  have hsm : Builtin.Range.small 0 (n : Int) 1 = true := small_one (by decide) (by decide) (by omega) (by omega)
  have hsz : Builtin.Range.rangeSize 0 (n : Int) 1 = (n : Int) := by rw [rangeSize_one]; split <;> omega
  refine CompSrcT.range hh F N hr hsm hsz (by rw [sizeLine_eq]; omega) fun g => ?_
  refine compT_inv (fun i ys nw => nw = news ∧ J i ys) ⟨rfl, h0⟩ ?_ ?_
  · rintro i ys nw hi ⟨rfl, hj⟩ v I oI C oC D m₂ h tk E' ⟨t, rfl⟩ hN hx F' N' off ne
    rw [Int.zero_add] at hx
    refine wpAny_mono (turn i ys hi hj t I oI C oC D m₂ h tk E' hN hx F' N') (fun ok s₂ q => ?_) fun _ _ e => e
    cases ok with
    | true =>
      simp only [if_true] at q ⊢
      refine wpAny_mono q (fun y s₂ q => ?_) fun _ _ e => e
      obtain ⟨h', tk', rfl, F2, N2, j⟩ := q
      exact ⟨h', tk', nw, rfl, F2, N2, off, trivial, rfl, j⟩
    | false =>
      simp only [Bool.false_eq_true, if_false] at q ⊢
      obtain ⟨h', tk', rfl, F2, N2, j⟩ := q
      exact ⟨h', tk', nw, rfl, F2, N2, off, trivial, rfl, j⟩
  · rintro ys nw ⟨rfl, hj⟩
    exact done g ys hj
theorem comp_listC {elt : PySem.Expr} {x : Str} {scope : Scope} {cl : List (Str × Addr)} {Fin : Shared → List Value → List (Addr × Obj) → Prop} {l : Addr} {vs : List Value} {k : Nat} {news : List (Addr × Obj)} {s₁ : Shared}
    (J : Nat → List Value → Prop) (hh : A.handled = none) (F : Fr h₀ L s₁.heap m) (N : News h₀ L s₁.heap news) (hl : (l, listOf vs.toArray k) ∈ news) (hz : vs.length ≤ 1000) (h0 : J 0 [])
    (turn : ∀ i v ys, vs[i]? = some v → J i ys → ∀ I oI C oC D m₂ h tk (E' : Value → Shared → Prop), NsObj oC m₂ → m₂ x = some v → Fr h₀ L h m → News h₀ L h ((I, oI) :: (C, oC) :: (D, lst ys) :: news) → 
      wpAny (model prog w) A (eval elt (compEnvC scope cl C env)) (CEnd h₀ L m { s₁ with heap := h, toks := tk } ((I, oI) :: (C, oC) :: (D, lst ys) :: news) (fun y => J (i + 1) (ys ++ [y]))) E' { s₁ with heap := h, toks := tk })
    (done : ∀ g ys, J vs.length ys → Fin { s₁ with heap := g } ys news) : CGoal prog w A h₀ L m env elt x scope cl Fin (.ref l) s₁ := by
  refine CompSrc.ledger hh F N hl (by rw [List.size_toArray, sizeLine_eq]; omega) fun g => ?_
  have e : vs.toArray.size = vs.length := by simp
  rw [e]
  refine comp_inv (fun i ys nw => nw = news ∧ J i ys) ⟨rfl, h0⟩ ?_ ?_
  · rintro i ys nw hi ⟨rfl, hj⟩ v I oI C oC D m₂ h tk E' hP hN hx F' N' off ne
    refine wpAny_mono (turn i v ys (by simpa using hP) hj I oI C oC D m₂ h tk E' hN hx F' N') (fun y s₂ q => ?_) fun _ _ e => e
    obtain ⟨h', tk', rfl, F2, N2, j⟩ := q
    exact ⟨h', tk', nw, rfl, F2, N2, off, .inr ⟨_, hl, rfl, _, rfl⟩, rfl, j⟩
  · rintro ys nw ⟨rfl, hj⟩
    exact done g ys hj
theorem compT_listC {ct elt : PySem.Expr} {x : Str} {scope : Scope} {cl : List (Str × Addr)} {Fin : Shared → List Value → List (Addr × Obj) → Prop} {l : Addr} {vs : List Value} {k : Nat} {news : List (Addr × Obj)} {s₁ : Shared}
    (J : Nat → List Value → Prop) (hh : A.handled = none) (F : Fr h₀ L s₁.heap m) (N : News h₀ L s₁.heap news) (hl : (l, listOf vs.toArray k) ∈ news) (hz : vs.length ≤ 1000) (h0 : J 0 [])
    (turn : ∀ i v ys, vs[i]? = some v → J i ys → ∀ I oI C oC D m₂ h tk (E' : Value → Shared → Prop), NsObj oC m₂ → m₂ x = some v → Fr h₀ L h m → News h₀ L h ((I, oI) :: (C, oC) :: (D, lst ys) :: news) → 
      wpAny (model prog w) A (isTrue ct (compEnvC scope cl C env) (eval ct (compEnvC scope cl C env))) (fun ok s' => if ok = true then
        wpAny (model prog w) A (eval elt (compEnvC scope cl C env)) (CEnd h₀ L m { s₁ with heap := h, toks := tk } ((I, oI) :: (C, oC) :: (D, lst ys) :: news) (fun y => J (i + 1) (ys ++ [y]))) E' s'
        else CEnd h₀ L m { s₁ with heap := h, toks := tk } ((I, oI) :: (C, oC) :: (D, lst ys) :: news) (fun _ => J (i + 1) ys) Value.none s') E' { s₁ with heap := h, toks := tk })
    (done : ∀ g ys, J vs.length ys → Fin { s₁ with heap := g } ys news) : CGoalT prog w A h₀ L m env ct elt x scope cl Fin (.ref l) s₁ := by
  refine CompSrcT.ledger hh F N hl (by rw [List.size_toArray, sizeLine_eq]; omega) fun g => ?_
  have e : vs.toArray.size = vs.length := by simp
  rw [e]
  refine compT_inv (fun i ys nw => nw = news ∧ J i ys) ⟨rfl, h0⟩ ?_ ?_
  · rintro i ys nw hi ⟨rfl, hj⟩ v I oI C oC D m₂ h tk E' hP hN hx F' N' off ne
    refine wpAny_mono (turn i v ys (by simpa using hP) hj I oI C oC D m₂ h tk E' hN hx F' N') (fun ok s₂ q => ?_) fun _ _ e => e
    cases ok with
    | true =>
      simp only [if_true] at q ⊢
      refine wpAny_mono q (fun y s₂ q => ?_) fun _ _ e => e
      obtain ⟨h', tk', rfl, F2, N2, j⟩ := q
      exact ⟨h', tk', nw, rfl, F2, N2, off, .inr ⟨_, hl, rfl, _, rfl⟩, rfl, j⟩
    | false =>
      simp only [Bool.false_eq_true, if_false] at q ⊢
      obtain ⟨h', tk', rfl, F2, N2, j⟩ := q
      exact ⟨h', tk', nw, rfl, F2, N2, off, .inr ⟨_, hl, rfl, _, rfl⟩, rfl, j⟩
  · rintro ys nw ⟨rfl, hj⟩
    exact done g ys hj
end
theorem ne_sub {l l' : List (Addr × Obj)} {d : Addr} (h : ∀ p ∈ l, p.1 ≠ d) (hs : ∀ p ∈ l', p ∈ l) : ∀ p ∈ l', p.1 ≠ d := fun p hp => h p (hs p hp)
theorem ne_mem {l : List (Addr × Obj)} {a b : Addr} {o : Obj} (h : ∀ p ∈ l, p.1 ≠ b) (hm : (a, o) ∈ l) : @Ne Nat a b := h _ hm
theorem ne_mem' {l : List (Addr × Obj)} {a b : Addr} {o : Obj} (h : ∀ p ∈ l, p.1 ≠ b) (hm : (a, o) ∈ l) : @Ne Nat b a := fun e => h _ hm e.symm
--M{
local macro_rules | `(tactic| k_all) => `(tactic| first | (refine' allNe_lt (lt_up (all_sub ?a ?c) ?b); (case b => assumption); (case a => assumption); (case c => kqd_sub)) | fail)
local macro_rules | `(tactic| k_all) => `(tactic| first | (with_reducible assumption) | (refine' ne_sub ?a ?b; (case a => with_reducible assumption); (case b => kqd_sub)) | (refine' ne_sub (Off1.ne ?a) ?b; (case a => assumption); (case b => kqd_sub)) | (refine' allNe_lt (all_sub ?a ?b); (case a => assumption); (case b => kqd_sub)) | fail)
local macro_rules | `(tactic| k_ne) => `(tactic| first | (refine' neN (ne_mem ?a ?b); (case a => with_reducible assumption); (case b => k_mem)) | (refine' neN (ne_mem' ?a ?b); (case a => with_reducible assumption); (case b => k_mem)) | (refine' neN (ne_mem (Off1.ne ?a) ?b); (case a => assumption); (case b => k_mem)) | (refine' neN (ne_mem' (Off1.ne ?a) ?b); (case a => assumption); (case b => k_mem)) | fail)
--M}
--M{
local macro_rules | `(tactic| walk_at "eval ListComp") => `(tactic| (k_here; first
  | (lct_look; k_dflt (refine LC_T (F₀ := by k_asm) (by with_unfolding_all rfl) (by decide) (by rfl) (by decide) (by rfl) ?_))
  | ((fail_if_success lct_look); k_dflt (refine LC_U (F₀ := by k_asm) (by with_unfolding_all rfl) (by decide) (by rfl) (by decide) (by rfl) ?_))))
local macro_rules | `(tactic| walk_at "exec Assign cons ListComp") => `(tactic| (k_here; first
  | (lct_look; k_dflt (refine LC_AT (F₀ := by k_asm) (by rfl) (by with_unfolding_all rfl) (by with_unfolding_all rfl) (by decide) (by rfl) (by decide) (by rfl) (by rfl) (by rfl) ?_))
  | ((fail_if_success lct_look); k_dflt (refine LC_AU (F₀ := by k_asm) (by rfl) (by with_unfolding_all rfl) (by with_unfolding_all rfl) (by decide) (by rfl) (by decide) (by rfl) (by rfl) (by rfl) ?_))))
--M}
section
variable {w : World} {p : Program} {loose : List Str} {mean : ExcName → Option Value} {mg mb : Str → Option Value} {news : List (Addr × Obj)}
theorem first_places_spec {x l : Addr} {kd : Kd} {vs : List Value} {cs : List Nat} {k : Nat} (hv : VecAt news x kd.str l) (hl : (l, listOf vs.toArray k) ∈ news) (hI : Items news kd vs cs) (hz : vs.length ≤ 1000) :
    Ctr w p loose mean mg mb 557 10 news [.ref x] (ListNew news fun us => PlacesAre us (fps cs cs.length)) := by
  cases kd with
  | lst => exact first_places_lst hv hl hI hz
  | int => exact first_places_tab rfl hv hl hI hz
  | dbl => exact first_places_tab rfl hv hl hI hz
  | chr => exact first_places_tab rfl hv hl hI hz
end
--M{
local macro_rules | `(tactic| walk_at "call ref") => `(tactic| (row_wit2 557 first_places_spec; (rename _ => q9); k_dflt (obtain ⟨l9, us9, k9, e9, m9, z9, h9, e9'⟩ := q9; subst e9; subst e9'); k_caughtNB))
--M}
section
variable {w : World} {p : Program} {loose : List Str} {mean : ExcName → Option Value} {mg mb : Str → Option Value} {news : List (Addr × Obj)}
/-- a new list of ints -/
def PlacesNew (news : List (Addr × Obj)) (ps : List Nat) (tl : List (Addr × Obj)) (r : Value) : Prop := ∃ l vs k, tl = [(l, listOf vs.toArray k)] ∧ vs.length ≤ 1000 ∧ PlacesAre vs ps ∧ r = .ref l ∧ ∀ q ∈ news, q.1 ≠ l
theorem unique_places_spec {x l : Addr} {kd : Kd} {vs : List Value} {cs : List Nat} {k : Nat} (hv : VecAt news x kd.str l) (hl : (l, listOf vs.toArray k) ∈ news) (hI : Items news kd vs cs) (hz : vs.length ≤ 1000) :
    Ctr w p loose mean mg mb 562 12 news [.ref x] (PlacesNew news (kpt cs cs.length)) := by
  unfold Ctr
  (w_top off; k_fill)
  intro dp un gd cn cs' a ccd cl outer A₀ base h₀ L m s Q E B F X N T hk hd hu hret
  obtain ⟨dx, od, hx, hdx, hod⟩ := hv
  cases hod
  refine wpAny_call ?_
  k_dflt k_enter
  k_steps
  rename Fr _ _ _ _ => F1
  rename News _ _ _ _ => N1
  rename IsRange _ _ _ _ _ _ _ _ => R1
  rename PlacesAre _ _ => hP
  refine compT_rangeC cs.length (fun i ys => PlacesAre ys (kpt cs i)) (by rfl) F1 N1 R1 (by rw [hP.1, fps_length]) (by rw [← hI.1]; exact hz) PlacesAre.nil ?_ ?_
  · intro i ys hi hys t I oI C oC D m₂ h tk E' hN hx' F2 N2
    have hz9 := hP.1
    rw [fps_length] at hz9
    have hz8 := hI.1
    obtain ⟨t1, ht1⟩ := hP.2 i (cs.idxOf (cs.getD i 0)) (by simp [fps, hi])
    clear F1 N1 R1
    k_steps
    · rename @Eq Int _ _ => he
      refine CEnd.intro (by k_asm) (by k_asm) (fun p h => h) ?_
      rw [kpt_succ, if_pos (by omega)]; exact hys.snoc
    · rename @Ne Int _ _ => he
      refine CEnd.intro (by k_asm) (by k_asm) (fun p h => h) ?_
      rw [kpt_succ, if_neg (by omega), List.append_nil]; exact hys
  · intro g ys hys D h tk F2 N2 o1
    have hz2 : ys.length ≤ 1000 := by rw [hys.1]; exact Nat.le_trans (kpt_length cs _) (by rw [← hI.1]; exact hz)
    clear F1 N1 R1
    k_steps
    exact hret _ [_] _ _ (by k_asm) (news_sub (by k_asm) (by kqd_sub)) ⟨_, _, _, rfl, hz2, hys, rfl, by k_all⟩
end

--M{
local macro_rules | `(tactic| walk_at "call ref") => `(tactic| (row_wit2 562 unique_places_spec; k_caughtB))
--M}
/-- the distinct row -/
noncomputable def dst (cs : List Nat) : List Nat := (kpt cs cs.length).map fun q => cs.getD q 0
def VecItems (news nb : List (Addr × Obj)) (kd : Kd) (cs : List Nat) (tl : List (Addr × Obj)) (r : Value) : Prop :=
  ∃ x dx od l vs k, tl = [(x, instObj 237 dx), (dx, od), (l, listOf vs.toArray k)] ∧ IsVD kd.str l od ∧ vs.length ≤ 1000 ∧ Items nb kd vs cs ∧ r = .ref x ∧ (∀ q ∈ news, q.1 ≠ x) ∧ (∀ q ∈ news, q.1 ≠ dx) ∧ (∀ q ∈ news, q.1 ≠ l)
section
variable {w : World} {p : Program} {loose : List Str} {mean : ExcName → Option Value} {mg mb : Str → Option Value} {news : List (Addr × Obj)}
theorem distinct_spec {nb : List (Addr × Obj)} {x l : Addr} {kd : Kd} {vs : List Value} {cs : List Nat} {k : Nat} (hv : VecAt news x kd.str l) (hl : (l, listOf vs.toArray k) ∈ news) (hI : Items nb kd vs cs) (hs : ∀ p ∈ nb, p ∈ news) (hz : vs.length ≤ 1000) :
    Ctr w p loose mean mg mb 599 14 news [.ref x] (VecItems news nb kd (dst cs)) := by
  have hI' := hI.mono hs
  unfold Ctr
  (w_top off; k_fill)
  intro dp un gd cn cs' a ccd cl outer A₀ base h₀ L m s Q E B F X N T hk hd hu hret
  obtain ⟨dx, od, hx, hdx, hod⟩ := hv
  cases hod
  refine wpAny_call ?_
  k_dflt k_enter
  k_steps
  rename Fr _ _ _ _ => F1
  rename News _ _ _ _ => N1
  rename PlacesAre _ _ => hP
  refine comp_listC (fun i ys => Items nb kd ys (((kpt cs cs.length).take i).map fun q => cs.getD q 0)) (by rfl) F1 N1 (by k_mem) (by assumption) Items.nil ?_ ?_
  · intro i v ys hv hys I oI C oC D m₂ h tk E' hN hx' F2 N2
    have hi : i < (kpt cs cs.length).length := by
      have := (List.getElem?_eq_some_iff.mp hv).1
      rw [← hP.1]; exact this
    obtain ⟨t1, ht1⟩ := hP.2 i (kpt cs cs.length)[i] (by simp [hi])
    obtain rfl : v = .int ((kpt cs cs.length)[i] : Int) t1 := by rw [hv] at ht1; exact Option.some.inj ht1
    have hq := kpt_lt (List.getElem_mem hi)
    obtain ⟨v2, hv2, hit⟩ := hI.get hq
    clear F1 N1
    k_steps
    refine CEnd.intro (by k_asm) (by k_asm) (fun p h => h) ?_
    rw [List.take_add_one, List.getElem?_eq_getElem hi, List.map_append]
    exact hys.snoc hit
  · intro g ys hys D h tk F2 N2 o1
    have hz2 : ys.length ≤ 1000 := by
      have := hys.1
      rw [List.length_map, List.length_take] at this
      have := kpt_length cs cs.length
      have := hI.1
      omega
    rw [hP.1, List.take_length] at hys
    clear F1 N1
    k_steps
    exact hret _ [_, _, _] _ _ (by k_asm) (news_sub (by k_asm) (by kqd_sub)) ⟨_, _, _, _, _, _, rfl, IsVD.mk .., hz2, hys, rfl, by k_all, by k_all, by k_all⟩
end

--M{
local macro_rules | `(tactic| walk_at "call ref") => `(tactic| (row_wit2 599 distinct_spec; k_caught0))
--M}
theorem Items.reverse {news : List (Addr × Obj)} {kd : Kd} {vs : List Value} {cs : List Nat} (h : Items news kd vs cs) : Items news kd vs.reverse cs.reverse := by
  refine ⟨by simp [h.1], fun i c e => ?_⟩
  obtain ⟨hi, e2⟩ := List.getElem?_eq_some_iff.mp e
  rw [List.length_reverse] at hi
  rw [List.getElem_reverse] at e2
  obtain ⟨v, a, b⟩ := h.2 (cs.length - 1 - i) c (by rw [List.getElem?_eq_getElem (by omega), e2])
  refine ⟨v, ?_, b⟩
  rw [List.getElem?_reverse (by rw [h.1]; exact hi), h.1]
  exact a
theorem PlacesAre.reverse {vs : List Value} {cs : List Nat} (h : PlacesAre vs cs) : PlacesAre vs.reverse cs.reverse := by
  refine ⟨by simp [h.1], fun i c e => ?_⟩
  obtain ⟨hi, e2⟩ := List.getElem?_eq_some_iff.mp e
  rw [List.length_reverse] at hi
  rw [List.getElem_reverse] at e2
  obtain ⟨t, a⟩ := h.2 (cs.length - 1 - i) c (by rw [List.getElem?_eq_getElem (by omega), e2])
  refine ⟨t, ?_⟩
  rw [List.getElem?_reverse (by rw [h.1]; exact hi), h.1]
  exact a
/-- the flags of the repeated -/
noncomputable def dpf (cs : List Nat) (n : Nat) : List Nat := (List.range n).map fun i => if cs.idxOf (cs.getD i 0) = i then 0 else 1
theorem dpf_succ (cs : List Nat) (n : Nat) : dpf cs (n + 1) = dpf cs n ++ [if cs.idxOf (cs.getD n 0) = n then 0 else 1] := by simp [dpf, List.range_succ]
theorem dpf_length (cs : List Nat) (n : Nat) : (dpf cs n).length = n := by simp [dpf]
--M{
local macro_rules | `(tactic| walk_at "subscriptTail Attribute Slice ref ref") => `(tactic| f_two (subscriptTail _ (PySem.Expr.Slice none none (some _) _) (Value.ref _) (Value.ref _)), (krv_lit ?F ?N ?l (IsPart.int _ _) ?e ?_ ?g ?t ?f))
local macro_rules | `(tactic| walk_at "subscriptTail Name Slice ref ref") => `(tactic| f_two (subscriptTail _ (PySem.Expr.Slice none none (some _) _) (Value.ref _) (Value.ref _)), (krv_lit ?F ?N ?l (IsPart.int _ _) ?e ?_ ?g ?t ?f))
--M}
section
variable {w : World} {p : Program} {loose : List Str} {mean : ExcName → Option Value} {mg mb : Str → Option Value} {news : List (Addr × Obj)}
theorem turned_spec {x l : Addr} {kd : Kd} {vs : List Value} {cs : List Nat} {k : Nat} (hv : VecAt news x kd.str l) (hl : (l, listOf vs.toArray k) ∈ news) (hI : Items news kd vs cs) (hz : vs.length ≤ 1000) :
    Ctr w p loose mean mg mb 569 6 news [.ref x] (VecItems news news kd cs.reverse) := by
  unfold Ctr
  (w_top off; k_fill)
  intro dp un gd cn cs' a ccd cl outer A₀ base h₀ L m s Q E B F X N T hk hd hu hret
  obtain ⟨dx, od, hx, hdx, hod⟩ := hv
  cases hod
  refine wpAny_call ?_
  k_dflt k_enter
  k_steps
  exact hret _ [_, _, _] _ _ (by k_asm) (news_sub (by k_asm) (by kqd_sub)) ⟨_, _, _, _, _, _, rfl, IsVD.mk .., by rw [List.length_reverse]; exact hz, hI.reverse, rfl, by k_all, by k_all, by k_all⟩
end
--M{
local macro_rules | `(tactic| walk_at "call ref") => `(tactic| (row_wit2 569 turned_spec; k_caught0))
--M}
section
variable {w : World} {p : Program} {loose : List Str} {mean : ExcName → Option Value} {mg mb : Str → Option Value} {news : List (Addr × Obj)}
theorem duplicated_fwd {x l : Addr} {kd : Kd} {vs : List Value} {cs : List Nat} {k : Nat} (hv : VecAt news x kd.str l) (hl : (l, listOf vs.toArray k) ∈ news) (hI : Items news kd vs cs) (hz : vs.length ≤ 1000) :
    Ctr w p loose mean mg mb 575 14 news [.ref x, .bool false] (PlacesNew news (dpf cs cs.length)) := by
  unfold Ctr
  (w_top off; k_fill)
  intro dp un gd cn cs' a ccd cl outer A₀ base h₀ L m s Q E B F X N T hk hd hu hret
  obtain ⟨dx, od, hx, hdx, hod⟩ := hv
  cases hod
  refine wpAny_call ?_
  k_dflt k_enter
  k_steps
  rename Fr _ _ _ _ => F1
  rename News _ _ _ _ => N1
  rename IsRange _ _ _ _ _ _ _ _ => R1
  rename PlacesAre _ _ => hP
  refine comp_rangeC cs.length (fun i ys => PlacesAre ys (dpf cs i)) (by rfl) F1 N1 R1 (by rw [hP.1, fps_length]) (by rw [← hI.1]; exact hz) PlacesAre.nil ?_ ?_
  · intro i ys hi hys t I oI C oC D m₂ h tk E' hN hx' F2 N2
    have hz9 := hP.1
    rw [fps_length] at hz9
    have hz8 := hI.1
    obtain ⟨t1, ht1⟩ := hP.2 i (cs.idxOf (cs.getD i 0)) (by simp [fps, hi])
    clear F1 N1 R1
    k_steps
    · rename @Ne Int _ _ => he
      refine CEnd.intro (by k_asm) (by k_asm) (fun p h => h) ?_
      rw [dpf_succ, if_neg (by omega)]; exact hys.snoc
    · rename @Eq Int _ _ => he
      refine CEnd.intro (by k_asm) (by k_asm) (fun p h => h) ?_
      rw [dpf_succ, if_pos (by omega)]; exact hys.snoc
  · intro g ys hys D h tk F2 N2 o1
    have hz2 : ys.length ≤ 1000 := by rw [hys.1, dpf_length, ← hI.1]; exact hz
    clear F1 N1 R1
    k_steps
    exact hret _ [_] _ _ (by k_asm) (news_sub (by k_asm) (by kqd_sub)) ⟨_, _, _, rfl, hz2, hys, rfl, by k_all⟩
theorem duplicated_bwd {x l : Addr} {kd : Kd} {vs : List Value} {cs : List Nat} {k : Nat} (hv : VecAt news x kd.str l) (hl : (l, listOf vs.toArray k) ∈ news) (hI : Items news kd vs cs) (hz : vs.length ≤ 1000) :
    Ctr w p loose mean mg mb 575 14 news [.ref x, .bool true] (PlacesNew news (dpf cs.reverse cs.length).reverse) := by
  unfold Ctr
  (w_top off; k_fill)
  intro dp un gd cn cs' a ccd cl outer A₀ base h₀ L m s Q E B F X N T hk hd hu hret
  obtain ⟨dx, od, hx, hdx, hod⟩ := hv
  cases hod
  refine wpAny_call ?_
  k_dflt k_enter
  k_steps
  rename Fr _ _ _ _ => F1
  rename News _ _ _ _ => N1
  rename IsRange _ _ _ _ _ _ _ _ => R1
  rename PlacesAre _ _ => hP
  refine comp_rangeC cs.length (fun i ys => PlacesAre ys (dpf cs.reverse i)) (by rfl) F1 N1 R1 (by rw [hP.1, fps_length, List.length_reverse]) (by rw [← hI.1]; exact hz) PlacesAre.nil ?_ ?_
  · intro i ys hi hys t I oI C oC D m₂ h tk E' hN hx' F2 N2
    have hz9 := hP.1
    rw [fps_length, List.length_reverse] at hz9
    have hz8 := hI.1
    obtain ⟨t1, ht1⟩ := hP.2 i (cs.reverse.idxOf (cs.reverse.getD i 0)) (by simp [fps, hi])
    clear F1 N1 R1
    k_steps
    · rename @Ne Int _ _ => he
      refine CEnd.intro (by k_asm) (by k_asm) (fun p h => h) ?_
      rw [dpf_succ, if_neg (by omega)]; exact hys.snoc
    · rename @Eq Int _ _ => he
      refine CEnd.intro (by k_asm) (by k_asm) (fun p h => h) ?_
      rw [dpf_succ, if_pos (by omega)]; exact hys.snoc
  · intro g ys hys D h tk F2 N2 o1
    have hz2 : ys.length ≤ 1000 := by rw [hys.1, dpf_length, ← hI.1]; exact hz
    clear F1 N1 R1
    k_steps
    simp only [List.toList_toArray] at *
    exact hret _ [_] _ _ (by k_asm) (news_sub (by k_asm) (by kqd_sub)) ⟨_, _, _, rfl, by rw [List.length_reverse]; exact hz2, hys.reverse, rfl, by k_all⟩
end

--M{
local macro_rules | `(tactic| walk_at "call ref") => `(tactic| (row_wit2 575 duplicated_fwd; k_caughtB))
--M}
def OptsAre (vs : List Value) (os : List (Option Nat)) : Prop := vs.length = os.length ∧ ∀ (i : Nat) (o : Option Nat), os[i]? = some o → ∃ v, vs[i]? = some v ∧ optV o v
theorem OptsAre.nil : OptsAre [] [] := ⟨rfl, fun i o h => by simp at h⟩
theorem OptsAre.snoc {vs : List Value} {os : List (Option Nat)} {v : Value} {o : Option Nat} (h : OptsAre vs os) (k : optV o v) : OptsAre (vs ++ [v]) (os ++ [o]) := by
  refine ⟨by simp [h.1], fun i c' e => ?_⟩
  by_cases hi : i < os.length
  · rw [List.getElem?_append_left hi] at e
    obtain ⟨u, a, b⟩ := h.2 i c' e
    exact ⟨u, by rw [List.getElem?_append_left (by rw [h.1]; exact hi)]; exact a, b⟩
  · rw [List.getElem?_append_right (Nat.not_lt.mp hi)] at e
    have : i - os.length = 0 := by
      cases q : i - os.length with
      | zero => rfl
      | succ n => rw [q] at e; simp at e
    rw [this] at e
    obtain rfl : o = c' := by simpa using e
    refine ⟨v, ?_, k⟩
    rw [List.getElem?_append_right (by rw [h.1]; exact Nat.not_lt.mp hi), h.1, this]
    rfl
def OptsNew (news : List (Addr × Obj)) (os : List (Option Nat)) (tl : List (Addr × Obj)) (r : Value) : Prop := ∃ l vs k, tl = [(l, listOf vs.toArray k)] ∧ vs.length ≤ 1000 ∧ OptsAre vs os ∧ r = .ref l ∧ ∀ q ∈ news, q.1 ≠ l
theorem allNe_cons {p : Addr × Obj} {l : List (Addr × Obj)} {d : Addr} (h : @Ne Nat p.1 d) (t : ∀ q ∈ l, q.1 ≠ d) : ∀ q ∈ p :: l, q.1 ≠ d := by
  intro q hq
  rcases List.mem_cons.mp hq with rfl | hq
  · exact h
  · exact t q hq
theorem tailNe {P : Prop} {h₀ h : Heap} {L a : Addr} {oa : Obj} {rest : List (Addr × Obj)} (_ : News h₀ L h ((a, oa) :: rest)) (ne : ∀ p ∈ rest, p.1 ≠ a) (k : (∀ p ∈ rest, p.1 ≠ a) → ∀ a', a' = a → P) : P := k ne a rfl
--M{
local macro_rules | `(tactic| k_all) => `(tactic| first | (with_reducible assumption) | (refine' allNe_cons ?a ?b; (case a => ((try dsimp only); k_ne)); (case b => k_all)) | fail)
--M}
section
variable {prog : Program} {w : World} {A : Around} {E : Value → Shared → Prop} {s : Shared} {h₀ : Heap} {L r : Addr} {m : Str → Option Value} {news : List (Addr × Obj)} {t₀ u₀ v₀ : Tok} {n : Nat} {b : Int} {Q : Value → Shared → Prop}
theorem list_range_places (hh : A.handled = none) (F : Fr h₀ L s.heap m) (N : News h₀ L s.heap news) (hr : IsRange s.heap r 0 b 1 t₀ u₀ v₀) (hb : b = (n : Int)) (hz : n ≤ 1000)
    (h : ∀ D us c h' tk, Fr h₀ L h' m → News h₀ L h' ((D, listOf (List.toArray us) c) :: news) → (∀ p ∈ news, p.1 < D) → PlacesAre us (List.range n) → Q (.ref D) { s with heap := h', toks := tk }) :
    wpAny (model prog w) A (call (.type "list") [.ref r]) Q E s := by
  subst hb
  have hsm : Builtin.Range.small 0 (n : Int) 1 = true := small_one (by decide) (by decide) (by omega) (by omega)
  have hsz : Builtin.Range.rangeSize 0 (n : Int) 1 = (n : Int) := by rw [rangeSize_one]; split <;> omega
  refine call_list_range hh hr hsm hsz (by omega) fun h' tk acc c hk hD hI => ?_
  have hD' : h'.get? s.heap.objs.size = some (listOf (List.toArray acc.toList) c) := by
    rw [Array.toArray_toList]
    exact hD
  refine h _ acc.toList c h' tk (F.keeps hk) (news_pushed F N hk hD' rfl) (fun p hp => Heap.lt_size (N p hp).1) ⟨by rw [Array.length_toList, List.length_range]; exact hI.1, fun j q hj => ?_⟩
  obtain ⟨hj1, hj2⟩ := List.getElem?_eq_some_iff.mp hj
  simp only [List.length_range] at hj1
  simp only [List.getElem_range] at hj2
  subst hj2
  have hj3 : j < acc.size := by rw [hI.1]; exact hj1
  obtain ⟨t, ht⟩ := hI.2 j acc[j] (by rw [Array.getElem?_eq_getElem hj3])
  refine ⟨t, ?_⟩
  rw [Array.getElem?_toList, Array.getElem?_eq_getElem hj3, ht]
  simp
end
--M{
local macro_rules | `(tactic| walk_at "call type:list") => `(tactic| f_two (call (Value.type "list") [Value.ref _]), (list_range_places rfl ?F ?N ?R ?e ?z ?_))
local macro_rules | `(tactic| walk_at "call builtin:dict.get") => `(tactic| f_two (call (Value.builtin _) [Value.ref _, Value.str (keyOf _ _) _]), (get_known ?N ?m ?o ?K ?c ?_))
local macro_rules | `(tactic| walk_at "subscriptTail Attribute Name Name ref int") => `(tactic| f_two (subscriptTail _ _ (Value.ref _) (Value.int (Nat.cast _) _)), (item_at ?N ?m ?x ?z ?_ ?g))
--M}
section
variable {w : World} {p : Program} {loose : List Str} {mean : ExcName → Option Value} {mg mb : Str → Option Value} {news : List (Addr × Obj)}
theorem match_lst {xu lu xv lv : Addr} {us vs : List Value} {cu cv : List Nat} {ku kv : Nat} (hu' : VecAt news xu (Kd.str .lst) lu) (hv' : VecAt news xv (Kd.str .lst) lv) (hlu : (lu, listOf us.toArray ku) ∈ news) (hlv : (lv, listOf vs.toArray kv) ∈ news)
    (hI : Items news .lst us cu) (hJ : Items news .lst vs cv) (hzu : us.length ≤ 1000) (hzv : vs.length ≤ 1000) : Ctr w p loose mean mg mb 594 12 news [.ref xu, .ref xv] (OptsNew news (cu.map (plc cv))) := by
  unfold Ctr
  (w_top off; k_fill)
  intro dp un gd cn cs' a ccd cl outer A₀ base h₀ L m s Q E B F X N T hk hd hu hret
  obtain ⟨dx, od, hx, hdx, hod⟩ := hu'
  cases hod
  obtain ⟨dy, od, hy, hdy, hod⟩ := hv'
  cases hod
  refine wpAny_call ?_
  k_dflt k_enter
  k_steps
  rename Fr _ _ _ _ => F1
  rename News _ _ _ _ => N1
  rename PlacesAre _ _ => hP
  have hlt : ∀ q ∈ List.range vs.length, q < cv.length := by
    intro q hq
    rw [← hJ.1]; exact List.mem_range.mp hq
  refine comp_listC (vs := us) (fun i ys => OptsAre ys ((cu.take i).map (plc cv))) (by rfl) F1 N1 (by k_mem) hzu OptsAre.nil ?_ ?_
  · intro i v ys hv hys I oI C oC D m₂ h tk E' hN hx' F2 N2
    have hi : i < cu.length := by
      have := (List.getElem?_eq_some_iff.mp hv).1
      rw [← hI.1]; exact this
    obtain ⟨v2, hv2, hit⟩ := hI.get hi
    obtain rfl : v = v2 := Option.some.inj (hv.symm.trans hv2)
    clear F1 N1
    k_steps
    rename optV _ _ => ho
    refine CEnd.intro (by k_asm) (by k_asm) (fun p h => h) ?_
    rw [List.take_add_one, List.getElem?_eq_getElem hi, List.map_append]
    refine hys.snoc ?_
    rw [hJ.1] at ho
    simpa [List.getD, hi, plc] using ho
  · intro g ys hys D h tk F2 N2 o1
    rw [hI.1, List.take_length] at hys
    have hz2 : ys.length ≤ 1000 := by rw [hys.1, List.length_map, ← hI.1]; exact hzu
    clear F1 N1
    k_steps
    exact hret _ [_] _ _ (by k_asm) (news_sub (by k_asm) (by kqd_sub)) ⟨_, _, _, rfl, hz2, hys, rfl, by k_all⟩
theorem match_tab {xu lu xv lv : Addr} {kd : Kd} {us vs : List Value} {cu cv : List Nat} {ku kv : Nat} (hkd : kd.listed = false) (hu' : VecAt news xu kd.str lu) (hv' : VecAt news xv kd.str lv) (hlu : (lu, listOf us.toArray ku) ∈ news) (hlv : (lv, listOf vs.toArray kv) ∈ news)
    (hI : Items news kd us cu) (hJ : Items news kd vs cv) (hzu : us.length ≤ 1000) (hzv : vs.length ≤ 1000) : Ctr w p loose mean mg mb 594 12 news [.ref xu, .ref xv] (OptsNew news (cu.map (plc cv))) := by
  unfold Ctr
  (w_top off; k_fill)
  intro dp un gd cn cs' a ccd cl outer A₀ base h₀ L m s Q E B F X N T hk hd hu hret
  obtain ⟨dx, od, hx, hdx, hod⟩ := hu'
  cases hod
  obtain ⟨dy, od, hy, hdy, hod⟩ := hv'
  cases hod
  refine wpAny_call ?_
  k_dflt k_enter
  k_steps
  rename Fr _ _ _ _ => F1
  rename News _ _ _ _ => N1
  rename IsRange _ _ _ _ _ _ _ _ => R1
  rename Obj.IsDictOf (PySem.strKind _ _) _ _ => D1
  refine tailNe N1 (by k_all) fun hkn known e1 => ?_
  subst e1
  refine loop_rangeL (σ := Obj) vs.length (cst := _) (fun c => [(known, c)]) (fun _ => []) []
    (fun i c => KnownIs w c kd cv i) _ (by rfl) R1 rfl (by omega) F1 N1 (fun p h => h) (KnownIs.nil D1) (by kst_all) ?_ ?_
  · rintro i t o h tk I oI u hi hK hne F2 N2
    clear F1 N1 R1
    dsimp only [kstB] at F2
    simp only [List.cons_append, List.nil_append] at N2 hne
    have hI1 : @Ne Nat known I := hne _ memHead
    have hic : i < cv.length := by rw [← hJ.1]; exact hi
    obtain ⟨v2, hv2, hit⟩ := hJ.get hic
    have hc : cv[i]? = some (cv.getD i 0) := by simp [List.getD, hic]
    have hc5 := hit.lt5
    k_steps
    rename News _ _ _ _ => N3
    refine LEnd.next _ (by k_asm) N3 (by kqd_sub) (by simpa using hne) (by assumption) (by kst_all) (by kst_same)
  · rintro o h tk u hK F2 N2
    clear F1 N1 R1
    dsimp only [kstB] at F2
    simp only [List.cons_append, List.nil_append] at N2
    rw [hJ.1] at hK
    k_steps
    rename Fr _ _ _ _ => F1
    rename News _ _ _ _ => N1
    refine comp_listC (vs := us) (fun i ys => OptsAre ys ((cu.take i).map (plc cv))) (by rfl) F1 N1 (by k_mem) hzu OptsAre.nil ?_ ?_
    · intro i v ys hv hys I oI C oC D m₂ h tk E' hN hx' F2 N2
      have hi : i < cu.length := by
        have := (List.getElem?_eq_some_iff.mp hv).1
        rw [← hI.1]; exact this
      obtain ⟨v2, hv2, hit⟩ := hI.get hi
      obtain rfl : v = v2 := Option.some.inj (hv.symm.trans hv2)
      have hc5 := hit.lt5
      clear F1 N1
      k_steps
      rename optV _ _ => ho
      refine CEnd.intro (by k_asm) (by k_asm) (fun p h => h) ?_
      rw [List.take_add_one, List.getElem?_eq_getElem hi, List.map_append]
      refine hys.snoc ?_
      simpa [List.getD, hi] using ho
    · intro g ys hys D h tk F2 N2 o1
      rw [hI.1, List.take_length] at hys
      have hz2 : ys.length ≤ 1000 := by rw [hys.1, List.length_map, ← hI.1]; exact hzu
      clear F1 N1
      k_steps
      exact hret _ [_] _ _ (by k_asm) (news_sub (by k_asm) (by kqd_sub)) ⟨_, _, _, rfl, hz2, hys, rfl, by k_all⟩
theorem match_spec {xu lu xv lv : Addr} {kd : Kd} {us vs : List Value} {cu cv : List Nat} {ku kv : Nat} (hu' : VecAt news xu kd.str lu) (hv' : VecAt news xv kd.str lv) (hlu : (lu, listOf us.toArray ku) ∈ news) (hlv : (lv, listOf vs.toArray kv) ∈ news)
    (hI : Items news kd us cu) (hJ : Items news kd vs cv) (hzu : us.length ≤ 1000) (hzv : vs.length ≤ 1000) : Ctr w p loose mean mg mb 594 12 news [.ref xu, .ref xv] (OptsNew news (cu.map (plc cv))) := by
  cases kd with
  | lst => exact match_lst hu' hv' hlu hlv hI hJ hzu hzv
  | int => exact match_tab rfl hu' hv' hlu hlv hI hJ hzu hzv
  | dbl => exact match_tab rfl hu' hv' hlu hlv hI hJ hzu hzv
  | chr => exact match_tab rfl hu' hv' hlu hlv hI hJ hzu hzv
end

theorem subTrans {X Z Y : List (Addr × Obj)} (h : ∀ p ∈ X, p ∈ Z) (k : ∀ p ∈ Z, p ∈ Y) : ∀ p ∈ X, p ∈ Y := fun p hp => k p (h p hp)
--M{
local macro_rules | `(tactic| kqd_sub) => `(tactic| first | (with_reducible assumption) | (refine' subTrans ?kqh ?kqk; (case kqh => with_reducible assumption); (case kqk => kqd_sub)) | fail)
--M}
--M{
local macro_rules | `(tactic| walk_at "call ref") => `(tactic| (row_wit2 594 match_spec; k_caughtB))
--M}
section
variable {prog : Program} {w : World} {A : Around} {E : Value → Shared → Prop} {s : Shared} {h₀ : Heap} {L : Addr} {m : Str → Option Value} {news : List (Addr × Obj)}
theorem add_at {a b : Addr} {us vs : List Value} {ka kb : Nat} {Q : Value → Shared → Prop} (F : Fr h₀ L s.heap m) (N : News h₀ L s.heap news) (ha : (a, listOf us.toArray ka) ∈ news) (hb : (b, listOf vs.toArray kb) ∈ news) (hz : us.length + vs.length ≤ 2000)
    (h : ∀ D h', Fr h₀ L h' m → News h₀ L h' ((D, listOf (us ++ vs).toArray 0) :: news) → (∀ p ∈ news, p.1 < D) → Q (.ref D) { s with heap := h' }) :
    wpAny (model prog w) A (binaryOp .Add (.ref a) (.ref b)) Q E s :=
  kmk_add_lit F N (News.isList N ha) (News.isList N hb) (by simp) h (by simp only [List.toList_toArray, sizeLine_eq]; omega)
end
--M{
local macro_rules | `(tactic| walk_at "binaryOp Add ref ref") => `(tactic| f_two (binaryOp _ (Value.ref _) (Value.ref _)), (add_at ?F ?N ?a ?b ?z ?_))
local macro_rules | `(tactic| walk_at "subscriptTail Name Name ref int") => `(tactic| f_two (subscriptTail _ _ (Value.ref _) (Value.int (Nat.cast _) _)), (item_at ?N ?m ?x ?z ?_ ?g))
--M}
section
variable {w : World} {p : Program} {loose : List Str} {mean : ExcName → Option Value} {mg mb : Str → Option Value} {news : List (Addr × Obj)}
theorem union_spec {nb : List (Addr × Obj)} {xu lu xv lv : Addr} {kd : Kd} {us vs : List Value} {cu cv : List Nat} {ku kv : Nat} (hu' : VecAt news xu kd.str lu) (hv' : VecAt news xv kd.str lv) (hlu : (lu, listOf us.toArray ku) ∈ news) (hlv : (lv, listOf vs.toArray kv) ∈ news)
    (hI : Items nb kd us cu) (hJ : Items nb kd vs cv) (hs : ∀ p ∈ nb, p ∈ news) (hzu : us.length ≤ 400) (hzv : vs.length ≤ 400) : Ctr w p loose mean mg mb 606 16 news [.ref xu, .ref xv] (VecItems news nb kd (dst (cu ++ cv))) := by
  unfold Ctr
  (w_top off; k_fill)
  intro dp un gd cn cs' a ccd cl outer A₀ base h₀ L m s Q E B F X N T hk hd hu hret
  obtain ⟨dx, od, hx, hdx, hod⟩ := hu'
  cases hod
  obtain ⟨dy, od, hy, hdy, hod⟩ := hv'
  cases hod
  have hI' := hI.mono hs
  have hJ' := hJ.mono hs
  have hz1 : us.length ≤ 1000 := by omega
  have hz2 : vs.length ≤ 1000 := by omega
  have hz3 : (us ++ vs).length ≤ 1000 := by rw [List.length_append]; omega
  have hIJ := hI.append hJ
  refine wpAny_call ?_
  k_dflt k_enter
  k_steps
  exact hret _ [_, _, _] _ _ (by k_asm) (news_sub (by k_asm) (by kqd_sub)) ⟨_, _, _, _, _, _, rfl, IsVD.mk .., by assumption, by assumption, rfl, by k_all, by k_all, by k_all⟩
end
--M{
local macro_rules | `(tactic| walk_at "call ref") => `(tactic| (row_wit2 606 union_spec; k_caught0))
--M}
theorem plc_none {cv : List Nat} {c : Nat} (h : plc cv c = none) : c ∉ cv := by
  intro hm
  rw [plc_eq, if_pos hm] at h
  cases h
theorem plc_some {cv : List Nat} {c q : Nat} (h : plc cv c = some q) : c ∈ cv := by
  apply Classical.byContradiction
  intro hm
  rw [plc_eq, if_neg hm] at h
  cases h
theorem take_filter {cs : List Nat} {i : Nat} (hi : i < cs.length) (f : Nat → Bool) : (cs.take (i + 1)).filter f = (cs.take i).filter f ++ (if f (cs.getD i 0) = true then [cs.getD i 0] else []) := by
  rw [List.take_add_one, List.filter_append]
  congr 1
  simp only [List.getElem?_eq_getElem hi, Option.toList_some, List.filter_cons, List.filter_nil, List.getD, Option.getD_some]
section
variable {w : World} {p : Program} {loose : List Str} {mean : ExcName → Option Value} {mg mb : Str → Option Value} {news : List (Addr × Obj)}
theorem intersect_spec {nb : List (Addr × Obj)} {xu lu xv lv : Addr} {kd : Kd} {us vs : List Value} {cu cv : List Nat} {ku kv : Nat} (hu' : VecAt news xu kd.str lu) (hv' : VecAt news xv kd.str lv) (hlu : (lu, listOf us.toArray ku) ∈ news) (hlv : (lv, listOf vs.toArray kv) ∈ news)
    (hI : Items nb kd us cu) (hJ : Items nb kd vs cv) (hs : ∀ p ∈ nb, p ∈ news) (hzu : us.length ≤ 400) (hzv : vs.length ≤ 400) : Ctr w p loose mean mg mb 611 16 news [.ref xu, .ref xv] (VecItems news nb kd (dst (cu.filter (cv.contains ·)))) := by
  unfold Ctr
  (w_top off; k_fill)
  intro dp un gd cn cs' a ccd cl outer A₀ base h₀ L m s Q E B F X N T hk hd hu hret
  obtain ⟨dx, od, hx, hdx, hod⟩ := hu'
  cases hod
  obtain ⟨dy, od, hy, hdy, hod⟩ := hv'
  cases hod
  have hI' := hI.mono hs
  have hJ' := hJ.mono hs
  have hz1 : us.length ≤ 1000 := by omega
  have hz2 : vs.length ≤ 1000 := by omega
  refine wpAny_call ?_
  k_dflt k_enter
  k_steps
  rename Fr _ _ _ _ => F1
  rename News _ _ _ _ => N1
  rename IsRange _ _ _ _ _ _ _ _ => R1
  rename OptsAre _ _ => hP
  have hlen := hP.1
  rw [List.length_map] at hlen
  have hz8 := hI.1
  refine compT_rangeC cu.length (fun i ys => Items nb kd ys ((cu.take i).filter (cv.contains ·))) (by rfl) F1 N1 R1 (by rw [hlen]) (by omega) Items.nil ?_ ?_
  · intro i ys hi hys t I oI C oC D m₂ h tk E' hN hx' F2 N2
    obtain ⟨v1, hv1, ho⟩ := hP.2 i (plc cv (cu.getD i 0)) (by simp [List.getD, hi])
    obtain ⟨v2, hv2, hit⟩ := hI.get hi
    clear F1 N1 R1
    rcases optV_cases ho with ⟨eo, e⟩ | ⟨q, tq, eo, e⟩
    · subst e
      k_steps
      refine CEnd.intro (by k_asm) (by k_asm) (fun p h => h) ?_
      rw [take_filter hi, if_neg (by simpa using plc_none eo), List.append_nil]; exact hys
    · subst e
      k_steps
      refine CEnd.intro (by k_asm) (by k_asm) (fun p h => h) ?_
      rw [take_filter hi, if_pos (by simpa using plc_some eo)]; exact hys.snoc hit
  · intro g ys hys D h tk F2 N2 o1
    have hz2 : ys.length ≤ 1000 := by
      have h1 := hys.1
      have h2 := List.length_filter_le (cv.contains ·) (cu.take cu.length)
      rw [List.length_take] at h2
      omega
    rw [List.take_length] at hys
    clear F1 N1 R1
    k_steps
    exact hret _ [_, _, _] _ _ (by k_asm) (news_sub (by k_asm) (by kqd_sub)) ⟨_, _, _, _, _, _, rfl, IsVD.mk .., by assumption, by assumption, rfl, by k_all, by k_all, by k_all⟩
end

--M{
local macro_rules | `(tactic| walk_at "call ref") => `(tactic| (row_wit2 611 intersect_spec; k_caught0))
--M}
noncomputable def datOpt : Option Nat → Dat
  | none => .none
  | some q => .int (q : Int)
theorem of_eq_of {a b : Prop} (e : a = b) (h : b) : a := e ▸ h
theorem datAll_of {news : List (Addr × Obj)} : ∀ {vs : List Value} {ds : List Dat}, vs.length = ds.length → (∀ (i : Nat) (d : Dat), ds[i]? = some d → ∃ v, vs[i]? = some v ∧ DatIn news v d) → DatAll news vs ds
  | [], [], _, _ => .nil
  | [], _ :: _, h, _ => by simp at h
  | _ :: _, [], h, _ => by simp at h
  | v :: vs, d :: ds, h, k => by
    obtain ⟨v', e, q⟩ := k 0 d rfl
    obtain rfl : v = v' := by simpa using e
    exact .cons q (datAll_of (by simpa using h) fun i d' hi => by simpa using k (i + 1) d' (by simpa using hi))
theorem OptsAre.dats {vs : List Value} {os : List (Option Nat)} {news : List (Addr × Obj)} (h : OptsAre vs os) : DatAll news vs (os.map datOpt) := by
  refine datAll_of (by rw [List.length_map]; exact h.1) fun i d hi => ?_
  rw [List.getElem?_map, Option.map_eq_some_iff] at hi
  obtain ⟨o, ho, rfl⟩ := hi
  obtain ⟨v, hv, q⟩ := h.2 i o ho
  refine ⟨v, hv, ?_⟩
  cases o with
  | none => obtain rfl : v = .none := q; exact .none
  | some n => obtain ⟨t, rfl⟩ := q; exact .int _ _
section
variable {prog : Program} {w : World} {A : Around} {E : Value → Shared → Prop} {s : Shared} {h₀ : Heap} {L : Addr} {news : List (Addr × Obj)}
theorem notin_opts {a : Addr} {vs : List Value} {os : List (Option Nat)} {k : Nat} {Q : Value → Shared → Prop} (N : News h₀ L s.heap news) (ha : (a, listOf vs.toArray k) ∈ news) (ho : OptsAre vs os) (hu : A.units + 64 < cLine)
    (h : Q (.bool (os.all Option.isSome)) s) : wpAny (model prog w) A (compareOp .NotIn .none (.ref a)) Q E s := by
  refine kqd_notIn (n₁ := []) (n₂ := []) N ha rfl rfl ho.dats (fun _ h => nomatch h) .none (fun _ h => nomatch h) (fun d hd => ?_) rfl hu ?_
  · obtain ⟨o, _, rfl⟩ := List.mem_map.mp hd
    cases o <;> rfl
  · have e : ∀ (i : Decidable (Dat.none ∈ os.map datOpt)), (!(@decide (Dat.none ∈ os.map datOpt) i)) = os.all Option.isSome := by
      intro _
      rw [Bool.eq_iff_iff]
      simp only [Bool.not_eq_true', decide_eq_false_iff_not, List.mem_map, List.all_eq_true]
      constructor
      · intro h o ho
        cases o with
        | none => exact absurd ⟨none, ho, rfl⟩ h
        | some q => rfl
      · rintro h ⟨o, ho, e⟩
        cases o with
        | none => exact absurd (h _ ho) (by simp)
        | some q => cases e
    exact (congrArg (fun b => Q (.bool b) s) (e _)).mpr h
end
--M{
local macro_rules | `(tactic| ktn_lt) => `(tactic| first | assumption | (refine' Nat.lt_trans (lt_of_mem ?a ?b) ?c; (case c => assumption); (case a => assumption); (case b => k_mem)) | fail)
local macro_rules | `(tactic| walk_at "compareOp NotIn") => `(tactic| f_two (compareOp CmpOp.NotIn Value.none (Value.ref _)), (notin_opts ?N ?a ?o ?u ?_))
--M}
theorem opts_all (cu cv : List Nat) : (cu.map (plc cv)).all Option.isSome = cu.all (cv.contains ·) := by
  rw [List.all_map]
  congr 1
  funext c
  simp only [Function.comp, plc_eq]
  by_cases h : c ∈ cv <;> simp [h]
section
variable {w : World} {p : Program} {loose : List Str} {mean : ExcName → Option Value} {mg mb : Str → Option Value} {news : List (Addr × Obj)}
theorem setdiff_spec {nb : List (Addr × Obj)} {xu lu xv lv : Addr} {kd : Kd} {us vs : List Value} {cu cv : List Nat} {ku kv : Nat} (hu' : VecAt news xu kd.str lu) (hv' : VecAt news xv kd.str lv) (hlu : (lu, listOf us.toArray ku) ∈ news) (hlv : (lv, listOf vs.toArray kv) ∈ news)
    (hI : Items nb kd us cu) (hJ : Items nb kd vs cv) (hs : ∀ p ∈ nb, p ∈ news) (hzu : us.length ≤ 400) (hzv : vs.length ≤ 400) : Ctr w p loose mean mg mb 616 16 news [.ref xu, .ref xv] (VecItems news nb kd (dst (cu.filter (!cv.contains ·)))) := by
  unfold Ctr
  (w_top off; k_fill)
  intro dp un gd cn cs' a ccd cl outer A₀ base h₀ L m s Q E B F X N T hk hd hu hret
  obtain ⟨dx, od, hx, hdx, hod⟩ := hu'
  cases hod
  obtain ⟨dy, od, hy, hdy, hod⟩ := hv'
  cases hod
  have hI' := hI.mono hs
  have hJ' := hJ.mono hs
  have hz1 : us.length ≤ 1000 := by omega
  have hz2 : vs.length ≤ 1000 := by omega
  refine wpAny_call ?_
  k_dflt k_enter
  k_steps
  rename Fr _ _ _ _ => F1
  rename News _ _ _ _ => N1
  rename IsRange _ _ _ _ _ _ _ _ => R1
  rename OptsAre _ _ => hP
  have hlen := hP.1
  rw [List.length_map] at hlen
  have hz8 := hI.1
  refine compT_rangeC cu.length (fun i ys => Items nb kd ys ((cu.take i).filter (!cv.contains ·))) (by rfl) F1 N1 R1 (by rw [hlen]) (by omega) Items.nil ?_ ?_
  · intro i ys hi hys t I oI C oC D m₂ h tk E' hN hx' F2 N2
    obtain ⟨v1, hv1, ho⟩ := hP.2 i (plc cv (cu.getD i 0)) (by simp [List.getD, hi])
    obtain ⟨v2, hv2, hit⟩ := hI.get hi
    clear F1 N1 R1
    rcases optV_cases ho with ⟨eo, e⟩ | ⟨q, tq, eo, e⟩
    · subst e
      k_steps
      refine CEnd.intro (by k_asm) (by k_asm) (fun p h => h) ?_
      rw [take_filter hi, if_pos (by simpa using plc_none eo)]; exact hys.snoc hit
    · subst e
      k_steps
      refine CEnd.intro (by k_asm) (by k_asm) (fun p h => h) ?_
      rw [take_filter hi, if_neg (by simpa using plc_some eo), List.append_nil]; exact hys
  · intro g ys hys D h tk F2 N2 o1
    have hz2 : ys.length ≤ 1000 := by
      have h1 := hys.1
      have h2 := List.length_filter_le (!cv.contains ·) (cu.take cu.length)
      rw [List.length_take] at h2
      omega
    rw [List.take_length] at hys
    clear F1 N1 R1
    k_steps
    exact hret _ [_, _, _] _ _ (by k_asm) (news_sub (by k_asm) (by kqd_sub)) ⟨_, _, _, _, _, _, rfl, IsVD.mk .., by assumption, by assumption, rfl, by k_all, by k_all, by k_all⟩
theorem same_sets_spec {nb : List (Addr × Obj)} {xu lu xv lv : Addr} {kd : Kd} {us vs : List Value} {cu cv : List Nat} {ku kv : Nat} (hu' : VecAt news xu kd.str lu) (hv' : VecAt news xv kd.str lv) (hlu : (lu, listOf us.toArray ku) ∈ news) (hlv : (lv, listOf vs.toArray kv) ∈ news)
    (hI : Items nb kd us cu) (hJ : Items nb kd vs cv) (hs : ∀ p ∈ nb, p ∈ news) (hzu : us.length ≤ 400) (hzv : vs.length ≤ 400) : Ctr w p loose mean mg mb 623 16 news [.ref xu, .ref xv] (fun tl r => tl = [] ∧ r = .bool (cu.all (cv.contains ·) && cv.all (cu.contains ·))) := by
  unfold Ctr
  (w_top off; k_fill)
  intro dp un gd cn cs' a ccd cl outer A₀ base h₀ L m s Q E B F X N T hk hd hu hret
  have hI' := hI.mono hs
  have hJ' := hJ.mono hs
  have hz1 : us.length ≤ 1000 := by omega
  have hz2 : vs.length ≤ 1000 := by omega
  obtain ⟨dx, od, hx, hdx, hod⟩ := hu'
  cases hod
  obtain ⟨dy, od, hy, hdy, hod⟩ := hv'
  cases hod
  refine wpAny_call ?_
  k_dflt k_enter
  k_steps
  · rename @Eq Bool _ _ => hb
    refine hret _ [] _ _ (by k_asm) (news_sub (by k_asm) (by kqd_sub)) ⟨rfl, ?_⟩
    rw [opts_all] at hb
    rw [opts_all, hb, Bool.true_and]
  · rename @Eq Bool _ _ => hb
    refine hret _ [] _ _ (by k_asm) (news_sub (by k_asm) (by kqd_sub)) ⟨rfl, ?_⟩
    rw [opts_all] at hb
    rw [opts_all, hb, Bool.false_and]
end
--M{
local macro_rules | `(tactic| walk_at "call ref") => `(tactic| (row_wit2 616 setdiff_spec; k_caught0))
--M}
--M{
local macro_rules | `(tactic| walk_at "call ref") => `(tactic| (row_wit2 623 same_sets_spec; k_caughtN0))
--M}

/-- the values are the items cs of the kind kd, as the law shows them -/
def Shown (nb : List (Addr × Obj)) (kd : Kd) (vs : List Value) (cs : List Nat) : Prop :=
  vs.length = cs.length ∧ ∀ (i c : Nat), cs[i]? = some c → ∃ v : Value, vs[i]? = some v ∧ c < kd.most ∧ DatIn nb v (datOf kd c)
theorem Shown.mono {nb nb' : List (Addr × Obj)} {kd : Kd} {vs : List Value} {cs : List Nat} (h : Shown nb kd vs cs) (hs : ∀ p ∈ nb, p ∈ nb') : Shown nb' kd vs cs :=
  ⟨h.1, fun i c e => let ⟨v, a, b, d⟩ := h.2 i c e; ⟨v, a, b, d.mono hs⟩⟩
theorem Shown.nil {nb : List (Addr × Obj)} {kd : Kd} : Shown nb kd [] [] := ⟨rfl, fun i c e => by simp at e⟩
theorem Shown.snoc {nb : List (Addr × Obj)} {kd : Kd} {vs : List Value} {cs : List Nat} {v : Value} {c : Nat} (h : Shown nb kd vs cs) (hc : c < kd.most) (k : DatIn nb v (datOf kd c)) : Shown nb kd (vs ++ [v]) (cs ++ [c]) := by
  refine ⟨by simp [h.1], fun i c' e => ?_⟩
  by_cases hi : i < cs.length
  · rw [List.getElem?_append_left hi] at e
    obtain ⟨u, a, b⟩ := h.2 i c' e
    exact ⟨u, by rw [List.getElem?_append_left (by rw [h.1]; exact hi)]; exact a, b⟩
  · rw [List.getElem?_append_right (Nat.not_lt.mp hi)] at e
    have h0 : i - cs.length = 0 := by
      cases q : i - cs.length with
      | zero => rfl
      | succ n => rw [q] at e; simp at e
    rw [h0] at e
    obtain rfl : c = c' := by simpa using e
    refine ⟨v, ?_, hc, k⟩
    rw [List.getElem?_append_right (by rw [h.1]; exact Nat.not_lt.mp hi), h.1, h0]
    rfl
theorem Shown.get {nb : List (Addr × Obj)} {kd : Kd} {vs : List Value} {cs : List Nat} (h : Shown nb kd vs cs) {i : Nat} (hi : i < cs.length) : ∃ v, vs[i]? = some v ∧ cs.getD i 0 < kd.most ∧ DatIn nb v (datOf kd (cs.getD i 0)) := by
  obtain ⟨v, a, b⟩ := h.2 i cs[i] (by simp [hi])
  exact ⟨v, a, by simpa [List.getD, hi] using b⟩
theorem Shown.take {nb : List (Addr × Obj)} {kd : Kd} {vs : List Value} {cs : List Nat} (h : Shown nb kd vs cs) (n : Nat) : Shown nb kd (vs.take n) (cs.take n) := by
  refine ⟨by simp [h.1], fun i c e => ?_⟩
  rw [List.getElem?_take] at e
  by_cases hi : i < n
  · rw [if_pos hi] at e
    obtain ⟨v, a, b⟩ := h.2 i c e
    exact ⟨v, by rw [List.getElem?_take, if_pos hi]; exact a, b⟩
  · rw [if_neg hi] at e; cases e
theorem Shown.append {nb : List (Addr × Obj)} {kd : Kd} {vs us : List Value} {cs es : List Nat} (h : Shown nb kd vs cs) (k : Shown nb kd us es) : Shown nb kd (vs ++ us) (cs ++ es) := by
  refine ⟨by simp [h.1, k.1], fun i c e => ?_⟩
  by_cases hi : i < cs.length
  · rw [List.getElem?_append_left hi] at e
    obtain ⟨u, a, b⟩ := h.2 i c e
    exact ⟨u, by rw [List.getElem?_append_left (by rw [h.1]; exact hi)]; exact a, b⟩
  · rw [List.getElem?_append_right (Nat.not_lt.mp hi)] at e
    obtain ⟨u, a, b⟩ := k.2 _ c e
    exact ⟨u, by rw [List.getElem?_append_right (by rw [h.1]; exact Nat.not_lt.mp hi), h.1]; exact a, b⟩
theorem Shown.reverse {nb : List (Addr × Obj)} {kd : Kd} {vs : List Value} {cs : List Nat} (h : Shown nb kd vs cs) : Shown nb kd vs.reverse cs.reverse := by
  refine ⟨by simp [h.1], fun i c e => ?_⟩
  obtain ⟨hi, e2⟩ := List.getElem?_eq_some_iff.mp e
  rw [List.length_reverse] at hi
  rw [List.getElem_reverse] at e2
  obtain ⟨v, a, b⟩ := h.2 (cs.length - 1 - i) c (by rw [List.getElem?_eq_getElem (by omega), e2])
  refine ⟨v, ?_, b⟩
  rw [List.getElem?_reverse (by rw [h.1]; exact hi), h.1]
  exact a
theorem Shown.lt {nb : List (Addr × Obj)} {kd : Kd} {vs : List Value} {cs : List Nat} (h : Shown nb kd vs cs) : ∀ c ∈ cs, c < kd.most := by
  intro c hc
  obtain ⟨i, hi, rfl⟩ := List.getElem_of_mem hc
  obtain ⟨v, _, b, _⟩ := h.2 i cs[i] (by simp [hi])
  exact b
theorem Shown.dats {nb : List (Addr × Obj)} {kd : Kd} {vs : List Value} {cs : List Nat} (h : Shown nb kd vs cs) : DatAll nb vs (cs.map (datOf kd)) := by
  refine datAll_of (by rw [List.length_map]; exact h.1) fun i d hi => ?_
  rw [List.getElem?_map, Option.map_eq_some_iff] at hi
  obtain ⟨c, hc, rfl⟩ := hi
  obtain ⟨v, a, _, b⟩ := h.2 i c hc
  exact ⟨v, a, b⟩
theorem datOf_ok (kd : Kd) (c : Nat) : kqdOk 8 (datOf kd c) = true := by
  cases kd with
  | lst => rfl
  | int => match c with | 0 | 1 | 2 | 3 | _ + 4 => rfl
  | dbl => match c with | 0 | 1 | 2 | 3 | _ + 4 => rfl
  | chr => match c with
    | 0 | 1 | 2 | 3 => decide +kernel
    | _ + 4 => rfl
theorem datOf_inj {kd : Kd} {c d : Nat} (hc : c < kd.most) (hd : d < kd.most) (e : datOf kd c = datOf kd d) : c = d := by
  cases kd with
  | lst => simp only [datOf, Dat.list.injEq, List.cons.injEq, Dat.int.injEq, and_true] at e; omega
  | int =>
    have hc' : c < 5 := hc
    have hd' : d < 5 := hd
    match c, d, hc', hd' with
    | 0, 0, _, _ | 1, 1, _, _ | 2, 2, _, _ | 3, 3, _, _ | 4, 4, _, _ => rfl
    | 0, 1, _, _ | 0, 2, _, _ | 0, 3, _, _ | 0, 4, _, _ | 1, 0, _, _ | 1, 2, _, _ | 1, 3, _, _ | 1, 4, _, _ | 2, 0, _, _ | 2, 1, _, _ | 2, 3, _, _ | 2, 4, _, _ | 3, 0, _, _ | 3, 1, _, _ | 3, 2, _, _ | 3, 4, _, _ | 4, 0, _, _ | 4, 1, _, _ | 4, 2, _, _ | 4, 3, _, _ => simp [datOf] at e
  | dbl =>
    have hc' : c < 5 := hc
    have hd' : d < 5 := hd
    match c, d, hc', hd' with
    | 0, 0, _, _ | 1, 1, _, _ | 2, 2, _, _ | 3, 3, _, _ | 4, 4, _, _ => rfl
    | 0, 1, _, _ | 0, 2, _, _ | 0, 3, _, _ | 0, 4, _, _ | 1, 0, _, _ | 1, 2, _, _ | 1, 3, _, _ | 1, 4, _, _ | 2, 0, _, _ | 2, 1, _, _ | 2, 3, _, _ | 2, 4, _, _ | 3, 0, _, _ | 3, 1, _, _ | 3, 2, _, _ | 3, 4, _, _ | 4, 0, _, _ | 4, 1, _, _ | 4, 2, _, _ | 4, 3, _, _ => simp [datOf] at e
  | chr =>
    have hc' : c < 5 := hc
    have hd' : d < 5 := hd
    match c, d, hc', hd' with
    | 0, 0, _, _ | 1, 1, _, _ | 2, 2, _, _ | 3, 3, _, _ | 4, 4, _, _ => rfl
    | 0, 1, _, _ | 0, 2, _, _ | 0, 3, _, _ | 1, 0, _, _ | 1, 2, _, _ | 1, 3, _, _ | 2, 0, _, _ | 2, 1, _, _ | 2, 3, _, _ | 3, 0, _, _ | 3, 1, _, _ | 3, 2, _, _ => exact absurd (Dat.str.inj e) (by decide +kernel)
    | 0, 4, _, _ | 1, 4, _, _ | 2, 4, _, _ | 3, 4, _, _ | 4, 0, _, _ | 4, 1, _, _ | 4, 2, _, _ | 4, 3, _, _ => simp [datOf] at e
theorem mem_datOf {kd : Kd} {c : Nat} {cs : List Nat} (hc : c < kd.most) (h : ∀ d ∈ cs, d < kd.most) : datOf kd c ∈ cs.map (datOf kd) ↔ c ∈ cs := by
  rw [List.mem_map]
  exact ⟨fun ⟨d, hd, e⟩ => datOf_inj (h d hd) hc e ▸ hd, fun hm => ⟨c, hm, rfl⟩⟩
theorem map_datOf {kd : Kd} : ∀ {cs ds : List Nat}, (∀ d ∈ cs, d < kd.most) → (∀ d ∈ ds, d < kd.most) → (cs.map (datOf kd) = ds.map (datOf kd) ↔ cs = ds)
  | [], [], _, _ => by simp
  | [], _ :: _, _, _ => by simp
  | _ :: _, [], _, _ => by simp
  | c :: cs, d :: ds, h, k => by
    rw [List.map_cons, List.map_cons, List.cons.injEq, List.cons.injEq, map_datOf (fun x hx => h x (.tail _ hx)) (fun x hx => k x (.tail _ hx))]
    exact ⟨fun q => ⟨datOf_inj (h c (.head _)) (k d (.head _)) q.1, q.2⟩, fun q => ⟨congrArg _ q.1, q.2⟩⟩
theorem dats_ok {kd : Kd} {cs : List Nat} : ∀ d ∈ cs.map (datOf kd), kqdOk 8 d = true := by
  intro d hd
  obtain ⟨c, _, rfl⟩ := List.mem_map.mp hd
  exact datOf_ok kd c
section
variable {prog : Program} {w : World} {A : Around} {E : Value → Shared → Prop} {s : Shared} {h₀ : Heap} {L : Addr} {m : Str → Option Value} {news nb : List (Addr × Obj)} {kd : Kd} {a b : Addr} {us vs : List Value} {cu cs : List Nat} {c k k' : Nat} {v : Value} {Q : Value → Shared → Prop}
theorem notin_shown (N : News h₀ L s.heap news) (ha : (a, listOf vs.toArray k) ∈ news) (hS : Shown nb kd vs cs) (hs : ∀ p ∈ nb, p ∈ news) (hv : DatIn nb v (datOf kd c)) (hc : c < kd.most) (hu : A.units + 64 < cLine)
    (h : Q (.bool (!cs.contains c)) s) : wpAny (model prog w) A (compareOp .NotIn v (.ref a)) Q E s := by
  refine kqd_notIn N ha rfl rfl hS.dats hs hv hs dats_ok (datOf_ok _ _) hu ?_
  have e : ∀ (i : Decidable (datOf kd c ∈ cs.map (datOf kd))), (!(@decide _ i)) = !cs.contains c := by
    intro _
    rw [Bool.eq_iff_iff]
    simp only [Bool.not_eq_true', decide_eq_false_iff_not, mem_datOf hc hS.lt, List.contains_eq_mem]
  exact (congrArg (fun b => Q (.bool b) s) (e _)).mpr h
theorem in_shown (N : News h₀ L s.heap news) (ha : (a, listOf vs.toArray k) ∈ news) (hS : Shown nb kd vs cs) (hs : ∀ p ∈ nb, p ∈ news) (hv : DatIn nb v (datOf kd c)) (hc : c < kd.most) (hu : A.units + 64 < cLine)
    (h : Q (.bool (cs.contains c)) s) : wpAny (model prog w) A (compareOp .In v (.ref a)) Q E s := by
  refine kqd_isIn N ha rfl rfl hS.dats hs hv hs dats_ok (datOf_ok _ _) hu ?_
  have e : ∀ (i : Decidable (datOf kd c ∈ cs.map (datOf kd))), (@decide _ i) = cs.contains c := by
    intro _
    rw [Bool.eq_iff_iff]
    simp only [decide_eq_true_eq, mem_datOf hc hS.lt, List.contains_eq_mem]
  exact (congrArg (fun b => Q (.bool b) s) (e _)).mpr h
theorem ne_shown (N : News h₀ L s.heap news) (ha : (a, listOf us.toArray k) ∈ news) (hb : (b, listOf vs.toArray k') ∈ news) (hS : Shown nb kd us cu) (hT : Shown nb kd vs cs) (hs : ∀ p ∈ nb, p ∈ news) (hu : A.units + 64 < cLine)
    (h : Q (.bool (cu != cs)) s) : wpAny (model prog w) A (compareOp .NotEq (.ref a) (.ref b)) Q E s := by
  refine kqd_ne N ha rfl rfl hS.dats hs hb rfl rfl hT.dats hs dats_ok dats_ok hu ?_
  have e : ∀ (i : Decidable (cu.map (datOf kd) = cs.map (datOf kd))), (!(@decide _ i)) = (cu != cs) := by
    intro _
    rw [Bool.eq_iff_iff]
    simp only [Bool.not_eq_true', decide_eq_false_iff_not, map_datOf hS.lt hT.lt, bne_iff_ne, ne_eq]
  exact (congrArg (fun b => Q (.bool b) s) (e _)).mpr h
theorem eq_shown (N : News h₀ L s.heap news) (ha : (a, listOf us.toArray k) ∈ news) (hb : (b, listOf vs.toArray k') ∈ news) (hS : Shown nb kd us cu) (hT : Shown nb kd vs cs) (hs : ∀ p ∈ nb, p ∈ news) (hu : A.units + 64 < cLine)
    (h : Q (.bool (cu == cs)) s) : wpAny (model prog w) A (compareOp .Eq (.ref a) (.ref b)) Q E s := by
  refine kqd_eq N ha rfl rfl hS.dats hs hb rfl rfl hT.dats hs dats_ok dats_ok hu ?_
  have e : ∀ (i : Decidable (cu.map (datOf kd) = cs.map (datOf kd))), (@decide _ i) = (cu == cs) := by
    intro _
    rw [Bool.eq_iff_iff]
    simp only [decide_eq_true_eq, map_datOf hS.lt hT.lt, beq_iff_eq]
  exact (congrArg (fun b => Q (.bool b) s) (e _)).mpr h
/-- two like items -/
theorem ne_same {v' : Value} (N : News h₀ L s.heap news) (hs : ∀ p ∈ nb, p ∈ news) (hv : DatIn nb v (datOf kd c)) (hv' : DatIn nb v' (datOf kd c)) (hu : A.units + 64 < cLine)
    (h : Q (.bool false) s) : wpAny (model prog w) A (compareOp .NotEq v v') Q E s := by
  obtain ⟨as, ra⟩ := kqd_in N 8 (hv.mono hs) (datOf_ok _ _)
  obtain ⟨bs, rb⟩ := kqd_in N 8 (hv'.mono hs) (datOf_ok _ _)
  have l := kqd_lay 8 _ (datOf_ok kd c)
  have e : PyData.eqv (kqdP (datOf kd c)) (kqdP (datOf kd c)) = true := (kqd_eqv 8 _ _ 8 (datOf_ok _ _) (datOf_ok _ _)).mpr rfl
  have hsh : SeqAt.shaped (kqdP (datOf kd c)) = true := by unfold SeqAt.shaped; rw [l.1, Bool.true_and]; exact decide_eq_true (Nat.le_trans l.2 (by decide))
  exact ne_dataH ra rb hsh hsh hu (by rw [e]; exact h)
theorem slice_to {value slice : PySem.Expr} {n : Nat} {t : Tok} (F : Fr h₀ L s.heap m) (N : News h₀ L s.heap news) (ha : (a, listOf vs.toArray k) ∈ news) (hn : n ≤ vs.length) (hz : vs.length ≤ 1000)
    (h : ∀ D h', Fr h₀ L h' m → News h₀ L h' ((D, listOf (vs.take n).toArray 0) :: news) → (∀ p ∈ news, p.1 < D) → Q (.ref D) { s with heap := h' })
    (hs : subscripted slice false (.ref a) (.ref s.heap.objs.size) = operate [.ref s.heap.objs.size, .ref a] (getItem (.ref a) (.ref s.heap.objs.size))) (ht : ∀ r, letTemporaryGo value (.ref a) r = pure ()) :
    wpAny (model prog w) A (subscriptTail value slice (.ref a) (.ref s.heap.objs.size)) Q E { s with heap := s.heap.push { cls := .type "slice", data := .fields #[.none, .int (n : Int) t, .none] } } := by
  refine kmk_slice_lit F N (News.isList N ha) .none (IsPart.int _ _) ?_ h hs ht (by rw [List.size_toArray, sizeLine_eq]; omega)
  rw [slicePick_upto vs.toArray n (by simpa using hn)]
end

theorem map_readOf {h : Heap} {kd : Kd} {vs : List Value} {cs : List Nat} {as : List Addr} (r : ReadsAll h vs (kqdPs (cs.map (datOf kd))) as) : vs.map (SeqAt.readOf h) = kqdPs (cs.map (datOf kd)) :=
  SeqAt.readsAll_map _ _ _ (kqd_layL dats_ok).1 r
theorem kqdPs_map : ∀ ds : List Dat, kqdPs ds = ds.map kqdP
  | [] => by simp [kqdPs]
  | d :: ds => by simp [kqdPs, kqdPs_map ds]
theorem countP_codes {kd : Kd} {c : Nat} (hc : c < kd.most) : ∀ {cs : List Nat}, (∀ d ∈ cs, d < kd.most) → (kqdPs (cs.map (datOf kd))).countP (fun y => PyData.eqv y (kqdP (datOf kd c))) = cs.count c
  | [], _ => by simp [kqdPs]
  | d :: cs, h => by
    have q := kqd_eqv 8 (datOf kd d) (datOf kd c) 8 (datOf_ok _ _) (datOf_ok _ _)
    rw [List.map_cons, kqdPs, List.countP_cons, List.count_cons, countP_codes hc fun x hx => h x (.tail _ hx)]
    congr 1
    by_cases e : d = c
    · subst e; simp [q]
    · have : ¬ datOf kd d = datOf kd c := fun x => e (datOf_inj (h d (.head _)) hc x)
      have h2 : PyData.eqv (kqdP (datOf kd d)) (kqdP (datOf kd c)) = false := Bool.eq_false_iff.mpr fun x => this (q.mp x)
      simp [h2, e]
section
variable {prog : Program} {w : World} {A : Around} {E : Value → Shared → Prop} {s : Shared} {h₀ : Heap} {L : Addr} {m : Str → Option Value} {news nb : List (Addr × Obj)} {kd : Kd} {a : Addr} {vs : List Value} {cs : List Nat} {c k : Nat} {v : Value} {Q : Value → Shared → Prop}
theorem count_shown (N : News h₀ L s.heap news) (ha : (a, listOf vs.toArray k) ∈ news) (hS : Shown nb kd vs cs) (hs : ∀ p ∈ nb, p ∈ news) (hv : DatIn nb v (datOf kd c)) (hc : c < kd.most) (hu : A.units + 64 < cLine)
    (h : Q (.int (cs.count c : Nat) s.toks) { s with toks := s.toks + 1 }) : wpAny (model prog w) A (call (.builtin "list.count") [.ref a, v]) Q E s := by
  obtain ⟨as, ra⟩ := kqd_all N 8 (hS.dats.mono hs) dats_ok
  obtain ⟨bs, rb⟩ := kqd_in N 8 (hv.mono hs) (datOf_ok _ _)
  have l := kqd_layL (ds := cs.map (datOf kd)) dats_ok
  have l2 := kqd_lay 8 _ (datOf_ok kd c)
  have l3 := l2.2
  refine call_meets PySem.F.slot_list_count ⟨_, (N.get ha), rfl⟩ PySem.F.entry_list_count (PySem.F.args_list_count_2 _ _) (SeqAt.list_countAt a vs.toArray k none #[] v (fun y => PyData.eqv (SeqAt.readOf s.heap y) (kqdP (datOf kd c)))) ⟨N.get ha, ?_, ?_⟩
  · intro y hy
    refine SeqAt.items_eqAt (vs := vs.toArray) (by simpa using ra) rb l.1 l2.1 ?_ y hy
    have := Nat.min_le_right (PyData.depthAll (kqdPs (cs.map (datOf kd)))) (kqdP (datOf kd c)).depth
    units_room
  · rw [show vs.toArray.toList = vs from rfl]
    have e : vs.countP (fun y => PyData.eqv (SeqAt.readOf s.heap y) (kqdP (datOf kd c))) = cs.count c := by
      rw [← countP_codes hc hS.lt, ← map_readOf ra, List.countP_map]
      rfl
    rw [e]; exact h
end
def ShownNew (news nb : List (Addr × Obj)) (kd : Kd) (cs : List Nat) (tl : List (Addr × Obj)) (r : Value) : Prop := ∃ l vs k, tl = [(l, listOf vs.toArray k)] ∧ vs.length ≤ 1000 ∧ Shown nb kd vs cs ∧ r = .ref l ∧ ∀ q ∈ news, q.1 ≠ l
theorem Items.shown {nb : List (Addr × Obj)} {kd : Kd} {vs : List Value} {cs : List Nat} (hkd : kd.listed = false) (h : Items nb kd vs cs) : Shown nb kd vs cs := by
  refine ⟨h.1, fun i c e => ?_⟩
  obtain ⟨v, a, b⟩ := h.2 i c e
  refine ⟨v, a, b.1, ?_⟩
  have b2 := b.2
  cases kd with
  | lst => cases hkd
  | _ => exact b2
section
variable {w : World} {p : Program} {loose : List Str} {mean : ExcName → Option Value} {mg mb : Str → Option Value} {news : List (Addr × Obj)}
theorem law_shown_lst {nb : List (Addr × Obj)} {x l : Addr} {vs : List Value} {cs : List Nat} {k : Nat} (hv : VecAt news x (Kd.str .lst) l) (hl : (l, listOf vs.toArray k) ∈ news) (hI : Items nb .lst vs cs) (hs : ∀ p ∈ nb, p ∈ news) (hz : vs.length ≤ 1000) :
    Ctr w p loose mean mg mb 654 6 news [.ref x] (ShownNew news nb .lst cs) := by
  unfold Ctr
  (w_top off; k_fill)
  intro dp un gd cn cs' a ccd cl outer A₀ base h₀ L m s Q E B F X N T hk hd hu hret
  obtain ⟨dx, od, hx, hdx, hod⟩ := hv
  cases hod
  dsimp only [Kd.str] at hdx
  refine wpAny_call ?_
  k_dflt k_enter
  k_steps
  rename Fr _ _ _ _ => F1
  rename News _ _ _ _ => N1
  refine comp_listC (fun i ys => Shown nb .lst ys (cs.take i)) (by rfl) F1 N1 (by k_mem) hz Shown.nil ?_ ?_
  · intro i v ys hv hys I oI C oC D m₂ h tk E' hN hx' F2 N2
    have hi : i < cs.length := by
      have := (List.getElem?_eq_some_iff.mp hv).1
      rw [← hI.1]; exact this
    obtain ⟨v2, hv2, hit⟩ := hI.get hi
    obtain rfl : v = v2 := Option.some.inj (hv.symm.trans hv2)
    obtain ⟨hc, x2, l2, t2, k2, rfl, hva, hl2⟩ := hit
    obtain ⟨dx2, od2, hx2, hdx2, hod2⟩ := hva
    cases hod2
    have hx3 := hs _ hx2
    have hdx3 := hs _ hdx2
    clear F1 N1
    k_steps
    refine CEnd.intro (by k_asm) (by k_asm) (fun p h => h) ?_
    rw [List.take_add_one, List.getElem?_eq_getElem hi]
    rw [List.getD, List.getElem?_eq_getElem hi, Option.getD_some] at hc hl2
    exact hys.snoc hc (.list hl2 (.cons (.int _ _) .nil))
  · intro g ys hys D h tk F2 N2 o1
    rw [hI.1, List.take_length] at hys
    have hz2 : ys.length ≤ 1000 := by rw [hys.1, ← hI.1]; exact hz
    clear F1 N1
    k_steps
    exact hret _ [_] _ _ (by k_asm) (news_sub (by k_asm) (by kqd_sub)) ⟨_, _, _, rfl, hz2, hys, rfl, by k_all⟩
theorem law_shown_spec {nb : List (Addr × Obj)} {x l : Addr} {kd : Kd} {vs : List Value} {cs : List Nat} {k : Nat} (hv : VecAt news x kd.str l) (hl : (l, listOf vs.toArray k) ∈ news) (hI : Items nb kd vs cs) (hs : ∀ p ∈ nb, p ∈ news) (hz : vs.length ≤ 1000) :
    Ctr w p loose mean mg mb 654 6 news [.ref x] (ShownNew news nb kd cs) := by
  cases kd with
  | lst => exact law_shown_lst hv hl hI hs hz
  | _ =>
    have hS := hI.shown rfl
    unfold Ctr
    (w_top off; k_fill)
    intro dp un gd cn cs' a ccd cl outer A₀ base h₀ L m s Q E B F X N T hk hd hu hret
    obtain ⟨dx, od, hx, hdx, hod⟩ := hv
    cases hod
    dsimp only [Kd.str] at hdx
    refine wpAny_call ?_
    k_dflt k_enter
    k_steps
    exact hret _ [_] _ _ (by k_asm) (news_sub (by k_asm) (by kqd_sub)) ⟨_, _, _, rfl, hz, hS, rfl, by k_all⟩
end

--M{
local macro_rules | `(tactic| walk_at "call ref") => `(tactic| (row_wit2 654 law_shown_spec; k_caughtB))
--M}
--M{
local macro_rules | `(tactic| walk_at "subscriptTail Name Slice ref ref") => `(tactic| f_two (subscriptTail _ (PySem.Expr.Slice none (some _) none _) (Value.ref _) (Value.ref _)), (slice_to ?F ?N ?a ?y ?z ?_ ?g ?t))
local macro_rules | `(tactic| walk_at "compareOp NotIn") => `(tactic| f_two (compareOp CmpOp.NotIn _ (Value.ref _)), (notin_shown ?N ?a ?S ?s ?v ?c ?u ?_))
local macro_rules | `(tactic| walk_at "compareOp NotIn") => `(tactic| f_two (compareOp CmpOp.NotIn Value.none (Value.ref _)), (notin_opts ?N ?a ?o ?u ?_))
--M}
theorem take_idx {cs : List Nat} {i : Nat} (hi : i < cs.length) : (!(cs.take i).contains (cs.getD i 0)) = decide (cs.idxOf (cs.getD i 0) = i) := by
  rw [Bool.eq_iff_iff]
  simp only [Bool.not_eq_true', List.contains_eq_mem, decide_eq_false_iff_not, decide_eq_true_eq]
  constructor
  · intro h
    exact idxOf_at (by simp [List.getD, hi]) h
  · intro h hm
    have := idxOf_lt hm
    omega
section
variable {w : World} {p : Program} {loose : List Str} {mean : ExcName → Option Value} {mg mb : Str → Option Value} {news : List (Addr × Obj)}
theorem law_firsts_spec {nb : List (Addr × Obj)} {l : Addr} {kd : Kd} {vs : List Value} {cs : List Nat} {k : Nat} (hl : (l, listOf vs.toArray k) ∈ news) (hS : Shown nb kd vs cs) (hs : ∀ p ∈ nb, p ∈ news) (hz : vs.length ≤ 1000) :
    Ctr w p loose mean mg mb 659 6 news [.ref l] (ShownNew news nb kd (dst cs)) := by
  unfold Ctr
  (w_top off; k_fill)
  intro dp un gd cn cs' a ccd cl outer A₀ base h₀ L m s Q E B F X N T hk hd hu hret
  refine wpAny_call ?_
  k_dflt k_enter
  k_steps
  rename Fr _ _ _ _ => F1
  rename News _ _ _ _ => N1
  rename IsRange _ _ _ _ _ _ _ _ => R1
  have hlen := hS.1
  refine compT_rangeC cs.length (fun i ys => Shown nb kd ys ((kpt cs i).map fun q => cs.getD q 0)) (by rfl) F1 N1 R1 (by rw [hlen]) (by omega) Shown.nil ?_ ?_
  · intro i ys hi hys t I oI C oC D m₂ h tk E' hN hx' F2 N2
    obtain ⟨v2, hv2, hc, hit⟩ := hS.get hi
    have hT := hS.take i
    have hil : i ≤ vs.length := by omega
    clear F1 N1 R1
    k_steps
    · rename @Eq Bool _ _ => hb
      have ht := take_idx hi
      rw [hb, Bool.not_true] at ht
      refine CEnd.intro (by k_asm) (by k_asm) (by kqd_sub) ?_
      rw [kpt_succ, if_neg (of_decide_eq_false ht.symm), List.append_nil]; exact hys
    · rename @Eq Bool _ _ => hb
      have ht := take_idx hi
      rw [hb, Bool.not_false] at ht
      refine CEnd.intro (by k_asm) (by k_asm) (by kqd_sub) ?_
      rw [kpt_succ, if_pos (of_decide_eq_true ht.symm), List.map_append]; exact hys.snoc hc hit
  · intro g ys hys D h tk F2 N2 o1
    have hz2 : ys.length ≤ 1000 := by
      have h1 := hys.1
      have h2 := kpt_length cs cs.length
      rw [List.length_map] at h1
      omega
    clear F1 N1 R1
    k_steps
    exact hret _ [_] _ _ (by k_asm) (news_sub (by k_asm) (by kqd_sub)) ⟨_, _, _, rfl, hz2, hys, rfl, by k_all⟩
end
--M{
local macro_rules | `(tactic| walk_at "call ref") => `(tactic| (row_wit2 659 law_firsts_spec; k_caughtB))
--M}

/-- what a call of f does that turns the object d of the ledger (d, o) :: cst -/
def CtrU (w : World) (p : Program) (loose : List Str) (mean : ExcName → Option Value) (mg mb : Str → Option Value) (f : Addr) (need : Nat) (d : Addr) (o : Obj) (cst : List (Addr × Obj)) (args : List Value) (Out : Obj → List (Addr × Obj) → Value → Prop) : Prop :=
  ∀ (dp un : Nat) (gd : Option (List Code)) (cn : Str) (cs : Scope) (a : Addr) (ccd : Value) (cl : List (Str × Addr)) (outer : List Env) (A₀ : Around) (base h₀ : Heap) (L : Addr) (m : Str → Option Value) (s : Shared)
    (Q E : Value → Shared → Prop),
    Below A₀ base outer h₀ → Fr h₀ L s.heap m → (hdk.heap_1 w.params).In h₀ → News h₀ L s.heap ((d, o) :: cst) → Top p loose mean mg mb h₀ → cs.kind = .function → dp + need < recursionLimit → un + 8 * need + 64 < cLine →
    (∀ r tl o' h' tk', Fr h₀ L h' m → News h₀ L h' (tl ++ (d, o') :: cst) → Out o' tl r → Q r { s with heap := h', toks := tk' }) →
    wpAny (model PySem.Challenge.rw_ov0082_01.row.prog w) (ktrTop dp un gd cn cs L a ccd cl outer) (call (.ref f) args) Q E s
/-- the figures: a list of ints -/
def FigsAre (o : Obj) : Prop := ∃ us ns k, o = listOf (List.toArray us) k ∧ IntsAre us ns ∧ ns.length ≤ 200
section
variable {w : World} {p : Program} {loose : List Str} {mean : ExcName → Option Value} {mg mb : Str → Option Value} {cst : List (Addr × Obj)}
theorem draw_spec {fa : Addr} {o : Obj} {mm : Nat} {t : Tok} (hf : FigsAre o) (hn : ∀ p ∈ cst, p.1 ≠ fa) (hm0 : 0 < mm) (hm1 : mm ≤ 8) :
    CtrU w p loose mean mg mb 637 4 fa o cst [.ref fa, .int (mm : Int) t] (fun o' tl r => tl = [] ∧ FigsAre o' ∧ ∃ c t', c < mm ∧ r = .int (c : Nat) t') := by
  unfold CtrU
  (w_top off; k_fill)
  intro dp un gd cn cs' a ccd cl outer A₀ base h₀ L m s Q E B F X N T hk hd hu hret
  obtain ⟨us, ns, k, rfl, hI, hz⟩ := hf
  have hlen := hI.length
  refine wpAny_call ?_
  k_dflt k_enter
  k_steps
  · exact hret _ [] _ _ _ (by k_asm) (news_sub (by k_asm) (by kqd_sub)) ⟨rfl, ⟨us, ns, k, rfl, hI, hz⟩, 0, _, hm0, rfl⟩
  · rename @Eq Bool _ _ => hb
    have hne : 0 < us.length := by rw [hlen]; exact List.length_pos_iff.mpr (of_decide_eq_false hb)
    have hmz : (mm : Int) ≠ 0 := by omega
    dsimp only
    refine kpa_pop (by k_asm) (by k_asm) (by k_upd) hI hne (by rw [sizeLine_eq]; omega) ?_
    intro h3 t3 F3 N3 hI3
    k_sweep
    k_steps
    have e1 : ((ns.getLastD 0).fmod (mm : Int)) = (ns.getLastD 0) % (mm : Int) := Int.fmod_eq_emod_of_nonneg _ (by omega)
    have e2 := Int.emod_nonneg (ns.getLastD 0) hmz
    have e3 := Int.emod_lt_of_pos (ns.getLastD 0) (show (0 : Int) < mm by omega)
    refine hret _ [] _ _ _ (by k_asm) (news_sub (by k_asm) (by kqd_sub)) ⟨rfl, ⟨_, _, _, rfl, hI3, by rw [List.length_dropLast]; omega⟩, ((ns.getLastD 0) % (mm : Int)).toNat, tk, by omega, ?_⟩
    rw [e1, Int.toNat_of_nonneg e2]
end
section
variable {w : World} {p : Program} {loose : List Str} {mean : ExcName → Option Value} {mg mb : Str → Option Value} {f : Addr} {need : Nat} {d : Addr} {o : Obj} {cst : List (Addr × Obj)} {args : List Value} {Out : Obj → List (Addr × Obj) → Value → Prop}
theorem CtrU.use {dp un : Nat} {gd : Option (List Code)} {cn : Str} {cs : Scope} {a : Addr} {ccd : Value} {cl : List (Str × Addr)} {outer : List Env} {A₀ : Around} {base h₀ : Heap} {L : Addr} {m : Str → Option Value} {s : Shared}
    {Q E : Value → Shared → Prop} {all : List (Addr × Obj)} (C : CtrU w p loose mean mg mb f need d o cst args Out)
    (B : Below A₀ base outer h₀) (F : Fr h₀ L s.heap m) (X : (hdk.heap_1 w.params).In h₀) (N : News h₀ L s.heap all) (hs : ∀ p ∈ (d, o) :: cst, p ∈ all) (T : Top p loose mean mg mb h₀) (hk : cs.kind = .function)
    (hd : dp + need < recursionLimit) (hu : un + 8 * need + 64 < cLine)
    (ret : ∀ r tl o' h' tk', Fr h₀ L h' m → News h₀ L h' (tl ++ (d, o') :: cst) → Out o' tl r → Q r { s with heap := h', toks := tk' }) :
    wpAny (model PySem.Challenge.rw_ov0082_01.row.prog w) (ktrTop dp un gd cn cs L a ccd cl outer) (call (.ref f) args) Q E s := C _ _ _ _ _ _ _ _ _ _ _ _ _ _ _ _ _ B F X (news_sub N hs) T hk hd hu ret
end

section
variable {w : World} {p : Program} {loose : List Str} {mean : ExcName → Option Value} {mg mb : Str → Option Value} {cst : List (Addr × Obj)}
theorem draw_int {fa : Addr} {o : Obj} {n : Int} {t : Tok} (hf : FigsAre o) (hn : ∀ p ∈ cst, p.1 ≠ fa) (hm0 : 0 < n) (hm1 : n ≤ 8) :
    CtrU w p loose mean mg mb 637 4 fa o cst [.ref fa, .int n t] (fun o' tl r => tl = [] ∧ FigsAre o' ∧ ∃ (c : Nat) (t' : Tok), (c : Int) < n ∧ r = .int (c : Int) t') := by
  obtain ⟨mm, rfl⟩ := Int.eq_ofNat_of_zero_le (Int.le_of_lt hm0)
  have := draw_spec (w := w) (p := p) (loose := loose) (mean := mean) (mg := mg) (mb := mb) (t := t) hf hn (show 0 < mm by omega) (show mm ≤ 8 by omega)
  intro dp un gd cn cs' a ccd cl outer A₀ base h₀ L m s Q E B F X N T hk hd hu hret
  exact this dp un gd cn cs' a ccd cl outer A₀ base h₀ L m s Q E B F X N T hk hd hu fun r tl o' h' tk' F' N' q => hret r tl o' h' tk' F' N' (by obtain ⟨a, b, c, t', d, e⟩ := q; exact ⟨a, b, c, t', by omega, e⟩)
end
--M{
local macro_rules | `(tactic| walk_at "call ref") => `(tactic| (k_here; (with_reducible show wpAny _ _ (call (Value.ref 637) [Value.ref _, Value.int _ _]) _ _ _); k_dflt (refine' CtrU.use (draw_int ?R ?K ?j ?y) ?B ?F ?X ?N ?s ?T ?k ?d ?u ?_; k_clsL); intro r9 tl9 o9 h9 tk9 F9 N9 q9; k_dflt (obtain ⟨e9, f9, c9, t9, hc9, e9'⟩ := q9; subst e9; subst e9'); k_caughtNB))
--M}
noncomputable def Kd.way : Kd → Int
  | .int => 0 | .dbl => 1 | .chr => 2 | .lst => 3
/-- what _law_item hands back -/
def ItemOut (kd : Kd) (led : List (Addr × Obj)) (o' : Obj) (tl : List (Addr × Obj)) (r : Value) : Prop := FigsAre o' ∧ (∀ p ∈ tl, ∀ q ∈ led, q.1 ≠ p.1) ∧ ∃ c, ItemIn tl kd r c
theorem four {c : Nat} (h : (c : Int) < 5) (h4 : (c : Int) ≠ 4) : c = 0 ∨ c = 1 ∨ c = 2 ∨ c = 3 := by omega
theorem fresh_turn {fa x : Addr} {o o9 : Obj} {cst : List (Addr × Obj)} (h : ∀ p ∈ (fa, o9) :: cst, p.1 ≠ x) : ∀ q ∈ (fa, o) :: cst, q.1 ≠ x := by
  intro q hq
  rcases List.mem_cons.mp hq with rfl | hq
  · exact h (fa, o9) (.head _)
  · exact h _ (.tail _ hq)
theorem itemOut_none {kd : Kd} {led : List (Addr × Obj)} {o9 : Obj} (hk : kd.listed = false) (f : FigsAre o9) : ItemOut kd led o9 [] .none := by
  refine ⟨f, fun _ hp => absurd hp List.not_mem_nil, 4, ?_⟩
  cases kd with
  | lst => cases hk
  | _ => exact ⟨by decide, .none⟩
theorem itemOut_lst {fa x dx l : Addr} {o o9 od : Obj} {cst : List (Addr × Obj)} {c k : Nat} {t : Tok} (f : FigsAre o9) (hx : ∀ p ∈ (fa, o9) :: cst, p.1 ≠ x) (hdx : ∀ p ∈ (fa, o9) :: cst, p.1 ≠ dx) (hl : ∀ p ∈ (fa, o9) :: cst, p.1 ≠ l)
    (v : IsVD (Str.ofString "integer") l od) (hc : (c : Int) < 3) : ItemOut .lst ((fa, o) :: cst) o9 [(x, instObj 237 dx), (dx, od), (l, listOf [Value.int (c : Int) t].toArray k)] (.ref x) := by
  refine ⟨f, fun p hp => ?_, c, ?_, x, l, t, k, rfl, ⟨dx, od, by k_mem, by k_mem, v⟩, by k_mem⟩
  · simp only [List.mem_cons, List.not_mem_nil, or_false] at hp
    rcases hp with rfl | rfl | rfl
    · exact fresh_turn hx
    · exact fresh_turn hdx
    · exact fresh_turn hl
  · show c < 3
    omega
theorem itemOut_dbl {fa x : Addr} {o o9 : Obj} {cst : List (Addr × Obj)} {i j : Int} {t u : Tok} {n c : Nat} (f : FigsAre o9) (hx : ∀ p ∈ (fa, o9) :: cst, p.1 ≠ x) (hc : c < 5) (e : datOf .dbl c = .tuple [.int i, .int j]) :
    ItemOut .dbl ((fa, o) :: cst) o9 [(x, tupOf #[.int i t, .int j u] n)] (.ref x) := by
  refine ⟨f, fun p hp => ?_, c, hc, ?_⟩
  · obtain rfl := List.mem_singleton.mp hp
    exact fresh_turn hx
  · show DatIn _ _ (datOf .dbl c)
    rw [e]
    exact .tuple (vs := [.int i t, .int j u]) (List.mem_singleton.mpr rfl) (.cons (.int _ _) (.cons (.int _ _) .nil))
--M{
local macro_rules | `(tactic| walk_at "ite") => `(tactic| first | (k_closed; first | (refine ite_pos ?h ?_; (case h => k_dflt decide)) | (refine ite_neg ?h ?_; (case h => k_dflt decide))) | (refine split_dec ?_ ?_ <;> intro _))
local macro_rules | `(tactic| walk_at "subscriptTail List") => `(tactic| (k_here; (with_reducible show wpAny _ _ (subscriptTail (PySem.Expr.List _ _) _ (Value.ref _) (Value.int (Nat.cast _) _)) _ _ _); (refine stuck 0 ?_)))
--M}
section
variable {w : World} {p : Program} {loose : List Str} {mean : ExcName → Option Value} {mg mb : Str → Option Value} {cst : List (Addr × Obj)}
theorem item_int {fa : Addr} {o : Obj} {t : Tok} (hf : FigsAre o) (hn : ∀ p ∈ cst, p.1 ≠ fa) : CtrU w p loose mean mg mb 644 8 fa o cst [.ref fa, .int 0 t] (ItemOut .int ((fa, o) :: cst)) := by
  unfold CtrU
  (w_top off; k_fill)
  intro dp un gd cn cs' a ccd cl outer A₀ base h₀ L m s Q E B F X N T hk hd hu hret
  refine wpAny_call ?_
  k_dflt k_enter
  k_steps
  · exact hret _ [] _ _ _ (by k_asm) (news_sub (by k_asm) (by kqd_sub)) (itemOut_none rfl (by assumption))
  · rename ((_ : Int) < 5) => hc
    rename ((_ : Int) ≠ 4) => h4
    refine hret _ [] _ _ _ (by k_asm) (news_sub (by k_asm) (by kqd_sub)) ⟨by assumption, fun _ hp => absurd hp List.not_mem_nil, ?_⟩
    rcases four hc h4 with e | e | e | e
    · subst e; exact ⟨0, by decide, .int _ _⟩
    · subst e; exact ⟨1, by decide, .int _ _⟩
    · subst e; exact ⟨2, by decide, .int _ _⟩
    · subst e; exact ⟨3, by decide, .int _ _⟩
theorem item_lst {fa : Addr} {o : Obj} {t : Tok} (hf : FigsAre o) (hn : ∀ p ∈ cst, p.1 ≠ fa) : CtrU w p loose mean mg mb 644 8 fa o cst [.ref fa, .int 3 t] (ItemOut .lst ((fa, o) :: cst)) := by
  unfold CtrU
  (w_top off; k_fill)
  intro dp un gd cn cs' a ccd cl outer A₀ base h₀ L m s Q E B F X N T hk hd hu hret
  refine wpAny_call ?_
  k_dflt k_enter
  k_steps
  exact hret _ [_, _, _] _ _ _ (by k_asm) (news_sub (by k_asm) (by kqd_sub)) (itemOut_lst (by assumption) (by k_all) (by k_all) (by k_all) (IsVD.mk ..) (by assumption))
theorem item_dbl {fa : Addr} {o : Obj} {t : Tok} (hf : FigsAre o) (hn : ∀ p ∈ cst, p.1 ≠ fa) : CtrU w p loose mean mg mb 644 8 fa o cst [.ref fa, .int 1 t] (ItemOut .dbl ((fa, o) :: cst)) := by
  unfold CtrU
  (w_top off; k_fill)
  intro dp un gd cn cs' a ccd cl outer A₀ base h₀ L m s Q E B F X N T hk hd hu hret
  refine wpAny_call ?_
  k_dflt k_enter
  k_steps
  · exact hret _ [] _ _ _ (by k_asm) (news_sub (by k_asm) (by kqd_sub)) (itemOut_none rfl (by assumption))
  · rename ((_ : Int) < 5) => hc
    rename ((_ : Int) ≠ 4) => h4
    unfold Stuck
    rcases four hc h4 with e | e | e | e
    · subst e
      refine item_at (vs := [_, _, _, _]) (n := 0) (by k_asm) (by k_mem) rfl (by show 4 ≤ 1000; decide) ?_
      k_steps
      exact hret _ [_] _ _ _ (by k_asm) (news_sub (by k_asm) (by kqd_sub)) (itemOut_dbl (c := 0) (by assumption) (by k_all) (by decide) rfl)
    · subst e
      refine item_at (vs := [_, _, _, _]) (n := 1) (by k_asm) (by k_mem) rfl (by show 4 ≤ 1000; decide) ?_
      k_steps
      exact hret _ [_] _ _ _ (by k_asm) (news_sub (by k_asm) (by kqd_sub)) (itemOut_dbl (c := 1) (by assumption) (by k_all) (by decide) rfl)
    · subst e
      refine item_at (vs := [_, _, _, _]) (n := 2) (by k_asm) (by k_mem) rfl (by show 4 ≤ 1000; decide) ?_
      k_steps
      exact hret _ [_] _ _ _ (by k_asm) (news_sub (by k_asm) (by kqd_sub)) (itemOut_dbl (c := 2) (by assumption) (by k_all) (by decide) rfl)
    · subst e
      refine item_at (vs := [_, _, _, _]) (n := 3) (by k_asm) (by k_mem) rfl (by show 4 ≤ 1000; decide) ?_
      k_steps
      exact hret _ [_] _ _ _ (by k_asm) (news_sub (by k_asm) (by kqd_sub)) (itemOut_dbl (c := 3) (by assumption) (by k_all) (by decide) rfl)
theorem item_chr {fa : Addr} {o : Obj} {t : Tok} (hf : FigsAre o) (hn : ∀ p ∈ cst, p.1 ≠ fa) : CtrU w p loose mean mg mb 644 8 fa o cst [.ref fa, .int 2 t] (ItemOut .chr ((fa, o) :: cst)) := by
  unfold CtrU
  (w_top off; k_fill)
  intro dp un gd cn cs' a ccd cl outer A₀ base h₀ L m s Q E B F X N T hk hd hu hret
  refine wpAny_call ?_
  k_dflt k_enter
  k_steps
  · exact hret _ [] _ _ _ (by k_asm) (news_sub (by k_asm) (by kqd_sub)) (itemOut_none rfl (by assumption))
  · rename ((_ : Int) < 5) => hc
    rename ((_ : Int) ≠ 4) => h4
    unfold Stuck
    rcases four hc h4 with e | e | e | e
    · subst e
      refine item_at (vs := [_, _, _, _]) (n := 0) (by k_asm) (by k_mem) rfl (by show 4 ≤ 1000; decide) ?_
      k_steps
      exact hret _ [] _ _ _ (by k_asm) (news_sub (by k_asm) (by kqd_sub)) ⟨by assumption, fun _ hp => absurd hp List.not_mem_nil, 0, by decide, .str _ _⟩
    · subst e
      refine item_at (vs := [_, _, _, _]) (n := 1) (by k_asm) (by k_mem) rfl (by show 4 ≤ 1000; decide) ?_
      k_steps
      exact hret _ [] _ _ _ (by k_asm) (news_sub (by k_asm) (by kqd_sub)) ⟨by assumption, fun _ hp => absurd hp List.not_mem_nil, 1, by decide, .str _ _⟩
    · subst e
      refine item_at (vs := [_, _, _, _]) (n := 2) (by k_asm) (by k_mem) rfl (by show 4 ≤ 1000; decide) ?_
      k_steps
      exact hret _ [] _ _ _ (by k_asm) (news_sub (by k_asm) (by kqd_sub)) ⟨by assumption, fun _ hp => absurd hp List.not_mem_nil, 2, by decide, .str _ _⟩
    · subst e
      refine item_at (vs := [_, _, _, _]) (n := 3) (by k_asm) (by k_mem) rfl (by show 4 ≤ 1000; decide) ?_
      k_steps
      exact hret _ [] _ _ _ (by k_asm) (news_sub (by k_asm) (by kqd_sub)) ⟨by assumption, fun _ hp => absurd hp List.not_mem_nil, 3, by decide, .str _ _⟩
end

section
variable {w : World} {p : Program} {loose : List Str} {mean : ExcName → Option Value} {mg mb : Str → Option Value} {cst : List (Addr × Obj)}
theorem item_spec (kd : Kd) {fa : Addr} {o : Obj} {t : Tok} (hf : FigsAre o) (hn : ∀ p ∈ cst, p.1 ≠ fa) : CtrU w p loose mean mg mb 644 8 fa o cst [.ref fa, .int kd.way t] (ItemOut kd ((fa, o) :: cst)) := by
  cases kd with
  | int => exact item_int hf hn
  | dbl => exact item_dbl hf hn
  | chr => exact item_chr hf hn
  | lst => exact item_lst hf hn
end
section
open LCg LCt
variable {prog : Program} {w : World} {A : Around} {s : Shared} {h₀ : Heap} {L : Addr} {m : Str → Option Value} {env : Env}
/-- the end of an element that turns the object fa and makes tl -/
def UEnd (h₀ : Heap) (L : Addr) (m : Str → Option Value) (s₁ : Shared) (fa : Addr) (o : Obj) (led : List (Addr × Obj)) (J : Value → Obj → List (Addr × Obj) → Prop) (y : Value) (s₂ : Shared) : Prop :=
  ∃ h' tk o' tl, s₂ = { s₁ with heap := h', toks := tk } ∧ Fr h₀ L h' m ∧ News h₀ L h' (tl ++ (fa, o') :: led) ∧ (∀ p ∈ tl, ∀ q ∈ (fa, o) :: led, q.1 ≠ p.1) ∧ J y o' tl
theorem comp_rangeU {elt : PySem.Expr} {x : Str} {scope : Scope} {cl : List (Str × Addr)} {Fin : Shared → List Value → List (Addr × Obj) → Prop} {r : Addr} {b : Int} {t u v : Tok} (n : Nat) {fa : Addr} {o₀ : Obj} {cst : List (Addr × Obj)} {s₁ : Shared}
    (J : Nat → List Value → Obj → List (Addr × Obj) → Prop) (hh : A.handled = none) (F : Fr h₀ L s₁.heap m) (N : News h₀ L s₁.heap ((fa, o₀) :: cst)) (hr : IsRange s₁.heap r 0 b 1 t u v) (hb : b = (n : Int)) (hz : n ≤ 1000) (h0 : J 0 [] o₀ []) (hn : ∀ p ∈ cst, p.1 ≠ fa)
    (turn : ∀ i ys o acc, i < n → J i ys o acc → ∀ t I oI C oC D m₂ h tk (E' : Value → Shared → Prop), (∀ p ∈ (I, oI) :: (C, oC) :: (D, lst ys) :: (acc ++ cst), p.1 ≠ fa) → NsObj oC m₂ → m₂ x = some (.int (i : Int) t) → Fr h₀ L h m → News h₀ L h ((fa, o) :: (I, oI) :: (C, oC) :: (D, lst ys) :: (acc ++ cst)) →
      wpAny (model prog w) A (eval elt (compEnvC scope cl C env)) (UEnd h₀ L m { s₁ with heap := h, toks := tk } fa o ((I, oI) :: (C, oC) :: (D, lst ys) :: (acc ++ cst)) (fun y o' tl => J (i + 1) (ys ++ [y]) o' (tl ++ acc))) E' { s₁ with heap := h, toks := tk })
    (done : ∀ g ys o acc, J n ys o acc → (∀ p ∈ acc ++ cst, p.1 ≠ fa) → Fin { s₁ with heap := g } ys ((fa, o) :: (acc ++ cst))) : CGoal prog w A h₀ L m env elt x scope cl Fin (.ref r) s₁ := by
  subst hb
  have hsm : Builtin.Range.small 0 (n : Int) 1 = true := small_one (by decide) (by decide) (by omega) (by omega)
  have hsz : Builtin.Range.rangeSize 0 (n : Int) 1 = (n : Int) := by rw [rangeSize_one]; split <;> omega
  refine CompSrc.range hh F N hr hsm hsz (by rw [sizeLine_eq]; omega) fun g => ?_
  refine comp_inv (fun i ys nw => ∃ o acc, nw = (fa, o) :: (acc ++ cst) ∧ (∀ p ∈ acc ++ cst, p.1 ≠ fa) ∧ J i ys o acc) ⟨o₀, [], rfl, hn, h0⟩ ?_ ?_
  · rintro i ys nw hi ⟨o, acc, rfl, hoff, hj⟩ v I oI C oC D m₂ h tk E' ⟨t, rfl⟩ hN hx F' N' off ne
    rw [Int.zero_add] at hx
    have om := off.mem
    have hI : ∀ p ∈ (I, oI) :: (C, oC) :: (D, lst ys) :: (acc ++ cst), p.1 ≠ fa := by
      intro p hp
      have z := om (fa, o) (.head _)
      simp only [List.mem_cons] at hp
      rcases hp with rfl | rfl | rfl | hp
      · exact fun e => z.1 e.symm
      · exact fun e => z.2.1 e.symm
      · exact fun e => z.2.2 e.symm
      · exact hoff p hp
    have N2 : News h₀ L h ((fa, o) :: (I, oI) :: (C, oC) :: (D, lst ys) :: (acc ++ cst)) := news_sub N' fun p hp => by
      simp only [List.mem_cons] at hp ⊢
      rcases hp with h | h | h | h | h <;> simp [h]
    refine wpAny_mono (turn i ys o acc hi hj t I oI C oC D m₂ h tk E' hI hN hx F' N2) (fun y s₂ q => ?_) fun _ _ e => e
    obtain ⟨h', tk', o', tl, rfl, F2, N3, fr, j⟩ := q
    refine ⟨h', tk', (fa, o') :: ((tl ++ acc) ++ cst), rfl, F2, ?_, ?_, trivial, o', tl ++ acc, rfl, ?_, j⟩
    · refine news_sub N3 fun p hp => ?_
      simp only [List.mem_cons, List.mem_append] at hp ⊢
      rcases hp with h | h | h | h | (h | h) | h <;> simp [h]
    · refine Off3.of fun p hp => ?_
      rcases List.mem_cons.mp hp with rfl | hp
      · exact om (fa, o) (.head _)
      · rw [List.append_assoc] at hp
        rcases List.mem_append.mp hp with hp | hp
        · have z := fr p hp
          exact ⟨fun e => z (I, oI) (by simp) e.symm, fun e => z (C, oC) (by simp) e.symm, fun e => z (D, lst ys) (by simp) e.symm⟩
        · exact om p (.tail _ hp)
    · intro p hp
      rw [List.append_assoc] at hp
      rcases List.mem_append.mp hp with hp | hp
      · exact fun e => fr p hp (fa, o) (.head _) e.symm
      · exact hoff p hp
  · rintro ys nw ⟨o, acc, rfl, hoff, hj⟩
    exact done g ys o acc hj hoff
end
section
variable {prog : Program} {w : World} {A : Around} {E : Value → Shared → Prop} {s : Shared} {h₀ : Heap} {L D : Addr} {news : List (Addr × Obj)}
theorem kinds4_item {kd : Kd} {value slice : PySem.Expr} {n : Nat} {t a0 a1 a2 a3 : Tok} {Q : Value → Shared → Prop} (N : News h₀ L s.heap news)
    (hm : (D, listOf #[.str (Str.ofString "integer") a0, .str (Str.ofString "double") a1, .str (Str.ofString "character") a2, .str (Str.ofString "list") a3] n) ∈ news) (h : ∀ u, Q (.str kd.str u) s)
    (hs : subscripted slice false (.ref D) (.int kd.way t) = operate [.ref D, .int kd.way t] (getItem (.ref D) (.int kd.way t))) :
    wpAny (model prog w) A (subscriptTail value slice (.ref D) (.int kd.way t)) Q E s := by
  cases kd
  · exact item_at (vs := [_, _, _, _]) (n := 0) N hm rfl (by show 4 ≤ 1000; decide) (h a0) hs
  · exact item_at (vs := [_, _, _, _]) (n := 1) N hm rfl (by show 4 ≤ 1000; decide) (h a1) hs
  · exact item_at (vs := [_, _, _, _]) (n := 2) N hm rfl (by show 4 ≤ 1000; decide) (h a2) hs
  · exact item_at (vs := [_, _, _, _]) (n := 3) N hm rfl (by show 4 ≤ 1000; decide) (h a3) hs
end
theorem cells2 {P : Prop} {h₀ h : Heap} {L a b fa : Addr} {oa ob o : Obj} {cst : List (Addr × Obj)} (N : News h₀ L h ((a, oa) :: (b, ob) :: (fa, o) :: cst)) (ha : @Ne Nat a fa) (hb : @Ne Nat b fa) (hn : ∀ p ∈ cst, p.1 ≠ fa)
    (k : (∀ p ∈ (a, oa) :: (b, ob) :: cst, p.1 ≠ fa) → News h₀ L h ((fa, o) :: (a, oa) :: (b, ob) :: cst) → P) : P := by
  refine k (fun p hp => ?_) (news_sub N fun p hp => ?_)
  · simp only [List.mem_cons] at hp
    rcases hp with rfl | rfl | hp
    · exact ha
    · exact hb
    · exact hn p hp
  · simp only [List.mem_cons] at hp ⊢
    rcases hp with h | h | h | h <;> simp [h]
def VecU (kd : Kd) (led : List (Addr × Obj)) (o' : Obj) (tl : List (Addr × Obj)) (r : Value) : Prop :=
  FigsAre o' ∧ (∀ p ∈ tl, ∀ q ∈ led, q.1 ≠ p.1) ∧ ∃ x l vs k cs, r = .ref x ∧ VecAt tl x kd.str l ∧ (l, listOf (List.toArray vs) k) ∈ tl ∧ Items tl kd vs cs ∧ cs.length ≤ 7
theorem subAppR {X Y Z : List (Addr × Obj)} (h : ∀ p ∈ X, p ∈ Z) : ∀ p ∈ X, p ∈ Y ++ Z := fun p hp => List.mem_append_right _ (h p hp)
theorem subAppL {X Y : List (Addr × Obj)} : ∀ p ∈ X, p ∈ X ++ Y := fun _ hp => List.mem_append_left _ hp
theorem vecU_fin {kd : Kd} {fa x dx D : Addr} {o o2 od : Obj} {cst acc : List (Addr × Obj)} {ys : List Value} {cs : List Nat} {k : Nat} (hf : FigsAre o2) (hfa : ∀ p ∈ acc, p.1 ≠ fa) (hfr : ∀ p ∈ acc, ∀ q ∈ cst, q.1 ≠ p.1) (hI : Items acc kd ys cs) (hc : cs.length ≤ 7)
    (hx : ∀ q ∈ (fa, o2) :: cst, q.1 ≠ x) (hdx : ∀ q ∈ (fa, o2) :: cst, q.1 ≠ dx) (hD : ∀ q ∈ (fa, o2) :: cst, q.1 ≠ D) (v : IsVD kd.str D od) :
    VecU kd ((fa, o) :: cst) o2 ((x, instObj 237 dx) :: (dx, od) :: (D, listOf (List.toArray ys) k) :: acc) (.ref x) := by
  refine ⟨hf, fun p hp => ?_, x, D, ys, k, cs, rfl, ⟨dx, od, by simp, by simp, v⟩, by simp, hI.mono fun p hp => by simp [hp], hc⟩
  simp only [List.mem_cons] at hp
  rcases hp with rfl | rfl | rfl | hp
  · exact fresh_turn hx
  · exact fresh_turn hdx
  · exact fresh_turn hD
  · intro q hq
    rcases List.mem_cons.mp hq with rfl | hq
    · exact fun e => hfa p hp e.symm
    · exact hfr p hp q hq
--M{
local macro_rules | `(tactic| kqd_sub) => `(tactic| first | (with_reducible assumption) | (with_reducible exact subAppL) | ((fail_if_success (with_reducible refine List.forall_mem_cons.mpr ⟨?_, ?_⟩)); (fail_if_success (with_reducible refine List.forall_mem_append.mpr ⟨?_, ?_⟩)); (fail_if_success (with_reducible exact fun _ h => h)); (with_reducible refine subAppR ?_); kqd_sub) | fail)
local macro_rules | `(tactic| walk_at "call ref") => `(tactic| (k_here; (with_reducible show wpAny _ _ (call (Value.ref 644) [Value.ref _, Value.int (Kd.way _) _]) _ _ _); k_dflt (refine' CtrU.use (item_spec _ ?R ?K) ?B ?F ?X ?N ?s ?T ?k ?d ?u ?_; k_clsL); intro r9 tl9 o9 h9 tk9 F9 N9 q9; (try dsimp only); (try k_sweep)))
local macro_rules | `(tactic| walk_at "subscriptTail List") => `(tactic| (k_here; (with_reducible show wpAny _ _ (subscriptTail _ _ (Value.ref _) (Value.int (Kd.way _) _)) _ _ _); k_dflt (refine' kinds4_item ?N ?m ?_ ?s; (case N => k_asm); (case m => k_mem); (case s => with_unfolding_all rfl)); intro u9))
--M}
section
variable {w : World} {p : Program} {loose : List Str} {mean : ExcName → Option Value} {mg mb : Str → Option Value} {cst : List (Addr × Obj)}
theorem law_vector_spec (kd : Kd) {fa : Addr} {o : Obj} {t : Tok} (hf : FigsAre o) (hn : ∀ p ∈ cst, p.1 ≠ fa) : CtrU w p loose mean mg mb 649 12 fa o cst [.ref fa, .int kd.way t] (VecU kd ((fa, o) :: cst)) := by
  unfold CtrU
  (w_top off; k_fill)
  intro dp un gd cn cs' a ccd cl outer A₀ base h₀ L m s Q E B F X N T hk hd hu hret
  refine wpAny_call ?_
  k_dflt k_enter
  rename News _ _ _ _ => N1
  refine cells2 N1 (by k_ne) (by k_ne) hn fun hn2 N2 => ?_
  clear N1 N
  clear hn
  k_steps
  rename Fr _ _ _ _ => F1
  rename News _ _ _ _ => N1
  rename IsRange _ _ _ _ _ _ _ _ => R1
  rename FigsAre _ => f9
  rename ((_ : Int) < 8) => hc
  refine comp_rangeU _ (fun i ys o acc => FigsAre o ∧ (∀ p ∈ acc, ∀ q ∈ cst, q.1 ≠ p.1) ∧ ∃ cs, Items acc kd ys cs ∧ cs.length = i) (by rfl) F1 N1 R1 rfl (by omega) ⟨f9, fun _ hp => absurd hp List.not_mem_nil, [], Items.nil, rfl⟩ hn2 ?_ ?_
  · rintro i ys o2 acc hi ⟨hf2, hfr, cs, hI, hci⟩ t I oI C oC D m₂ h tk E' hn3 hN hx' F2 N2
    clear F1 N1 R1 hn2
    k_steps
    rename ItemOut _ _ _ _ _ => q
    obtain ⟨q1, q2, c, q3⟩ := q
    refine ⟨_, _, _, _, rfl, by k_asm, by k_asm, q2, q1, fun p hp => ?_, cs ++ [c], (hI.mono fun p hp => List.mem_append_right _ hp).snoc (q3.mono fun p hp => List.mem_append_left _ hp), by rw [List.length_append, hci]; rfl⟩
    rcases List.mem_append.mp hp with hp | hp
    · exact fun q hq => q2 p hp q (by simp [hq])
    · exact hfr p hp
  · rintro g ys o2 acc ⟨hf2, hfr, cs, hI, hci⟩ hoff D h tk F2 N2 o1
    clear F1 N1 R1
    k_steps
    refine hret _ ((_, _) :: (_, _) :: (D, LCg.lst ys) :: acc) o2 _ _ (by k_asm) (news_sub (by k_asm) (by kqd_sub)) (vecU_fin hf2 (fun p hp => hoff p (List.mem_append_left _ hp)) hfr hI (by omega) (by k_all) (by k_all) (by k_all) (IsVD.mk ..))
end

theorem ints_at {vs : List Value} {ns : List Int} (h : IntsAre vs ns) : ∀ {i : Nat} {v : Value}, vs[i]? = some v → ∃ n t, v = Value.int n t := by
  induction h with
  | nil => intro i v e; simp at e
  | cons n t r ih =>
    intro i v e
    cases i with
    | zero => exact ⟨n, t, by simpa using e.symm⟩
    | succ i => exact ih (by simpa using e)
theorem ints_append {us vs : List Value} {ns ms : List Int} (h : IntsAre us ns) (k : IntsAre vs ms) : IntsAre (us ++ vs) (ns ++ ms) := by
  induction h with
  | nil => exact k
  | cons n t r ih => exact .cons n t ih
theorem ints_reverse {us : List Value} {ns : List Int} (h : IntsAre us ns) : IntsAre us.reverse ns.reverse := by
  induction h with
  | nil => exact .nil
  | cons n t r ih => rw [List.reverse_cons, List.reverse_cons]; exact ints_append ih (.cons n t .nil)
section
variable {prog : Program} {w : World} {A : Around} {E : Value → Shared → Prop} {s : Shared} {env : Env} {h₀ : Heap} {x : Str} {body : List Stmt} {Q : Flow → Shared → Prop}
theorem loop_baseL {σ : Type} {l : Addr} {vs : List Value} {lo : Obj} {m₀ : Str → Option Value} {news cst : List (Addr × Obj)} (Led : σ → List (Addr × Obj)) (ps : σ → List (Str × Value)) (stored : List Str) (P : Nat → σ → Prop) (c₀ : σ)
    (hh : A.handled = none) (F : Fr h₀ env.locals s.heap m₀) (N : News h₀ env.locals s.heap news) (hn : ∀ p ∈ Led c₀ ++ cst, p ∈ news) (hl : h₀.get? l = some lo) (hlc : lo.cls = .type "list") (hld : ∃ n, lo.data = .seq vs.toArray n)
    (hp : P 0 c₀) (hm : ∀ q ∈ ps c₀, m₀ q.1 = some q.2)
    (turn : ∀ i v c h tk I oI (u : Str → Option Value), vs[i]? = some v → P i c → (∀ p ∈ Led c ++ cst, p.1 ≠ I) → Fr h₀ env.locals h (fun y => if y = x then some v else kstB (fun z => if stored.contains z then u z else m₀ z) (ps c) y) → News h₀ env.locals h ((I, oI) :: (Led c ++ cst)) →
      wpAny (model prog w) A (execs body env) (LPost h₀ env.locals x Led cst ps stored m₀ (P (i + 1)) I oI { s with heap := h, toks := tk } Q) E { s with heap := h, toks := tk })
    (done : ∀ c h tk (u : Str → Option Value), P vs.length c → Fr h₀ env.locals h (fun y => if y = x then u y else kstB (fun z => if stored.contains z then u z else m₀ z) (ps c) y) → News h₀ env.locals h (Led c ++ cst) → Q .next { s with heap := h, toks := tk }) :
    IterGoal prog w A h₀ env x body Q E (.ref l) s := by
  refine loop_list ps stored (fun i => LedIs Led cst (P i)) c₀ hh F (news_sub N hn) hlc hld ⟨rfl, hp⟩ hm (fun i c nw h => .inl hl) ?_ ?_
  · rintro i v c nw h tk I oI u hv ⟨rfl, h1⟩ hne F₁ N₁
    exact turn i v c h tk I oI u hv h1 hne F₁ N₁
  · rintro c nw h tk u ⟨rfl, h1⟩ F₁ N₁
    exact done c h tk u h1 F₁ N₁
end
theorem LEnd.brk {σ : Type} {h₀ : Heap} {x : Str} {L : Addr} {Led : σ → List (Addr × Obj)} {cst : List (Addr × Obj)} {ps : σ → List (Str × Value)} {stored : List Str} {m₀ : Str → Option Value} {P : σ → Prop} {I : Addr} {oI : Obj} {s₁ s₂ : Shared} {Q : Flow → Shared → Prop}
    (h : Q .next s₂) : LPost h₀ L x Led cst ps stored m₀ P I oI s₁ Q .brk s₂ := h
--M{
local macro_rules | `(tactic| walk_at "exec While") => `(tactic| (k_here; (with_reducible show wpAny _ _ (exec (PySem.Stmt.While _ _ _ _) _) _ _ _); refine stuck 1 ?_))
local macro_rules | `(tactic| walk_at "exec While BoolOp cons nil") => `(tactic| (k_here; (with_reducible show wpAny _ _ (exec (PySem.Stmt.While _ _ _ _) _) _ _ _); refine stuck 1 ?_))
--M}
/-- what a call of f does upon a list below -/
def CtrL (w : World) (p : Program) (loose : List Str) (mean : ExcName → Option Value) (mg mb : Str → Option Value) (f : Addr) (need : Nat) (news : List (Addr × Obj)) (sa : Addr) (lo : Obj) (Out : List (Addr × Obj) → Value → Prop) : Prop :=
  ∀ (dp un : Nat) (gd : Option (List Code)) (cn : Str) (cs : Scope) (a : Addr) (ccd : Value) (cl : List (Str × Addr)) (outer : List Env) (A₀ : Around) (base h₀ : Heap) (L : Addr) (m : Str → Option Value) (s : Shared)
    (Q E : Value → Shared → Prop),
    Below A₀ base outer h₀ → Fr h₀ L s.heap m → (hdk.heap_1 w.params).In h₀ → News h₀ L s.heap news → Top p loose mean mg mb h₀ → cs.kind = .function → dp + need < recursionLimit → un + 8 * need + 64 < cLine → h₀.get? sa = some lo →
    (∀ r tl h' tk', Fr h₀ L h' m → News h₀ L h' (tl ++ news) → Out tl r → Q r { s with heap := h', toks := tk' }) →
    wpAny (model PySem.Challenge.rw_ov0082_01.row.prog w) (ktrTop dp un gd cn cs L a ccd cl outer) (call (.ref f) [.ref sa]) Q E s
section
variable {w : World} {p : Program} {loose : List Str} {mean : ExcName → Option Value} {mg mb : Str → Option Value} {news : List (Addr × Obj)}
theorem figures_spec {sa : Addr} {lo : Obj} {vs : List Value} {ns : List Int} (hlc : lo.cls = .type "list") (hld : ∃ n, lo.data = .seq vs.toArray n) (hI : IntsAre vs ns) :
    CtrL w p loose mean mg mb 630 4 news sa lo (fun tl r => ∃ fa o, tl = [(fa, o)] ∧ FigsAre o ∧ r = .ref fa ∧ ∀ q ∈ news, q.1 ≠ fa) := by
  unfold CtrL
  (w_top off; k_fill)
  intro dp un gd cn cs' a ccd cl outer A₀ base h₀ L m s Q E B F X N T hk hd hu hsa hret
  refine wpAny_call ?_
  k_dflt k_enter
  k_steps
  rename Fr _ _ _ _ => F1
  rename News _ _ _ _ => N1
  rename Fr h₀ _ _ _ => FG
  refine loop_baseL (σ := Addr × (List Value × Nat)) (cst := news) (fun c => [(c.1, listOf c.2.1.toArray c.2.2)]) (fun c => [(Str.ofString "figures", Value.ref c.1)]) [Str.ofString "size", Str.ofString "low"] (fun i c => (∀ q ∈ news, q.1 ≠ c.1) ∧ ∃ ms, IntsAre c.2.1 ms ∧ ms.length ≤ 97) (_, ([], 0)) (by rfl) F1 N1 (fun p h => h) (FG.keep _ _ hsa) hlc hld ⟨by k_all, [], .nil, by decide⟩ (by kst_all) ?_ ?_
  · rintro i v ⟨fa, us, k⟩ h tk I oI u hv ⟨hfr, ms, hms, hml⟩ hne F2 N2
    clear F1 N1
    obtain ⟨n, t, rfl⟩ := ints_at hI hv
    dsimp only at hfr hms hne N2
    dsimp only [kstB] at F2
    simp only [List.cons_append, List.nil_append] at N2 hne
    have hl := hms.length
    have hz : us.length ≤ 1000 := by omega
    k_steps
    · dsimp only
      refine LEnd.brk ?_
      k_steps
      exact hret _ [(fa, _)] _ _ (by k_asm) (news_sub (by k_asm) (by kqd_sub)) ⟨fa, _, rfl, ⟨us, ms, k, rfl, hms, by omega⟩, rfl, by k_all⟩
    all_goals (
      unfold Stuck
      rename Fr _ _ _ _ => F3
      rename News _ _ _ _ => N3
      refine nm1 N3 fun low e1 => ?_
      subst e1
      refine ksw_while (σ := (Int × Tok) × (List Value × Nat)) (fun c => (low, listOf c.2.1.toArray c.2.2) :: (I, oI) :: (fa, listOf us.toArray k) :: news) (fun c => [(Str.ofString "size", Value.int c.1.1 c.1.2), (Str.ofString "low", Value.ref low)]) (fun _ => True) [] (fun c => ∃ ls, IntsAre c.2.1 ls ∧ ls.length ≤ 8) (fun c => 8 - c.2.1.length) ((_, _), ([_], _)) F3 N3 trivial (by kst_all) ⟨[_], .cons _ _ .nil, by show 1 ≤ 8; decide⟩ ?_
      rintro ⟨⟨sz, st⟩, ⟨ls, lk⟩⟩ u4 h4 tk4 _ ⟨lns, hls, hll⟩ F4 N4
      clear F3 N3
      dsimp only at hls N4
      dsimp only [kstB] at F4
      have hl4 := hls.length
      have hz4 : ls.length ≤ 1000 := by omega
      k_steps
      · rename News _ _ _ _ => N5
        try simp only [List.push_toArray] at N5
        refine ksw_end ((_, _), (ls ++ [_], _)) (by k_asm) N5 (by kqd_sub) trivial (by kst_all) (by ksw_same) ⟨lns ++ [_], ints_append hls (.cons _ _ .nil), ?_⟩ ?_
        · rw [List.length_append, List.length_singleton]; omega
        · dsimp only
          rw [List.length_append, List.length_singleton]; omega
      all_goals (
        rename News _ _ _ _ => N5
        refine LEnd.next (_, (_, _)) (by k_asm) N5 (by kqd_sub) ?_ ⟨by k_all, _, ints_append (ints_reverse hls) hms, ?_⟩ (by kst_all) (by kst_same)
        · intro p hp
          rcases List.mem_cons.mp hp with rfl | hp
          · dsimp only; k_ne
          · exact hne p (.tail _ hp)
        · rw [List.length_append, List.length_reverse]; omega))
  · rintro ⟨fa, us, k⟩ h tk u ⟨hfr, ms, hms, hml⟩ F2 N2
    clear F1 N1
    dsimp only at hfr hms N2
    dsimp only [kstB] at F2
    simp only [List.cons_append, List.nil_append] at N2
    k_steps
    exact hret _ [(fa, _)] _ _ (by k_asm) (news_sub (by k_asm) (by kqd_sub)) ⟨fa, _, rfl, ⟨us, ms, k, rfl, hms, by omega⟩, rfl, by k_all⟩
end

theorem snocInd {P : List Nat → Prop} (h0 : P []) (h1 : ∀ l a, P l → P (l ++ [a])) (l : List Nat) : P l := by
  have : ∀ r : List Nat, P r.reverse := by
    intro r
    induction r with
    | nil => exact h0
    | cons a r ih => rw [List.reverse_cons]; exact h1 _ _ ih
  simpa using this l.reverse
theorem getD_lt {l m : List Nat} {i : Nat} (hi : i < l.length) : (l ++ m).getD i 0 = l.getD i 0 := by
  simp only [List.getD, List.getElem?_append_left hi]
theorem getD_mem {l : List Nat} {i : Nat} (hi : i < l.length) : l.getD i 0 ∈ l := by
  simp only [List.getD, List.getElem?_eq_getElem hi, Option.getD_some]
  exact List.getElem_mem hi
theorem kpt_append (l : List Nat) (a : Nat) : kpt (l ++ [a]) l.length = kpt l l.length := by
  unfold kpt
  apply List.filter_congr
  intro i hi
  have hi' : i < l.length := List.mem_range.mp hi
  rw [getD_lt hi', List.idxOf_append, if_pos (getD_mem hi')]
theorem dst_snoc (l : List Nat) (a : Nat) : dst (l ++ [a]) = if a ∈ l then dst l else dst l ++ [a] := by
  unfold dst
  have e : (l ++ [a]).getD l.length 0 = a := by simp [List.getD]
  have em : (kpt l l.length).map (fun q => (l ++ [a]).getD q 0) = (kpt l l.length).map (fun q => l.getD q 0) := by
    apply List.map_congr_left
    intro q hq
    exact getD_lt (kpt_lt hq)
  rw [List.length_append, List.length_singleton, kpt_succ, kpt_append, e, List.map_append, em, List.idxOf_append]
  by_cases h : a ∈ l
  · have hlt := List.idxOf_lt_length_iff.mpr h
    rw [if_pos h, if_pos h, if_neg (by omega)]
    simp
  · rw [if_neg h, if_neg h]
    simp [List.getD]
theorem dst_nil : dst [] = [] := rfl
theorem mem_dst {c : Nat} (l : List Nat) : c ∈ dst l ↔ c ∈ l := by
  induction l using snocInd with
  | h0 => simp [dst_nil]
  | h1 l a ih =>
    rw [dst_snoc]
    by_cases h : a ∈ l
    · rw [if_pos h, ih, List.mem_append, List.mem_singleton]
      exact ⟨.inl, fun x => x.elim id fun e => e ▸ h⟩
    · rw [if_neg h, List.mem_append, ih, List.mem_append]
theorem nodup_dst (l : List Nat) : (dst l).Nodup := by
  induction l using snocInd with
  | h0 => simp [dst_nil]
  | h1 l a ih =>
    rw [dst_snoc]
    by_cases h : a ∈ l
    · rw [if_pos h]; exact ih
    · rw [if_neg h, List.nodup_append]
      refine ⟨ih, by simp, fun x hx y hy e => ?_⟩
      rw [List.mem_singleton] at hy
      subst hy; subst e
      exact h ((mem_dst l).mp hx)
theorem dst_filter (f : Nat → Bool) (l : List Nat) : dst (l.filter f) = (dst l).filter f := by
  induction l using snocInd with
  | h0 => rfl
  | h1 l a ih =>
    rw [List.filter_append, dst_snoc]
    by_cases hf : f a = true
    · have e : [a].filter f = [a] := by simp [hf]
      rw [e, dst_snoc, ih]
      by_cases h : a ∈ l
      · rw [if_pos h, if_pos (List.mem_filter.mpr ⟨h, hf⟩)]
      · rw [if_neg h, if_neg (fun x => h (List.mem_filter.mp x).1), List.filter_append, e]
    · have e : [a].filter f = [] := by simp [hf]
      rw [e, List.append_nil, ih]
      by_cases h : a ∈ l
      · rw [if_pos h]
      · rw [if_neg h, List.filter_append, e, List.append_nil]
theorem dst_nodup {l : List Nat} (h : l.Nodup) : dst l = l := by
  induction l using snocInd with
  | h0 => rfl
  | h1 l a ih =>
    rw [List.nodup_append] at h
    have ha : a ∉ l := fun x => h.2.2 a x a (by simp) rfl
    rw [dst_snoc, if_neg ha, ih h.1]
theorem dst_dst (l : List Nat) : dst (dst l) = dst l := dst_nodup (nodup_dst l)
theorem dst_append (u v : List Nat) : dst (u ++ v) = dst u ++ (dst v).filter (!u.contains ·) := by
  induction v using snocInd with
  | h0 => simp [dst_nil]
  | h1 v a ih =>
    rw [← List.append_assoc, dst_snoc, dst_snoc, ih]
    by_cases hu : a ∈ u
    · rw [if_pos (List.mem_append_left _ hu)]
      by_cases hv : a ∈ v
      · rw [if_pos hv]
      · rw [if_neg hv, List.filter_append]; simp [hu]
    · by_cases hv : a ∈ v
      · rw [if_pos (List.mem_append_right _ hv), if_pos hv]
      · rw [if_neg (by rw [List.mem_append]; exact fun x => x.elim hu hv), if_neg hv, List.filter_append]
        simp [hu]
theorem len_le {a : List Nat} : ∀ {b : List Nat}, a.Nodup → (∀ x ∈ a, x ∈ b) → a.length ≤ b.length := by
  induction a with
  | nil => intro b _ _; exact Nat.zero_le _
  | cons x a ih =>
    intro b h hs
    rw [List.nodup_cons] at h
    have hx := hs x (.head _)
    have := ih (b := b.erase x) h.2 fun y hy => (List.mem_erase_of_ne (fun e => h.1 (by rw [← e]; exact hy))).mpr (hs y (.tail _ hy))
    rw [List.length_erase_of_mem hx] at this
    have hp := List.length_pos_of_mem hx
    rw [List.length_cons]
    omega
theorem len_eq {a b : List Nat} (ha : a.Nodup) (hb : b.Nodup) (h : ∀ x, x ∈ a ↔ x ∈ b) : a.length = b.length :=
  Nat.le_antisymm (len_le ha fun x hx => (h x).mp hx) (len_le hb fun x hx => (h x).mpr hx)
theorem filter_split (f : Nat → Bool) (l : List Nat) : (l.filter f).length + (l.filter (!f ·)).length = l.length := by
  induction l with
  | nil => rfl
  | cons a l ih =>
    rw [List.filter_cons, List.filter_cons]
    cases f a <;> simp <;> omega
/-- the counts of the union and of the intersection -/
theorem law_counts (u v : List Nat) : (dst (u ++ v)).length + (dst (u.filter (v.contains ·))).length = (dst u).length + (dst v).length := by
  rw [dst_append, dst_filter, List.length_append]
  have h1 := filter_split (u.contains ·) (dst v)
  have h2 : ((dst u).filter (v.contains ·)).length = ((dst v).filter (u.contains ·)).length := by
    refine len_eq ((nodup_dst u).filter _) ((nodup_dst v).filter _) fun x => ?_
    simp only [List.mem_filter, mem_dst, List.contains_eq_mem, decide_eq_true_eq]
    exact And.comm
  omega
theorem law_one {u v : List Nat} {c : Nat} (hc : c ∈ dst u) : (dst (u.filter (v.contains ·))).count c + (dst (u.filter (!v.contains ·))).count c = 1 := by
  rw [dst_filter, dst_filter]
  have hn := nodup_dst u
  have k : ∀ f : Nat → Bool, ((dst u).filter f).count c = if f c = true then 1 else 0 := by
    intro f
    by_cases h : f c = true
    · rw [if_pos h, List.count_filter h]
      have h1 := List.nodup_iff_count.mp hn c
      have h2 := List.count_pos_iff.mpr hc
      omega
    · rw [if_neg h]
      exact List.count_eq_zero_of_not_mem fun x => h (List.mem_filter.mp x).2
  rw [k, k]
  cases v.contains c <;> simp
theorem law_in {u v : List Nat} {c : Nat} (hc : c ∈ dst u) : (dst (u.filter (v.contains ·))).contains c = v.contains c := by
  rw [Bool.eq_iff_iff]
  simp only [List.contains_eq_mem, decide_eq_true_eq, mem_dst, List.mem_filter]
  exact ⟨fun x => x.2, fun x => ⟨(mem_dst u).mp hc, x⟩⟩
theorem law_row (f : Nat → Bool) (u : List Nat) : dst (u.filter f) = (dst u).filter ((dst (u.filter f)).contains ·) := by
  rw [dst_filter]
  apply List.filter_congr
  intro x hx
  rw [Bool.eq_iff_iff]
  simp only [List.contains_eq_mem, decide_eq_true_eq, List.mem_filter]
  exact ⟨fun h => ⟨hx, h⟩, fun h => h.2⟩
theorem law_diff (w u v : List Nat) : dst (w.filter (!(dst (u ++ v)).contains ·)) = dst ((dst (w.filter (!u.contains ·))).filter (!v.contains ·)) := by
  rw [dst_filter, dst_filter (!v.contains ·), dst_filter (!u.contains ·), dst_nodup ((nodup_dst w).filter _), List.filter_filter]
  apply List.filter_congr
  intro x hx
  rw [Bool.eq_iff_iff]
  simp only [Bool.not_eq_true', List.contains_eq_mem, decide_eq_false_iff_not, mem_dst, List.mem_append, Bool.and_eq_true, not_or]
  exact And.comm
theorem sum_dpf (u : List Nat) (n : Nat) : (dpf u n).sum + (kpt u n).length = n := by
  induction n with
  | zero => rfl
  | succ n ih =>
    rw [dpf_succ, kpt_succ, List.sum_append, List.length_append]
    by_cases h : u.idxOf (u.getD n 0) = n
    · rw [if_pos h, if_pos h]; simp; omega
    · rw [if_neg h, if_neg h]; simp; omega
theorem len_dst (u : List Nat) : (dst u).length = (kpt u u.length).length := by simp [dst]
theorem law_sum (u : List Nat) : (dpf u u.length).sum + (dst u).length = u.length := by rw [len_dst]; exact sum_dpf u u.length
theorem law_sumR (u : List Nat) : (dpf u.reverse u.length).reverse.sum + (dst u).length = u.length := by
  have h := law_sum u.reverse
  rw [List.length_reverse] at h
  have e : (dst u.reverse).length = (dst u).length := len_eq (nodup_dst _) (nodup_dst _) fun x => by rw [mem_dst, mem_dst, List.mem_reverse]
  rw [e] at h
  rw [List.sum_reverse]; exact h
/-- the items whose flags are nought -/
noncomputable def keptOf (u fs : List Nat) (n : Nat) : List Nat := ((List.range n).filter fun i => fs.getD i 0 == 0).map fun i => u.getD i 0
theorem keptOf_succ (u fs : List Nat) (n : Nat) : keptOf u fs (n + 1) = keptOf u fs n ++ (if fs.getD n 0 = 0 then [u.getD n 0] else []) := by
  unfold keptOf
  rw [List.range_succ, List.filter_append, List.map_append]
  congr 1
  by_cases h : fs.getD n 0 = 0
  · rw [if_pos h, List.filter_cons, if_pos (by rw [h]; rfl), List.filter_nil, List.map_singleton]
  · rw [if_neg h, List.filter_cons, if_neg (by simpa using h), List.filter_nil, List.map_nil]
theorem dpf_getD {u : List Nat} {n i : Nat} (hi : i < n) : (dpf u n).getD i 0 = if u.idxOf (u.getD i 0) = i then 0 else 1 := by
  rw [List.getD, dpf, List.getElem?_map, List.getElem?_range hi]
  rfl
theorem law_kept (u : List Nat) : keptOf u (dpf u u.length) u.length = dst u := by
  unfold keptOf dst kpt
  congr 1
  apply List.filter_congr
  intro i hi
  rw [dpf_getD (List.mem_range.mp hi)]
  by_cases h : u.idxOf (u.getD i 0) = i
  · rw [if_pos h, h]; simp
  · rw [if_neg h, beq_eq_false_iff_ne.mpr h]; rfl
theorem getD_rev {l : List Nat} {n i : Nat} (hl : l.length = n) (hi : i < n) : l.reverse.getD i 0 = l.getD (n - 1 - i) 0 := by
  simp only [List.getD]
  rw [List.getElem?_reverse (by omega), hl]
theorem law_keptR (u : List Nat) : keptOf u (dpf u.reverse u.length).reverse u.length = (dst u.reverse).reverse := by
  have h := law_kept u.reverse
  rw [List.length_reverse] at h
  rw [← h]
  unfold keptOf
  rw [← List.map_reverse, ← List.filter_reverse, ← krv_range, List.filter_map, List.map_map]
  have e : (List.range u.length).filter (fun i => (dpf u.reverse u.length).reverse.getD i 0 == 0) = (List.range u.length).filter ((fun i => (dpf u.reverse u.length).getD i 0 == 0) ∘ fun k => u.length - 1 - k) := by
    apply List.filter_congr
    intro i hi
    rw [getD_rev (dpf_length _ _) (List.mem_range.mp hi)]
    rfl
  rw [e]
  apply List.map_congr_left
  intro i hi
  have hi' : i < u.length := List.mem_range.mp (List.mem_filter.mp hi).1
  show u.getD i 0 = u.reverse.getD (u.length - 1 - i) 0
  rw [getD_rev rfl (by omega)]
  congr 1
  omega
theorem plc_at {v : List Nat} {c q : Nat} (h : plc v c = some q) : q < v.length ∧ v.getD q 0 = c ∧ (v.take q).contains c = false := by
  have hm := plc_some h
  rw [plc_eq, if_pos hm] at h
  obtain rfl := Option.some.inj h
  have hi := List.idxOf_lt_length_iff.mpr hm
  refine ⟨hi, ?_, ?_⟩
  · simp only [List.getD, List.getElem?_eq_getElem hi, Option.getD_some]
    exact List.getElem_idxOf hi
  · rw [List.contains_eq_mem, decide_eq_false_iff_not]
    intro hx
    have := idxOf_lt hx
    omega
theorem dst_empty (u v : List Nat) : (dst (u.filter (!v.contains ·)) == []) = u.all (v.contains ·) := by
  rw [Bool.eq_iff_iff]
  simp only [beq_iff_eq, List.all_eq_true]
  constructor
  · intro h c hc
    apply Classical.byContradiction
    intro hn
    have : c ∈ dst (u.filter (!v.contains ·)) := (mem_dst _).mpr (List.mem_filter.mpr ⟨hc, by simpa using hn⟩)
    rw [h] at this
    cases this
  · intro h
    rw [dst_filter]
    apply List.filter_eq_nil_iff.mpr
    intro c hc
    have := h c ((mem_dst u).mp hc)
    rw [this]; simp
theorem dst_lt {kd : Kd} {cs : List Nat} (h : ∀ c ∈ cs, c < kd.most) : ∀ c ∈ dst cs, c < kd.most := fun c hc => h c ((mem_dst cs).mp hc)
theorem dst_len_le (cs : List Nat) : (dst cs).length ≤ cs.length := len_le (nodup_dst cs) fun x hx => (mem_dst cs).mp hx

section
variable {w : World} {p : Program} {loose : List Str} {mean : ExcName → Option Value} {mg mb : Str → Option Value} {f : Addr} {need : Nat} {news : List (Addr × Obj)} {sa : Addr} {lo : Obj} {Out : List (Addr × Obj) → Value → Prop}
theorem CtrL.use {dp un : Nat} {gd : Option (List Code)} {cn : Str} {cs : Scope} {a : Addr} {ccd : Value} {cl : List (Str × Addr)} {outer : List Env} {A₀ : Around} {base h₀ : Heap} {L : Addr} {m : Str → Option Value} {s : Shared}
    {Q E : Value → Shared → Prop} (C : CtrL w p loose mean mg mb f need news sa lo Out)
    (B : Below A₀ base outer h₀) (F : Fr h₀ L s.heap m) (X : (hdk.heap_1 w.params).In h₀) (N : News h₀ L s.heap news) (T : Top p loose mean mg mb h₀) (hk : cs.kind = .function)
    (hd : dp + need < recursionLimit) (hu : un + 8 * need + 64 < cLine) (hl : h₀.get? sa = some lo)
    (ret : ∀ r tl h' tk', Fr h₀ L h' m → News h₀ L h' (tl ++ news) → Out tl r → Q r { s with heap := h', toks := tk' }) :
    wpAny (model PySem.Challenge.rw_ov0082_01.row.prog w) (ktrTop dp un gd cn cs L a ccd cl outer) (call (.ref f) [.ref sa]) Q E s := C _ _ _ _ _ _ _ _ _ _ _ _ _ _ _ _ _ B F X N T hk hd hu hl ret
end
--M{
local macro_rules | `(tactic| walk_at "call ref") => `(tactic| (k_here; (with_reducible show wpAny _ _ (call (Value.ref 630) [Value.ref _]) _ _ _); k_dflt (refine' CtrL.use (figures_spec ?R ?x ?K) ?B ?F ?X ?N ?T ?k ?d ?u ?o ?_; (case o => assumption); k_clsL); intro r9 tl9 h9 tk9 F9 N9 q9; k_dflt (obtain ⟨fa9, fo9, e9, f9, e9', n9⟩ := q9; subst e9; subst e9'); k_caughtNB))
--M}

theorem way_of {c : Nat} (h : (c : Int) < 4) : ∃ kd : Kd, (c : Int) = kd.way := by
  match c, h with
  | 0, _ => exact ⟨.int, rfl⟩
  | 1, _ => exact ⟨.dbl, rfl⟩
  | 2, _ => exact ⟨.chr, rfl⟩
  | 3, _ => exact ⟨.lst, rfl⟩
  | n + 4, h => omega
section
variable {w : World} {p : Program} {loose : List Str} {mean : ExcName → Option Value} {mg mb : Str → Option Value} {cst : List (Addr × Obj)}
theorem law_vector_int {kd : Kd} {fa : Addr} {o : Obj} {n : Int} {t : Tok} (hf : FigsAre o) (e : n = kd.way) (hn : ∀ p ∈ cst, p.1 ≠ fa) : CtrU w p loose mean mg mb 649 12 fa o cst [.ref fa, .int n t] (VecU kd ((fa, o) :: cst)) := by
  subst e
  exact law_vector_spec kd hf hn
end
/-- the ledger of the law while it draws: the figures, three cells, the rest -/
def Off4 (fa a1 a2 a3 : Addr) (nb : List (Addr × Obj)) : Prop := (∀ p ∈ nb, p.1 ≠ fa) ∧ (∀ p ∈ nb, p.1 ≠ a1) ∧ (∀ p ∈ nb, p.1 ≠ a2) ∧ ∀ p ∈ nb, p.1 ≠ a3
theorem absVec {P : Prop} {h₀ h : Heap} {L fa a1 a2 a3 : Addr} {kd : Kd} {o o' o1 o2 o3 : Obj} {nb tl : List (Addr × Obj)} {r : Value} (N : News h₀ L h (tl ++ (fa, o') :: (a1, o1) :: (a2, o2) :: (a3, o3) :: nb))
    (q : VecU kd ((fa, o) :: (a1, o1) :: (a2, o2) :: (a3, o3) :: nb) o' tl r) (hn : ∀ p ∈ (a1, o1) :: (a2, o2) :: (a3, o3) :: nb, p.1 ≠ fa) (off : Off4 fa a1 a2 a3 nb)
    (k : ∀ nb' x l vs c cs, r = .ref x → FigsAre o' → (∀ p ∈ nb, p ∈ nb') → News h₀ L h ((fa, o') :: (a1, o1) :: (a2, o2) :: (a3, o3) :: nb') → (∀ p ∈ (a1, o1) :: (a2, o2) :: (a3, o3) :: nb', p.1 ≠ fa) → Off4 fa a1 a2 a3 nb' →
      VecAt nb' x kd.str l → (l, listOf (List.toArray vs) c) ∈ nb' → Items nb' kd vs cs → vs.length ≤ 7 → P) : P := by
  obtain ⟨hf, hfr, x, l, vs, c, cs, rfl, hv, hl, hI, hc⟩ := q
  have hz : vs.length ≤ 7 := by rw [hI.1]; exact hc
  have f1 : ∀ p ∈ tl, p.1 ≠ fa := fun p hp e => hfr p hp (fa, o) (by simp) e.symm
  have f2 : ∀ p ∈ tl, p.1 ≠ a1 := fun p hp e => hfr p hp (a1, o1) (by simp) e.symm
  have f3 : ∀ p ∈ tl, p.1 ≠ a2 := fun p hp e => hfr p hp (a2, o2) (by simp) e.symm
  have f4 : ∀ p ∈ tl, p.1 ≠ a3 := fun p hp e => hfr p hp (a3, o3) (by simp) e.symm
  have sub : ∀ p ∈ tl, p ∈ tl ++ nb := fun p hp => List.mem_append_left _ hp
  refine k (tl ++ nb) x l vs c cs rfl hf (fun p hp => List.mem_append_right _ hp) (news_sub N fun p hp => ?_) (fun p hp => ?_) ⟨fun p hp => ?_, fun p hp => ?_, fun p hp => ?_, fun p hp => ?_⟩ (hv.mono sub) (sub _ hl) (hI.mono sub) hz
  · simp only [List.mem_cons, List.mem_append] at hp ⊢
    rcases hp with h | h | h | h | h | h <;> simp [h]
  · simp only [List.mem_cons, List.mem_append] at hp
    rcases hp with rfl | rfl | rfl | hp | hp
    · exact hn (a1, o1) (by simp)
    · exact hn (a2, o2) (by simp)
    · exact hn (a3, o3) (by simp)
    · exact f1 p hp
    · exact off.1 p hp
  · exact (List.mem_append.mp hp).elim (f1 p) (off.1 p)
  · exact (List.mem_append.mp hp).elim (f2 p) (off.2.1 p)
  · exact (List.mem_append.mp hp).elim (f3 p) (off.2.2.1 p)
  · exact (List.mem_append.mp hp).elim (f4 p) (off.2.2.2 p)
theorem off4_nil {fa a1 a2 a3 : Addr} : Off4 fa a1 a2 a3 [] := ⟨(fun _ h => absurd h List.not_mem_nil), (fun _ h => absurd h List.not_mem_nil), (fun _ h => absurd h List.not_mem_nil), (fun _ h => absurd h List.not_mem_nil)⟩
--M{
local macro_rules | `(tactic| walk_at "call ref") => `(tactic| (k_here; (with_reducible show wpAny _ _ (call (Value.ref 649) [Value.ref _, Value.int _ _]) _ _ _); k_dflt (refine' CtrU.use (law_vector_int ?R ?x ?K) ?B ?F ?X ?N ?hs ?T ?k ?d ?u ?_; (case R => assumption); (case x => assumption); (case N => k_asm); (case hs => exact fun _ h => h); k_clsL); intro r9 tl9 o9 h9 tk9 F9 N9 q9; k_dflt (refine' absVec N9 q9 ?hn9 ?off9 ?_; (case hn9 => assumption); (case off9 => first | assumption | exact off4_nil)); clear N9 q9; intro nb9 x9 l9 vs9 k9 cs9 e9 f9 s9 N9 hn9' off9' v9 m9 i9 z9; subst e9; (try dsimp only); (try k_sweep)))
--M}

theorem execs_seqW {M : Model} {Γ : PySem.Ctx} {env : Env} {Q : Flow → Pos → Shared → Prop} {E : Value → Pos → Shared → Prop} {rest : List Stmt} : ∀ (l : List Stmt) (p : Pos) (s : Shared),
    Sem.wp M Γ (execs l env) (fun f p' s' => match f with | .next => Sem.wp M Γ (execs rest env) Q E p' s' | f => Q f p' s') E p s → Sem.wp M Γ (execs (l ++ rest) env) Q E p s
  | [], _, _, h => h
  | st :: l, p, s, h => by
    rw [execs_cons, Sem.wp_bind'] at h
    rw [List.cons_append, execs_cons, Sem.wp_bind']
    refine Sem.wp_mono M Γ _ (fun f p' s' h' => ?_) (fun _ _ _ h' => h') _ _ h
    cases f
    · exact execs_seqW l p' s' h'
    all_goals exact h'
theorem execs_seq {M : Model} {A : Around} {E : Value → Shared → Prop} {env : Env} {Q : Flow → Shared → Prop} {l rest : List Stmt} {s : Shared}
    (h : wpAny M A (execs l env) (fun f s' => match f with | .next => wpAny M A (execs rest env) Q E s' | f => Q f s') E s) : wpAny M A (execs (l ++ rest) env) Q E s := by
  intro Γ p hΓ
  refine execs_seqW l p s (Sem.wp_mono M Γ _ (fun f p' s' h' => ?_) (fun _ _ _ h' => h') _ _ (h Γ p hΓ))
  cases f
  · exact h' Γ p' hΓ
  all_goals exact h'
/-- the law's statements and its names -/
noncomputable def lawBody : List Stmt := match PySem.Challenge.pw_ov0082_01.main.body.drop 105 with
  | [.FunctionDef _ _ body _ _ _ _ _ _ _] => body
  | _ => []
noncomputable def lawScope : Scope := match PySem.Challenge.pw_ov0082_01.main.body.drop 105 with
  | [.FunctionDef _ _ _ _ _ _ own _ _ _] => own
  | _ => PySem.Challenge.pw_ov0082_01.main.scope
/-- the statements i .. j - 1 -/
noncomputable def lawSeg (i j : Nat) : List Stmt := (lawBody.drop i).take (j - i)
theorem lawSeg_all : lawBody = lawSeg 0 5 ++ (lawSeg 5 7 ++ (lawSeg 7 9 ++ (lawSeg 9 11 ++ (lawSeg 11 13 ++ (lawSeg 13 14 ++ (lawSeg 14 15 ++ (lawSeg 15 17 ++ (lawSeg 17 18 ++ lawSeg 18 22)))))))) := by kernel_rfl

/-- a vector of the kind kd with the items cs; a shown list -/
def VecF (nb : List (Addr × Obj)) (x : Addr) (kd : Kd) (cs : List Nat) : Prop := ∃ l vs k, VecAt nb x kd.str l ∧ (l, listOf (List.toArray vs) k) ∈ nb ∧ Items nb kd vs cs ∧ vs.length ≤ 14
def LstF (nb : List (Addr × Obj)) (l : Addr) (kd : Kd) (cs : List Nat) : Prop := ∃ vs k, (l, listOf (List.toArray vs) k) ∈ nb ∧ Shown nb kd vs cs ∧ vs.length ≤ 14
theorem VecF.mono {nb nb' : List (Addr × Obj)} {x : Addr} {kd : Kd} {cs : List Nat} (h : VecF nb x kd cs) (hs : ∀ p ∈ nb, p ∈ nb') : VecF nb' x kd cs := by
  obtain ⟨l, vs, k, a, b, c, d⟩ := h
  exact ⟨l, vs, k, a.mono hs, hs _ b, c.mono hs, d⟩
theorem LstF.mono {nb nb' : List (Addr × Obj)} {l : Addr} {kd : Kd} {cs : List Nat} (h : LstF nb l kd cs) (hs : ∀ p ∈ nb, p ∈ nb') : LstF nb' l kd cs := by
  obtain ⟨vs, k, b, c, d⟩ := h
  exact ⟨vs, k, hs _ b, c.mono hs, d⟩
/-- the law's call -/
structure LawC (w : World) (p : Program) (loose : List Str) (mean : ExcName → Option Value) (mg mb : Str → Option Value) (dp un : Nat) (A₀ : Around) (base h₀ : Heap) (outer : List Env) : Prop where
  B : Below A₀ base outer h₀
  X : (hdk.heap_1 w.params).In h₀
  T : Top p loose mean mg mb h₀
  hd : dp + 40 < recursionLimit
  hu : un + 400 < cLine
/-- the cells are apart -/
structure Cells3 (c1 c2 c3 : Addr) (nb : List (Addr × Obj)) : Prop where
  n12 : @Ne Nat c1 c2
  n13 : @Ne Nat c1 c3
  n23 : @Ne Nat c2 c3
  off1 : ∀ p ∈ nb, p.1 ≠ c1
  off2 : ∀ p ∈ nb, p.1 ≠ c2
  off3 : ∀ p ∈ nb, p.1 ≠ c3
noncomputable abbrev lawCl (c1 c2 c3 : Addr) : List (Str × Addr) := [(Str.ofString "flags", c3), (Str.ofString "row", c2), (Str.ofString "one", c1)]
def Fr3 (c1 c2 c3 x : Addr) : Prop := @Ne Nat c1 x ∧ @Ne Nat c2 x ∧ @Ne Nat c3 x
theorem fr3 {c1 c2 c3 x : Addr} {o1 o2 o3 : Obj} {news : List (Addr × Obj)} (n : ∀ q ∈ news, q.1 ≠ x) (hs : ∀ p ∈ [(c3, o3), (c2, o2), (c1, o1)], p ∈ news) : Fr3 c1 c2 c3 x :=
  ⟨n (c1, o1) (hs _ (by simp)), n (c2, o2) (hs _ (by simp)), n (c3, o3) (hs _ (by simp))⟩
theorem Cells3.more {c1 c2 c3 x : Addr} {o : Obj} {nb : List (Addr × Obj)} (Y : Cells3 c1 c2 c3 nb) (f : Fr3 c1 c2 c3 x) : Cells3 c1 c2 c3 ((x, o) :: nb) := by
  obtain ⟨a, b, c, d, e, g⟩ := Y
  refine ⟨a, b, c, fun p hp => ?_, fun p hp => ?_, fun p hp => ?_⟩ <;> rcases List.mem_cons.mp hp with rfl | hp
  · exact f.1.symm
  · exact d p hp
  · exact f.2.1.symm
  · exact e p hp
  · exact f.2.2.symm
  · exact g p hp
/-- a vector that was made joins the ledger's rest -/
theorem absV {h₀ h : Heap} {L c1 c2 c3 x dx l : Addr} {o1 o2 o3 od : Obj} {nb news : List (Addr × Obj)} {m : Str → Option Value} {nm : Str} {kd : Kd} {vs : List Value} {cs : List Nat} {k : Nat} (F : Fr h₀ L h m) (N : News h₀ L h news) (hm : m nm = some (.ref x))
    (hx : (x, instObj 237 dx) ∈ news) (hdx : (dx, od) ∈ news) (v : IsVD kd.str l od) (hl : (l, listOf (List.toArray vs) k) ∈ news) (hI : Items nb kd vs cs) (hz : cs.length ≤ 14) (Y : Cells3 c1 c2 c3 nb) (hs : ∀ p ∈ (c3, o3) :: (c2, o2) :: (c1, o1) :: nb, p ∈ news)
    (f1 : Fr3 c1 c2 c3 x) (f2 : Fr3 c1 c2 c3 dx) (f3 : Fr3 c1 c2 c3 l) : ∃ nb', News h₀ L h ((c3, o3) :: (c2, o2) :: (c1, o1) :: nb') ∧ Cells3 c1 c2 c3 nb' ∧ (∀ p ∈ nb, p ∈ nb') ∧ VecF nb' x kd cs ∧ m nm = some (.ref x) := by
  refine ⟨(x, instObj 237 dx) :: (dx, od) :: (l, listOf (List.toArray vs) k) :: nb, news_sub N fun p hp => ?_, ((Y.more f3).more f2).more f1, fun p hp => by simp [hp], ⟨l, vs, k, ⟨dx, od, by simp, by simp, v⟩, by simp, hI.mono fun p hp => by simp [hp], by rw [hI.1]; exact hz⟩, hm⟩
  simp only [List.mem_cons] at hp
  rcases hp with e | e | e | e | e | e | e
  · exact e ▸ hs _ (by simp)
  · exact e ▸ hs _ (by simp)
  · exact e ▸ hs _ (by simp)
  · exact e ▸ hx
  · exact e ▸ hdx
  · exact e ▸ hl
  · exact hs _ (by simp [e])
/-- two shown lists that were made join the ledger's rest -/
theorem absL2 {h₀ h : Heap} {L c1 c2 c3 l l' : Addr} {o1 o2 o3 : Obj} {nb news : List (Addr × Obj)} {m : Str → Option Value} {nm nm' : Str} {kd : Kd} {vs vs' : List Value} {cs cs' : List Nat} {k k' : Nat} (F : Fr h₀ L h m) (N : News h₀ L h news) (hm : m nm = some (.ref l)) (hm' : m nm' = some (.ref l'))
    (hl : (l, listOf (List.toArray vs) k) ∈ news) (hl' : (l', listOf (List.toArray vs') k') ∈ news) (hI : Shown nb kd vs cs) (hI' : Shown nb kd vs' cs') (hz : cs.length ≤ 14) (hz' : cs'.length ≤ 14) (Y : Cells3 c1 c2 c3 nb) (hs : ∀ p ∈ (c3, o3) :: (c2, o2) :: (c1, o1) :: nb, p ∈ news)
    (f1 : Fr3 c1 c2 c3 l) (f2 : Fr3 c1 c2 c3 l') : ∃ nb', News h₀ L h ((c3, o3) :: (c2, o2) :: (c1, o1) :: nb') ∧ Cells3 c1 c2 c3 nb' ∧ (∀ p ∈ nb, p ∈ nb') ∧ LstF nb' l kd cs ∧ LstF nb' l' kd cs' ∧ m nm = some (.ref l) ∧ m nm' = some (.ref l') := by
  refine ⟨(l, listOf (List.toArray vs) k) :: (l', listOf (List.toArray vs') k') :: nb, news_sub N fun p hp => ?_, (Y.more f2).more f1, fun p hp => by simp [hp], ⟨vs, k, by simp, hI.mono fun p hp => by simp [hp], by rw [hI.1]; exact hz⟩, ⟨vs', k', by simp, hI'.mono fun p hp => by simp [hp], by rw [hI'.1]; exact hz'⟩, hm, hm'⟩
  simp only [List.mem_cons] at hp
  rcases hp with e | e | e | e | e | e
  · exact e ▸ hs _ (by simp)
  · exact e ▸ hs _ (by simp)
  · exact e ▸ hs _ (by simp)
  · exact e ▸ hl
  · exact e ▸ hl'
  · exact hs _ (by simp [e])
theorem dstf_le (f : Nat → Bool) {cs : List Nat} {n : Nat} (h : cs.length ≤ n) : (dst (cs.filter f)).length ≤ n := Nat.le_trans (dst_len_le _) (Nat.le_trans (List.length_filter_le _ _) h)
theorem dsta_le {cs ds : List Nat} (h : cs.length ≤ 7) (k : ds.length ≤ 7) : (dst (cs ++ ds)).length ≤ 14 := Nat.le_trans (dst_len_le _) (by rw [List.length_append]; omega)
theorem PlacesAre.ints : ∀ {vs : List Value} {ps : List Nat}, PlacesAre vs ps → IntsAre vs (ps.map fun q : Nat => (q : Int))
  | [], [], _ => .nil
  | [], _ :: _, h => by have := h.1; simp at this
  | _ :: _, [], h => by have := h.1; simp at this
  | v :: vs, q :: ps, h => by
    obtain ⟨t, e⟩ := h.2 0 q rfl
    obtain rfl : v = .int (q : Int) t := by simpa using e
    exact .cons _ _ (PlacesAre.ints ⟨by simpa using h.1, fun i q' hi => by simpa using h.2 (i + 1) q' (by simpa using hi)⟩)
theorem sum_cast : ∀ ps : List Nat, (ps.map fun q : Nat => (q : Int)).sum = ((ps.sum : Nat) : Int)
  | [] => rfl
  | q :: ps => by rw [List.map_cons, List.sum_cons, List.sum_cons, sum_cast ps]; omega
section
variable {prog : Program} {w : World} {A : Around} {E : Value → Shared → Prop} {s : Shared} {h₀ : Heap} {L : Addr} {m : Str → Option Value} {news : List (Addr × Obj)}
theorem sum_places {l : Addr} {vs : List Value} {ps : List Nat} {k : Nat} {Q : Value → Shared → Prop} (hh : A.handled = none) (F : Fr h₀ L s.heap m) (N : News h₀ L s.heap news) (hm : (l, listOf vs.toArray k) ∈ news) (hP : PlacesAre vs ps)
    (h : ∀ h' tk t', Fr h₀ L h' m → News h₀ L h' news → Q (.int ((ps.sum : Nat) : Int) t') { s with heap := h', toks := tk }) : wpAny (model prog w) A (call (.builtin "sum") [.ref l]) Q E s := by
  refine sumK hh F N (News.isList N hm) hP.ints fun h' tk t' F' N' => ?_
  rw [sum_cast]
  exact h h' tk t' F' N'
end
theorem places_at {vs : List Value} {ps : List Nat} (h : PlacesAre vs ps) {i : Nat} (hi : i < ps.length) : ∃ t, vs[i]? = some (Value.int ((ps.getD i 0 : Nat) : Int) t) := h.2 i _ (by simp [hi])
theorem fin_true {Q : Flow → Shared → Prop} {b : Bool} {s : Shared} (hb : b = true) (h : Q (.ret (.bool true)) s) : Q (.ret (.bool b)) s := hb ▸ h
--M{
local macro_rules | `(tactic| ktr_rel) => `(tactic| (refine' VecAt.mono ?a ?b; (case a => with_reducible assumption); (case b => kqd_sub)))
local macro_rules | `(tactic| walk_at "eval Name") => `(tactic| f_two (eval _ (envX _ lawScope _ _ _ _)), (nameX_L ?F ?x ?_ (by rfl) (by rfl)))
local macro_rules | `(tactic| walk_at "compareOp NotEq ref ref") => `(tactic| (k_here; (with_reducible show wpAny _ _ (compareOp CmpOp.NotEq (Value.ref _) (Value.ref _)) _ _ _); k_dflt (refine' ne_shown ?N ?a ?b ?S ?T ?s ?u ?_; (case N => k_asm); (case a => k_mem); (case b => k_mem); (case S => first | assumption | exact Shown.reverse (by assumption)); (case T => first | assumption | exact Shown.reverse (by assumption)); (case s => kqd_sub); (case u => k_units))))
local macro_rules | `(tactic| walk_at "compareOp NotEq") => `(tactic| f_two (compareOp CmpOp.NotEq _ _), (ne_same ?N ?s ?v ?c ?u ?_))
local macro_rules | `(tactic| walk_at "compareOp Eq ref ref") => `(tactic| (k_here; (with_reducible show wpAny _ _ (compareOp CmpOp.Eq (Value.ref _) (Value.ref _)) _ _ _); k_dflt (refine' eq_shown ?N ?a ?b ?S ?T ?s ?u ?_; (case N => k_asm); (case a => k_mem); (case b => k_mem); (case S => assumption); (case T => first | exact Shown.nil | assumption); (case s => kqd_sub); (case u => k_units))))
local macro_rules | `(tactic| walk_at "compareOp In") => `(tactic| f_two (compareOp CmpOp.In _ (Value.ref _)), (in_shown ?N ?a ?S ?s ?v ?c ?u ?_))
local macro_rules | `(tactic| walk_at "getMethod ref") => `(tactic| f_two (getMethod (Value.ref _) (PySem.Str.ofString "count") _), (kl_method ?N ?m PySem.F.slot_list_count PySem.F.type_list_count ?_))
local macro_rules | `(tactic| walk_at "call builtin:list.count") => `(tactic| f_two (call (Value.builtin _) [Value.ref _, _]), (count_shown ?N ?a ?S ?s ?v ?c ?u ?_))
local macro_rules | `(tactic| walk_at "call builtin:sum") => `(tactic| f_two (call (Value.builtin "sum") [Value.ref _]), (sum_places rfl ?F ?N ?m ?x ?_))
--M}
--M{
local macro_rules | `(tactic| walk_at "call ref") => `(tactic| (row_wit2 575 duplicated_bwd; k_caughtB))
--M}

section
variable {prog : Program} {w : World} {A : Around} {E : Value → Shared → Prop} {s : Shared} {env : Env} {h₀ : Heap} {x : Str} {body : List Stmt} {Q : Flow → Shared → Prop} {m : Str → Option Value}
/-- the start of a loop whose name is a cell -/
def CellGoal (prog : Program) (w : World) (A : Around) (env : Env) (x : Str) (px : Pos) (body : List Stmt) (Q : Flow → Shared → Prop) (E : Value → Shared → Prop) (xv : Value) (s₁ : Shared) : Prop :=
  wpAny (model prog w) A (pyIter xv) (fun it s₂ => codeAny (model prog w) A (.forLoop (.Name x px) it body [] env) (fun r s' => match r with | .ok f => Q f s' | .error e => cameBackBy (model prog w) A env E e s') s₂) E s₁
theorem For_cellM {px pos : Pos} {iter : PySem.Expr} (h : wpAny (model prog w) A (eval iter env) (CellGoal prog w A env x px body Q E) E s) (hx : env.kindOf x = some .cell)
    (hs : ∀ x, foldedSetIterable iter env x = pure x := by intro _; rfl) : wpAny (model prog w) A (exec (.For (.Name x px) iter body [] pos) env) Q E s := wpAny_For h hs
/-- the end of such a turn -/
def CellPost (h₀ : Heap) (L : Addr) (m : Str → Option Value) (I c : Addr) (oI o : Obj) (cst : List (Addr × Obj)) (s₁ : Shared) (Q : Flow → Shared → Prop) (f : Flow) (s₂ : Shared) : Prop :=
  match f with
  | .ret v => Q (.ret v) s₂
  | .brk => Q .next s₂
  | _ => ∃ h' tk, s₂ = { s₁ with heap := h', toks := tk } ∧ Fr h₀ L h' m ∧ News h₀ L h' ((I, oI) :: (c, o) :: cst)
theorem CellPost.next {L I c : Addr} {oI o : Obj} {cst all : List (Addr × Obj)} {s₁ : Shared} {h' : Heap} {tk : Nat} (F : Fr h₀ L h' m) (N : News h₀ L h' all) (hs : ∀ p ∈ (I, oI) :: (c, o) :: cst, p ∈ all) :
    CellPost h₀ L m I c oI o cst s₁ Q .next { s₁ with heap := h', toks := tk } := ⟨h', tk, rfl, F, news_sub N hs⟩
theorem loop_cell {px : Pos} {c l : Addr} {o : Obj} {v₀ : Option Value} {vs : List Value} {k : Nat} {cst news : List (Addr × Obj)} (hh : A.handled = none) (F : Fr h₀ env.locals s.heap m) (N : News h₀ env.locals s.heap news) (hn : ∀ p ∈ (c, o) :: cst, p ∈ news) (hl : (l, listOf vs.toArray k) ∈ cst)
    (hne : ∀ p ∈ cst, p.1 ≠ c) (hod : o.data = .cell v₀) (hk : env.scope.kind = .function) (hx : env.kindOf x = some .cell) (hc : env.cells.lookup x = some c)
    (turn : ∀ (i : Nat) v h tk I oI o', vs[i]? = some v → o'.data = .cell (some v) → (∀ p ∈ (c, o') :: cst, p.1 ≠ I) → Fr h₀ env.locals h m → News h₀ env.locals h ((I, oI) :: (c, o') :: cst) →
      wpAny (model prog w) A (execs body env) (CellPost h₀ env.locals m I c oI o' cst { s with heap := h, toks := tk } Q) E { s with heap := h, toks := tk })
    (done : ∀ h tk o' v', o'.data = .cell v' → Fr h₀ env.locals h m → News h₀ env.locals h ((c, o') :: cst) → Q .next { s with heap := h, toks := tk })
    (hE : PassesOwn (model prog w) A env E := by passes_own) : CellGoal prog w A env x px body Q E (.ref l) s := by
  have N₀ := news_sub N hn
  have hlm := N₀ _ (.tail _ hl)
  have hlc : l ≠ c := hne _ hl
  have hlt := Heap.lt_size hlm.1
  have hLt := F.ns.lt
  have hct := Heap.lt_size (N₀ _ (.head _)).1
  refine wpAny_pyIter_list ⟨_, hlm.1, rfl, _, rfl⟩ ?_
  have W := Walks.list (prog := prog) (w := w) hh s.heap.objs.size l (Nat.ne_of_lt hlt) vs.toArray
  have hsz : vs.toArray.size = vs.length := by simp
  rw [hsz] at W
  have hI0 : h₀.get? s.heap.objs.size = none := next_is_new F
  have offI : ∀ o' : Obj, ∀ p ∈ (c, o') :: cst, p.1 ≠ s.heap.objs.size := fun o' p hp => by
    rcases List.mem_cons.mp hp with rfl | hp
    · exact Nat.ne_of_lt hct
    · exact Nat.ne_of_lt (Heap.lt_size (N₀ _ (.tail _ hp)).1)
  refine codeAny_forLoop (fun k s' => ∃ h' tk o' v' i, s' = { s with heap := h', toks := tk } ∧ (h'.IsListIter s.heap.objs.size l i ∧ h'.IsList l vs.toArray) ∧ Fr h₀ env.locals h' m ∧ News h₀ env.locals h' ((c, o') :: cst) ∧ o'.data = .cell v' ∧ i ≤ vs.length ∧ k = vs.length + 1 - i) ?_ (vs.length + 1)
    ⟨_, s.toks, o, v₀, 0, rfl, ⟨⟨_, Heap.get?_push_size _ rfl, rfl, rfl⟩, Heap.IsList.at (h := s.heap) ⟨_, hlm.1, rfl, _, rfl⟩ fun o e => Heap.get?_push_of_some _ e⟩, F.push _, (fun p hp => ⟨Heap.get?_push_of_some _ (N₀ p hp).1, (N₀ p hp).2⟩), hod, Nat.zero_le _, rfl⟩
  rintro k' s' ⟨h', tk, o', v', i, rfl, hst', F', N', hd', hi, rfl⟩
  have next : ∀ h₁ : Heap, (∀ b o, b ∉ [s.heap.objs.size] → h'.get? b = some o → h₁.get? b = some o) → Fr h₀ env.locals h₁ m ∧ News h₀ env.locals h₁ ((c, o') :: cst) := fun h₁ hk₁ =>
    ⟨⟨F'.ns.at' fun o e => hk₁ _ o (fun hm => absurd hLt ((List.mem_singleton.mp hm) ▸ Nat.lt_irrefl _)) e, fun b o e => hk₁ b o (fun hm => by rw [List.mem_singleton.mp hm, hI0] at e; cases e) (F'.keep b o e), F'.above⟩,
      fun p hp => ⟨hk₁ _ _ (fun hm => offI o' p hp (List.mem_singleton.mp hm)) (N' p hp).1, (N' p hp).2⟩⟩
  by_cases hlt' : i < vs.length
  · refine W.item i _ _ _ hlt' hst' fun v h₁ tk₁ hP hst₁ hk₁ => ?_
    obtain ⟨F₁, N₁⟩ := next h₁ hk₁
    have hcm := N₁ _ (.head _)
    refine wpAny_assign_Name (wpAny_storeName_cell hk hx hc ⟨o', hcm.1, hd'⟩ fun h₂ hv₂ hs₂ => ?_)
    obtain ⟨o₂, ho₂, hd₂⟩ := hv₂
    have F₂ : Fr h₀ env.locals h₂ m := ⟨F₁.ns.sameBut hs₂ (Ne.symm hcm.2.1), fun b ob e => (hs₂.2 b (fun q => by rw [q, hcm.2.2] at e; cases e)).trans (F₁.keep b ob e), F₁.above⟩
    have N₂ : News h₀ env.locals h₂ ((c, o₂) :: cst) := fun p hp => by
      rcases List.mem_cons.mp hp with rfl | hp
      · exact ⟨ho₂, hcm.2⟩
      · exact ⟨(hs₂.2 _ (hne p hp)).trans (N₁ p (.tail _ hp)).1, (N₁ p (.tail _ hp)).2⟩
    have hIc : s.heap.objs.size ≠ c := fun e => offI o' (c, o') (.head _) e.symm
    obtain ⟨oI, hoI, hoI2⟩ := hst₁.1
    have hoI' : h₂.get? s.heap.objs.size = some oI := (hs₂.2 _ hIc).trans hoI
    have N₃ : News h₀ env.locals h₂ ((s.heap.objs.size, oI) :: (c, o₂) :: cst) := fun p hp => by
      rcases List.mem_cons.mp hp with rfl | hp
      · exact ⟨hoI', Ne.symm (Nat.ne_of_lt hLt), hI0⟩
      · exact N₂ p hp
    have hP' : vs[i]? = some v := by simpa using hP
    have fin : ∀ s₃, (∃ h' tk, s₃ = { { s with heap := h₂, toks := tk₁ } with heap := h', toks := tk } ∧ Fr h₀ env.locals h' m ∧ News h₀ env.locals h' ((s.heap.objs.size, oI) :: (c, o₂) :: cst)) →
        ∃ k'', k'' < vs.length + 1 - i ∧ ∃ h' tk o' v' i', s₃ = { s with heap := h', toks := tk } ∧ (h'.IsListIter s.heap.objs.size l i' ∧ h'.IsList l vs.toArray) ∧ Fr h₀ env.locals h' m ∧ News h₀ env.locals h' ((c, o') :: cst) ∧ o'.data = .cell v' ∧ i' ≤ vs.length ∧ k'' = vs.length + 1 - i' := by
      rintro s₃ ⟨h₃, tk₃, rfl, F₃, N₄⟩
      refine ⟨vs.length + 1 - (i + 1), by omega, h₃, tk₃, o₂, _, i + 1, rfl, ⟨⟨oI, (N₄ _ (.head _)).1, hoI2⟩, ⟨_, (N₄ _ (.tail _ (.tail _ hl))).1, rfl, _, rfl⟩⟩, F₃, fun p hp => N₄ p (.tail _ hp), hd₂, hlt', rfl⟩
    refine wpAny_mono (wpAny_passesOwn hE (turn i v h₂ tk₁ _ oI o₂ hP' hd₂ (offI o₂) F₂ N₃)) (fun f s₃ h₃ => ?_) fun _ _ e => e
    cases f with
    | ret v => exact h₃
    | brk => exact h₃
    | cont => exact fin s₃ h₃
    | next => exact fin s₃ h₃
  · obtain rfl : i = vs.length := by omega
    refine W.done _ _ _ hst' fun h₁ tk₁ hk₁ => wpAny_execs_nil ?_
    obtain ⟨F₁, N₁⟩ := next h₁ hk₁
    exact done h₁ tk₁ o' v' hd' F₁ N₁
end
--M{
local macro_rules | `(tactic| walk_at "exec For Name List cons nil") => `(tactic| (k_here; k_dflt (refine' For_cellM ?_ ?k1; (case k1 => exact rfl); k_whole)))
--M}

section
variable {w : World} {p : Program} {loose : List Str} {mean : ExcName → Option Value} {mg mb : Str → Option Value} {dp un : Nat} {gd : Option (List Code)} {a c1 c2 c3 : Addr} {ccd : Value} {outer : List Env} {A₀ : Around} {base h₀ : Heap} {L : Addr} {m : Str → Option Value} {s : Shared} {Q : Flow → Shared → Prop} {E : Value → Shared → Prop} {o1 o2 o3 : Obj} {nb : List (Addr × Obj)} {kd : Kd} {xu xv xw xj lone ltwo lcom lrest : Addr} {cu cv cw : List Nat}
theorem seg0 {sa : Addr} {lo : Obj} {vs₀ : List Value} {ns₀ : List Int} (C : LawC w p loose mean mg mb dp un A₀ base h₀ outer) (Y : Cells3 c1 c2 c3 []) (F : Fr h₀ L s.heap m) (N : News h₀ L s.heap [(c3, o3), (c2, o2), (c1, o1)])
    (hms : m (Str.ofString "script") = some (.ref sa)) (hsa : h₀.get? sa = some lo) (hlc : lo.cls = .type "list") (hld : ∃ n, lo.data = .seq vs₀.toArray n) (hI : IntsAre vs₀ ns₀)
    (next : ∀ h tk m' nb kd xu xv xw cu cv cw, Fr h₀ L h m' → News h₀ L h ((c3, o3) :: (c2, o2) :: (c1, o1) :: nb) → Cells3 c1 c2 c3 nb → VecF nb xu kd cu → VecF nb xv kd cv → VecF nb xw kd cw → cu.length ≤ 7 → cv.length ≤ 7 → cw.length ≤ 7 →
      m' (Str.ofString "u") = some (.ref xu) → m' (Str.ofString "v") = some (.ref xv) → m' (Str.ofString "w") = some (.ref xw) → Q .next { s with heap := h, toks := tk }) :
    wpAny (model PySem.Challenge.rw_ov0082_01.row.prog w) (ktrTop dp un gd (Str.ofString "law") lawScope L a ccd (lawCl c1 c2 c3) outer) (execs (lawSeg 0 5) (envX (Str.ofString "law") lawScope L a ccd (lawCl c1 c2 c3))) Q (fun _ _ => False) s := by
  obtain ⟨B, X, T, hd, hun⟩ := C
  revert X; (w_top off; k_fill); intro X
  obtain ⟨n12, n13, n23, off1, off2, off3⟩ := Y
  clear off1 off2 off3
  show wpAny _ _ (execs [_, _, _, _, _] _) _ _ _
  repeat ((fail_if_success (with_reducible show wpAny _ _ (call (Value.ref 649) _) _ _ _)); (first | (k_unfold; (try dsimp only)) | (k_end; wrow_close) | walk1 | (dsimp only; walk1)))
  rename ((_ : Int) < 4) => hc4
  obtain ⟨kd, hkd⟩ := way_of hc4
  k_steps
  rename VecAt _ _ _ _ => hVw; revert hVw
  rename VecAt _ _ _ _ => hVv; revert hVv
  rename VecAt _ _ _ _ => hVu; intro hVv hVw
  rename Items _ _ _ _ => hIw; revert hIw
  rename Items _ _ _ _ => hIv; revert hIv
  rename Items _ _ _ _ => hIu; intro hIv hIw
  rename _ ∈ _ => hlw; revert hlw
  rename _ ∈ _ => hlv; revert hlv
  rename _ ∈ _ => hlu; intro hlv hlw
  rename List.length _ ≤ 7 => hzw; revert hzw
  rename List.length _ ≤ 7 => hzv; revert hzv
  rename List.length _ ≤ 7 => hzu; intro hzv hzw
  rename (∀ p ∈ _, p ∈ _) => hs3; revert hs3
  rename (∀ p ∈ _, p ∈ _) => hs2; intro hs3
  rename Off4 _ _ _ _ _ => off
  obtain ⟨_, off3, off2, off1⟩ := off
  exact next _ _ _ _ kd _ _ _ _ _ _ (by k_asm) (news_sub (by k_asm) (by kqd_sub)) ⟨n12, n13, n23, off1, off2, off3⟩
    ⟨_, _, _, hVu.mono fun p hp => hs3 _ (hs2 _ hp), hs3 _ (hs2 _ hlu), hIu.mono fun p hp => hs3 _ (hs2 _ hp), by omega⟩
    ⟨_, _, _, hVv.mono hs3, hs3 _ hlv, hIv.mono hs3, by omega⟩ ⟨_, _, _, hVw, hlw, hIw, by omega⟩ (by rw [← hIu.1]; exact hzu) (by rw [← hIv.1]; exact hzv) (by rw [← hIw.1]; exact hzw) (by rfl) (by rfl) (by rfl)
end
theorem absL1 {h₀ h : Heap} {L c1 c2 c3 l l' : Addr} {o1' o2 o3 : Obj} {nb news : List (Addr × Obj)} {m : Str → Option Value} {nm' : Str} {kd : Kd} {vs vs' : List Value} {cs cs' : List Nat} {k k' : Nat} (N : News h₀ L h news) (hd : o1'.data = .cell (some (.ref l))) (hm' : m nm' = some (.ref l'))
    (hl : (l, listOf (List.toArray vs) k) ∈ news) (hl' : (l', listOf (List.toArray vs') k') ∈ news) (hI : Shown nb kd vs cs) (hI' : Shown nb kd vs' cs') (hz : cs.length ≤ 14) (hz' : cs'.length ≤ 14) (Y : Cells3 c1 c2 c3 nb) (hs : ∀ p ∈ (c3, o3) :: (c2, o2) :: (c1, o1') :: nb, p ∈ news)
    (f1 : Fr3 c1 c2 c3 l) (f2 : Fr3 c1 c2 c3 l') : ∃ nb', News h₀ L h ((c3, o3) :: (c2, o2) :: (c1, o1') :: nb') ∧ Cells3 c1 c2 c3 nb' ∧ (∀ p ∈ nb, p ∈ nb') ∧ o1'.data = .cell (some (.ref l)) ∧ LstF nb' l kd cs ∧ LstF nb' l' kd cs' ∧ m nm' = some (.ref l') := by
  refine ⟨(l, listOf (List.toArray vs) k) :: (l', listOf (List.toArray vs') k') :: nb, news_sub N fun p hp => ?_, (Y.more f2).more f1, fun p hp => by simp [hp], hd, ⟨vs, k, by simp, hI.mono fun p hp => by simp [hp], by rw [hI.1]; exact hz⟩, ⟨vs', k', by simp, hI'.mono fun p hp => by simp [hp], by rw [hI'.1]; exact hz'⟩, hm'⟩
  simp only [List.mem_cons] at hp
  rcases hp with e | e | e | e | e | e
  · exact e ▸ hs _ (by simp)
  · exact e ▸ hs _ (by simp)
  · exact e ▸ hs _ (by simp)
  · exact e ▸ hl
  · exact e ▸ hl'
  · exact hs _ (by simp [e])
section
variable {w : World} {p : Program} {loose : List Str} {mean : ExcName → Option Value} {mg mb : Str → Option Value} {dp un : Nat} {gd : Option (List Code)} {a c1 c2 c3 : Addr} {ccd : Value} {outer : List Env} {A₀ : Around} {base h₀ : Heap} {L : Addr} {m : Str → Option Value} {s : Shared} {Q : Flow → Shared → Prop} {E : Value → Shared → Prop} {o1 o2 o3 : Obj} {nb : List (Addr × Obj)} {kd : Kd} {xu xv xw xj lone ltwo lcom lrest : Addr} {cu cv cw : List Nat}
theorem segA {v₁ : Option Value} (C : LawC w p loose mean mg mb dp un A₀ base h₀ outer) (Y : Cells3 c1 c2 c3 nb) (F : Fr h₀ L s.heap m) (N : News h₀ L s.heap ((c3, o3) :: (c2, o2) :: (c1, o1) :: nb))
    (hmu : m (Str.ofString "u") = some (.ref xu)) (hmv : m (Str.ofString "v") = some (.ref xv)) (hc1 : o1.data = .cell v₁) (hu : VecF nb xu kd cu) (hv : VecF nb xv kd cv) (hcu : cu.length ≤ 7) (hcv : cv.length ≤ 7)
    (next : ∀ h tk m' nb' o1' lo lt, Fr h₀ L h m' → News h₀ L h ((c3, o3) :: (c2, o2) :: (c1, o1') :: nb') → Cells3 c1 c2 c3 nb' → (∀ p ∈ nb, p ∈ nb') → o1'.data = .cell (some (.ref lo)) → LstF nb' lo kd cu → LstF nb' lt kd cv → m' (Str.ofString "two") = some (.ref lt) →
      (∀ z, z ≠ Str.ofString "two" → m' z = m z) → Q .next { s with heap := h, toks := tk }) :
    wpAny (model PySem.Challenge.rw_ov0082_01.row.prog w) (ktrTop dp un gd (Str.ofString "law") lawScope L a ccd (lawCl c1 c2 c3) outer) (execs (lawSeg 5 7) (envX (Str.ofString "law") lawScope L a ccd (lawCl c1 c2 c3))) Q (fun _ _ => False) s := by
  obtain ⟨B, X, T, hd, hun⟩ := C
  revert X; (w_top off; k_fill); intro X
  obtain ⟨n12, n13, n23, off1, off2, off3⟩ := Y
  obtain ⟨lu, us, ku, hu1, hu2, hu3, hu4⟩ := hu
  obtain ⟨lv, vs, kv, hv1, hv2, hv3, hv4⟩ := hv
  show wpAny _ _ (execs [_, _] _) _ _ _
  k_steps
  rename Fr _ _ _ _ => F9
  rename News _ _ _ _ => N9
  rename _ = Data.cell (some (Value.ref _)) => hd9
  obtain ⟨nb', N', Y', s', d', v', v'', m'⟩ := absL1 (c1 := c1) (c2 := c2) (c3 := c3) (nm' := Str.ofString "two") (m := fun y => if y = Str.ofString "two" then _ else m y) N9 hd9 (by exact rfl) (by k_mem) (by k_mem) (by assumption) (by assumption) (Nat.le_trans hcu (by decide)) (Nat.le_trans hcv (by decide)) ⟨n12, n13, n23, off1, off2, off3⟩ (by kqd_sub) (fr3 (by with_reducible assumption) (by kqd_sub)) (fr3 (by with_reducible assumption) (by kqd_sub))
  exact next _ _ _ nb' _ _ _ F9 N' Y' s' d' v' v'' m' fun z hz => if_neg hz
end

section
variable {w : World} {p : Program} {loose : List Str} {mean : ExcName → Option Value} {mg mb : Str → Option Value} {dp un : Nat} {gd : Option (List Code)} {a c1 c2 c3 : Addr} {ccd : Value} {outer : List Env} {A₀ : Around} {base h₀ : Heap} {L : Addr} {m : Str → Option Value} {s : Shared} {Q : Flow → Shared → Prop} {E : Value → Shared → Prop} {o1 o2 o3 : Obj} {nb : List (Addr × Obj)} {kd : Kd} {xu xv xw xj lone ltwo lcom lrest : Addr} {cu cv cw : List Nat}
theorem segB (C : LawC w p loose mean mg mb dp un A₀ base h₀ outer) (Y : Cells3 c1 c2 c3 nb) (F : Fr h₀ L s.heap m) (N : News h₀ L s.heap ((c3, o3) :: (c2, o2) :: (c1, o1) :: nb))
    (hmu : m (Str.ofString "u") = some (.ref xu)) (hc1 : o1.data = .cell (some (.ref lone))) (hu : VecF nb xu kd cu) (h1 : LstF nb lone kd cu)
    (next : ∀ h tk m', Fr h₀ L h m' → News h₀ L h ((c3, o3) :: (c2, o2) :: (c1, o1) :: nb) → (∀ z, z ≠ Str.ofString "once" → m' z = m z) → Q .next { s with heap := h, toks := tk }) :
    wpAny (model PySem.Challenge.rw_ov0082_01.row.prog w) (ktrTop dp un gd (Str.ofString "law") lawScope L a ccd (lawCl c1 c2 c3) outer) (execs (lawSeg 7 9) (envX (Str.ofString "law") lawScope L a ccd (lawCl c1 c2 c3))) Q (fun _ _ => False) s := by
  obtain ⟨B, X, T, hd, hun⟩ := C
  revert X; (w_top off; k_fill); intro X
  obtain ⟨n12, n13, n23, off1, off2, off3⟩ := Y
  obtain ⟨lu, us, ku, hu1, hu2, hu3, hu4⟩ := hu
  obtain ⟨os, ko, hw1, hw2, hw3⟩ := h1
  have e1 : (dst cu != dst cu) = false := by simp
  have e2 : (dst (dst cu) != dst cu) = false := by rw [dst_dst]; simp
  show wpAny _ _ (execs [_, _] _) _ _ _
  k_steps
  exact next _ _ _ (by k_asm) (news_sub (by k_asm) (by kqd_sub)) fun z hz => if_neg hz
end
section
variable {w : World} {p : Program} {loose : List Str} {mean : ExcName → Option Value} {mg mb : Str → Option Value} {dp un : Nat} {gd : Option (List Code)} {a c1 c2 c3 : Addr} {ccd : Value} {outer : List Env} {A₀ : Around} {base h₀ : Heap} {L : Addr} {m : Str → Option Value} {s : Shared} {Q : Flow → Shared → Prop} {E : Value → Shared → Prop} {o1 o2 o3 : Obj} {nb : List (Addr × Obj)} {kd : Kd} {xu xv xw xj lone ltwo lcom lrest : Addr} {cu cv cw : List Nat}
theorem segC (C : LawC w p loose mean mg mb dp un A₀ base h₀ outer) (Y : Cells3 c1 c2 c3 nb) (F : Fr h₀ L s.heap m) (N : News h₀ L s.heap ((c3, o3) :: (c2, o2) :: (c1, o1) :: nb))
    (hmu : m (Str.ofString "u") = some (.ref xu)) (hmv : m (Str.ofString "v") = some (.ref xv)) (hmt : m (Str.ofString "two") = some (.ref ltwo)) (hc1 : o1.data = .cell (some (.ref lone))) (hu : VecF nb xu kd cu) (hv : VecF nb xv kd cv) (h1 : LstF nb lone kd cu) (h2 : LstF nb ltwo kd cv)
    (hcu : cu.length ≤ 7) (hcv : cv.length ≤ 7)
    (next : ∀ h tk m' nb' xj, Fr h₀ L h m' → News h₀ L h ((c3, o3) :: (c2, o2) :: (c1, o1) :: nb') → Cells3 c1 c2 c3 nb' → (∀ p ∈ nb, p ∈ nb') → VecF nb' xj kd (dst (cu ++ cv)) → m' (Str.ofString "joined_row") = some (.ref xj) → (∀ z, z ≠ Str.ofString "joined_row" → m' z = m z) → Q .next { s with heap := h, toks := tk }) :
    wpAny (model PySem.Challenge.rw_ov0082_01.row.prog w) (ktrTop dp un gd (Str.ofString "law") lawScope L a ccd (lawCl c1 c2 c3) outer) (execs (lawSeg 9 11) (envX (Str.ofString "law") lawScope L a ccd (lawCl c1 c2 c3))) Q (fun _ _ => False) s := by
  obtain ⟨B, X, T, hd, hun⟩ := C
  revert X; (w_top off; k_fill); intro X
  obtain ⟨n12, n13, n23, off1, off2, off3⟩ := Y
  obtain ⟨lu, us, ku, hu1, hu2, hu3, hu4⟩ := hu
  obtain ⟨lv, vs, kv, hv1, hv2, hv3, hv4⟩ := hv
  obtain ⟨os, ko, hw1, hw2, hw3⟩ := h1
  obtain ⟨ts, kt, ht1, ht2, ht3⟩ := h2
  have hA := hw2.append ht2
  have hz : (os ++ ts).length ≤ 1000 := by rw [List.length_append]; omega
  have e1 : (dst (cu ++ cv) != dst (cu ++ cv)) = false := by simp
  show wpAny _ _ (execs [_, _] _) _ _ _
  obtain ⟨du, odu, hu5, hu6, hu7⟩ := id hu1
  cases hu7
  k_steps
  rename Fr _ _ _ _ => F9
  rename News _ _ _ _ => N9
  obtain ⟨nb', N', Y', s', v', m'⟩ := absV (c1 := c1) (c2 := c2) (c3 := c3) (nm := Str.ofString "joined_row") F9 N9 (by exact rfl) (by k_mem) (by k_mem) (IsVD.mk ..) (by k_mem) (by assumption) (dsta_le hcu hcv) ⟨n12, n13, n23, off1, off2, off3⟩ (by kqd_sub) (fr3 (by with_reducible assumption) (by kqd_sub)) (fr3 (by with_reducible assumption) (by kqd_sub)) (fr3 (by with_reducible assumption) (by kqd_sub))
  exact next _ _ _ nb' _ F9 N' Y' s' v' m' fun z hz => if_neg hz
end

section
variable {w : World} {p : Program} {loose : List Str} {mean : ExcName → Option Value} {mg mb : Str → Option Value} {dp un : Nat} {gd : Option (List Code)} {a c1 c2 c3 : Addr} {ccd : Value} {outer : List Env} {A₀ : Around} {base h₀ : Heap} {L : Addr} {m : Str → Option Value} {s : Shared} {Q : Flow → Shared → Prop} {E : Value → Shared → Prop} {o1 o2 o3 : Obj} {nb : List (Addr × Obj)} {kd : Kd} {xu xv xw xj lone ltwo lcom lrest : Addr} {cu cv cw : List Nat}
theorem segD (C : LawC w p loose mean mg mb dp un A₀ base h₀ outer) (Y : Cells3 c1 c2 c3 nb) (F : Fr h₀ L s.heap m) (N : News h₀ L s.heap ((c3, o3) :: (c2, o2) :: (c1, o1) :: nb))
    (hmu : m (Str.ofString "u") = some (.ref xu)) (hmv : m (Str.ofString "v") = some (.ref xv)) (hu : VecF nb xu kd cu) (hv : VecF nb xv kd cv)
    (hcu : cu.length ≤ 7)
    (next : ∀ h tk m' nb' lc lr, Fr h₀ L h m' → News h₀ L h ((c3, o3) :: (c2, o2) :: (c1, o1) :: nb') → Cells3 c1 c2 c3 nb' → (∀ p ∈ nb, p ∈ nb') → LstF nb' lc kd (dst (cu.filter (cv.contains ·))) → LstF nb' lr kd (dst (cu.filter (!cv.contains ·))) → m' (Str.ofString "common") = some (.ref lc) → m' (Str.ofString "rest") = some (.ref lr) →
      (∀ z, z ≠ Str.ofString "common" → z ≠ Str.ofString "rest" → m' z = m z) → Q .next { s with heap := h, toks := tk }) :
    wpAny (model PySem.Challenge.rw_ov0082_01.row.prog w) (ktrTop dp un gd (Str.ofString "law") lawScope L a ccd (lawCl c1 c2 c3) outer) (execs (lawSeg 11 13) (envX (Str.ofString "law") lawScope L a ccd (lawCl c1 c2 c3))) Q (fun _ _ => False) s := by
  obtain ⟨B, X, T, hd, hun⟩ := C
  revert X; (w_top off; k_fill); intro X
  obtain ⟨n12, n13, n23, off1, off2, off3⟩ := Y
  obtain ⟨lu, us, ku, hu1, hu2, hu3, hu4⟩ := hu
  obtain ⟨lv, vs, kv, hv1, hv2, hv3, hv4⟩ := hv
  show wpAny _ _ (execs [_, _] _) _ _ _
  k_steps
  rename Fr _ _ _ _ => F9
  rename News _ _ _ _ => N9
  obtain ⟨nb', N', Y', s', v', v'', m', m''⟩ := absL2 (c1 := c1) (c2 := c2) (c3 := c3) (nm := Str.ofString "common") (nm' := Str.ofString "rest") F9 N9 (by exact rfl) (by exact rfl) (by k_mem) (by k_mem) (by assumption) (by assumption) (dstf_le _ (Nat.le_trans hcu (by decide))) (dstf_le _ (Nat.le_trans hcu (by decide))) ⟨n12, n13, n23, off1, off2, off3⟩ (by kqd_sub) (fr3 (by with_reducible assumption) (by kqd_sub)) (fr3 (by with_reducible assumption) (by kqd_sub))
  exact next _ _ _ nb' _ _ F9 N' Y' s' v' v'' m' m'' fun z hz hz' => (if_neg hz').trans (if_neg hz)
end
section
variable {w : World} {p : Program} {loose : List Str} {mean : ExcName → Option Value} {mg mb : Str → Option Value} {dp un : Nat} {gd : Option (List Code)} {a c1 c2 c3 : Addr} {ccd : Value} {outer : List Env} {A₀ : Around} {base h₀ : Heap} {L : Addr} {m : Str → Option Value} {s : Shared} {Q : Flow → Shared → Prop} {E : Value → Shared → Prop} {o1 o2 o3 : Obj} {nb : List (Addr × Obj)} {kd : Kd} {xu xv xw xj lone ltwo lcom lrest : Addr} {cu cv cw : List Nat}
theorem segE (C : LawC w p loose mean mg mb dp un A₀ base h₀ outer) (Y : Cells3 c1 c2 c3 nb) (F : Fr h₀ L s.heap m) (N : News h₀ L s.heap ((c3, o3) :: (c2, o2) :: (c1, o1) :: nb))
    (hmt : m (Str.ofString "two") = some (.ref ltwo)) (hmc : m (Str.ofString "common") = some (.ref lcom)) (hmr : m (Str.ofString "rest") = some (.ref lrest))
    (hc1 : o1.data = .cell (some (.ref lone))) (h1 : LstF nb lone kd cu) (h2 : LstF nb ltwo kd cv) (h3 : LstF nb lcom kd (dst (cu.filter (cv.contains ·)))) (h4 : LstF nb lrest kd (dst (cu.filter (!cv.contains ·))))
    (next : ∀ h tk m', Fr h₀ L h m' → News h₀ L h ((c3, o3) :: (c2, o2) :: (c1, o1) :: nb) → (∀ z, z ≠ Str.ofString "item" → m' z = m z) → Q .next { s with heap := h, toks := tk }) :
    wpAny (model PySem.Challenge.rw_ov0082_01.row.prog w) (ktrTop dp un gd (Str.ofString "law") lawScope L a ccd (lawCl c1 c2 c3) outer) (execs (lawSeg 13 14) (envX (Str.ofString "law") lawScope L a ccd (lawCl c1 c2 c3))) Q (fun _ _ => False) s := by
  obtain ⟨B, X, T, hd, hun⟩ := C
  revert X; (w_top off; k_fill); intro X
  obtain ⟨n12, n13, n23, off1, off2, off3⟩ := Y
  obtain ⟨os, ko, hw1, hw2, hw3⟩ := h1
  obtain ⟨ts, kt, ht1, ht2, ht3⟩ := h2
  obtain ⟨gs, kg, hg1, hg2, hg3⟩ := h3
  obtain ⟨rs, kr, hr1, hr2, hr3⟩ := h4
  show wpAny _ _ (execs [_] _) _ _ _
  k_steps
  rename Fr _ _ _ _ => F1
  rename News _ _ _ _ => N1
  rename Shown nb kd _ (dst cu) => hd1
  refine loop_listL (σ := Unit) (fun _ => []) (fun _ => []) [] (fun _ _ => True) () (by rfl) F1 N1 (fun p h => h) (by k_mem) trivial (by kst_all) ?_ ?_
  · rintro i v c h tk I oI u hv _ hne F2 N2
    clear F1 N1
    have hi : i < (dst cu).length := by rw [← hd1.1]; exact (List.getElem?_eq_some_iff.mp hv).1
    obtain ⟨v2, hv2, hc, hit⟩ := hd1.get hi
    obtain rfl : v = v2 := Option.some.inj (hv.symm.trans hv2)
    have hm := getD_mem hi
    have e1 := law_one (v := cv) hm
    have e2 := law_in (v := cv) hm
    generalize (dst cu).getD i 0 = c at hc hit hm e1 e2
    simp only [List.nil_append] at N2 hne
    dsimp only [kstB] at F2
    have e3 : ((dst (cu.filter (cv.contains ·))).contains c != cv.contains c) = false := by rw [e2]; simp
    k_steps
    · rename @Ne Int _ _ => hne
      exact absurd (show _ = _ by omega) hne
    · refine LEnd.next () (by k_asm) (by k_asm) (by kqd_sub) hne trivial (by kst_all) (by kst_same)
  · rintro c h tk u _ F2 N2
    clear F1 N1
    dsimp only [kstB] at F2
    k_steps
    exact next _ _ _ (by k_asm) (news_sub (by k_asm) (by kqd_sub)) fun z hz => (if_neg hz).trans rfl
end

section
variable {w : World} {p : Program} {loose : List Str} {mean : ExcName → Option Value} {mg mb : Str → Option Value} {dp un : Nat} {gd : Option (List Code)} {a c1 c2 c3 : Addr} {ccd : Value} {outer : List Env} {A₀ : Around} {base h₀ : Heap} {L : Addr} {m : Str → Option Value} {s : Shared} {Q : Flow → Shared → Prop} {E : Value → Shared → Prop} {o1 o2 o3 : Obj} {nb : List (Addr × Obj)} {kd : Kd} {xu xv xw xj lone ltwo lcom lrest : Addr} {cu cv cw : List Nat}
theorem segF {v₂ : Option Value} (C : LawC w p loose mean mg mb dp un A₀ base h₀ outer) (Y : Cells3 c1 c2 c3 nb) (F : Fr h₀ L s.heap m) (N : News h₀ L s.heap ((c3, o3) :: (c2, o2) :: (c1, o1) :: nb))
    (hmc : m (Str.ofString "common") = some (.ref lcom)) (hmr : m (Str.ofString "rest") = some (.ref lrest)) (hc2 : o2.data = .cell v₂)
    (hc1 : o1.data = .cell (some (.ref lone))) (h1 : LstF nb lone kd cu) (h3 : LstF nb lcom kd (dst (cu.filter (cv.contains ·)))) (h4 : LstF nb lrest kd (dst (cu.filter (!cv.contains ·))))
    (next : ∀ h tk o2', Fr h₀ L h m → News h₀ L h ((c3, o3) :: (c2, o2') :: (c1, o1) :: nb) → Q .next { s with heap := h, toks := tk }) :
    wpAny (model PySem.Challenge.rw_ov0082_01.row.prog w) (ktrTop dp un gd (Str.ofString "law") lawScope L a ccd (lawCl c1 c2 c3) outer) (execs (lawSeg 14 15) (envX (Str.ofString "law") lawScope L a ccd (lawCl c1 c2 c3))) Q (fun _ _ => False) s := by
  obtain ⟨B, X, T, hd, hun⟩ := C
  revert X; (w_top off; k_fill); intro X
  obtain ⟨n12, n13, n23, off1, off2, off3⟩ := Y
  obtain ⟨os, ko, hw1, hw2, hw3⟩ := h1
  show wpAny _ _ (execs [_] _) _ _ _
  k_steps
  rename Fr _ _ _ _ => F1
  rename News _ _ _ _ => N1
  refine loop_cell (c := c2) (o := o2) (cst := (_, listOf (List.toArray [Value.ref lcom, Value.ref lrest]) _) :: (c3, o3) :: (c1, o1) :: nb) (by rfl) F1 N1 (by kqd_sub) (by k_mem) (by k_all) hc2 (by rfl) (by rfl) (by rfl) ?_ ?_
  · intro i v h tk I oI o2' hv hd2 hne F2 N2
    obtain ⟨lr, gs, kg, ds, rfl, hg1, hg2, hg3, hg4⟩ : ∃ lr gs kg ds, v = .ref lr ∧ (lr, listOf (List.toArray gs) kg) ∈ nb ∧ Shown nb kd gs ds ∧ gs.length ≤ 14 ∧ ds = (dst cu).filter (ds.contains ·) := by
      match i, hv with
      | 0, hv =>
        obtain ⟨gs, kg, hg1, hg2, hg3⟩ := h3
        exact ⟨lcom, gs, kg, _, (Option.some.inj hv).symm, hg1, hg2, hg3, law_row _ cu⟩
      | 1, hv =>
        obtain ⟨gs, kg, hg1, hg2, hg3⟩ := h4
        exact ⟨lrest, gs, kg, _, (Option.some.inj hv).symm, hg1, hg2, hg3, law_row _ cu⟩
      | _ + 2, hv => cases hv
    clear F1 N1
    have e1 : (ds != (dst cu).filter (ds.contains ·)) = false := by rw [← hg4]; simp
    k_steps
    rename Fr _ _ _ _ => F1
    rename News _ _ _ _ => N1
    rename Shown nb kd _ (dst cu) => hd1
    refine compT_listC (fun i ys => Shown nb kd ys (((dst cu).take i).filter (ds.contains ·))) (by rfl) F1 N1 (by k_mem) (by assumption) Shown.nil ?_ ?_
    · intro i v ys hv hys I' oI' C oC D m₂ h tk E' hN hx' F2 N2
      have hi : i < (dst cu).length := by rw [← hd1.1]; exact (List.getElem?_eq_some_iff.mp hv).1
      obtain ⟨v2, hv2, hc, hit⟩ := hd1.get hi
      obtain rfl : v = v2 := Option.some.inj (hv.symm.trans hv2)
      have ht := take_filter hi (ds.contains ·)
      generalize (dst cu).getD i 0 = c at hc hit ht
      clear F1 N1
      k_steps
      · rename @Eq Bool _ _ => hb
        refine CEnd.intro (by k_asm) (by k_asm) (by kqd_sub) ?_
        rw [ht, if_pos hb]; exact hys.snoc hc hit
      · rename @Eq Bool _ _ => hb
        refine CEnd.intro (by k_asm) (by k_asm) (by kqd_sub) ?_
        rw [ht, if_neg (by rw [hb]; simp), List.append_nil]; exact hys
    · intro g ys hys D h tk F2 N2 o19
      rw [hd1.1, List.take_length] at hys
      clear F1 N1
      k_steps
      exact CellPost.next (by k_asm) (by k_asm) (by kqd_sub)
  · intro h tk o2' v' hd2 F2 N2
    clear F1 N1
    k_steps
    exact next _ _ o2' (by k_asm) (news_sub (by k_asm) (by kqd_sub))
end
section
variable {w : World} {p : Program} {loose : List Str} {mean : ExcName → Option Value} {mg mb : Str → Option Value} {dp un : Nat} {gd : Option (List Code)} {a c1 c2 c3 : Addr} {ccd : Value} {outer : List Env} {A₀ : Around} {base h₀ : Heap} {L : Addr} {m : Str → Option Value} {s : Shared} {Q : Flow → Shared → Prop} {E : Value → Shared → Prop} {o1 o2 o3 : Obj} {nb : List (Addr × Obj)} {kd : Kd} {xu xv xw xj lone ltwo lcom lrest : Addr} {cu cv cw : List Nat}
theorem segG (C : LawC w p loose mean mg mb dp un A₀ base h₀ outer) (Y : Cells3 c1 c2 c3 nb) (F : Fr h₀ L s.heap m) (N : News h₀ L s.heap ((c3, o3) :: (c2, o2) :: (c1, o1) :: nb))
    (hmu : m (Str.ofString "u") = some (.ref xu)) (hmv : m (Str.ofString "v") = some (.ref xv)) (hmw : m (Str.ofString "w") = some (.ref xw)) (hmt : m (Str.ofString "two") = some (.ref ltwo)) (hmj : m (Str.ofString "joined_row") = some (.ref xj)) (hmc : m (Str.ofString "common") = some (.ref lcom))
    (hc1 : o1.data = .cell (some (.ref lone))) (hu : VecF nb xu kd cu) (hv : VecF nb xv kd cv) (hw : VecF nb xw kd cw) (hj : VecF nb xj kd (dst (cu ++ cv))) (h1 : LstF nb lone kd cu) (h2 : LstF nb ltwo kd cv) (h3 : LstF nb lcom kd (dst (cu.filter (cv.contains ·))))
    (hcw : cw.length ≤ 7)
    (next : ∀ h tk, Fr h₀ L h m → News h₀ L h ((c3, o3) :: (c2, o2) :: (c1, o1) :: nb) → Q .next { s with heap := h, toks := tk }) :
    wpAny (model PySem.Challenge.rw_ov0082_01.row.prog w) (ktrTop dp un gd (Str.ofString "law") lawScope L a ccd (lawCl c1 c2 c3) outer) (execs (lawSeg 15 17) (envX (Str.ofString "law") lawScope L a ccd (lawCl c1 c2 c3))) Q (fun _ _ => False) s := by
  obtain ⟨B, X, T, hd, hun⟩ := C
  revert X; (w_top off; k_fill); intro X
  obtain ⟨n12, n13, n23, off1, off2, off3⟩ := Y
  obtain ⟨lu, us, ku, hu1, hu2, hu3, hu4⟩ := hu
  obtain ⟨lv, vs, kv, hv1, hv2, hv3, hv4⟩ := hv
  obtain ⟨lw, ws, kw, hx1, hx2, hx3, hx4⟩ := hw
  obtain ⟨lj, js, kj, hj1, hj2, hj3, hj4⟩ := hj
  obtain ⟨os, ko, hw1, hw2, hw3⟩ := h1
  obtain ⟨ts, kt, ht1, ht2, ht3⟩ := h2
  obtain ⟨gs, kg, hg1, hg2, hg3⟩ := h3
  have e1 := law_counts cu cv
  have e2 : (dst (cw.filter (!(dst (cu ++ cv)).contains ·)) != dst ((dst (cw.filter (!cu.contains ·))).filter (!cv.contains ·))) = false := by rw [law_diff]; simp
  have b1 : (dst (cw.filter (!cu.contains ·))).length ≤ 400 := dstf_le _ (Nat.le_trans hcw (by decide))
  have b2 : (dst (cu ++ cv)).length ≤ 400 := by rw [← hj3.1]; omega
  show wpAny _ _ (execs [_, _] _) _ _ _
  k_steps
  · rename @Ne Int _ _ => hne
    rename Shown nb kd _ (dst cv) => k1
    rename Shown nb kd _ (dst cu) => k2
    rename Shown nb kd _ (dst (cu ++ cv)) => k3
    have := k1.1; have := k2.1; have := k3.1; have := hg2.1
    exact absurd (show _ = _ by omega) hne
  · exact next _ _ (by k_asm) (news_sub (by k_asm) (by kqd_sub))
end

section
variable {w : World} {p : Program} {loose : List Str} {mean : ExcName → Option Value} {mg mb : Str → Option Value} {dp un : Nat} {gd : Option (List Code)} {a c1 c2 c3 : Addr} {ccd : Value} {outer : List Env} {A₀ : Around} {base h₀ : Heap} {L : Addr} {m : Str → Option Value} {s : Shared} {Q : Flow → Shared → Prop} {E : Value → Shared → Prop} {o1 o2 o3 : Obj} {nb : List (Addr × Obj)} {kd : Kd} {xu xv xw xj lone ltwo lcom lrest : Addr} {cu cv cw : List Nat}
theorem segH {v₃ : Option Value} (C : LawC w p loose mean mg mb dp un A₀ base h₀ outer) (Y : Cells3 c1 c2 c3 nb) (F : Fr h₀ L s.heap m) (N : News h₀ L s.heap ((c3, o3) :: (c2, o2) :: (c1, o1) :: nb))
    (hmu : m (Str.ofString "u") = some (.ref xu)) (hc3 : o3.data = .cell v₃) (hc1 : o1.data = .cell (some (.ref lone))) (hu : VecF nb xu kd cu) (h1 : LstF nb lone kd cu)
    (next : ∀ h tk m' o3', Fr h₀ L h m' → News h₀ L h ((c3, o3') :: (c2, o2) :: (c1, o1) :: nb) → (∀ z, z ≠ Str.ofString "from_last" → z ≠ Str.ofString "kept" → z ≠ Str.ofString "side" → z ≠ Str.ofString "due" → m' z = m z) → Q .next { s with heap := h, toks := tk }) :
    wpAny (model PySem.Challenge.rw_ov0082_01.row.prog w) (ktrTop dp un gd (Str.ofString "law") lawScope L a ccd (lawCl c1 c2 c3) outer) (execs (lawSeg 17 18) (envX (Str.ofString "law") lawScope L a ccd (lawCl c1 c2 c3))) Q (fun _ _ => False) s := by
  obtain ⟨B, X, T, hd, hun⟩ := C
  revert X; (w_top off; k_fill); intro X
  obtain ⟨n12, n13, n23, off1, off2, off3⟩ := Y
  obtain ⟨lu, us, ku, hu1, hu2, hu3, hu4⟩ := hu
  obtain ⟨os, ko, hw1, hw2, hw3⟩ := h1
  show wpAny _ _ (execs [_] _) _ _ _
  k_steps
  rename Fr _ _ _ _ => F1
  rename News _ _ _ _ => N1
  refine loop_listL (σ := Obj) (vs := [.bool false, .bool true]) (cst := (_, listOf (List.toArray [Value.bool false, Value.bool true]) _) :: (c2, o2) :: (c1, o1) :: nb) (fun c => [(c3, c)]) (fun _ => []) [Str.ofString "kept", Str.ofString "side", Str.ofString "due"] (fun _ c => ∃ v, c.data = .cell v) o3 (by rfl) F1 N1 (by kqd_sub) (by k_mem) ⟨_, hc3⟩ (by kst_all) ?_ ?_
  · rintro i v o4 h tk I oI u hv ⟨v4, hc4⟩ hne F2 N2
    clear F1 N1
    simp only [List.cons_append, List.nil_append] at N2 hne
    dsimp only [kstB] at F2
    have hwl := hw2.1
    match i, hv with
    | 0, hv =>
      obtain rfl := Option.some.inj hv
      have hd0 := law_sum cu
      k_steps
      · rename @Ne Int _ _ => hne2
        rename Shown nb kd _ (dst cu) => k2
        have := k2.1
        exact absurd (show _ = _ by omega) hne2
      · rename Fr _ _ _ _ => F1
        rename News _ _ _ _ => N1
        rename IsRange _ _ _ _ _ _ _ _ => R1
        rename PlacesAre _ _ => hP
        refine compT_rangeC cu.length (fun i ys => Shown nb kd ys (keptOf cu (dpf cu cu.length) i)) (by rfl) F1 N1 R1 (by rw [hwl]) (by omega) Shown.nil ?_ ?_
        · intro i ys hi hys t I' oI' C oC D m₂ h tk E' hN hx' F2 N2
          obtain ⟨v2, hv2, hc, hit⟩ := hw2.get hi
          obtain ⟨tf, hv3⟩ := places_at hP (i := i) (by rw [dpf_length]; exact hi)
          have hk := keptOf_succ cu (dpf cu cu.length) i
          generalize (dpf cu cu.length).getD i 0 = q at hv3 hk
          clear F1 N1 R1
          k_steps
          · rename @Eq Int _ _ => he
            refine CEnd.intro (by k_asm) (by k_asm) (by kqd_sub) ?_
            rw [hk, if_pos (by omega)]; exact hys.snoc hc hit
          · rename @Ne Int _ _ => he
            refine CEnd.intro (by k_asm) (by k_asm) (by kqd_sub) ?_
            rw [hk, if_neg (by omega), List.append_nil]; exact hys
        · intro g ys hys D h tk F2 N2 o19
          rw [law_kept] at hys
          clear F1 N1 R1
          have e1 : (dst cu != dst cu) = false := by simp
          k_steps
          rename _ = Data.cell (some (Value.ref _)) => hd9
          refine LEnd.next _ (by k_asm) (by k_asm) (by kqd_sub) (fun p hp => ?_) ⟨_, hd9⟩ (by kst_all) (by kst_same)
          rcases List.mem_cons.mp hp with rfl | hp
          · exact hne (c3, o4) (.head _)
          · exact hne p (.tail _ hp)
    | 1, hv =>
      obtain rfl := Option.some.inj hv
      have hd0 := law_sumR cu
      have hOR := hw2.reverse
      have hOz : os.reverse.length ≤ 1000 := by rw [List.length_reverse]; omega
      k_steps
      · rename @Ne Int _ _ => hne2
        rename Shown nb kd _ (dst cu) => k2
        have := k2.1
        exact absurd (show _ = _ by omega) hne2
      · rename Fr _ _ _ _ => F1
        rename News _ _ _ _ => N1
        rename IsRange _ _ _ _ _ _ _ _ => R1
        rename PlacesAre _ _ => hP
        refine compT_rangeC cu.length (fun i ys => Shown nb kd ys (keptOf cu (dpf cu.reverse cu.length).reverse i)) (by rfl) F1 N1 R1 (by rw [hwl]) (by omega) Shown.nil ?_ ?_
        · intro i ys hi hys t I' oI' C oC D m₂ h tk E' hN hx' F2 N2
          obtain ⟨v2, hv2, hc, hit⟩ := hw2.get hi
          obtain ⟨tf, hv3⟩ := places_at hP (i := i) (by rw [List.length_reverse, dpf_length]; exact hi)
          have hk := keptOf_succ cu (dpf cu.reverse cu.length).reverse i
          generalize (dpf cu.reverse cu.length).reverse.getD i 0 = q at hv3 hk
          clear F1 N1 R1
          k_steps
          · rename @Eq Int _ _ => he
            refine CEnd.intro (by k_asm) (by k_asm) (by kqd_sub) ?_
            rw [hk, if_pos (by omega)]; exact hys.snoc hc hit
          · rename @Ne Int _ _ => he
            refine CEnd.intro (by k_asm) (by k_asm) (by kqd_sub) ?_
            rw [hk, if_neg (by omega), List.append_nil]; exact hys
        · intro g ys hys D h tk F2 N2 o19
          rw [law_keptR] at hys
          clear F1 N1 R1
          have e1 : ((dst cu.reverse).reverse != (dst cu.reverse).reverse) = false := by simp
          k_steps
          rename _ = Data.cell (some (Value.ref _)) => hd9
          refine LEnd.next _ (by k_asm) (by k_asm) (by kqd_sub) (fun p hp => ?_) ⟨_, hd9⟩ (by kst_all) (by kst_same)
          rcases List.mem_cons.mp hp with rfl | hp
          · exact hne (c3, o4) (.head _)
          · exact hne p (.tail _ hp)
    | _ + 2, hv => cases hv
  · rintro o4 h tk u ⟨v4, hc4⟩ F2 N2
    clear F1 N1
    dsimp only [kstB] at F2
    simp only [List.cons_append, List.nil_append] at N2
    k_steps
    exact next _ _ _ o4 (by k_asm) (news_sub (by k_asm) (by kqd_sub)) fun z hz h1 h2 h3 => (if_neg hz).trans (if_neg (by simp [h1, h2, h3]))
end

section
variable {w : World} {p : Program} {loose : List Str} {mean : ExcName → Option Value} {mg mb : Str → Option Value} {dp un : Nat} {gd : Option (List Code)} {a c1 c2 c3 : Addr} {ccd : Value} {outer : List Env} {A₀ : Around} {base h₀ : Heap} {L : Addr} {m : Str → Option Value} {s : Shared} {Q : Flow → Shared → Prop} {E : Value → Shared → Prop} {o1 o2 o3 : Obj} {nb : List (Addr × Obj)} {kd : Kd} {xu xv xw xj lone ltwo lcom lrest : Addr} {cu cv cw : List Nat}
theorem segI (C : LawC w p loose mean mg mb dp un A₀ base h₀ outer) (Y : Cells3 c1 c2 c3 nb) (F : Fr h₀ L s.heap m) (N : News h₀ L s.heap ((c3, o3) :: (c2, o2) :: (c1, o1) :: nb))
    (hmu : m (Str.ofString "u") = some (.ref xu)) (hmv : m (Str.ofString "v") = some (.ref xv)) (hmt : m (Str.ofString "two") = some (.ref ltwo)) (hmr : m (Str.ofString "rest") = some (.ref lrest))
    (hc1 : o1.data = .cell (some (.ref lone))) (hu : VecF nb xu kd cu) (hv : VecF nb xv kd cv) (h1 : LstF nb lone kd cu) (h2 : LstF nb ltwo kd cv) (h4 : LstF nb lrest kd (dst (cu.filter (!cv.contains ·))))
    (fin : ∀ h tk m', Fr h₀ L h m' → Q (.ret (.bool true)) { s with heap := h, toks := tk }) :
    wpAny (model PySem.Challenge.rw_ov0082_01.row.prog w) (ktrTop dp un gd (Str.ofString "law") lawScope L a ccd (lawCl c1 c2 c3) outer) (execs (lawSeg 18 22) (envX (Str.ofString "law") lawScope L a ccd (lawCl c1 c2 c3))) Q (fun _ _ => False) s := by
  obtain ⟨B, X, T, hd, hun⟩ := C
  revert X; (w_top off; k_fill); intro X
  obtain ⟨n12, n13, n23, off1, off2, off3⟩ := Y
  obtain ⟨lu, us, ku, hu1, hu2, hu3, hu4⟩ := hu
  obtain ⟨lv, vs, kv, hv1, hv2, hv3, hv4⟩ := hv
  obtain ⟨os, ko, hw1, hw2, hw3⟩ := h1
  obtain ⟨ts, kt, ht1, ht2, ht3⟩ := h2
  obtain ⟨rs, kr, hr1, hr2, hr3⟩ := h4
  show wpAny _ _ (execs [_, _, _, _] _) _ _ _
  k_steps
  rename Fr _ _ _ _ => F1
  rename News _ _ _ _ => N1
  rename IsRange _ _ _ _ _ _ _ _ => R1
  rename OptsAre _ _ => hP
  refine loop_rangeL cu.length (σ := Unit) (fun _ => []) (fun _ => []) [] (fun _ _ => True) () (by rfl) R1 (by rw [hw2.1]) (by rw [← hw2.1]; omega) F1 N1 (fun p h => h) trivial (by kst_all) ?_ ?_
  · rintro i t c h tk I oI u hi _ hne F2 N2
    clear F1 N1
    obtain ⟨v1, hv1, ho⟩ := hP.2 i (plc cv (cu.getD i 0)) (by simp [List.getD, hi])
    obtain ⟨v2, hv2, hc, hit⟩ := hw2.get hi
    simp only [List.nil_append] at N2 hne
    dsimp only [kstB] at F2
    generalize cu.getD i 0 = c at ho hc hit
    rcases optV_cases ho with ⟨eo, e⟩ | ⟨q, tq, eo, e⟩
    · subst e
      have e1 : cv.contains c = false := by simpa using plc_none eo
      k_steps
      refine LEnd.next () (by k_asm) (by k_asm) (by kqd_sub) hne trivial (by kst_all) (by kst_same)
    · subst e
      obtain ⟨hq, hqc, e2⟩ := plc_at eo
      have hT := ht2.take q
      have hql : q ≤ ts.length := by rw [ht2.1]; omega
      obtain ⟨v3, hv3, hc3, hit3⟩ := ht2.get hq
      rw [hqc] at hit3
      k_steps
      refine LEnd.next () (by k_asm) (by k_asm) (by kqd_sub) hne trivial (by kst_all) (by kst_same)
  · rintro c h tk u _ F2 N2
    clear F1 N1
    dsimp only [kstB] at F2
    have hPl := hP.1
    rw [List.length_map] at hPl
    have hwl := hw2.1
    rcases Bool.eq_false_or_eq_true (cu.all (cv.contains ·)) with hAA | hAA
    · have hA1 : (dst (cu.filter (!cv.contains ·)) == []) = true := by rw [dst_empty, hAA]
      have hC : ((cu.all (cv.contains ·) && cv.all (cu.contains ·)) == (dst (cv.filter (!cu.contains ·)) == [])) = true := by rw [dst_empty, hAA]; simp
      have hD : ((cv.all (cu.contains ·) && cu.all (cv.contains ·)) == (dst (cv.filter (!cu.contains ·)) == [])) = true := by rw [dst_empty, hAA]; simp
      k_steps
      · exact fin_true hD (fin _ _ _ (by k_asm))
      · exact fin_true (by rw [hPl, hwl]; simp) (fin _ _ _ (by k_asm))
    · have hA1 : (dst (cu.filter (!cv.contains ·)) == []) = false := by rw [dst_empty, hAA]
      have hC : ((cu.all (cv.contains ·) && cv.all (cu.contains ·)) == (dst (cu.filter (!cv.contains ·)) == [])) = true := by rw [dst_empty, hAA]; simp
      have hD : ((cv.all (cu.contains ·) && cu.all (cv.contains ·)) == (dst (cu.filter (!cv.contains ·)) == [])) = true := by rw [dst_empty, hAA]; simp
      k_steps
      · exact fin_true hD (fin _ _ _ (by k_asm))
      · exact fin_true (by rw [hPl, hwl]; simp) (fin _ _ _ (by k_asm))
end

theorem trans_map {m m' : Str → Option Value} {x : Str} {v : Option Value} (e : m' x = m x) (h : m x = v) : m' x = v := e.trans h
section
variable {w : World} {p : Program} {loose : List Str} {mean : ExcName → Option Value} {mg mb : Str → Option Value} {dp un : Nat} {gd : Option (List Code)} {a c1 c2 c3 : Addr} {ccd : Value} {outer : List Env} {A₀ : Around} {base h₀ : Heap} {L : Addr} {m : Str → Option Value} {s : Shared} {Q : Flow → Shared → Prop} {o1 o2 o3 : Obj}
/-- the law's body returns True -/
theorem law_all {sa : Addr} {lo : Obj} {vs₀ : List Value} {ns₀ : List Int} {v₁ v₂ v₃ : Option Value} (C : LawC w p loose mean mg mb dp un A₀ base h₀ outer) (Y : Cells3 c1 c2 c3 []) (F : Fr h₀ L s.heap m) (N : News h₀ L s.heap [(c3, o3), (c2, o2), (c1, o1)])
    (hms : m (Str.ofString "script") = some (.ref sa)) (hsa : h₀.get? sa = some lo) (hlc : lo.cls = .type "list") (hld : ∃ n, lo.data = .seq vs₀.toArray n) (hI : IntsAre vs₀ ns₀) (hc1 : o1.data = .cell v₁) (hc2 : o2.data = .cell v₂) (hc3 : o3.data = .cell v₃)
    (fin : ∀ h tk m', Fr h₀ L h m' → Q (.ret (.bool true)) { s with heap := h, toks := tk }) :
    wpAny (model PySem.Challenge.rw_ov0082_01.row.prog w) (ktrTop dp un gd (Str.ofString "law") lawScope L a ccd (lawCl c1 c2 c3) outer) (execs lawBody (envX (Str.ofString "law") lawScope L a ccd (lawCl c1 c2 c3))) Q (fun _ _ => False) s := by
  rw [lawSeg_all]
  refine execs_seq (seg0 C Y F N hms hsa hlc hld hI ?_)
  intro h tk m1 nb kd xu xv xw cu cv cw F N Y hu hv hw lu lv lw mu mv mw
  refine execs_seq (segA (s := { s with heap := h, toks := tk }) C Y F N mu mv hc1 hu hv lu lv ?_)
  intro h tk m2 nb o1 lone ltwo F N Y sb hc1 h1 h2 mt me
  replace hu := hu.mono sb; replace hv := hv.mono sb; replace hw := hw.mono sb; clear sb
  replace mu := trans_map (me _ (by decide)) mu; replace mv := trans_map (me _ (by decide)) mv; replace mw := trans_map (me _ (by decide)) mw; clear me
  refine execs_seq (segB (s := { s with heap := h, toks := tk }) C Y F N mu hc1 hu h1 ?_)
  intro h tk m3 F N me
  replace mu := trans_map (me _ (by decide)) mu; replace mv := trans_map (me _ (by decide)) mv; replace mw := trans_map (me _ (by decide)) mw; replace mt := trans_map (me _ (by decide)) mt; clear me
  refine execs_seq (segC (s := { s with heap := h, toks := tk }) C Y F N mu mv mt hc1 hu hv h1 h2 lu lv ?_)
  intro h tk m4 nb xj F N Y sb hj mj me
  replace hu := hu.mono sb; replace hv := hv.mono sb; replace hw := hw.mono sb; replace h1 := h1.mono sb; replace h2 := h2.mono sb; clear sb
  replace mu := trans_map (me _ (by decide)) mu; replace mv := trans_map (me _ (by decide)) mv; replace mw := trans_map (me _ (by decide)) mw; replace mt := trans_map (me _ (by decide)) mt; clear me
  refine execs_seq (segD (s := { s with heap := h, toks := tk }) C Y F N mu mv hu hv lu ?_)
  intro h tk m5 nb lc lr F N Y sb h3 h4 mc mr me
  replace hu := hu.mono sb; replace hv := hv.mono sb; replace hw := hw.mono sb; replace hj := hj.mono sb; replace h1 := h1.mono sb; replace h2 := h2.mono sb; clear sb
  replace mu := trans_map (me _ (by decide) (by decide)) mu; replace mv := trans_map (me _ (by decide) (by decide)) mv; replace mw := trans_map (me _ (by decide) (by decide)) mw; replace mt := trans_map (me _ (by decide) (by decide)) mt; replace mj := trans_map (me _ (by decide) (by decide)) mj; clear me
  refine execs_seq (segE (s := { s with heap := h, toks := tk }) C Y F N mt mc mr hc1 h1 h2 h3 h4 ?_)
  intro h tk m6 F N me
  replace mu := trans_map (me _ (by decide)) mu; replace mv := trans_map (me _ (by decide)) mv; replace mw := trans_map (me _ (by decide)) mw; replace mt := trans_map (me _ (by decide)) mt; replace mj := trans_map (me _ (by decide)) mj; replace mc := trans_map (me _ (by decide)) mc; replace mr := trans_map (me _ (by decide)) mr; clear me
  refine execs_seq (segF (s := { s with heap := h, toks := tk }) C Y F N mc mr hc2 hc1 h1 h3 h4 ?_)
  intro h tk o2 F N
  refine execs_seq (segG (s := { s with heap := h, toks := tk }) C Y F N mu mv mw mt mj mc hc1 hu hv hw hj h1 h2 h3 lw ?_)
  intro h tk F N
  refine execs_seq (segH (s := { s with heap := h, toks := tk }) C Y F N mu hc3 hc1 hu h1 ?_)
  intro h tk m7 o3 F N me
  replace mu := trans_map (me _ (by decide) (by decide) (by decide) (by decide)) mu; replace mv := trans_map (me _ (by decide) (by decide) (by decide) (by decide)) mv; replace mt := trans_map (me _ (by decide) (by decide) (by decide) (by decide)) mt; replace mr := trans_map (me _ (by decide) (by decide) (by decide) (by decide)) mr; clear me
  exact segI (s := { s with heap := h, toks := tk }) C Y F N mu mv mt mr hc1 hu hv h1 h2 h4 fin
end

end Mine
-- a fact of the head that this law does not ask for (its proof would lay a twin of the whole program: 9 MB)
local macro_rules | `(tactic| w_nolog (first | $_ | $_)) => `(tactic| skip)
set_option maxRecDepth 100000 in
set_option maxHeartbeats 8000000 in
theorem PySem.Challenge.cw_ov0082_01_holds : PySem.Challenge.rw_ov0082_01.Holds := by
  refine Mine.hd ?_
  k_go0
  rename Heap.IsList _ _ _ => hL
  obtain ⟨lo, hlo, hlc, hld⟩ := hL
  rename Fr _ _ _ _ => F0
  rename News _ _ _ _ => N0
  rename Below _ _ _ _ => B0
  rename Top _ _ _ _ _ _ => T0
  rename Frag.In _ _ => X0
  rename IntsAre _ _ => hI
  refine' wpAny_mono (Mine.law_all (C := ⟨B0, X0, T0, ?hd, ?hu⟩) (Y := ?Y) F0 N0 ?hms hlo hlc hld hI ?h1 ?h2 ?h3 ?fin) (fun _ _ h => h) (fun _ _ h => h.elim)
  case hms => exact rfl
  case h1 => assumption
  case h2 => assumption
  case h3 => assumption
  case Y => exact ⟨by show _ ≠ _; omega, by show _ ≠ _; omega, by show _ ≠ _; omega, fun _ h => absurd h List.not_mem_nil, fun _ h => absurd h List.not_mem_nil, fun _ h => absurd h List.not_mem_nil⟩
  case hd => decide
  case hu => ktr_units
  case fin =>
    intro h tk m' F9
    wrow_close
