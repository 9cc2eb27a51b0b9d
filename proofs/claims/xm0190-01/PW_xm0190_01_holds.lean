import PyProof.Rows.All
import Wide.All
import OpenK.AllK
import Wide.FinOn
import Lean
import PySem.Challenge.RW_xm0190_01
set_option Elab.async false
set_option maxRecDepth 100000
set_option maxHeartbeats 0
set_option linter.all false
set_option compiler.extract_closed false
namespace Mine
section
local macro_rules | `(tactic| walk_at $s:str) => `(tactic| k_extra $s)
local macro_rules | `(tactic| ktr_enter) => `(tactic| k_extra "ktr_enter")
local macro_rules | `(tactic| kla_enter) => `(tactic| k_extra "kla_enter")
local macro_rules | `(tactic| k_mem) => `(tactic| k_extra "k_mem")
local macro_rules | `(tactic| k_ne) => `(tactic| k_extra "k_ne")
local macro_rules | `(tactic| ktr_units) => `(tactic| k_extra "ktr_units")
local macro_rules | `(tactic| ktr_room) => `(tactic| k_extra "ktr_room")
local macro_rules | `(tactic| k_all) => `(tactic| k_extra "k_all")
local macro_rules | `(tactic| k_upd) => `(tactic| k_extra "k_upd")
local macro_rules | `(tactic| k_updF) => `(tactic| k_extra "k_updF")
local macro_rules | `(tactic| k_steps) => `(tactic| k_extra "k_steps")
local macro_rules | `(tactic| kn_code) => `(tactic| k_extra "kn_code")
-- HB1
section
open PySem PySem.W PyProof.Rows PySem.Calls
abbrev pw : Program := PySem.Challenge.pw_xm0190_01
noncomputable def env0 : Env := { scope := pw.main.scope, locals := mainNs, globals := mainNs, cells := [], code := Value.ref 13, frame := some 14 }
noncomputable def n11 (_ : Params) : Obj := { cls := Value.type "tuple", data := Data.seq #[] }
noncomputable def n12 (_ : Params) : Obj := { cls := Value.none, data := Data.fields #[] }
noncomputable def n13 (_ : Params) : Obj := { cls := Value.type "code", data := Data.fields #[Value.str (Str.ofString "<module>") 182, Value.str (Str.ofString "<module>") 183, Value.str (Str.ofString "/claim/cut.py") 184, Value.int 1 0, Value.int 0 0, Value.int 0 0, Value.int 0 0, Value.int 0 0, Value.ref 11, Value.bool false, Value.int 181 0, Value.ref 12, Value.none, Value.none, Value.none, Value.none, Value.int 185 0, Value.int 1 0, Value.str (Str.ofString "/claim/cut.py") 186] }
noncomputable def n14 (_ : Params) : Obj := { cls := Value.type "frame", slots := #[some (Value.ref 13), some (Value.ref 3), some (Value.ref 3), none, some (Value.str (Str.ofString "__main__") 164), none, some (Value.ref 0)] }
noncomputable abbrev ann0 : Option Value := some (.ref 6)
noncomputable abbrev q0 : Pos := ⟨0, 0, 0, 0⟩
noncomputable abbrev bodyP : List Stmt := behindTheImports pw
noncomputable abbrev codeP : Code := .body bodyP env0
noncomputable def heapA (P : Params) : Heap := ⟨#[boot_o_0 P, boot_o_1 P, boot_o_2 P, boot_o_3 P, boot_o_4 P, boot_o_5 P, boot_o_6 P, boot_o_7 P, boot_o_8 P, boot_o_9 P, boot_o_10 P, n11 P, n12 P, n13 P, n14 P], {}⟩
noncomputable def treeB (P : Params) : BT :=
  .node (boot_o_0 P)
    (.node (boot_o_1 P)
      (.node (boot_o_3 P) (.node (boot_o_7 P) .nil .nil) (.node (n11 P) .nil .nil))
      (.node (boot_o_5 P) (.node (boot_o_9 P) .nil .nil) (.node (n13 P) .nil .nil)))
    (.node (boot_o_2 P)
      (.node (boot_o_4 P) (.node (boot_o_8 P) .nil .nil) (.node (n12 P) .nil .nil))
      (.node (boot_o_6 P) (.node (boot_o_10 P) .nil .nil) (.node (n14 P) .nil .nil)))
noncomputable def S0 (w : World) (os : OsState) : Shared := ⟨boot_heap w.params, #[], boot_drawn, boot_toks, os⟩
noncomputable def SA (w : World) (os : OsState) : Shared := ⟨heapA w.params, #[], {}, 187, os⟩
noncomputable def TB (w : World) (os : OsState) : SharedT := ⟨treeB w.params, 15, {}, #[], {}, 187, os⟩
theorem pre (w : World) (os : OsState) : topGo treeTable pw w 11 ann0 12 (S0 w os) (topStub pw) =
    some (SA w os, ⟨denote treeTable codeP, codeP, q0, [topFrame q0]⟩) := by
  rw [PySem.W.Fast.te15667345088766844465, PySem.W.Fast.te14364793385576792824, PySem.W.Fast.te11892475500146522536]
  kernel_rfl!
theorem blk (w : World) (os : OsState) : segRun treeTable pw w 11 ann0 1 1 (SA w os) (blockOf bodyP env0 codeP q0 [topFrame q0]) =
    some (.next, (TB w os).abs, codeP, q0) := by
  rw [PySem.W.Fast.te14374325043358763698, PySem.W.Fast.te14364793385576792824]
  kernel_rfl!

end
-- HB3
section
open PySem PySem.W PyProof.Rows PySem.Calls
noncomputable def qv : Program := { pw with main := { pw.main with body := pw.main.body.drop 121 } }
noncomputable def loose0 : List Str := (pw.boundNames.filter fun n => n != "law")
noncomputable def xt0 (s : Shared) : Bool := xlAt qv [] s && recOk PySem.Challenge.rw_xm0190_01.row.toRowW.records s
noncomputable def okA (w : World) (s : Shared) : Bool := (staticsOk (importedModules pw.main.body) (boot_heap w.params) s.heap && namesBound pw s.heap && gensDone s && laidKept (boot_heap w.params) s.heap)
noncomputable def lookB (s : Shared) := openSeen qv loose0 (importedModules pw.main.body) xt0 true s
noncomputable abbrev posE : Pos := ⟨945, 0, 956, 72⟩
theorem fin0 (w : World) (s : Shared) : topRun treeTable pw w 11 ann0 2 s ⟨doneF .next, codeP, posE, [topFrame q0]⟩ = some s := by
  obtain ⟨h, g, d, t, os⟩ := s
  rfl
theorem size0 (w : World) : ((boot_heap w.params).isNs mainGlobals && (#[] : Array GenState).size == 0, (boot_heap w.params).objs.size, (boot_heap w.params).nsMap mainGlobals "__annotations__") = (true, 11, ann0) := by
  kernel_rfl!
theorem boot0 (w : World) : Option.map (fun s => (s.heap, s.gens, s.drawn, s.toks)) (fencedOpening treeTable pw w 8015) = some (boot_heap w.params, #[], boot_drawn, boot_toks) :=
  boot_open (by kernel_rfl!) (by decide +kernel) (fun s => by kernel_rfl!) w

end
-- HB4
section
open PySem PySem.W PyProof.Rows PySem.Calls
theorem wb {a b : Bool} (x : a = true) (y : b = true) : (a && b) = true := by rw [x, y]; rfl
theorem road_app (lk : Look) : ∀ l r : List Stmt, noRoadLSs lk (l ++ r) = (noRoadLSs lk l && noRoadLSs lk r)
  | [], r => rfl
  | s :: l, r => by
    show (noRoadLS lk s && noRoadLSs lk (l ++ r)) = ((noRoadLS lk s && noRoadLSs lk l) && noRoadLSs lk r)
    rw [road_app lk l r, Bool.and_assoc]
theorem road_at (i : Nat) {lk : Look} {l : List Stmt} (x : PySem.W.Fast.tw8326940854005059898 lk (l.take i) = true) (y : PySem.W.Fast.tw8326940854005059898 lk (l.drop i) = true) : PySem.W.Fast.tw8326940854005059898 lk l = true := by
  rw [← PySem.W.Fast.te8326940854005059898] at x y ⊢
  rw [← List.take_append_drop i l, road_app, x, y]
  rfl
theorem road_look {st : Bool} {br : List Str} {l : List Stmt} (e1 : st = false) (e2 : br.isEmpty = true) (x : PySem.W.Fast.tw8326940854005059898 { strict := false, foot := none } l = true) : PySem.W.Fast.tw8326940854005059898 { strict := st, foot := none, bare := br } l = true := by
  subst e1
  cases br with
  | nil => exact x
  | cons a r => cases e2
theorem wellSaid0 : OpenLaw.wellSaid PySem.Challenge.rw_xm0190_01 = true := by
  rw [PySem.W.Fast.te9446332074065402090]
  unfold PySem.W.Fast.tw9446332074065402090
  repeat' (with_reducible refine wb ?_ ?_)
  unfold PySem.W.Fast.tw17960256430627541270
  repeat' (with_reducible refine wb ?_ ?_)
  unfold PySem.W.Fast.tw2436336058641802641
  repeat' (with_reducible refine wb ?_ ?_)
  unfold PySem.W.Fast.tw12908688711261696721
  repeat' (with_reducible refine wb ?_ ?_)
  all_goals first
    | (with_reducible refine road_look ?_ ?_ (road_at 60 ?_ ?_) <;> decide +kernel)
    | decide +kernel

end
-- HB5
section
open PySem PySem.W PyProof.Rows PySem.Calls
noncomputable def lawSt : Stmt := (pw.main.body.drop 121).headD (Stmt.Pass ⟨0,0,0,0⟩)
noncomputable def recSt : Stmt → DefRec
  | .FunctionDef n a b _ _ _ sc _ _ pos => ⟨n, a, b, sc, pos⟩
  | _ => ⟨"", ⟨[], [], none, [], [], none, []⟩, [], { kind := .function, names := [], isGenerator := false, isCoroutine := false, more := [] }, ⟨0,0,0,0⟩⟩
noncomputable def dLaw : DefRec := recSt lawSt
abbrev rowL : OpenRow := PySem.Challenge.rw_xm0190_01.row
theorem hdef0 : defOf qv rowL.name = some (dLaw, []) := by kernel_rfl!
theorem hp0 : rowL.prog.theDef rowL.name = some (dLaw.params, dLaw.body, dLaw.scope) := by kernel_rfl!
theorem hk0 : kwWritten? dLaw.params.kwonlyargs dLaw.params.kw_defaults = some [] := by kernel_rfl!
theorem ok0 : (chainsOk qv && opensWell rowL.prog && (frees rowL.toRowW && rowL.within.isEmpty)) = true := by decide +kernel
theorem hb0 : rowL.prog.bare := ⟨rfl, rfl, rfl, rfl, rfl, by decide +kernel⟩
theorem hw0 : rowL.toRowW.promised := by w_witness2

end
-- KDev
section
open PySem PySem.W PyProof.Rows PySem.Calls
noncomputable def stTop (i : Nat) : Stmt := (pw.main.body.drop i).headD (.Pass ⟨0,0,0,0⟩)
noncomputable def forT : Stmt → Expr
  | .For t _ _ _ _ => t
  | _ => .Tuple [] 0 ⟨0,0,0,0⟩
noncomputable def forB : Stmt → List Stmt
  | .For _ _ b _ _ => b
  | _ => []
noncomputable def clsSt : Stmt → List Stmt
  | .ClassDef _ _ _ b _ _ _ _ _ _ _ => b
  | _ => []
noncomputable abbrev fdTop (i : Nat) : DefRec := recSt (stTop i)
noncomputable abbrev fdIn (i j : Nat) : DefRec := recSt (((clsSt (stTop i)).drop j).headD (.Pass ⟨0,0,0,0⟩))
noncomputable abbrev Kb (P : Params) : Frag :=
  ((nat_lit 3), ⟨(.type "dict"), none, (.dict (List.toArray (⟨PyData.keyHash P (Str.ofString "__name__"), (.str (Str.ofString "__name__") (nat_lit 165)), (.str (Str.ofString "law_xm0190_01") (nat_lit 1708))⟩ :: ⟨PyData.keyHash P (Str.ofString "__doc__"), (.str (Str.ofString "__doc__") (nat_lit 166)), .none⟩ :: ⟨PyData.keyHash P (Str.ofString "__package__"), (.str (Str.ofString "__package__") (nat_lit 167)), .none⟩ :: ⟨PyData.keyHash P (Str.ofString "__loader__"), (.str (Str.ofString "__loader__") (nat_lit 168)), (.builtin "__main__.__loader__#opaque")⟩ :: ⟨PyData.keyHash P (Str.ofString "__spec__"), (.str (Str.ofString "__spec__") (nat_lit 169)), .none⟩ :: ⟨PyData.keyHash P (Str.ofString "__annotations__"), (.str (Str.ofString "__annotations__") (nat_lit 170)), (.ref (nat_lit 6))⟩ :: ⟨PyData.keyHash P (Str.ofString "__builtins__"), (.str (Str.ofString "__builtins__") (nat_lit 171)), (.ref (nat_lit 4))⟩ :: ⟨PyData.keyHash P (Str.ofString "__file__"), (.str (Str.ofString "__file__") (nat_lit 173)), (.str (Str.ofString "/claim/cut.py") (nat_lit 172))⟩ :: ⟨PyData.keyHash P (Str.ofString "__cached__"), (.str (Str.ofString "__cached__") (nat_lit 174)), .none⟩ :: ⟨PyData.keyHash P (Str.ofString "_wall"), (.str (Str.ofString "_wall") (nat_lit 193)), (.ref (nat_lit 21))⟩ :: ⟨PyData.keyHash P (Str.ofString "is_exported"), (.str (Str.ofString "is_exported") (nat_lit 202)), (.ref (nat_lit 28))⟩ :: ⟨PyData.keyHash P (Str.ofString "is_hidden"), (.str (Str.ofString "is_hidden") (nat_lit 212)), (.ref (nat_lit 35))⟩ :: ⟨PyData.keyHash P (Str.ofString "ChanError"), (.str (Str.ofString "ChanError") (nat_lit 246)), (.ref (nat_lit 53))⟩ :: ⟨PyData.keyHash P (Str.ofString "NameFault"), (.str (Str.ofString "NameFault") (nat_lit 262)), (.ref (nat_lit 66))⟩ :: ⟨PyData.keyHash P (Str.ofString "TypeFault"), (.str (Str.ofString "TypeFault") (nat_lit 278)), (.ref (nat_lit 78))⟩ :: ⟨PyData.keyHash P (Str.ofString "ConstFault"), (.str (Str.ofString "ConstFault") (nat_lit 294)), (.ref (nat_lit 90))⟩ :: ⟨PyData.keyHash P (Str.ofString "FlowFault"), (.str (Str.ofString "FlowFault") (nat_lit 310)), (.ref (nat_lit 102))⟩ :: ⟨PyData.keyHash P (Str.ofString "MAIN"), (.str (Str.ofString "MAIN") (nat_lit 314)), (.str (Str.ofString "main") (nat_lit 313))⟩ :: ⟨PyData.keyHash P (Str.ofString "Reached"), (.str (Str.ofString "Reached") (nat_lit 347)), (.ref (nat_lit 122))⟩ :: ⟨PyData.keyHash P (Str.ofString "own_name"), (.str (Str.ofString "own_name") (nat_lit 356)), (.ref (nat_lit 133))⟩ :: ⟨PyData.keyHash P (Str.ofString "without_pointer"), (.str (Str.ofString "without_pointer") (nat_lit 363)), (.ref (nat_lit 140))⟩ :: ⟨PyData.keyHash P (Str.ofString "own_methods"), (.str (Str.ofString "own_methods") (nat_lit 371)), (.ref (nat_lit 147))⟩ :: ⟨PyData.keyHash P (Str.ofString "members_at"), (.str (Str.ofString "members_at") (nat_lit 377)), (.ref (nat_lit 152))⟩ :: ⟨PyData.keyHash P (Str.ofString "embedded_in"), (.str (Str.ofString "embedded_in") (nat_lit 391)), (.ref (nat_lit 159))⟩ :: ⟨PyData.keyHash P (Str.ofString "Levels"), (.str (Str.ofString "Levels") (nat_lit 433)), (.ref (nat_lit 183))⟩ :: ⟨PyData.keyHash P (Str.ofString "start_type"), (.str (Str.ofString "start_type") (nat_lit 443)), (.ref (nat_lit 194))⟩ :: ⟨PyData.keyHash P (Str.ofString "find_member"), (.str (Str.ofString "find_member") (nat_lit 457)), (.ref (nat_lit 201))⟩ :: ⟨PyData.keyHash P (Str.ofString "SYNC_TYPES"), (.str (Str.ofString "SYNC_TYPES") (nat_lit 462)), (.ref (nat_lit 202))⟩ :: ⟨PyData.keyHash P (Str.ofString "MOST_LENGTH"), (.str (Str.ofString "MOST_LENGTH") (nat_lit 466)), (.int (1048576) (nat_lit 465))⟩ :: ⟨PyData.keyHash P (Str.ofString "MOST_PARTS"), (.str (Str.ofString "MOST_PARTS") (nat_lit 468)), (.int (2000) (nat_lit 467))⟩ :: ⟨PyData.keyHash P (Str.ofString "MOST_LEVELS"), (.str (Str.ofString "MOST_LEVELS") (nat_lit 470)), (.int (100) (nat_lit 469))⟩ :: ⟨PyData.keyHash P (Str.ofString "type_entry"), (.str (Str.ofString "type_entry") (nat_lit 484)), (.ref (nat_lit 210))⟩ :: ⟨PyData.keyHash P (Str.ofString "exported_entry"), (.str (Str.ofString "exported_entry") (nat_lit 495)), (.ref (nat_lit 218))⟩ :: ⟨PyData.keyHash P (Str.ofString "want_few_parts"), (.str (Str.ofString "want_few_parts") (nat_lit 501)), (.ref (nat_lit 223))⟩ :: ⟨PyData.keyHash P (Str.ofString "TypeReader"), (.str (Str.ofString "TypeReader") (nat_lit 600)), (.ref (nat_lit 285))⟩ :: ⟨PyData.keyHash P (Str.ofString "TEXT"), (.str (Str.ofString "TEXT") (nat_lit 604)), (.ref (nat_lit 290))⟩ :: ⟨PyData.keyHash P (Str.ofString "TRUTH"), (.str (Str.ofString "TRUTH") (nat_lit 606)), (.ref (nat_lit 291))⟩ :: ⟨PyData.keyHash P (Str.ofString "WHOLE"), (.str (Str.ofString "WHOLE") (nat_lit 609)), (.ref (nat_lit 292))⟩ :: ⟨PyData.keyHash P (Str.ofString "RUNE"), (.str (Str.ofString "RUNE") (nat_lit 612)), (.ref (nat_lit 293))⟩ :: ⟨PyData.keyHash P (Str.ofString "NIL"), (.str (Str.ofString "NIL") (nat_lit 614)), (.ref (nat_lit 294))⟩ :: ⟨PyData.keyHash P (Str.ofString "UNTYPED_DEFAULTS"), (.str (Str.ofString "UNTYPED_DEFAULTS") (nat_lit 623)), (.ref (nat_lit 295))⟩ :: ⟨PyData.keyHash P (Str.ofString "NILABLE"), (.str (Str.ofString "NILABLE") (nat_lit 630)), (.ref (nat_lit 296))⟩ :: ⟨PyData.keyHash P (Str.ofString "joined_texts"), (.str (Str.ofString "joined_texts") (nat_lit 636)), (.ref (nat_lit 301))⟩ :: ⟨PyData.keyHash P (Str.ofString "signature_text"), (.str (Str.ofString "signature_text") (nat_lit 642)), (.ref (nat_lit 306))⟩ :: ⟨PyData.keyHash P (Str.ofString "field_text"), (.str (Str.ofString "field_text") (nat_lit 652)), (.ref (nat_lit 313))⟩ :: ⟨PyData.keyHash P (Str.ofString "braced_text"), (.str (Str.ofString "braced_text") (nat_lit 660)), (.ref (nat_lit 320))⟩ :: ⟨PyData.keyHash P (Str.ofString "chan_text"), (.str (Str.ofString "chan_text") (nat_lit 669)), (.ref (nat_lit 327))⟩ :: ⟨PyData.keyHash P (Str.ofString "type_text"), (.str (Str.ofString "type_text") (nat_lit 675)), (.ref (nat_lit 332))⟩ :: ⟨PyData.keyHash P (Str.ofString "underlying_of"), (.str (Str.ofString "underlying_of") (nat_lit 683)), (.ref (nat_lit 339))⟩ :: ⟨PyData.keyHash P (Str.ofString "is_named"), (.str (Str.ofString "is_named") (nat_lit 690)), (.ref (nat_lit 346))⟩ :: ⟨PyData.keyHash P (Str.ofString "is_untyped"), (.str (Str.ofString "is_untyped") (nat_lit 697)), (.ref (nat_lit 353))⟩ :: ⟨PyData.keyHash P (Str.ofString "default_type"), (.str (Str.ofString "default_type") (nat_lit 704)), (.ref (nat_lit 360))⟩ :: ⟨PyData.keyHash P (Str.ofString "is_interface"), (.str (Str.ofString "is_interface") (nat_lit 712)), (.ref (nat_lit 367))⟩ :: ⟨PyData.keyHash P (Str.ofString "is_integer"), (.str (Str.ofString "is_integer") (nat_lit 720)), (.ref (nat_lit 374))⟩ :: ⟨PyData.keyHash P (Str.ofString "is_truth"), (.str (Str.ofString "is_truth") (nat_lit 728)), (.ref (nat_lit 381))⟩ :: ⟨PyData.keyHash P (Str.ofString "has_nil"), (.str (Str.ofString "has_nil") (nat_lit 736)), (.ref (nat_lit 388))⟩ :: ⟨PyData.keyHash P (Str.ofString "told_type"), (.str (Str.ofString "told_type") (nat_lit 747)), (.ref (nat_lit 395))⟩ :: ⟨PyData.keyHash P (Str.ofString "field_places"), (.str (Str.ofString "field_places") (nat_lit 753)), (.ref (nat_lit 400))⟩ :: ⟨PyData.keyHash P (Str.ofString "dropped"), (.str (Str.ofString "dropped") (nat_lit 763)), (.ref (nat_lit 407))⟩ :: ⟨PyData.keyHash P (Str.ofString "place_told"), (.str (Str.ofString "place_told") (nat_lit 772)), (.ref (nat_lit 414))⟩ :: ⟨PyData.keyHash P (Str.ofString "constant_within"), (.str (Str.ofString "constant_within") (nat_lit 779)), (.ref (nat_lit 421))⟩ :: ⟨PyData.keyHash P (Str.ofString "BITS"), (.str (Str.ofString "BITS") (nat_lit 812)), (.ref (nat_lit 422))⟩ :: ⟨PyData.keyHash P (Str.ofString "MOST_BITS"), (.str (Str.ofString "MOST_BITS") (nat_lit 814)), (.int (512) (nat_lit 813))⟩ :: ⟨PyData.keyHash P (Str.ofString "MOST_TEXT"), (.str (Str.ofString "MOST_TEXT") (nat_lit 818)), (.int (1048576) (nat_lit 817))⟩ :: ⟨PyData.keyHash P (Str.ofString "COMPARISONS"), (.str (Str.ofString "COMPARISONS") (nat_lit 825)), (.ref (nat_lit 423))⟩ :: ⟨PyData.keyHash P (Str.ofString "WRONG_RUNE"), (.str (Str.ofString "WRONG_RUNE") (nat_lit 827)), (.bytes #[239, 191, 189] (nat_lit 826))⟩ :: ⟨PyData.keyHash P (Str.ofString "is_unsigned"), (.str (Str.ofString "is_unsigned") (nat_lit 834)), (.ref (nat_lit 430))⟩ :: ⟨PyData.keyHash P (Str.ofString "int_range"), (.str (Str.ofString "int_range") (nat_lit 841)), (.ref (nat_lit 437))⟩ :: ⟨PyData.keyHash P (Str.ofString "is_in_range"), (.str (Str.ofString "is_in_range") (nat_lit 851)), (.ref (nat_lit 444))⟩ :: ⟨PyData.keyHash P (Str.ofString "within_range"), (.str (Str.ofString "within_range") (nat_lit 859)), (.ref (nat_lit 451))⟩ :: ⟨PyData.keyHash P (Str.ofString "representable"), (.str (Str.ofString "representable") (nat_lit 868)), (.ref (nat_lit 458))⟩ :: ⟨PyData.keyHash P (Str.ofString "const_unary"), (.str (Str.ofString "const_unary") (nat_lit 877)), (.ref (nat_lit 466))⟩ :: ⟨PyData.keyHash P (Str.ofString "const_quotient"), (.str (Str.ofString "const_quotient") (nat_lit 886)), (.ref (nat_lit 473))⟩ :: ⟨PyData.keyHash P (Str.ofString "const_shift"), (.str (Str.ofString "const_shift") (nat_lit 896)), (.ref (nat_lit 480))⟩ :: ⟨PyData.keyHash P (Str.ofString "int_binary"), (.str (Str.ofString "int_binary") (nat_lit 905)), (.ref (nat_lit 487))⟩ :: ⟨PyData.keyHash P (Str.ofString "const_compared"), (.str (Str.ofString "const_compared") (nat_lit 914)), (.ref (nat_lit 494))⟩ :: ⟨PyData.keyHash P (Str.ofString "sort_of_const"), (.str (Str.ofString "sort_of_const") (nat_lit 921)), (.ref (nat_lit 501))⟩ :: ⟨PyData.keyHash P (Str.ofString "const_binary"), (.str (Str.ofString "const_binary") (nat_lit 932)), (.ref (nat_lit 509))⟩ :: ⟨PyData.keyHash P (Str.ofString "rune_octets"), (.str (Str.ofString "rune_octets") (nat_lit 939)), (.ref (nat_lit 516))⟩ :: ⟨PyData.keyHash P (Str.ofString "const_convert"), (.str (Str.ofString "const_convert") (nat_lit 947)), (.ref (nat_lit 523))⟩ :: ⟨PyData.keyHash P (Str.ofString "names_of_methods"), (.str (Str.ofString "names_of_methods") (nat_lit 963)), (.ref (nat_lit 530))⟩ :: ⟨PyData.keyHash P (Str.ofString "member_or_none"), (.str (Str.ofString "member_or_none") (nat_lit 972)), (.ref (nat_lit 537))⟩ :: ⟨PyData.keyHash P (Str.ofString "is_in_set"), (.str (Str.ofString "is_in_set") (nat_lit 978)), (.ref (nat_lit 542))⟩ :: ⟨PyData.keyHash P (Str.ofString "method_set"), (.str (Str.ofString "method_set") (nat_lit 991)), (.ref (nat_lit 549))⟩ :: ⟨PyData.keyHash P (Str.ofString "lack_of"), (.str (Str.ofString "lack_of") (nat_lit 1002)), (.ref (nat_lit 556))⟩ :: ⟨PyData.keyHash P (Str.ofString "implements"), (.str (Str.ofString "implements") (nat_lit 1014)), (.ref (nat_lit 563))⟩ :: ⟨PyData.keyHash P (Str.ofString "is_like_chan"), (.str (Str.ofString "is_like_chan") (nat_lit 1027)), (.ref (nat_lit 570))⟩ :: ⟨PyData.keyHash P (Str.ofString "meets_face"), (.str (Str.ofString "meets_face") (nat_lit 1036)), (.ref (nat_lit 577))⟩ :: ⟨PyData.keyHash P (Str.ofString "is_assignable"), (.str (Str.ofString "is_assignable") (nat_lit 1046)), (.ref (nat_lit 585))⟩ :: ⟨PyData.keyHash P (Str.ofString "is_const_assignable"), (.str (Str.ofString "is_const_assignable") (nat_lit 1057)), (.ref (nat_lit 592))⟩ :: ⟨PyData.keyHash P (Str.ofString "UNTYPED_INT"), (.str (Str.ofString "UNTYPED_INT") (nat_lit 1062)), (.ref (nat_lit 593))⟩ :: ⟨PyData.keyHash P (Str.ofString "UNTYPED_RUNE"), (.str (Str.ofString "UNTYPED_RUNE") (nat_lit 1065)), (.ref (nat_lit 594))⟩ :: ⟨PyData.keyHash P (Str.ofString "UNTYPED_BOOL"), (.str (Str.ofString "UNTYPED_BOOL") (nat_lit 1068)), (.ref (nat_lit 595))⟩ :: ⟨PyData.keyHash P (Str.ofString "UNTYPED_TEXT"), (.str (Str.ofString "UNTYPED_TEXT") (nat_lit 1071)), (.ref (nat_lit 596))⟩ :: ⟨PyData.keyHash P (Str.ofString "NUMBERS"), (.str (Str.ofString "NUMBERS") (nat_lit 1072)), (.ref (nat_lit 597))⟩ :: ⟨PyData.keyHash P (Str.ofString "ConstReader"), (.str (Str.ofString "ConstReader") (nat_lit 1253)), (.ref (nat_lit 703))⟩ :: ⟨PyData.keyHash P (Str.ofString "const_of"), (.str (Str.ofString "const_of") (nat_lit 1264)), (.ref (nat_lit 715))⟩ :: ⟨PyData.keyHash P (Str.ofString "type_of"), (.str (Str.ofString "type_of") (nat_lit 1278)), (.ref (nat_lit 722))⟩ :: ⟨PyData.keyHash P (Str.ofString "ScopeRow"), (.str (Str.ofString "ScopeRow") (nat_lit 1318)), (.ref (nat_lit 739))⟩ :: ⟨PyData.keyHash P (Str.ofString "Scope"), (.str (Str.ofString "Scope") (nat_lit 1413)), (.ref (nat_lit 812))⟩ :: ⟨PyData.keyHash P (Str.ofString "UNTYPED_TRUTH"), (.str (Str.ofString "UNTYPED_TRUTH") (nat_lit 1418)), (.ref (nat_lit 817))⟩ :: ⟨PyData.keyHash P (Str.ofString "Checker"), (.str (Str.ofString "Checker") (nat_lit 1590)), (.ref (nat_lit 930))⟩ :: ⟨PyData.keyHash P (Str.ofString "PLAIN"), (.str (Str.ofString "PLAIN") (nat_lit 1594)), (.ref (nat_lit 937))⟩ :: ⟨PyData.keyHash P (Str.ofString "NamedRow"), (.str (Str.ofString "NamedRow") (nat_lit 1629)), (.ref (nat_lit 954))⟩ :: ⟨PyData.keyHash P (Str.ofString "known_rows"), (.str (Str.ofString "known_rows") (nat_lit 1642)), (.ref (nat_lit 965))⟩ :: ⟨PyData.keyHash P (Str.ofString "World"), (.str (Str.ofString "World") (nat_lit 1707)), (.ref (nat_lit 997))⟩ :: ⟨PyData.keyHash P (Str.ofString "_law_reel"), (.str (Str.ofString "_law_reel") (nat_lit 1718)), (.ref (nat_lit 1008))⟩ :: ⟨PyData.keyHash P (Str.ofString "_law_wound"), (.str (Str.ofString "_law_wound") (nat_lit 1727)), (.ref (nat_lit 1015))⟩ :: ⟨PyData.keyHash P (Str.ofString "_law_one"), (.str (Str.ofString "_law_one") (nat_lit 1735)), (.ref (nat_lit 1022))⟩ :: ⟨PyData.keyHash P (Str.ofString "_law_tried"), (.str (Str.ofString "_law_tried") (nat_lit 1743)), (.ref (nat_lit 1029))⟩ :: ⟨PyData.keyHash P (Str.ofString "_law_read_told"), (.str (Str.ofString "_law_read_told") (nat_lit 1752)), (.ref (nat_lit 1036))⟩ :: ⟨PyData.keyHash P (Str.ofString "_law_checker"), (.str (Str.ofString "_law_checker") (nat_lit 1760)), (.ref (nat_lit 1043))⟩ :: ⟨PyData.keyHash P (Str.ofString "_law_type_right"), (.str (Str.ofString "_law_type_right") (nat_lit 1776)), (.ref (nat_lit 1050))⟩ :: ⟨PyData.keyHash P (Str.ofString "_law_places_right"), (.str (Str.ofString "_law_places_right") (nat_lit 1782)), (.ref (nat_lit 1055))⟩ :: ⟨PyData.keyHash P (Str.ofString "_law_place_right"), (.str (Str.ofString "_law_place_right") (nat_lit 1796)), (.ref (nat_lit 1062))⟩ :: ⟨PyData.keyHash P (Str.ofString "_law_constant_right"), (.str (Str.ofString "_law_constant_right") (nat_lit 1807)), (.ref (nat_lit 1069))⟩ :: ⟨PyData.keyHash P (Str.ofString "law"), (.str (Str.ofString "law") (nat_lit 1821)), (.ref (nat_lit 1076))⟩ :: [])) (nat_lit 117)), #[]⟩) ::
  ((nat_lit 27), ⟨(.type "code"), none, (.fields #[(.str (Str.ofString "is_exported") (nat_lit 196)), (.str (Str.ofString "is_exported") (nat_lit 197)), (.str (Str.ofString "/claim/cut.py") (nat_lit 198)), (.int (5) (nat_lit 0)), (.int (1) (nat_lit 0)), (.int (0) (nat_lit 0)), (.int (0) (nat_lit 0)), (.int (3) (nat_lit 0)), (.ref (nat_lit 22)), (.bool true), (.int (181) (nat_lit 0)), (.ref (nat_lit 23)), .none, (.ref (nat_lit 24)), (.ref (nat_lit 25)), (.ref (nat_lit 26)), (.int (200) (nat_lit 0)), (.int (5) (nat_lit 0)), (.str (Str.ofString "/claim/cut.py") (nat_lit 201))]), #[]⟩) ::
  ((nat_lit 28), ⟨(.type "function"), none, (.func ⟨(Str.ofString "is_exported"), (Str.ofString "is_exported"), (fdTop (nat_lit 2)).params, .stmts (fdTop (nat_lit 2)).body, (fdTop (nat_lit 2)).scope, (nat_lit 3), [], .none, .none, .none, (.str (Str.ofString "chancore.check_selectors") (nat_lit 194)), none, (.ref (nat_lit 27)), .none, (nat_lit 0)⟩), #[]⟩) ::
  ((nat_lit 34), ⟨(.type "code"), none, (.fields #[(.str (Str.ofString "is_hidden") (nat_lit 203)), (.str (Str.ofString "is_hidden") (nat_lit 204)), (.str (Str.ofString "/claim/cut.py") (nat_lit 205)), (.int (7) (nat_lit 0)), (.int (3) (nat_lit 0)), (.int (0) (nat_lit 0)), (.int (0) (nat_lit 0)), (.int (3) (nat_lit 0)), (.ref (nat_lit 29)), (.bool true), (.int (181) (nat_lit 0)), (.ref (nat_lit 30)), .none, (.ref (nat_lit 31)), (.ref (nat_lit 32)), (.ref (nat_lit 33)), (.int (210) (nat_lit 0)), (.int (7) (nat_lit 0)), (.str (Str.ofString "/claim/cut.py") (nat_lit 211))]), #[]⟩) ::
  ((nat_lit 35), ⟨(.type "function"), none, (.func ⟨(Str.ofString "is_hidden"), (Str.ofString "is_hidden"), (fdTop (nat_lit 3)).params, .stmts (fdTop (nat_lit 3)).body, (fdTop (nat_lit 3)).scope, (nat_lit 3), [], .none, .none, .none, (.str (Str.ofString "chancore.check_selectors") (nat_lit 194)), none, (.ref (nat_lit 34)), .none, (nat_lit 0)⟩), #[]⟩) ::
  ((nat_lit 43), ⟨(.type "tuple"), none, (.seq #[(.int (0) (nat_lit 227))] (nat_lit 0)), #[]⟩) ::
  ((nat_lit 49), ⟨(.type "code"), none, (.fields #[(.str (Str.ofString "__init__") (nat_lit 228)), (.str (Str.ofString "ChanError.__init__") (nat_lit 229)), (.str (Str.ofString "/claim/cut.py") (nat_lit 230)), (.int (17) (nat_lit 0)), (.int (3) (nat_lit 0)), (.int (0) (nat_lit 0)), (.int (0) (nat_lit 0)), (.int (3) (nat_lit 0)), (.ref (nat_lit 44)), (.bool true), (.int (181) (nat_lit 0)), (.ref (nat_lit 45)), .none, (.ref (nat_lit 46)), (.ref (nat_lit 47)), (.ref (nat_lit 48)), (.int (234) (nat_lit 0)), (.int (17) (nat_lit 0)), (.str (Str.ofString "/claim/cut.py") (nat_lit 235))]), #[]⟩) ::
  ((nat_lit 50), ⟨(.type "function"), none, (.func ⟨(Str.ofString "__init__"), (Str.ofString "ChanError.__init__"), (fdIn (nat_lit 5) (nat_lit 0)).params, .stmts (fdIn (nat_lit 5) (nat_lit 0)).body, (fdIn (nat_lit 5) (nat_lit 0)).scope, (nat_lit 3), [], (.ref (nat_lit 43)), .none, .none, (.str (Str.ofString "chancore.errors") (nat_lit 213)), none, (.ref (nat_lit 49)), .none, (nat_lit 0)⟩), #[]⟩) ::
  ((nat_lit 51), ⟨(.type "tuple"), none, (.seq #[(.str (Str.ofString "message") (nat_lit 237)), (.str (Str.ofString "spot") (nat_lit 238))] (nat_lit 0)), #[]⟩) ::
  ((nat_lit 52), ⟨(.type "dict"), none, (.dict #[⟨PyData.keyHash P (Str.ofString "__module__"), (.str (Str.ofString "__module__") (nat_lit 222)), (.str (Str.ofString "chancore.errors") (nat_lit 213))⟩, ⟨PyData.keyHash P (Str.ofString "__firstlineno__"), (.str (Str.ofString "__firstlineno__") (nat_lit 226)), (.int (15) (nat_lit 225))⟩, ⟨PyData.keyHash P (Str.ofString "__init__"), (.str (Str.ofString "__init__") (nat_lit 236)), (.ref (nat_lit 50))⟩, ⟨PyData.keyHash P (Str.ofString "__static_attributes__"), (.str (Str.ofString "__static_attributes__") (nat_lit 239)), (.ref (nat_lit 51))⟩, ⟨PyData.keyHash P (Str.ofString "__weakref__"), (.str (Str.ofString "__weakref__") (nat_lit 241)), (.ref (nat_lit 54))⟩, ⟨PyData.keyHash P (Str.ofString "__doc__"), (.str (Str.ofString "__doc__") (nat_lit 242)), .none⟩] (nat_lit 3)), #[]⟩) ::
  ((nat_lit 53), ⟨(.type "type"), none, (.cls { name := Str.ofString "ChanError", bases := [Value.type "Exception"],   mro := [Value.ref (nat_lit 53), Value.type "Exception", Value.type "BaseException", Value.type "object"], ns := (nat_lit 52),   qualname := Str.ofString "ChanError", subclasses := [Value.ref (nat_lit 66), Value.ref (nat_lit 78), Value.ref (nat_lit 90), Value.ref (nat_lit 102)] }), #[some (.ref (nat_lit 36)), none, some (.str (Str.ofString "ChanError") (nat_lit 215)), some (.str (Str.ofString "ChanError") (nat_lit 223)), some (.builtin "Exception.__new__"), some (.bool true)]⟩) ::
  ((nat_lit 54), ⟨(.type "getset_descriptor"), none, (.fields #[(.str (Str.ofString "__weakref__") (nat_lit 240)), (.ref (nat_lit 53)), (.builtin "ExceptionGroup.__weakref__"), .none]), #[]⟩) ::
  ((nat_lit 64), ⟨(.type "tuple"), none, (.seq #[] (nat_lit 0)), #[]⟩) ::
  ((nat_lit 65), ⟨(.type "dict"), none, (.dict #[⟨PyData.keyHash P (Str.ofString "__module__"), (.str (Str.ofString "__module__") (nat_lit 254)), (.str (Str.ofString "chancore.errors") (nat_lit 213))⟩, ⟨PyData.keyHash P (Str.ofString "__firstlineno__"), (.str (Str.ofString "__firstlineno__") (nat_lit 258)), (.int (21) (nat_lit 257))⟩, ⟨PyData.keyHash P (Str.ofString "__static_attributes__"), (.str (Str.ofString "__static_attributes__") (nat_lit 259)), (.ref (nat_lit 64))⟩, ⟨PyData.keyHash P (Str.ofString "__doc__"), (.str (Str.ofString "__doc__") (nat_lit 260)), .none⟩] (nat_lit 2)), #[]⟩) ::
  ((nat_lit 66), ⟨(.type "type"), none, (.cls { name := Str.ofString "NameFault", bases := [Value.ref (nat_lit 53)],   mro := [Value.ref (nat_lit 66), Value.ref (nat_lit 53), Value.type "Exception", Value.type "BaseException", Value.type "object"],   ns := (nat_lit 65), qualname := Str.ofString "NameFault" }), #[some (.ref (nat_lit 57)), none, some (.str (Str.ofString "NameFault") (nat_lit 247)), some (.str (Str.ofString "NameFault") (nat_lit 255)), some (.builtin "Exception.__new__"), some (.bool true)]⟩) ::
  ((nat_lit 76), ⟨(.type "tuple"), none, (.seq #[] (nat_lit 0)), #[]⟩) ::
  ((nat_lit 77), ⟨(.type "dict"), none, (.dict #[⟨PyData.keyHash P (Str.ofString "__module__"), (.str (Str.ofString "__module__") (nat_lit 270)), (.str (Str.ofString "chancore.errors") (nat_lit 213))⟩, ⟨PyData.keyHash P (Str.ofString "__firstlineno__"), (.str (Str.ofString "__firstlineno__") (nat_lit 274)), (.int (23) (nat_lit 273))⟩, ⟨PyData.keyHash P (Str.ofString "__static_attributes__"), (.str (Str.ofString "__static_attributes__") (nat_lit 275)), (.ref (nat_lit 76))⟩, ⟨PyData.keyHash P (Str.ofString "__doc__"), (.str (Str.ofString "__doc__") (nat_lit 276)), .none⟩] (nat_lit 2)), #[]⟩) ::
  ((nat_lit 78), ⟨(.type "type"), none, (.cls { name := Str.ofString "TypeFault", bases := [Value.ref (nat_lit 53)],   mro := [Value.ref (nat_lit 78), Value.ref (nat_lit 53), Value.type "Exception", Value.type "BaseException", Value.type "object"],   ns := (nat_lit 77), qualname := Str.ofString "TypeFault" }), #[some (.ref (nat_lit 69)), none, some (.str (Str.ofString "TypeFault") (nat_lit 263)), some (.str (Str.ofString "TypeFault") (nat_lit 271)), some (.builtin "Exception.__new__"), some (.bool true)]⟩) ::
  ((nat_lit 88), ⟨(.type "tuple"), none, (.seq #[] (nat_lit 0)), #[]⟩) ::
  ((nat_lit 89), ⟨(.type "dict"), none, (.dict #[⟨PyData.keyHash P (Str.ofString "__module__"), (.str (Str.ofString "__module__") (nat_lit 286)), (.str (Str.ofString "chancore.errors") (nat_lit 213))⟩, ⟨PyData.keyHash P (Str.ofString "__firstlineno__"), (.str (Str.ofString "__firstlineno__") (nat_lit 290)), (.int (25) (nat_lit 289))⟩, ⟨PyData.keyHash P (Str.ofString "__static_attributes__"), (.str (Str.ofString "__static_attributes__") (nat_lit 291)), (.ref (nat_lit 88))⟩, ⟨PyData.keyHash P (Str.ofString "__doc__"), (.str (Str.ofString "__doc__") (nat_lit 292)), .none⟩] (nat_lit 2)), #[]⟩) ::
  ((nat_lit 90), ⟨(.type "type"), none, (.cls { name := Str.ofString "ConstFault", bases := [Value.ref (nat_lit 53)],   mro := [Value.ref (nat_lit 90), Value.ref (nat_lit 53), Value.type "Exception", Value.type "BaseException", Value.type "object"],   ns := (nat_lit 89), qualname := Str.ofString "ConstFault" }), #[some (.ref (nat_lit 81)), none, some (.str (Str.ofString "ConstFault") (nat_lit 279)), some (.str (Str.ofString "ConstFault") (nat_lit 287)), some (.builtin "Exception.__new__"), some (.bool true)]⟩) ::
  ((nat_lit 132), ⟨(.type "code"), none, (.fields #[(.str (Str.ofString "own_name") (nat_lit 348)), (.str (Str.ofString "own_name") (nat_lit 349)), (.str (Str.ofString "/claim/cut.py") (nat_lit 350)), (.int (37) (nat_lit 0)), (.int (3) (nat_lit 0)), (.int (0) (nat_lit 0)), (.int (0) (nat_lit 0)), (.int (3) (nat_lit 0)), (.ref (nat_lit 127)), (.bool true), (.int (181) (nat_lit 0)), (.ref (nat_lit 128)), .none, (.ref (nat_lit 129)), (.ref (nat_lit 130)), (.ref (nat_lit 131)), (.int (354) (nat_lit 0)), (.int (37) (nat_lit 0)), (.str (Str.ofString "/claim/cut.py") (nat_lit 355))]), #[]⟩) ::
  ((nat_lit 133), ⟨(.type "function"), none, (.func ⟨(Str.ofString "own_name"), (Str.ofString "own_name"), (fdTop (nat_lit 13)).params, .stmts (fdTop (nat_lit 13)).body, (fdTop (nat_lit 13)).scope, (nat_lit 3), [], .none, .none, .none, (.str (Str.ofString "chancore.lookup") (nat_lit 311)), none, (.ref (nat_lit 132)), .none, (nat_lit 0)⟩), #[]⟩) ::
  ((nat_lit 202), ⟨(.type "tuple"), none, (.seq #[(.str (Str.ofString "Mutex") (nat_lit 460)), (.str (Str.ofString "WaitGroup") (nat_lit 461))] (nat_lit 0)), #[]⟩) ::
  ((nat_lit 203), ⟨(.type "tuple"), none, (.seq #[(.bool true)] (nat_lit 0)), #[]⟩) ::
  ((nat_lit 209), ⟨(.type "code"), none, (.fields #[(.str (Str.ofString "type_entry") (nat_lit 471)), (.str (Str.ofString "type_entry") (nat_lit 472)), (.str (Str.ofString "/claim/cut.py") (nat_lit 473)), (.int (118) (nat_lit 0)), (.int (6) (nat_lit 0)), (.int (0) (nat_lit 0)), (.int (0) (nat_lit 0)), (.int (3) (nat_lit 0)), (.ref (nat_lit 204)), (.bool true), (.int (181) (nat_lit 0)), (.ref (nat_lit 205)), .none, (.ref (nat_lit 206)), (.ref (nat_lit 207)), (.ref (nat_lit 208)), (.int (482) (nat_lit 0)), (.int (118) (nat_lit 0)), (.str (Str.ofString "/claim/cut.py") (nat_lit 483))]), #[]⟩) ::
  ((nat_lit 210), ⟨(.type "function"), none, (.func ⟨(Str.ofString "type_entry"), (Str.ofString "type_entry"), (fdTop (nat_lit 26)).params, .stmts (fdTop (nat_lit 26)).body, (fdTop (nat_lit 26)).scope, (nat_lit 3), [], (.ref (nat_lit 203)), .none, .none, (.str (Str.ofString "chancore.type_exprs") (nat_lit 458)), none, (.ref (nat_lit 209)), .none, (nat_lit 0)⟩), #[]⟩) ::
  ((nat_lit 222), ⟨(.type "code"), none, (.fields #[(.str (Str.ofString "want_few_parts") (nat_lit 496)), (.str (Str.ofString "want_few_parts") (nat_lit 497)), (.str (Str.ofString "/claim/cut.py") (nat_lit 498)), (.int (142) (nat_lit 0)), (.int (2) (nat_lit 0)), (.int (0) (nat_lit 0)), (.int (0) (nat_lit 0)), (.int (3) (nat_lit 0)), (.ref (nat_lit 219)), (.bool true), (.int (181) (nat_lit 0)), (.ref (nat_lit 220)), .none, .none, .none, (.ref (nat_lit 221)), (.int (499) (nat_lit 0)), (.int (142) (nat_lit 0)), (.str (Str.ofString "/claim/cut.py") (nat_lit 500))]), #[]⟩) ::
  ((nat_lit 223), ⟨(.type "function"), none, (.func ⟨(Str.ofString "want_few_parts"), (Str.ofString "want_few_parts"), (fdTop (nat_lit 28)).params, .stmts (fdTop (nat_lit 28)).body, (fdTop (nat_lit 28)).scope, (nat_lit 3), [], .none, .none, .none, (.str (Str.ofString "chancore.type_exprs") (nat_lit 458)), none, (.ref (nat_lit 222)), .none, (nat_lit 0)⟩), #[]⟩) ::
  ((nat_lit 236), ⟨(.type "code"), none, (.fields #[(.str (Str.ofString "__init__") (nat_lit 514)), (.str (Str.ofString "TypeReader.__init__") (nat_lit 515)), (.str (Str.ofString "/claim/cut.py") (nat_lit 516)), (.int (153) (nat_lit 0)), (.int (5) (nat_lit 0)), (.int (0) (nat_lit 0)), (.int (0) (nat_lit 0)), (.int (3) (nat_lit 0)), (.ref (nat_lit 231)), (.bool true), (.int (181) (nat_lit 0)), (.ref (nat_lit 232)), .none, (.ref (nat_lit 233)), (.ref (nat_lit 234)), (.ref (nat_lit 235)), (.int (522) (nat_lit 0)), (.int (153) (nat_lit 0)), (.str (Str.ofString "/claim/cut.py") (nat_lit 523))]), #[]⟩) ::
  ((nat_lit 237), ⟨(.type "function"), none, (.func ⟨(Str.ofString "__init__"), (Str.ofString "TypeReader.__init__"), (fdIn (nat_lit 29) (nat_lit 0)).params, .stmts (fdIn (nat_lit 29) (nat_lit 0)).body, (fdIn (nat_lit 29) (nat_lit 0)).scope, (nat_lit 3), [], .none, .none, .none, (.str (Str.ofString "chancore.type_exprs") (nat_lit 458)), none, (.ref (nat_lit 236)), .none, (nat_lit 0)⟩), #[]⟩) ::
  ((nat_lit 243), ⟨(.type "code"), none, (.fields #[(.str (Str.ofString "read") (nat_lit 525)), (.str (Str.ofString "TypeReader.read") (nat_lit 526)), (.str (Str.ofString "/claim/cut.py") (nat_lit 527)), (.int (159) (nat_lit 0)), (.int (2) (nat_lit 0)), (.int (0) (nat_lit 0)), (.int (0) (nat_lit 0)), (.int (3) (nat_lit 0)), (.ref (nat_lit 238)), (.bool true), (.int (181) (nat_lit 0)), (.ref (nat_lit 239)), .none, (.ref (nat_lit 240)), (.ref (nat_lit 241)), (.ref (nat_lit 242)), (.int (532) (nat_lit 0)), (.int (159) (nat_lit 0)), (.str (Str.ofString "/claim/cut.py") (nat_lit 533))]), #[]⟩) ::
  ((nat_lit 244), ⟨(.type "function"), none, (.func ⟨(Str.ofString "read"), (Str.ofString "TypeReader.read"), (fdIn (nat_lit 29) (nat_lit 1)).params, .stmts (fdIn (nat_lit 29) (nat_lit 1)).body, (fdIn (nat_lit 29) (nat_lit 1)).scope, (nat_lit 3), [], .none, .none, .none, (.str (Str.ofString "chancore.type_exprs") (nat_lit 458)), none, (.ref (nat_lit 243)), .none, (nat_lit 0)⟩), #[]⟩) ::
  ((nat_lit 248), ⟨(.type "code"), none, (.fields #[(.str (Str.ofString "all") (nat_lit 535)), (.str (Str.ofString "TypeReader.all") (nat_lit 536)), (.str (Str.ofString "/claim/cut.py") (nat_lit 537)), (.int (177) (nat_lit 0)), (.int (2) (nat_lit 0)), (.int (0) (nat_lit 0)), (.int (0) (nat_lit 0)), (.int (3) (nat_lit 0)), (.ref (nat_lit 245)), (.bool true), (.int (181) (nat_lit 0)), (.ref (nat_lit 246)), .none, .none, .none, (.ref (nat_lit 247)), (.int (538) (nat_lit 0)), (.int (177) (nat_lit 0)), (.str (Str.ofString "/claim/cut.py") (nat_lit 539))]), #[]⟩) ::
  ((nat_lit 249), ⟨(.type "function"), none, (.func ⟨(Str.ofString "all"), (Str.ofString "TypeReader.all"), (fdIn (nat_lit 29) (nat_lit 2)).params, .stmts (fdIn (nat_lit 29) (nat_lit 2)).body, (fdIn (nat_lit 29) (nat_lit 2)).scope, (nat_lit 3), [], .none, .none, .none, (.str (Str.ofString "chancore.type_exprs") (nat_lit 458)), none, (.ref (nat_lit 248)), .none, (nat_lit 0)⟩), #[]⟩) ::
  ((nat_lit 255), ⟨(.type "code"), none, (.fields #[(.str (Str.ofString "length") (nat_lit 541)), (.str (Str.ofString "TypeReader.length") (nat_lit 542)), (.str (Str.ofString "/claim/cut.py") (nat_lit 543)), (.int (180) (nat_lit 0)), (.int (2) (nat_lit 0)), (.int (0) (nat_lit 0)), (.int (0) (nat_lit 0)), (.int (3) (nat_lit 0)), (.ref (nat_lit 250)), (.bool true), (.int (181) (nat_lit 0)), (.ref (nat_lit 251)), .none, (.ref (nat_lit 252)), (.ref (nat_lit 253)), (.ref (nat_lit 254)), (.int (548) (nat_lit 0)), (.int (180) (nat_lit 0)), (.str (Str.ofString "/claim/cut.py") (nat_lit 549))]), #[]⟩) ::
  ((nat_lit 256), ⟨(.type "function"), none, (.func ⟨(Str.ofString "length"), (Str.ofString "TypeReader.length"), (fdIn (nat_lit 29) (nat_lit 3)).params, .stmts (fdIn (nat_lit 29) (nat_lit 3)).body, (fdIn (nat_lit 29) (nat_lit 3)).scope, (nat_lit 3), [], .none, .none, .none, (.str (Str.ofString "chancore.type_exprs") (nat_lit 458)), none, (.ref (nat_lit 255)), .none, (nat_lit 0)⟩), #[]⟩) ::
  ((nat_lit 262), ⟨(.type "code"), none, (.fields #[(.str (Str.ofString "key") (nat_lit 551)), (.str (Str.ofString "TypeReader.key") (nat_lit 552)), (.str (Str.ofString "/claim/cut.py") (nat_lit 553)), (.int (186) (nat_lit 0)), (.int (2) (nat_lit 0)), (.int (0) (nat_lit 0)), (.int (0) (nat_lit 0)), (.int (3) (nat_lit 0)), (.ref (nat_lit 257)), (.bool true), (.int (181) (nat_lit 0)), (.ref (nat_lit 258)), .none, (.ref (nat_lit 259)), (.ref (nat_lit 260)), (.ref (nat_lit 261)), (.int (557) (nat_lit 0)), (.int (186) (nat_lit 0)), (.str (Str.ofString "/claim/cut.py") (nat_lit 558))]), #[]⟩) ::
  ((nat_lit 263), ⟨(.type "function"), none, (.func ⟨(Str.ofString "key"), (Str.ofString "TypeReader.key"), (fdIn (nat_lit 29) (nat_lit 4)).params, .stmts (fdIn (nat_lit 29) (nat_lit 4)).body, (fdIn (nat_lit 29) (nat_lit 4)).scope, (nat_lit 3), [], .none, .none, .none, (.str (Str.ofString "chancore.type_exprs") (nat_lit 458)), none, (.ref (nat_lit 262)), .none, (nat_lit 0)⟩), #[]⟩) ::
  ((nat_lit 269), ⟨(.type "code"), none, (.fields #[(.str (Str.ofString "struct") (nat_lit 560)), (.str (Str.ofString "TypeReader.struct") (nat_lit 561)), (.str (Str.ofString "/claim/cut.py") (nat_lit 562)), (.int (191) (nat_lit 0)), (.int (2) (nat_lit 0)), (.int (0) (nat_lit 0)), (.int (0) (nat_lit 0)), (.int (3) (nat_lit 0)), (.ref (nat_lit 264)), (.bool true), (.int (181) (nat_lit 0)), (.ref (nat_lit 265)), .none, (.ref (nat_lit 266)), (.ref (nat_lit 267)), (.ref (nat_lit 268)), (.int (571) (nat_lit 0)), (.int (191) (nat_lit 0)), (.str (Str.ofString "/claim/cut.py") (nat_lit 572))]), #[]⟩) ::
  ((nat_lit 270), ⟨(.type "function"), none, (.func ⟨(Str.ofString "struct"), (Str.ofString "TypeReader.struct"), (fdIn (nat_lit 29) (nat_lit 5)).params, .stmts (fdIn (nat_lit 29) (nat_lit 5)).body, (fdIn (nat_lit 29) (nat_lit 5)).scope, (nat_lit 3), [], .none, .none, .none, (.str (Str.ofString "chancore.type_exprs") (nat_lit 458)), none, (.ref (nat_lit 269)), .none, (nat_lit 0)⟩), #[]⟩) ::
  ((nat_lit 276), ⟨(.type "code"), none, (.fields #[(.str (Str.ofString "kept") (nat_lit 574)), (.str (Str.ofString "TypeReader.kept") (nat_lit 575)), (.str (Str.ofString "/claim/cut.py") (nat_lit 576)), (.int (203) (nat_lit 0)), (.int (3) (nat_lit 0)), (.int (0) (nat_lit 0)), (.int (0) (nat_lit 0)), (.int (3) (nat_lit 0)), (.ref (nat_lit 271)), (.bool true), (.int (181) (nat_lit 0)), (.ref (nat_lit 272)), .none, (.ref (nat_lit 273)), (.ref (nat_lit 274)), (.ref (nat_lit 275)), (.int (580) (nat_lit 0)), (.int (203) (nat_lit 0)), (.str (Str.ofString "/claim/cut.py") (nat_lit 581))]), #[]⟩) ::
  ((nat_lit 277), ⟨(.type "function"), none, (.func ⟨(Str.ofString "kept"), (Str.ofString "TypeReader.kept"), (fdIn (nat_lit 29) (nat_lit 6)).params, .stmts (fdIn (nat_lit 29) (nat_lit 6)).body, (fdIn (nat_lit 29) (nat_lit 6)).scope, (nat_lit 3), [], .none, .none, .none, (.str (Str.ofString "chancore.type_exprs") (nat_lit 458)), none, (.ref (nat_lit 276)), .none, (nat_lit 0)⟩), #[]⟩) ::
  ((nat_lit 281), ⟨(.type "code"), none, (.fields #[(.str (Str.ofString "interface") (nat_lit 583)), (.str (Str.ofString "TypeReader.interface") (nat_lit 584)), (.str (Str.ofString "/claim/cut.py") (nat_lit 585)), (.int (207) (nat_lit 0)), (.int (2) (nat_lit 0)), (.int (0) (nat_lit 0)), (.int (0) (nat_lit 0)), (.int (3) (nat_lit 0)), (.ref (nat_lit 278)), (.bool true), (.int (181) (nat_lit 0)), (.ref (nat_lit 279)), .none, .none, .none, (.ref (nat_lit 280)), (.int (586) (nat_lit 0)), (.int (207) (nat_lit 0)), (.str (Str.ofString "/claim/cut.py") (nat_lit 587))]), #[]⟩) ::
  ((nat_lit 282), ⟨(.type "function"), none, (.func ⟨(Str.ofString "interface"), (Str.ofString "TypeReader.interface"), (fdIn (nat_lit 29) (nat_lit 7)).params, .stmts (fdIn (nat_lit 29) (nat_lit 7)).body, (fdIn (nat_lit 29) (nat_lit 7)).scope, (nat_lit 3), [], .none, .none, .none, (.str (Str.ofString "chancore.type_exprs") (nat_lit 458)), none, (.ref (nat_lit 281)), .none, (nat_lit 0)⟩), #[]⟩) ::
  ((nat_lit 283), ⟨(.type "tuple"), none, (.seq #[(.str (Str.ofString "const_reader") (nat_lit 589)), (.str (Str.ofString "package") (nat_lit 590)), (.str (Str.ofString "scope") (nat_lit 591)), (.str (Str.ofString "world") (nat_lit 592))] (nat_lit 0)), #[]⟩) ::
  ((nat_lit 284), ⟨(.type "dict"), none, (.dict #[⟨PyData.keyHash P (Str.ofString "__module__"), (.str (Str.ofString "__module__") (nat_lit 509)), (.str (Str.ofString "chancore.type_exprs") (nat_lit 458))⟩, ⟨PyData.keyHash P (Str.ofString "__firstlineno__"), (.str (Str.ofString "__firstlineno__") (nat_lit 513)), (.int (151) (nat_lit 512))⟩, ⟨PyData.keyHash P (Str.ofString "__init__"), (.str (Str.ofString "__init__") (nat_lit 524)), (.ref (nat_lit 237))⟩, ⟨PyData.keyHash P (Str.ofString "read"), (.str (Str.ofString "read") (nat_lit 534)), (.ref (nat_lit 244))⟩, ⟨PyData.keyHash P (Str.ofString "all"), (.str (Str.ofString "all") (nat_lit 540)), (.ref (nat_lit 249))⟩, ⟨PyData.keyHash P (Str.ofString "length"), (.str (Str.ofString "length") (nat_lit 550)), (.ref (nat_lit 256))⟩, ⟨PyData.keyHash P (Str.ofString "key"), (.str (Str.ofString "key") (nat_lit 559)), (.ref (nat_lit 263))⟩, ⟨PyData.keyHash P (Str.ofString "struct"), (.str (Str.ofString "struct") (nat_lit 573)), (.ref (nat_lit 270))⟩, ⟨PyData.keyHash P (Str.ofString "kept"), (.str (Str.ofString "kept") (nat_lit 582)), (.ref (nat_lit 277))⟩, ⟨PyData.keyHash P (Str.ofString "interface"), (.str (Str.ofString "interface") (nat_lit 588)), (.ref (nat_lit 282))⟩, ⟨PyData.keyHash P (Str.ofString "__static_attributes__"), (.str (Str.ofString "__static_attributes__") (nat_lit 593)), (.ref (nat_lit 283))⟩, ⟨PyData.keyHash P (Str.ofString "__dict__"), (.str (Str.ofString "__dict__") (nat_lit 595)), (.ref (nat_lit 286))⟩, ⟨PyData.keyHash P (Str.ofString "__weakref__"), (.str (Str.ofString "__weakref__") (nat_lit 597)), (.ref (nat_lit 287))⟩, ⟨PyData.keyHash P (Str.ofString "__doc__"), (.str (Str.ofString "__doc__") (nat_lit 598)), .none⟩] (nat_lit 4)), #[]⟩) ::
  ((nat_lit 285), ⟨(.type "type"), none, (.cls { name := Str.ofString "TypeReader", bases := [Value.type "object"], mro := [Value.ref (nat_lit 285), Value.type "object"],   ns := (nat_lit 284), qualname := Str.ofString "TypeReader" }), #[none, none, some (.str (Str.ofString "TypeReader") (nat_lit 502)), some (.str (Str.ofString "TypeReader") (nat_lit 510)), some (.builtin "object.__new__"), some (.bool true)]⟩) ::
  ((nat_lit 286), ⟨(.type "getset_descriptor"), none, (.fields #[(.str (Str.ofString "__dict__") (nat_lit 594)), (.ref (nat_lit 285)), (.builtin "function.__dict__"), (.builtin "function.__dict__#set")]), #[]⟩) ::
  ((nat_lit 287), ⟨(.type "getset_descriptor"), none, (.fields #[(.str (Str.ofString "__weakref__") (nat_lit 596)), (.ref (nat_lit 285)), (.builtin "ExceptionGroup.__weakref__"), .none]), #[]⟩) ::
  ((nat_lit 294), ⟨(.type "tuple"), none, (.seq #[(.str (Str.ofString "nil") (nat_lit 613))] (nat_lit 0)), #[]⟩) ::
  ((nat_lit 296), ⟨(.type "tuple"), none, (.seq #[(.str (Str.ofString "ptr") (nat_lit 624)), (.str (Str.ofString "func") (nat_lit 625)), (.str (Str.ofString "slice") (nat_lit 626)), (.str (Str.ofString "map") (nat_lit 627)), (.str (Str.ofString "chan") (nat_lit 628)), (.str (Str.ofString "interface") (nat_lit 629))] (nat_lit 0)), #[]⟩) ::
  ((nat_lit 338), ⟨(.type "code"), none, (.fields #[(.str (Str.ofString "underlying_of") (nat_lit 676)), (.str (Str.ofString "underlying_of") (nat_lit 677)), (.str (Str.ofString "/claim/cut.py") (nat_lit 678)), (.int (275) (nat_lit 0)), (.int (2) (nat_lit 0)), (.int (0) (nat_lit 0)), (.int (0) (nat_lit 0)), (.int (3) (nat_lit 0)), (.ref (nat_lit 333)), (.bool true), (.int (181) (nat_lit 0)), (.ref (nat_lit 334)), .none, (.ref (nat_lit 335)), (.ref (nat_lit 336)), (.ref (nat_lit 337)), (.int (681) (nat_lit 0)), (.int (275) (nat_lit 0)), (.str (Str.ofString "/claim/cut.py") (nat_lit 682))]), #[]⟩) ::
  ((nat_lit 339), ⟨(.type "function"), none, (.func ⟨(Str.ofString "underlying_of"), (Str.ofString "underlying_of"), (fdTop (nat_lit 44)).params, .stmts (fdTop (nat_lit 44)).body, (fdTop (nat_lit 44)).scope, (nat_lit 3), [], .none, .none, .none, (.str (Str.ofString "chancore.types") (nat_lit 601)), none, (.ref (nat_lit 338)), .none, (nat_lit 0)⟩), #[]⟩) ::
  ((nat_lit 352), ⟨(.type "code"), none, (.fields #[(.str (Str.ofString "is_untyped") (nat_lit 691)), (.str (Str.ofString "is_untyped") (nat_lit 692)), (.str (Str.ofString "/claim/cut.py") (nat_lit 693)), (.int (279) (nat_lit 0)), (.int (1) (nat_lit 0)), (.int (0) (nat_lit 0)), (.int (0) (nat_lit 0)), (.int (3) (nat_lit 0)), (.ref (nat_lit 347)), (.bool true), (.int (181) (nat_lit 0)), (.ref (nat_lit 348)), .none, (.ref (nat_lit 349)), (.ref (nat_lit 350)), (.ref (nat_lit 351)), (.int (695) (nat_lit 0)), (.int (279) (nat_lit 0)), (.str (Str.ofString "/claim/cut.py") (nat_lit 696))]), #[]⟩) ::
  ((nat_lit 353), ⟨(.type "function"), none, (.func ⟨(Str.ofString "is_untyped"), (Str.ofString "is_untyped"), (fdTop (nat_lit 46)).params, .stmts (fdTop (nat_lit 46)).body, (fdTop (nat_lit 46)).scope, (nat_lit 3), [], .none, .none, .none, (.str (Str.ofString "chancore.types") (nat_lit 601)), none, (.ref (nat_lit 352)), .none, (nat_lit 0)⟩), #[]⟩) ::
  ((nat_lit 373), ⟨(.type "code"), none, (.fields #[(.str (Str.ofString "is_integer") (nat_lit 713)), (.str (Str.ofString "is_integer") (nat_lit 714)), (.str (Str.ofString "/claim/cut.py") (nat_lit 715)), (.int (285) (nat_lit 0)), (.int (2) (nat_lit 0)), (.int (0) (nat_lit 0)), (.int (0) (nat_lit 0)), (.int (3) (nat_lit 0)), (.ref (nat_lit 368)), (.bool true), (.int (181) (nat_lit 0)), (.ref (nat_lit 369)), .none, (.ref (nat_lit 370)), (.ref (nat_lit 371)), (.ref (nat_lit 372)), (.int (718) (nat_lit 0)), (.int (285) (nat_lit 0)), (.str (Str.ofString "/claim/cut.py") (nat_lit 719))]), #[]⟩) ::
  ((nat_lit 374), ⟨(.type "function"), none, (.func ⟨(Str.ofString "is_integer"), (Str.ofString "is_integer"), (fdTop (nat_lit 49)).params, .stmts (fdTop (nat_lit 49)).body, (fdTop (nat_lit 49)).scope, (nat_lit 3), [], .none, .none, .none, (.str (Str.ofString "chancore.types") (nat_lit 601)), none, (.ref (nat_lit 373)), .none, (nat_lit 0)⟩), #[]⟩) ::
  ((nat_lit 394), ⟨(.type "code"), none, (.fields #[(.str (Str.ofString "told_type") (nat_lit 739)), (.str (Str.ofString "told_type") (nat_lit 740)), (.str (Str.ofString "/claim/cut.py") (nat_lit 741)), (.int (294) (nat_lit 0)), (.int (3) (nat_lit 0)), (.int (0) (nat_lit 0)), (.int (0) (nat_lit 0)), (.int (3) (nat_lit 0)), (.ref (nat_lit 389)), (.bool true), (.int (181) (nat_lit 0)), (.ref (nat_lit 390)), .none, (.ref (nat_lit 391)), (.ref (nat_lit 392)), (.ref (nat_lit 393)), (.int (745) (nat_lit 0)), (.int (294) (nat_lit 0)), (.str (Str.ofString "/claim/cut.py") (nat_lit 746))]), #[]⟩) ::
  ((nat_lit 395), ⟨(.type "function"), none, (.func ⟨(Str.ofString "told_type"), (Str.ofString "told_type"), (fdTop (nat_lit 53)).params, .stmts (fdTop (nat_lit 53)).body, (fdTop (nat_lit 53)).scope, (nat_lit 3), [], .none, .none, .none, (.str (Str.ofString "chancore.check_literals") (nat_lit 737)), none, (.ref (nat_lit 394)), .none, (nat_lit 0)⟩), #[]⟩) ::
  ((nat_lit 399), ⟨(.type "code"), none, (.fields #[(.str (Str.ofString "field_places") (nat_lit 748)), (.str (Str.ofString "field_places") (nat_lit 749)), (.str (Str.ofString "/claim/cut.py") (nat_lit 750)), (.int (300) (nat_lit 0)), (.int (5) (nat_lit 0)), (.int (0) (nat_lit 0)), (.int (0) (nat_lit 0)), (.int (3) (nat_lit 0)), (.ref (nat_lit 396)), (.bool true), (.int (181) (nat_lit 0)), (.ref (nat_lit 397)), .none, .none, .none, (.ref (nat_lit 398)), (.int (751) (nat_lit 0)), (.int (300) (nat_lit 0)), (.str (Str.ofString "/claim/cut.py") (nat_lit 752))]), #[]⟩) ::
  ((nat_lit 400), ⟨(.type "function"), none, (.func ⟨(Str.ofString "field_places"), (Str.ofString "field_places"), (fdTop (nat_lit 54)).params, .stmts (fdTop (nat_lit 54)).body, (fdTop (nat_lit 54)).scope, (nat_lit 3), [], .none, .none, .none, (.str (Str.ofString "chancore.check_literals") (nat_lit 737)), none, (.ref (nat_lit 399)), .none, (nat_lit 0)⟩), #[]⟩) ::
  ((nat_lit 406), ⟨(.type "code"), none, (.fields #[(.str (Str.ofString "dropped") (nat_lit 754)), (.str (Str.ofString "dropped") (nat_lit 755)), (.str (Str.ofString "/claim/cut.py") (nat_lit 756)), (.int (312) (nat_lit 0)), (.int (3) (nat_lit 0)), (.int (0) (nat_lit 0)), (.int (0) (nat_lit 0)), (.int (3) (nat_lit 0)), (.ref (nat_lit 401)), (.bool true), (.int (181) (nat_lit 0)), (.ref (nat_lit 402)), .none, (.ref (nat_lit 403)), (.ref (nat_lit 404)), (.ref (nat_lit 405)), (.int (761) (nat_lit 0)), (.int (312) (nat_lit 0)), (.str (Str.ofString "/claim/cut.py") (nat_lit 762))]), #[]⟩) ::
  ((nat_lit 407), ⟨(.type "function"), none, (.func ⟨(Str.ofString "dropped"), (Str.ofString "dropped"), (fdTop (nat_lit 55)).params, .stmts (fdTop (nat_lit 55)).body, (fdTop (nat_lit 55)).scope, (nat_lit 3), [], .none, .none, .none, (.str (Str.ofString "chancore.check_literals") (nat_lit 737)), none, (.ref (nat_lit 406)), .none, (nat_lit 0)⟩), #[]⟩) ::
  ((nat_lit 413), ⟨(.type "code"), none, (.fields #[(.str (Str.ofString "place_told") (nat_lit 764)), (.str (Str.ofString "place_told") (nat_lit 765)), (.str (Str.ofString "/claim/cut.py") (nat_lit 766)), (.int (315) (nat_lit 0)), (.int (2) (nat_lit 0)), (.int (0) (nat_lit 0)), (.int (0) (nat_lit 0)), (.int (3) (nat_lit 0)), (.ref (nat_lit 408)), (.bool true), (.int (181) (nat_lit 0)), (.ref (nat_lit 409)), .none, (.ref (nat_lit 410)), (.ref (nat_lit 411)), (.ref (nat_lit 412)), (.int (770) (nat_lit 0)), (.int (315) (nat_lit 0)), (.str (Str.ofString "/claim/cut.py") (nat_lit 771))]), #[]⟩) ::
  ((nat_lit 414), ⟨(.type "function"), none, (.func ⟨(Str.ofString "place_told"), (Str.ofString "place_told"), (fdTop (nat_lit 56)).params, .stmts (fdTop (nat_lit 56)).body, (fdTop (nat_lit 56)).scope, (nat_lit 3), [], .none, .none, .none, (.str (Str.ofString "chancore.check_literals") (nat_lit 737)), none, (.ref (nat_lit 413)), .none, (nat_lit 0)⟩), #[]⟩) ::
  ((nat_lit 420), ⟨(.type "code"), none, (.fields #[(.str (Str.ofString "constant_within") (nat_lit 773)), (.str (Str.ofString "constant_within") (nat_lit 774)), (.str (Str.ofString "/claim/cut.py") (nat_lit 775)), (.int (322) (nat_lit 0)), (.int (1) (nat_lit 0)), (.int (0) (nat_lit 0)), (.int (0) (nat_lit 0)), (.int (3) (nat_lit 0)), (.ref (nat_lit 415)), (.bool true), (.int (181) (nat_lit 0)), (.ref (nat_lit 416)), .none, (.ref (nat_lit 417)), (.ref (nat_lit 418)), (.ref (nat_lit 419)), (.int (777) (nat_lit 0)), (.int (322) (nat_lit 0)), (.str (Str.ofString "/claim/cut.py") (nat_lit 778))]), #[]⟩) ::
  ((nat_lit 421), ⟨(.type "function"), none, (.func ⟨(Str.ofString "constant_within"), (Str.ofString "constant_within"), (fdTop (nat_lit 57)).params, .stmts (fdTop (nat_lit 57)).body, (fdTop (nat_lit 57)).scope, (nat_lit 3), [], .none, .none, .none, (.str (Str.ofString "chancore.check_literals") (nat_lit 737)), none, (.ref (nat_lit 420)), .none, (nat_lit 0)⟩), #[]⟩) ::
  ((nat_lit 721), ⟨(.type "code"), none, (.fields #[(.str (Str.ofString "type_of") (nat_lit 1265)), (.str (Str.ofString "type_of") (nat_lit 1266)), (.str (Str.ofString "/claim/cut.py") (nat_lit 1267)), (.int (676) (nat_lit 0)), (.int (4) (nat_lit 0)), (.int (0) (nat_lit 0)), (.int (0) (nat_lit 0)), (.int (3) (nat_lit 0)), (.ref (nat_lit 716)), (.bool true), (.int (181) (nat_lit 0)), (.ref (nat_lit 717)), .none, (.ref (nat_lit 718)), (.ref (nat_lit 719)), (.ref (nat_lit 720)), (.int (1276) (nat_lit 0)), (.int (676) (nat_lit 0)), (.str (Str.ofString "/claim/cut.py") (nat_lit 1277))]), #[]⟩) ::
  ((nat_lit 722), ⟨(.type "function"), none, (.func ⟨(Str.ofString "type_of"), (Str.ofString "type_of"), (fdTop (nat_lit 98)).params, .stmts (fdTop (nat_lit 98)).body, (fdTop (nat_lit 98)).scope, (nat_lit 3), [], .none, .none, .none, (.str (Str.ofString "chancore.const_exprs") (nat_lit 1058)), none, (.ref (nat_lit 721)), .none, (nat_lit 0)⟩), #[]⟩) ::
  ((nat_lit 735), ⟨(.type "code"), none, (.fields #[(.str (Str.ofString "__init__") (nat_lit 1293)), (.str (Str.ofString "ScopeRow.__init__") (nat_lit 1294)), (.str (Str.ofString "/claim/cut.py") (nat_lit 1295)), (.int (683) (nat_lit 0)), (.int (6) (nat_lit 0)), (.int (0) (nat_lit 0)), (.int (0) (nat_lit 0)), (.int (3) (nat_lit 0)), (.ref (nat_lit 730)), (.bool true), (.int (181) (nat_lit 0)), (.ref (nat_lit 731)), .none, (.ref (nat_lit 732)), (.ref (nat_lit 733)), (.ref (nat_lit 734)), (.int (1302) (nat_lit 0)), (.int (683) (nat_lit 0)), (.str (Str.ofString "/claim/cut.py") (nat_lit 1303))]), #[]⟩) ::
  ((nat_lit 736), ⟨(.type "function"), none, (.func ⟨(Str.ofString "__init__"), (Str.ofString "ScopeRow.__init__"), (fdIn (nat_lit 100) (nat_lit 0)).params, .stmts (fdIn (nat_lit 100) (nat_lit 0)).body, (fdIn (nat_lit 100) (nat_lit 0)).scope, (nat_lit 3), [], .none, .none, .none, (.str (Str.ofString "chancore.scopes") (nat_lit 1279)), none, (.ref (nat_lit 735)), .none, (nat_lit 0)⟩), #[]⟩) ::
  ((nat_lit 737), ⟨(.type "tuple"), none, (.seq #[(.str (Str.ofString "entry") (nat_lit 1305)), (.str (Str.ofString "is_checked") (nat_lit 1306)), (.str (Str.ofString "is_used") (nat_lit 1307)), (.str (Str.ofString "name") (nat_lit 1308)), (.str (Str.ofString "owner") (nat_lit 1309)), (.str (Str.ofString "spot") (nat_lit 1310))] (nat_lit 0)), #[]⟩) ::
  ((nat_lit 738), ⟨(.type "dict"), none, (.dict #[⟨PyData.keyHash P (Str.ofString "__module__"), (.str (Str.ofString "__module__") (nat_lit 1288)), (.str (Str.ofString "chancore.scopes") (nat_lit 1279))⟩, ⟨PyData.keyHash P (Str.ofString "__firstlineno__"), (.str (Str.ofString "__firstlineno__") (nat_lit 1292)), (.int (681) (nat_lit 1291))⟩, ⟨PyData.keyHash P (Str.ofString "__init__"), (.str (Str.ofString "__init__") (nat_lit 1304)), (.ref (nat_lit 736))⟩, ⟨PyData.keyHash P (Str.ofString "__static_attributes__"), (.str (Str.ofString "__static_attributes__") (nat_lit 1311)), (.ref (nat_lit 737))⟩, ⟨PyData.keyHash P (Str.ofString "__dict__"), (.str (Str.ofString "__dict__") (nat_lit 1313)), (.ref (nat_lit 740))⟩, ⟨PyData.keyHash P (Str.ofString "__weakref__"), (.str (Str.ofString "__weakref__") (nat_lit 1315)), (.ref (nat_lit 741))⟩, ⟨PyData.keyHash P (Str.ofString "__doc__"), (.str (Str.ofString "__doc__") (nat_lit 1316)), .none⟩] (nat_lit 4)), #[]⟩) ::
  ((nat_lit 739), ⟨(.type "type"), none, (.cls { name := Str.ofString "ScopeRow", bases := [Value.type "object"], mro := [Value.ref (nat_lit 739), Value.type "object"],   ns := (nat_lit 738), qualname := Str.ofString "ScopeRow" }), #[none, none, some (.str (Str.ofString "ScopeRow") (nat_lit 1281)), some (.str (Str.ofString "ScopeRow") (nat_lit 1289)), some (.builtin "object.__new__"), some (.bool true)]⟩) ::
  ((nat_lit 740), ⟨(.type "getset_descriptor"), none, (.fields #[(.str (Str.ofString "__dict__") (nat_lit 1312)), (.ref (nat_lit 739)), (.builtin "function.__dict__"), (.builtin "function.__dict__#set")]), #[]⟩) ::
  ((nat_lit 741), ⟨(.type "getset_descriptor"), none, (.fields #[(.str (Str.ofString "__weakref__") (nat_lit 1314)), (.ref (nat_lit 739)), (.builtin "ExceptionGroup.__weakref__"), .none]), #[]⟩) ::
  ((nat_lit 751), ⟨(.type "tuple"), none, (.seq #[.none] (nat_lit 0)), #[]⟩) ::
  ((nat_lit 757), ⟨(.type "code"), none, (.fields #[(.str (Str.ofString "__init__") (nat_lit 1331)), (.str (Str.ofString "Scope.__init__") (nat_lit 1332)), (.str (Str.ofString "/claim/cut.py") (nat_lit 1333)), (.int (692) (nat_lit 0)), (.int (3) (nat_lit 0)), (.int (0) (nat_lit 0)), (.int (0) (nat_lit 0)), (.int (3) (nat_lit 0)), (.ref (nat_lit 752)), (.bool true), (.int (181) (nat_lit 0)), (.ref (nat_lit 753)), .none, (.ref (nat_lit 754)), (.ref (nat_lit 755)), (.ref (nat_lit 756)), (.int (1337) (nat_lit 0)), (.int (692) (nat_lit 0)), (.str (Str.ofString "/claim/cut.py") (nat_lit 1338))]), #[]⟩) ::
  ((nat_lit 758), ⟨(.type "function"), none, (.func ⟨(Str.ofString "__init__"), (Str.ofString "Scope.__init__"), (fdIn (nat_lit 101) (nat_lit 0)).params, .stmts (fdIn (nat_lit 101) (nat_lit 0)).body, (fdIn (nat_lit 101) (nat_lit 0)).scope, (nat_lit 3), [], (.ref (nat_lit 751)), .none, .none, (.str (Str.ofString "chancore.scopes") (nat_lit 1279)), none, (.ref (nat_lit 757)), .none, (nat_lit 0)⟩), #[]⟩) ::
  ((nat_lit 759), ⟨(.type "tuple"), none, (.seq #[(.bool false)] (nat_lit 0)), #[]⟩) ::
  ((nat_lit 765), ⟨(.type "code"), none, (.fields #[(.str (Str.ofString "declare") (nat_lit 1340)), (.str (Str.ofString "Scope.declare") (nat_lit 1341)), (.str (Str.ofString "/claim/cut.py") (nat_lit 1342)), (.int (697) (nat_lit 0)), (.int (5) (nat_lit 0)), (.int (0) (nat_lit 0)), (.int (0) (nat_lit 0)), (.int (3) (nat_lit 0)), (.ref (nat_lit 760)), (.bool true), (.int (181) (nat_lit 0)), (.ref (nat_lit 761)), .none, (.ref (nat_lit 762)), (.ref (nat_lit 763)), (.ref (nat_lit 764)), (.int (1348) (nat_lit 0)), (.int (697) (nat_lit 0)), (.str (Str.ofString "/claim/cut.py") (nat_lit 1349))]), #[]⟩) ::
  ((nat_lit 766), ⟨(.type "function"), none, (.func ⟨(Str.ofString "declare"), (Str.ofString "Scope.declare"), (fdIn (nat_lit 101) (nat_lit 1)).params, .stmts (fdIn (nat_lit 101) (nat_lit 1)).body, (fdIn (nat_lit 101) (nat_lit 1)).scope, (nat_lit 3), [], (.ref (nat_lit 759)), .none, .none, (.str (Str.ofString "chancore.scopes") (nat_lit 1279)), none, (.ref (nat_lit 765)), .none, (nat_lit 0)⟩), #[]⟩) ::
  ((nat_lit 772), ⟨(.type "code"), none, (.fields #[(.str (Str.ofString "is_here") (nat_lit 1351)), (.str (Str.ofString "Scope.is_here") (nat_lit 1352)), (.str (Str.ofString "/claim/cut.py") (nat_lit 1353)), (.int (704) (nat_lit 0)), (.int (2) (nat_lit 0)), (.int (0) (nat_lit 0)), (.int (0) (nat_lit 0)), (.int (3) (nat_lit 0)), (.ref (nat_lit 767)), (.bool true), (.int (181) (nat_lit 0)), (.ref (nat_lit 768)), .none, (.ref (nat_lit 769)), (.ref (nat_lit 770)), (.ref (nat_lit 771)), (.int (1356) (nat_lit 0)), (.int (704) (nat_lit 0)), (.str (Str.ofString "/claim/cut.py") (nat_lit 1357))]), #[]⟩) ::
  ((nat_lit 773), ⟨(.type "function"), none, (.func ⟨(Str.ofString "is_here"), (Str.ofString "Scope.is_here"), (fdIn (nat_lit 101) (nat_lit 2)).params, .stmts (fdIn (nat_lit 101) (nat_lit 2)).body, (fdIn (nat_lit 101) (nat_lit 2)).scope, (nat_lit 3), [], .none, .none, .none, (.str (Str.ofString "chancore.scopes") (nat_lit 1279)), none, (.ref (nat_lit 772)), .none, (nat_lit 0)⟩), #[]⟩) ::
  ((nat_lit 779), ⟨(.type "code"), none, (.fields #[(.str (Str.ofString "row") (nat_lit 1359)), (.str (Str.ofString "Scope.row") (nat_lit 1360)), (.str (Str.ofString "/claim/cut.py") (nat_lit 1361)), (.int (707) (nat_lit 0)), (.int (2) (nat_lit 0)), (.int (0) (nat_lit 0)), (.int (0) (nat_lit 0)), (.int (3) (nat_lit 0)), (.ref (nat_lit 774)), (.bool true), (.int (181) (nat_lit 0)), (.ref (nat_lit 775)), .none, (.ref (nat_lit 776)), (.ref (nat_lit 777)), (.ref (nat_lit 778)), (.int (1365) (nat_lit 0)), (.int (707) (nat_lit 0)), (.str (Str.ofString "/claim/cut.py") (nat_lit 1366))]), #[]⟩) ::
  ((nat_lit 780), ⟨(.type "function"), none, (.func ⟨(Str.ofString "row"), (Str.ofString "Scope.row"), (fdIn (nat_lit 101) (nat_lit 3)).params, .stmts (fdIn (nat_lit 101) (nat_lit 3)).body, (fdIn (nat_lit 101) (nat_lit 3)).scope, (nat_lit 3), [], .none, .none, .none, (.str (Str.ofString "chancore.scopes") (nat_lit 1279)), none, (.ref (nat_lit 779)), .none, (nat_lit 0)⟩), #[]⟩) ::
  ((nat_lit 781), ⟨(.type "tuple"), none, (.seq #[.none] (nat_lit 0)), #[]⟩) ::
  ((nat_lit 787), ⟨(.type "code"), none, (.fields #[(.str (Str.ofString "find") (nat_lit 1368)), (.str (Str.ofString "Scope.find") (nat_lit 1369)), (.str (Str.ofString "/claim/cut.py") (nat_lit 1370)), (.int (715) (nat_lit 0)), (.int (3) (nat_lit 0)), (.int (0) (nat_lit 0)), (.int (0) (nat_lit 0)), (.int (3) (nat_lit 0)), (.ref (nat_lit 782)), (.bool true), (.int (181) (nat_lit 0)), (.ref (nat_lit 783)), .none, (.ref (nat_lit 784)), (.ref (nat_lit 785)), (.ref (nat_lit 786)), (.int (1375) (nat_lit 0)), (.int (715) (nat_lit 0)), (.str (Str.ofString "/claim/cut.py") (nat_lit 1376))]), #[]⟩) ::
  ((nat_lit 788), ⟨(.type "function"), none, (.func ⟨(Str.ofString "find"), (Str.ofString "Scope.find"), (fdIn (nat_lit 101) (nat_lit 4)).params, .stmts (fdIn (nat_lit 101) (nat_lit 4)).body, (fdIn (nat_lit 101) (nat_lit 4)).scope, (nat_lit 3), [], (.ref (nat_lit 781)), .none, .none, (.str (Str.ofString "chancore.scopes") (nat_lit 1279)), none, (.ref (nat_lit 787)), .none, (nat_lit 0)⟩), #[]⟩) ::
  ((nat_lit 794), ⟨(.type "code"), none, (.fields #[(.str (Str.ofString "use") (nat_lit 1378)), (.str (Str.ofString "Scope.use") (nat_lit 1379)), (.str (Str.ofString "/claim/cut.py") (nat_lit 1380)), (.int (721) (nat_lit 0)), (.int (2) (nat_lit 0)), (.int (0) (nat_lit 0)), (.int (0) (nat_lit 0)), (.int (3) (nat_lit 0)), (.ref (nat_lit 789)), (.bool true), (.int (181) (nat_lit 0)), (.ref (nat_lit 790)), .none, (.ref (nat_lit 791)), (.ref (nat_lit 792)), (.ref (nat_lit 793)), (.int (1383) (nat_lit 0)), (.int (721) (nat_lit 0)), (.str (Str.ofString "/claim/cut.py") (nat_lit 1384))]), #[]⟩) ::
  ((nat_lit 795), ⟨(.type "function"), none, (.func ⟨(Str.ofString "use"), (Str.ofString "Scope.use"), (fdIn (nat_lit 101) (nat_lit 5)).params, .stmts (fdIn (nat_lit 101) (nat_lit 5)).body, (fdIn (nat_lit 101) (nat_lit 5)).scope, (nat_lit 3), [], .none, .none, .none, (.str (Str.ofString "chancore.scopes") (nat_lit 1279)), none, (.ref (nat_lit 794)), .none, (nat_lit 0)⟩), #[]⟩) ::
  ((nat_lit 801), ⟨(.type "code"), none, (.fields #[(.str (Str.ofString "unused") (nat_lit 1386)), (.str (Str.ofString "Scope.unused") (nat_lit 1387)), (.str (Str.ofString "/claim/cut.py") (nat_lit 1388)), (.int (724) (nat_lit 0)), (.int (1) (nat_lit 0)), (.int (0) (nat_lit 0)), (.int (0) (nat_lit 0)), (.int (3) (nat_lit 0)), (.ref (nat_lit 796)), (.bool true), (.int (181) (nat_lit 0)), (.ref (nat_lit 797)), .none, (.ref (nat_lit 798)), (.ref (nat_lit 799)), (.ref (nat_lit 800)), (.int (1393) (nat_lit 0)), (.int (724) (nat_lit 0)), (.str (Str.ofString "/claim/cut.py") (nat_lit 1394))]), #[]⟩) ::
  ((nat_lit 802), ⟨(.type "function"), none, (.func ⟨(Str.ofString "unused"), (Str.ofString "Scope.unused"), (fdIn (nat_lit 101) (nat_lit 6)).params, .stmts (fdIn (nat_lit 101) (nat_lit 6)).body, (fdIn (nat_lit 101) (nat_lit 6)).scope, (nat_lit 3), [], .none, .none, .none, (.str (Str.ofString "chancore.scopes") (nat_lit 1279)), none, (.ref (nat_lit 801)), .none, (nat_lit 0)⟩), #[]⟩) ::
  ((nat_lit 808), ⟨(.type "code"), none, (.fields #[(.str (Str.ofString "depth") (nat_lit 1396)), (.str (Str.ofString "Scope.depth") (nat_lit 1397)), (.str (Str.ofString "/claim/cut.py") (nat_lit 1398)), (.int (732) (nat_lit 0)), (.int (1) (nat_lit 0)), (.int (0) (nat_lit 0)), (.int (0) (nat_lit 0)), (.int (3) (nat_lit 0)), (.ref (nat_lit 803)), (.bool true), (.int (181) (nat_lit 0)), (.ref (nat_lit 804)), .none, (.ref (nat_lit 805)), (.ref (nat_lit 806)), (.ref (nat_lit 807)), (.int (1400) (nat_lit 0)), (.int (732) (nat_lit 0)), (.str (Str.ofString "/claim/cut.py") (nat_lit 1401))]), #[]⟩) ::
  ((nat_lit 809), ⟨(.type "function"), none, (.func ⟨(Str.ofString "depth"), (Str.ofString "Scope.depth"), (fdIn (nat_lit 101) (nat_lit 7)).params, .stmts (fdIn (nat_lit 101) (nat_lit 7)).body, (fdIn (nat_lit 101) (nat_lit 7)).scope, (nat_lit 3), [], .none, .none, .none, (.str (Str.ofString "chancore.scopes") (nat_lit 1279)), none, (.ref (nat_lit 808)), .none, (nat_lit 0)⟩), #[]⟩) ::
  ((nat_lit 810), ⟨(.type "tuple"), none, (.seq #[(.str (Str.ofString "outer") (nat_lit 1403)), (.str (Str.ofString "owner") (nat_lit 1404)), (.str (Str.ofString "rows") (nat_lit 1405))] (nat_lit 0)), #[]⟩) ::
  ((nat_lit 811), ⟨(.type "dict"), none, (.dict #[⟨PyData.keyHash P (Str.ofString "__module__"), (.str (Str.ofString "__module__") (nat_lit 1326)), (.str (Str.ofString "chancore.scopes") (nat_lit 1279))⟩, ⟨PyData.keyHash P (Str.ofString "__firstlineno__"), (.str (Str.ofString "__firstlineno__") (nat_lit 1330)), (.int (690) (nat_lit 1329))⟩, ⟨PyData.keyHash P (Str.ofString "__init__"), (.str (Str.ofString "__init__") (nat_lit 1339)), (.ref (nat_lit 758))⟩, ⟨PyData.keyHash P (Str.ofString "declare"), (.str (Str.ofString "declare") (nat_lit 1350)), (.ref (nat_lit 766))⟩, ⟨PyData.keyHash P (Str.ofString "is_here"), (.str (Str.ofString "is_here") (nat_lit 1358)), (.ref (nat_lit 773))⟩, ⟨PyData.keyHash P (Str.ofString "row"), (.str (Str.ofString "row") (nat_lit 1367)), (.ref (nat_lit 780))⟩, ⟨PyData.keyHash P (Str.ofString "find"), (.str (Str.ofString "find") (nat_lit 1377)), (.ref (nat_lit 788))⟩, ⟨PyData.keyHash P (Str.ofString "use"), (.str (Str.ofString "use") (nat_lit 1385)), (.ref (nat_lit 795))⟩, ⟨PyData.keyHash P (Str.ofString "unused"), (.str (Str.ofString "unused") (nat_lit 1395)), (.ref (nat_lit 802))⟩, ⟨PyData.keyHash P (Str.ofString "depth"), (.str (Str.ofString "depth") (nat_lit 1402)), (.ref (nat_lit 809))⟩, ⟨PyData.keyHash P (Str.ofString "__static_attributes__"), (.str (Str.ofString "__static_attributes__") (nat_lit 1406)), (.ref (nat_lit 810))⟩, ⟨PyData.keyHash P (Str.ofString "__dict__"), (.str (Str.ofString "__dict__") (nat_lit 1408)), (.ref (nat_lit 813))⟩, ⟨PyData.keyHash P (Str.ofString "__weakref__"), (.str (Str.ofString "__weakref__") (nat_lit 1410)), (.ref (nat_lit 814))⟩, ⟨PyData.keyHash P (Str.ofString "__doc__"), (.str (Str.ofString "__doc__") (nat_lit 1411)), .none⟩] (nat_lit 4)), #[]⟩) ::
  ((nat_lit 812), ⟨(.type "type"), none, (.cls { name := Str.ofString "Scope", bases := [Value.type "object"], mro := [Value.ref (nat_lit 812), Value.type "object"], ns := (nat_lit 811),   qualname := Str.ofString "Scope" }), #[none, none, some (.str (Str.ofString "Scope") (nat_lit 1319)), some (.str (Str.ofString "Scope") (nat_lit 1327)), some (.builtin "object.__new__"), some (.bool true)]⟩) ::
  ((nat_lit 813), ⟨(.type "getset_descriptor"), none, (.fields #[(.str (Str.ofString "__dict__") (nat_lit 1407)), (.ref (nat_lit 812)), (.builtin "function.__dict__"), (.builtin "function.__dict__#set")]), #[]⟩) ::
  ((nat_lit 814), ⟨(.type "getset_descriptor"), none, (.fields #[(.str (Str.ofString "__weakref__") (nat_lit 1409)), (.ref (nat_lit 812)), (.builtin "ExceptionGroup.__weakref__"), .none]), #[]⟩) ::
  ((nat_lit 825), ⟨(.type "tuple"), none, (.seq #[.none] (nat_lit 0)), #[]⟩) ::
  ((nat_lit 831), ⟨(.type "code"), none, (.fields #[(.str (Str.ofString "__init__") (nat_lit 1431)), (.str (Str.ofString "Checker.__init__") (nat_lit 1432)), (.str (Str.ofString "/claim/cut.py") (nat_lit 1433)), (.int (738) (nat_lit 0)), (.int (8) (nat_lit 0)), (.int (0) (nat_lit 0)), (.int (0) (nat_lit 0)), (.int (3) (nat_lit 0)), (.ref (nat_lit 826)), (.bool true), (.int (181) (nat_lit 0)), (.ref (nat_lit 827)), .none, (.ref (nat_lit 828)), (.ref (nat_lit 829)), (.ref (nat_lit 830)), (.int (1442) (nat_lit 0)), (.int (738) (nat_lit 0)), (.str (Str.ofString "/claim/cut.py") (nat_lit 1443))]), #[]⟩) ::
  ((nat_lit 832), ⟨(.type "function"), none, (.func ⟨(Str.ofString "__init__"), (Str.ofString "Checker.__init__"), (fdIn (nat_lit 104) (nat_lit 0)).params, .stmts (fdIn (nat_lit 104) (nat_lit 0)).body, (fdIn (nat_lit 104) (nat_lit 0)).scope, (nat_lit 3), [], (.ref (nat_lit 825)), .none, .none, (.str (Str.ofString "chancore.check_state") (nat_lit 1414)), none, (.ref (nat_lit 831)), .none, (nat_lit 0)⟩), #[]⟩) ::
  ((nat_lit 833), ⟨(.type "tuple"), none, (.seq #[.none] (nat_lit 0)), #[]⟩) ::
  ((nat_lit 839), ⟨(.type "code"), none, (.fields #[(.str (Str.ofString "expr") (nat_lit 1445)), (.str (Str.ofString "Checker.expr") (nat_lit 1446)), (.str (Str.ofString "/claim/cut.py") (nat_lit 1447)), (.int (757) (nat_lit 0)), (.int (3) (nat_lit 0)), (.int (0) (nat_lit 0)), (.int (0) (nat_lit 0)), (.int (3) (nat_lit 0)), (.ref (nat_lit 834)), (.bool true), (.int (181) (nat_lit 0)), (.ref (nat_lit 835)), .none, (.ref (nat_lit 836)), (.ref (nat_lit 837)), (.ref (nat_lit 838)), (.int (1451) (nat_lit 0)), (.int (757) (nat_lit 0)), (.str (Str.ofString "/claim/cut.py") (nat_lit 1452))]), #[]⟩) ::
  ((nat_lit 840), ⟨(.type "function"), none, (.func ⟨(Str.ofString "expr"), (Str.ofString "Checker.expr"), (fdIn (nat_lit 104) (nat_lit 1)).params, .stmts (fdIn (nat_lit 104) (nat_lit 1)).body, (fdIn (nat_lit 104) (nat_lit 1)).scope, (nat_lit 3), [], (.ref (nat_lit 833)), .none, .none, (.str (Str.ofString "chancore.check_state") (nat_lit 1414)), none, (.ref (nat_lit 839)), .none, (nat_lit 0)⟩), #[]⟩) ::
  ((nat_lit 841), ⟨(.type "tuple"), none, (.seq #[.none] (nat_lit 0)), #[]⟩) ::
  ((nat_lit 847), ⟨(.type "code"), none, (.fields #[(.str (Str.ofString "value") (nat_lit 1454)), (.str (Str.ofString "Checker.value") (nat_lit 1455)), (.str (Str.ofString "/claim/cut.py") (nat_lit 1456)), (.int (760) (nat_lit 0)), (.int (3) (nat_lit 0)), (.int (0) (nat_lit 0)), (.int (0) (nat_lit 0)), (.int (3) (nat_lit 0)), (.ref (nat_lit 842)), (.bool true), (.int (181) (nat_lit 0)), (.ref (nat_lit 843)), .none, (.ref (nat_lit 844)), (.ref (nat_lit 845)), (.ref (nat_lit 846)), (.int (1460) (nat_lit 0)), (.int (760) (nat_lit 0)), (.str (Str.ofString "/claim/cut.py") (nat_lit 1461))]), #[]⟩) ::
  ((nat_lit 848), ⟨(.type "function"), none, (.func ⟨(Str.ofString "value"), (Str.ofString "Checker.value"), (fdIn (nat_lit 104) (nat_lit 2)).params, .stmts (fdIn (nat_lit 104) (nat_lit 2)).body, (fdIn (nat_lit 104) (nat_lit 2)).scope, (nat_lit 3), [], (.ref (nat_lit 841)), .none, .none, (.str (Str.ofString "chancore.check_state") (nat_lit 1414)), none, (.ref (nat_lit 847)), .none, (nat_lit 0)⟩), #[]⟩) ::
  ((nat_lit 854), ⟨(.type "code"), none, (.fields #[(.str (Str.ofString "value_made") (nat_lit 1463)), (.str (Str.ofString "Checker.value_made") (nat_lit 1464)), (.str (Str.ofString "/claim/cut.py") (nat_lit 1465)), (.int (763) (nat_lit 0)), (.int (3) (nat_lit 0)), (.int (0) (nat_lit 0)), (.int (0) (nat_lit 0)), (.int (3) (nat_lit 0)), (.ref (nat_lit 849)), (.bool true), (.int (181) (nat_lit 0)), (.ref (nat_lit 850)), .none, (.ref (nat_lit 851)), (.ref (nat_lit 852)), (.ref (nat_lit 853)), (.int (1469) (nat_lit 0)), (.int (763) (nat_lit 0)), (.str (Str.ofString "/claim/cut.py") (nat_lit 1470))]), #[]⟩) ::
  ((nat_lit 855), ⟨(.type "function"), none, (.func ⟨(Str.ofString "value_made"), (Str.ofString "Checker.value_made"), (fdIn (nat_lit 104) (nat_lit 3)).params, .stmts (fdIn (nat_lit 104) (nat_lit 3)).body, (fdIn (nat_lit 104) (nat_lit 3)).scope, (nat_lit 3), [], .none, .none, .none, (.str (Str.ofString "chancore.check_state") (nat_lit 1414)), none, (.ref (nat_lit 854)), .none, (nat_lit 0)⟩), #[]⟩) ::
  ((nat_lit 861), ⟨(.type "code"), none, (.fields #[(.str (Str.ofString "typex") (nat_lit 1472)), (.str (Str.ofString "Checker.typex") (nat_lit 1473)), (.str (Str.ofString "/claim/cut.py") (nat_lit 1474)), (.int (770) (nat_lit 0)), (.int (2) (nat_lit 0)), (.int (0) (nat_lit 0)), (.int (0) (nat_lit 0)), (.int (3) (nat_lit 0)), (.ref (nat_lit 856)), (.bool true), (.int (181) (nat_lit 0)), (.ref (nat_lit 857)), .none, (.ref (nat_lit 858)), (.ref (nat_lit 859)), (.ref (nat_lit 860)), (.int (1477) (nat_lit 0)), (.int (770) (nat_lit 0)), (.str (Str.ofString "/claim/cut.py") (nat_lit 1478))]), #[]⟩) ::
  ((nat_lit 862), ⟨(.type "function"), none, (.func ⟨(Str.ofString "typex"), (Str.ofString "Checker.typex"), (fdIn (nat_lit 104) (nat_lit 4)).params, .stmts (fdIn (nat_lit 104) (nat_lit 4)).body, (fdIn (nat_lit 104) (nat_lit 4)).scope, (nat_lit 3), [], .none, .none, .none, (.str (Str.ofString "chancore.check_state") (nat_lit 1414)), none, (.ref (nat_lit 861)), .none, (nat_lit 0)⟩), #[]⟩) ::
  ((nat_lit 868), ⟨(.type "code"), none, (.fields #[(.str (Str.ofString "coerce") (nat_lit 1480)), (.str (Str.ofString "Checker.coerce") (nat_lit 1481)), (.str (Str.ofString "/claim/cut.py") (nat_lit 1482)), (.int (773) (nat_lit 0)), (.int (4) (nat_lit 0)), (.int (0) (nat_lit 0)), (.int (0) (nat_lit 0)), (.int (3) (nat_lit 0)), (.ref (nat_lit 863)), (.bool true), (.int (181) (nat_lit 0)), (.ref (nat_lit 864)), .none, (.ref (nat_lit 865)), (.ref (nat_lit 866)), (.ref (nat_lit 867)), (.int (1489) (nat_lit 0)), (.int (773) (nat_lit 0)), (.str (Str.ofString "/claim/cut.py") (nat_lit 1490))]), #[]⟩) ::
  ((nat_lit 869), ⟨(.type "function"), none, (.func ⟨(Str.ofString "coerce"), (Str.ofString "Checker.coerce"), (fdIn (nat_lit 104) (nat_lit 5)).params, .stmts (fdIn (nat_lit 104) (nat_lit 5)).body, (fdIn (nat_lit 104) (nat_lit 5)).scope, (nat_lit 3), [], .none, .none, .none, (.str (Str.ofString "chancore.check_state") (nat_lit 1414)), none, (.ref (nat_lit 868)), .none, (nat_lit 0)⟩), #[]⟩) ::
  ((nat_lit 875), ⟨(.type "code"), none, (.fields #[(.str (Str.ofString "takes_type") (nat_lit 1492)), (.str (Str.ofString "Checker.takes_type") (nat_lit 1493)), (.str (Str.ofString "/claim/cut.py") (nat_lit 1494)), (.int (788) (nat_lit 0)), (.int (3) (nat_lit 0)), (.int (0) (nat_lit 0)), (.int (0) (nat_lit 0)), (.int (3) (nat_lit 0)), (.ref (nat_lit 870)), (.bool true), (.int (181) (nat_lit 0)), (.ref (nat_lit 871)), .none, (.ref (nat_lit 872)), (.ref (nat_lit 873)), (.ref (nat_lit 874)), (.int (1498) (nat_lit 0)), (.int (788) (nat_lit 0)), (.str (Str.ofString "/claim/cut.py") (nat_lit 1499))]), #[]⟩) ::
  ((nat_lit 876), ⟨(.type "function"), none, (.func ⟨(Str.ofString "takes_type"), (Str.ofString "Checker.takes_type"), (fdIn (nat_lit 104) (nat_lit 6)).params, .stmts (fdIn (nat_lit 104) (nat_lit 6)).body, (fdIn (nat_lit 104) (nat_lit 6)).scope, (nat_lit 3), [], .none, .none, .none, (.str (Str.ofString "chancore.check_state") (nat_lit 1414)), none, (.ref (nat_lit 875)), .none, (nat_lit 0)⟩), #[]⟩) ::
  ((nat_lit 882), ⟨(.type "code"), none, (.fields #[(.str (Str.ofString "open") (nat_lit 1501)), (.str (Str.ofString "Checker.open") (nat_lit 1502)), (.str (Str.ofString "/claim/cut.py") (nat_lit 1503)), (.int (793) (nat_lit 0)), (.int (1) (nat_lit 0)), (.int (0) (nat_lit 0)), (.int (0) (nat_lit 0)), (.int (3) (nat_lit 0)), (.ref (nat_lit 877)), (.bool true), (.int (181) (nat_lit 0)), (.ref (nat_lit 878)), .none, (.ref (nat_lit 879)), (.ref (nat_lit 880)), (.ref (nat_lit 881)), (.int (1505) (nat_lit 0)), (.int (793) (nat_lit 0)), (.str (Str.ofString "/claim/cut.py") (nat_lit 1506))]), #[]⟩) ::
  ((nat_lit 883), ⟨(.type "function"), none, (.func ⟨(Str.ofString "open"), (Str.ofString "Checker.open"), (fdIn (nat_lit 104) (nat_lit 7)).params, .stmts (fdIn (nat_lit 104) (nat_lit 7)).body, (fdIn (nat_lit 104) (nat_lit 7)).scope, (nat_lit 3), [], .none, .none, .none, (.str (Str.ofString "chancore.check_state") (nat_lit 1414)), none, (.ref (nat_lit 882)), .none, (nat_lit 0)⟩), #[]⟩) ::
  ((nat_lit 889), ⟨(.type "code"), none, (.fields #[(.str (Str.ofString "close") (nat_lit 1508)), (.str (Str.ofString "Checker.close") (nat_lit 1509)), (.str (Str.ofString "/claim/cut.py") (nat_lit 1510)), (.int (796) (nat_lit 0)), (.int (1) (nat_lit 0)), (.int (0) (nat_lit 0)), (.int (0) (nat_lit 0)), (.int (3) (nat_lit 0)), (.ref (nat_lit 884)), (.bool true), (.int (181) (nat_lit 0)), (.ref (nat_lit 885)), .none, (.ref (nat_lit 886)), (.ref (nat_lit 887)), (.ref (nat_lit 888)), (.int (1514) (nat_lit 0)), (.int (796) (nat_lit 0)), (.str (Str.ofString "/claim/cut.py") (nat_lit 1515))]), #[]⟩) ::
  ((nat_lit 890), ⟨(.type "function"), none, (.func ⟨(Str.ofString "close"), (Str.ofString "Checker.close"), (fdIn (nat_lit 104) (nat_lit 8)).params, .stmts (fdIn (nat_lit 104) (nat_lit 8)).body, (fdIn (nat_lit 104) (nat_lit 8)).scope, (nat_lit 3), [], .none, .none, .none, (.str (Str.ofString "chancore.check_state") (nat_lit 1414)), none, (.ref (nat_lit 889)), .none, (nat_lit 0)⟩), #[]⟩) ::
  ((nat_lit 891), ⟨(.type "tuple"), none, (.seq #[.none] (nat_lit 0)), #[]⟩) ::
  ((nat_lit 897), ⟨(.type "code"), none, (.fields #[(.str (Str.ofString "hidden") (nat_lit 1517)), (.str (Str.ofString "Checker.hidden") (nat_lit 1518)), (.str (Str.ofString "/claim/cut.py") (nat_lit 1519)), (.int (801) (nat_lit 0)), (.int (3) (nat_lit 0)), (.int (0) (nat_lit 0)), (.int (0) (nat_lit 0)), (.int (3) (nat_lit 0)), (.ref (nat_lit 892)), (.bool true), (.int (181) (nat_lit 0)), (.ref (nat_lit 893)), .none, (.ref (nat_lit 894)), (.ref (nat_lit 895)), (.ref (nat_lit 896)), (.int (1523) (nat_lit 0)), (.int (801) (nat_lit 0)), (.str (Str.ofString "/claim/cut.py") (nat_lit 1524))]), #[]⟩) ::
  ((nat_lit 898), ⟨(.type "function"), none, (.func ⟨(Str.ofString "hidden"), (Str.ofString "Checker.hidden"), (fdIn (nat_lit 104) (nat_lit 9)).params, .stmts (fdIn (nat_lit 104) (nat_lit 9)).body, (fdIn (nat_lit 104) (nat_lit 9)).scope, (nat_lit 3), [], (.ref (nat_lit 891)), .none, .none, (.str (Str.ofString "chancore.check_state") (nat_lit 1414)), none, (.ref (nat_lit 897)), .none, (nat_lit 0)⟩), #[]⟩) ::
  ((nat_lit 899), ⟨(.type "tuple"), none, (.seq #[(.bool true)] (nat_lit 0)), #[]⟩) ::
  ((nat_lit 905), ⟨(.type "code"), none, (.fields #[(.str (Str.ofString "declare") (nat_lit 1526)), (.str (Str.ofString "Checker.declare") (nat_lit 1527)), (.str (Str.ofString "/claim/cut.py") (nat_lit 1528)), (.int (805) (nat_lit 0)), (.int (5) (nat_lit 0)), (.int (0) (nat_lit 0)), (.int (0) (nat_lit 0)), (.int (3) (nat_lit 0)), (.ref (nat_lit 900)), (.bool true), (.int (181) (nat_lit 0)), (.ref (nat_lit 901)), .none, (.ref (nat_lit 902)), (.ref (nat_lit 903)), (.ref (nat_lit 904)), (.int (1535) (nat_lit 0)), (.int (805) (nat_lit 0)), (.str (Str.ofString "/claim/cut.py") (nat_lit 1536))]), #[]⟩) ::
  ((nat_lit 906), ⟨(.type "function"), none, (.func ⟨(Str.ofString "declare"), (Str.ofString "Checker.declare"), (fdIn (nat_lit 104) (nat_lit 10)).params, .stmts (fdIn (nat_lit 104) (nat_lit 10)).body, (fdIn (nat_lit 104) (nat_lit 10)).scope, (nat_lit 3), [], (.ref (nat_lit 899)), .none, .none, (.str (Str.ofString "chancore.check_state") (nat_lit 1414)), none, (.ref (nat_lit 905)), .none, (nat_lit 0)⟩), #[]⟩) ::
  ((nat_lit 912), ⟨(.type "code"), none, (.fields #[(.str (Str.ofString "own_local") (nat_lit 1538)), (.str (Str.ofString "Checker.own_local") (nat_lit 1539)), (.str (Str.ofString "/claim/cut.py") (nat_lit 1540)), (.int (811) (nat_lit 0)), (.int (3) (nat_lit 0)), (.int (0) (nat_lit 0)), (.int (0) (nat_lit 0)), (.int (3) (nat_lit 0)), (.ref (nat_lit 907)), (.bool true), (.int (181) (nat_lit 0)), (.ref (nat_lit 908)), .none, (.ref (nat_lit 909)), (.ref (nat_lit 910)), (.ref (nat_lit 911)), (.int (1544) (nat_lit 0)), (.int (811) (nat_lit 0)), (.str (Str.ofString "/claim/cut.py") (nat_lit 1545))]), #[]⟩) ::
  ((nat_lit 913), ⟨(.type "function"), none, (.func ⟨(Str.ofString "own_local"), (Str.ofString "Checker.own_local"), (fdIn (nat_lit 104) (nat_lit 11)).params, .stmts (fdIn (nat_lit 104) (nat_lit 11)).body, (fdIn (nat_lit 104) (nat_lit 11)).scope, (nat_lit 3), [], .none, .none, .none, (.str (Str.ofString "chancore.check_state") (nat_lit 1414)), none, (.ref (nat_lit 912)), .none, (nat_lit 0)⟩), #[]⟩) ::
  ((nat_lit 919), ⟨(.type "code"), none, (.fields #[(.str (Str.ofString "begin") (nat_lit 1547)), (.str (Str.ofString "Checker.begin") (nat_lit 1548)), (.str (Str.ofString "/claim/cut.py") (nat_lit 1549)), (.int (814) (nat_lit 0)), (.int (5) (nat_lit 0)), (.int (0) (nat_lit 0)), (.int (0) (nat_lit 0)), (.int (3) (nat_lit 0)), (.ref (nat_lit 914)), (.bool true), (.int (181) (nat_lit 0)), (.ref (nat_lit 915)), .none, (.ref (nat_lit 916)), (.ref (nat_lit 917)), (.ref (nat_lit 918)), (.int (1555) (nat_lit 0)), (.int (814) (nat_lit 0)), (.str (Str.ofString "/claim/cut.py") (nat_lit 1556))]), #[]⟩) ::
  ((nat_lit 920), ⟨(.type "function"), none, (.func ⟨(Str.ofString "begin"), (Str.ofString "Checker.begin"), (fdIn (nat_lit 104) (nat_lit 12)).params, .stmts (fdIn (nat_lit 104) (nat_lit 12)).body, (fdIn (nat_lit 104) (nat_lit 12)).scope, (nat_lit 3), [], .none, .none, .none, (.str (Str.ofString "chancore.check_state") (nat_lit 1414)), none, (.ref (nat_lit 919)), .none, (nat_lit 0)⟩), #[]⟩) ::
  ((nat_lit 926), ⟨(.type "code"), none, (.fields #[(.str (Str.ofString "finished") (nat_lit 1558)), (.str (Str.ofString "Checker.finished") (nat_lit 1559)), (.str (Str.ofString "/claim/cut.py") (nat_lit 1560)), (.int (817) (nat_lit 0)), (.int (2) (nat_lit 0)), (.int (0) (nat_lit 0)), (.int (0) (nat_lit 0)), (.int (3) (nat_lit 0)), (.ref (nat_lit 921)), (.bool true), (.int (181) (nat_lit 0)), (.ref (nat_lit 922)), .none, (.ref (nat_lit 923)), (.ref (nat_lit 924)), (.ref (nat_lit 925)), (.int (1563) (nat_lit 0)), (.int (817) (nat_lit 0)), (.str (Str.ofString "/claim/cut.py") (nat_lit 1564))]), #[]⟩) ::
  ((nat_lit 927), ⟨(.type "function"), none, (.func ⟨(Str.ofString "finished"), (Str.ofString "Checker.finished"), (fdIn (nat_lit 104) (nat_lit 13)).params, .stmts (fdIn (nat_lit 104) (nat_lit 13)).body, (fdIn (nat_lit 104) (nat_lit 13)).scope, (nat_lit 3), [], .none, .none, .none, (.str (Str.ofString "chancore.check_state") (nat_lit 1414)), none, (.ref (nat_lit 926)), .none, (nat_lit 0)⟩), #[]⟩) ::
  ((nat_lit 928), ⟨(.type "tuple"), none, (.seq #[(.str (Str.ofString "captured") (nat_lit 1566)), (.str (Str.ofString "has_result_names") (nat_lit 1567)), (.str (Str.ofString "key") (nat_lit 1568)), (.str (Str.ofString "literals") (nat_lit 1569)), (.str (Str.ofString "locals") (nat_lit 1570)), (.str (Str.ofString "loops") (nat_lit 1571)), (.str (Str.ofString "mentions") (nat_lit 1572)), (.str (Str.ofString "other_panics") (nat_lit 1573)), (.str (Str.ofString "outer") (nat_lit 1574)), (.str (Str.ofString "package") (nat_lit 1575)), (.str (Str.ofString "params") (nat_lit 1576)), (.str (Str.ofString "readers") (nat_lit 1577)), (.str (Str.ofString "result_locals") (nat_lit 1578)), (.str (Str.ofString "results") (nat_lit 1579)), (.str (Str.ofString "run_body") (nat_lit 1580)), (.str (Str.ofString "scope") (nat_lit 1581)), (.str (Str.ofString "world") (nat_lit 1582))] (nat_lit 0)), #[]⟩) ::
  ((nat_lit 929), ⟨(.type "dict"), none, (.dict #[⟨PyData.keyHash P (Str.ofString "__module__"), (.str (Str.ofString "__module__") (nat_lit 1426)), (.str (Str.ofString "chancore.check_state") (nat_lit 1414))⟩, ⟨PyData.keyHash P (Str.ofString "__firstlineno__"), (.str (Str.ofString "__firstlineno__") (nat_lit 1430)), (.int (736) (nat_lit 1429))⟩, ⟨PyData.keyHash P (Str.ofString "__init__"), (.str (Str.ofString "__init__") (nat_lit 1444)), (.ref (nat_lit 832))⟩, ⟨PyData.keyHash P (Str.ofString "expr"), (.str (Str.ofString "expr") (nat_lit 1453)), (.ref (nat_lit 840))⟩, ⟨PyData.keyHash P (Str.ofString "value"), (.str (Str.ofString "value") (nat_lit 1462)), (.ref (nat_lit 848))⟩, ⟨PyData.keyHash P (Str.ofString "value_made"), (.str (Str.ofString "value_made") (nat_lit 1471)), (.ref (nat_lit 855))⟩, ⟨PyData.keyHash P (Str.ofString "typex"), (.str (Str.ofString "typex") (nat_lit 1479)), (.ref (nat_lit 862))⟩, ⟨PyData.keyHash P (Str.ofString "coerce"), (.str (Str.ofString "coerce") (nat_lit 1491)), (.ref (nat_lit 869))⟩, ⟨PyData.keyHash P (Str.ofString "takes_type"), (.str (Str.ofString "takes_type") (nat_lit 1500)), (.ref (nat_lit 876))⟩, ⟨PyData.keyHash P (Str.ofString "open"), (.str (Str.ofString "open") (nat_lit 1507)), (.ref (nat_lit 883))⟩, ⟨PyData.keyHash P (Str.ofString "close"), (.str (Str.ofString "close") (nat_lit 1516)), (.ref (nat_lit 890))⟩, ⟨PyData.keyHash P (Str.ofString "hidden"), (.str (Str.ofString "hidden") (nat_lit 1525)), (.ref (nat_lit 898))⟩, ⟨PyData.keyHash P (Str.ofString "declare"), (.str (Str.ofString "declare") (nat_lit 1537)), (.ref (nat_lit 906))⟩, ⟨PyData.keyHash P (Str.ofString "own_local"), (.str (Str.ofString "own_local") (nat_lit 1546)), (.ref (nat_lit 913))⟩, ⟨PyData.keyHash P (Str.ofString "begin"), (.str (Str.ofString "begin") (nat_lit 1557)), (.ref (nat_lit 920))⟩, ⟨PyData.keyHash P (Str.ofString "finished"), (.str (Str.ofString "finished") (nat_lit 1565)), (.ref (nat_lit 927))⟩, ⟨PyData.keyHash P (Str.ofString "__static_attributes__"), (.str (Str.ofString "__static_attributes__") (nat_lit 1583)), (.ref (nat_lit 928))⟩, ⟨PyData.keyHash P (Str.ofString "__dict__"), (.str (Str.ofString "__dict__") (nat_lit 1585)), (.ref (nat_lit 931))⟩, ⟨PyData.keyHash P (Str.ofString "__weakref__"), (.str (Str.ofString "__weakref__") (nat_lit 1587)), (.ref (nat_lit 932))⟩, ⟨PyData.keyHash P (Str.ofString "__doc__"), (.str (Str.ofString "__doc__") (nat_lit 1588)), .none⟩] (nat_lit 4)), #[]⟩) ::
  ((nat_lit 930), ⟨(.type "type"), none, (.cls { name := Str.ofString "Checker", bases := [Value.type "object"], mro := [Value.ref (nat_lit 930), Value.type "object"],   ns := (nat_lit 929), qualname := Str.ofString "Checker" }), #[none, none, some (.str (Str.ofString "Checker") (nat_lit 1419)), some (.str (Str.ofString "Checker") (nat_lit 1427)), some (.builtin "object.__new__"), some (.bool true)]⟩) ::
  ((nat_lit 931), ⟨(.type "getset_descriptor"), none, (.fields #[(.str (Str.ofString "__dict__") (nat_lit 1584)), (.ref (nat_lit 930)), (.builtin "function.__dict__"), (.builtin "function.__dict__#set")]), #[]⟩) ::
  ((nat_lit 932), ⟨(.type "getset_descriptor"), none, (.fields #[(.str (Str.ofString "__weakref__") (nat_lit 1586)), (.ref (nat_lit 930)), (.builtin "ExceptionGroup.__weakref__"), .none]), #[]⟩) ::
  ((nat_lit 935), ⟨(.type "tuple"), none, (.seq #[] (nat_lit 0)), #[]⟩) ::
  ((nat_lit 936), ⟨(.type "tuple"), none, (.seq #[] (nat_lit 0)), #[]⟩) ::
  ((nat_lit 937), ⟨(.type "tuple"), none, (.seq #[(.str (Str.ofString "func") (nat_lit 1593)), (.ref (nat_lit 935)), (.ref (nat_lit 936)), (.bool false)] (nat_lit 0)), #[]⟩) ::
  ((nat_lit 950), ⟨(.type "code"), none, (.fields #[(.str (Str.ofString "__init__") (nat_lit 1607)), (.str (Str.ofString "NamedRow.__init__") (nat_lit 1608)), (.str (Str.ofString "/claim/cut.py") (nat_lit 1609)), (.int (823) (nat_lit 0)), (.int (5) (nat_lit 0)), (.int (0) (nat_lit 0)), (.int (0) (nat_lit 0)), (.int (3) (nat_lit 0)), (.ref (nat_lit 945)), (.bool true), (.int (181) (nat_lit 0)), (.ref (nat_lit 946)), .none, (.ref (nat_lit 947)), (.ref (nat_lit 948)), (.ref (nat_lit 949)), (.int (1615) (nat_lit 0)), (.int (823) (nat_lit 0)), (.str (Str.ofString "/claim/cut.py") (nat_lit 1616))]), #[]⟩) ::
  ((nat_lit 951), ⟨(.type "function"), none, (.func ⟨(Str.ofString "__init__"), (Str.ofString "NamedRow.__init__"), (fdIn (nat_lit 107) (nat_lit 0)).params, .stmts (fdIn (nat_lit 107) (nat_lit 0)).body, (fdIn (nat_lit 107) (nat_lit 0)).scope, (nat_lit 3), [], .none, .none, .none, (.str (Str.ofString "chancore.world") (nat_lit 1591)), none, (.ref (nat_lit 950)), .none, (nat_lit 0)⟩), #[]⟩) ::
  ((nat_lit 952), ⟨(.type "tuple"), none, (.seq #[(.str (Str.ofString "methods") (nat_lit 1618)), (.str (Str.ofString "package") (nat_lit 1619)), (.str (Str.ofString "path") (nat_lit 1620)), (.str (Str.ofString "underlying") (nat_lit 1621))] (nat_lit 0)), #[]⟩) ::
  ((nat_lit 953), ⟨(.type "dict"), none, (.dict #[⟨PyData.keyHash P (Str.ofString "__module__"), (.str (Str.ofString "__module__") (nat_lit 1602)), (.str (Str.ofString "chancore.world") (nat_lit 1591))⟩, ⟨PyData.keyHash P (Str.ofString "__firstlineno__"), (.str (Str.ofString "__firstlineno__") (nat_lit 1606)), (.int (821) (nat_lit 1605))⟩, ⟨PyData.keyHash P (Str.ofString "__init__"), (.str (Str.ofString "__init__") (nat_lit 1617)), (.ref (nat_lit 951))⟩, ⟨PyData.keyHash P (Str.ofString "__static_attributes__"), (.str (Str.ofString "__static_attributes__") (nat_lit 1622)), (.ref (nat_lit 952))⟩, ⟨PyData.keyHash P (Str.ofString "__dict__"), (.str (Str.ofString "__dict__") (nat_lit 1624)), (.ref (nat_lit 955))⟩, ⟨PyData.keyHash P (Str.ofString "__weakref__"), (.str (Str.ofString "__weakref__") (nat_lit 1626)), (.ref (nat_lit 956))⟩, ⟨PyData.keyHash P (Str.ofString "__doc__"), (.str (Str.ofString "__doc__") (nat_lit 1627)), .none⟩] (nat_lit 4)), #[]⟩) ::
  ((nat_lit 954), ⟨(.type "type"), none, (.cls { name := Str.ofString "NamedRow", bases := [Value.type "object"], mro := [Value.ref (nat_lit 954), Value.type "object"],   ns := (nat_lit 953), qualname := Str.ofString "NamedRow" }), #[none, none, some (.str (Str.ofString "NamedRow") (nat_lit 1595)), some (.str (Str.ofString "NamedRow") (nat_lit 1603)), some (.builtin "object.__new__"), some (.bool true)]⟩) ::
  ((nat_lit 955), ⟨(.type "getset_descriptor"), none, (.fields #[(.str (Str.ofString "__dict__") (nat_lit 1623)), (.ref (nat_lit 954)), (.builtin "function.__dict__"), (.builtin "function.__dict__#set")]), #[]⟩) ::
  ((nat_lit 956), ⟨(.type "getset_descriptor"), none, (.fields #[(.str (Str.ofString "__weakref__") (nat_lit 1625)), (.ref (nat_lit 954)), (.builtin "ExceptionGroup.__weakref__"), .none]), #[]⟩) ::
  ((nat_lit 964), ⟨(.type "code"), none, (.fields #[(.str (Str.ofString "known_rows") (nat_lit 1630)), (.str (Str.ofString "known_rows") (nat_lit 1631)), (.str (Str.ofString "/claim/cut.py") (nat_lit 1632)), (.int (828) (nat_lit 0)), (.int (0) (nat_lit 0)), (.int (0) (nat_lit 0)), (.int (0) (nat_lit 0)), (.int (3) (nat_lit 0)), (.ref (nat_lit 959)), (.bool true), (.int (181) (nat_lit 0)), (.ref (nat_lit 960)), .none, (.ref (nat_lit 961)), (.ref (nat_lit 962)), (.ref (nat_lit 963)), (.int (1640) (nat_lit 0)), (.int (828) (nat_lit 0)), (.str (Str.ofString "/claim/cut.py") (nat_lit 1641))]), #[]⟩) ::
  ((nat_lit 965), ⟨(.type "function"), none, (.func ⟨(Str.ofString "known_rows"), (Str.ofString "known_rows"), (fdTop (nat_lit 108)).params, .stmts (fdTop (nat_lit 108)).body, (fdTop (nat_lit 108)).scope, (nat_lit 3), [], .none, .none, .none, (.str (Str.ofString "chancore.world") (nat_lit 1591)), none, (.ref (nat_lit 964)), .none, (nat_lit 0)⟩), #[]⟩) ::
  ((nat_lit 973), ⟨(.type "tuple"), none, (.seq #[.none] (nat_lit 0)), #[]⟩) ::
  ((nat_lit 979), ⟨(.type "code"), none, (.fields #[(.str (Str.ofString "__init__") (nat_lit 1655)), (.str (Str.ofString "World.__init__") (nat_lit 1656)), (.str (Str.ofString "/claim/cut.py") (nat_lit 1657)), (.int (839) (nat_lit 0)), (.int (2) (nat_lit 0)), (.int (0) (nat_lit 0)), (.int (0) (nat_lit 0)), (.int (3) (nat_lit 0)), (.ref (nat_lit 974)), (.bool true), (.int (181) (nat_lit 0)), (.ref (nat_lit 975)), .none, (.ref (nat_lit 976)), (.ref (nat_lit 977)), (.ref (nat_lit 978)), (.int (1660) (nat_lit 0)), (.int (839) (nat_lit 0)), (.str (Str.ofString "/claim/cut.py") (nat_lit 1661))]), #[]⟩) ::
  ((nat_lit 980), ⟨(.type "function"), none, (.func ⟨(Str.ofString "__init__"), (Str.ofString "World.__init__"), (fdIn (nat_lit 109) (nat_lit 0)).params, .stmts (fdIn (nat_lit 109) (nat_lit 0)).body, (fdIn (nat_lit 109) (nat_lit 0)).scope, (nat_lit 3), [], (.ref (nat_lit 973)), .none, .none, (.str (Str.ofString "chancore.world") (nat_lit 1591)), none, (.ref (nat_lit 979)), .none, (nat_lit 0)⟩), #[]⟩) ::
  ((nat_lit 986), ⟨(.type "code"), none, (.fields #[(.str (Str.ofString "base_of") (nat_lit 1663)), (.str (Str.ofString "World.base_of") (nat_lit 1664)), (.str (Str.ofString "/claim/cut.py") (nat_lit 1665)), (.int (861) (nat_lit 0)), (.int (2) (nat_lit 0)), (.int (0) (nat_lit 0)), (.int (0) (nat_lit 0)), (.int (3) (nat_lit 0)), (.ref (nat_lit 981)), (.bool true), (.int (181) (nat_lit 0)), (.ref (nat_lit 982)), .none, (.ref (nat_lit 983)), (.ref (nat_lit 984)), (.ref (nat_lit 985)), (.int (1669) (nat_lit 0)), (.int (861) (nat_lit 0)), (.str (Str.ofString "/claim/cut.py") (nat_lit 1670))]), #[]⟩) ::
  ((nat_lit 987), ⟨(.type "function"), none, (.func ⟨(Str.ofString "base_of"), (Str.ofString "World.base_of"), (fdIn (nat_lit 109) (nat_lit 1)).params, .stmts (fdIn (nat_lit 109) (nat_lit 1)).body, (fdIn (nat_lit 109) (nat_lit 1)).scope, (nat_lit 3), [], .none, .none, .none, (.str (Str.ofString "chancore.world") (nat_lit 1591)), none, (.ref (nat_lit 986)), .none, (nat_lit 0)⟩), #[]⟩) ::
  ((nat_lit 993), ⟨(.type "code"), none, (.fields #[(.str (Str.ofString "settled") (nat_lit 1672)), (.str (Str.ofString "World.settled") (nat_lit 1673)), (.str (Str.ofString "/claim/cut.py") (nat_lit 1674)), (.int (873) (nat_lit 0)), (.int (2) (nat_lit 0)), (.int (0) (nat_lit 0)), (.int (0) (nat_lit 0)), (.int (3) (nat_lit 0)), (.ref (nat_lit 988)), (.bool true), (.int (181) (nat_lit 0)), (.ref (nat_lit 989)), .none, (.ref (nat_lit 990)), (.ref (nat_lit 991)), (.ref (nat_lit 992)), (.int (1677) (nat_lit 0)), (.int (873) (nat_lit 0)), (.str (Str.ofString "/claim/cut.py") (nat_lit 1678))]), #[]⟩) ::
  ((nat_lit 994), ⟨(.type "function"), none, (.func ⟨(Str.ofString "settled"), (Str.ofString "World.settled"), (fdIn (nat_lit 109) (nat_lit 2)).params, .stmts (fdIn (nat_lit 109) (nat_lit 2)).body, (fdIn (nat_lit 109) (nat_lit 2)).scope, (nat_lit 3), [], .none, .none, .none, (.str (Str.ofString "chancore.world") (nat_lit 1591)), none, (.ref (nat_lit 993)), .none, (nat_lit 0)⟩), #[]⟩) ::
  ((nat_lit 995), ⟨(.type "tuple"), none, (.seq #[(.str (Str.ofString "bodies") (nat_lit 1680)), (.str (Str.ofString "consts") (nat_lit 1681)), (.str (Str.ofString "files") (nat_lit 1682)), (.str (Str.ofString "funcs") (nat_lit 1683)), (.str (Str.ofString "globals") (nat_lit 1684)), (.str (Str.ofString "inits") (nat_lit 1685)), (.str (Str.ofString "is_whole") (nat_lit 1686)), (.str (Str.ofString "late_keys") (nat_lit 1687)), (.str (Str.ofString "late_parts") (nat_lit 1688)), (.str (Str.ofString "late_sizes") (nat_lit 1689)), (.str (Str.ofString "measured") (nat_lit 1690)), (.str (Str.ofString "mentions") (nat_lit 1691)), (.str (Str.ofString "named") (nat_lit 1692)), (.str (Str.ofString "order") (nat_lit 1693)), (.str (Str.ofString "packages") (nat_lit 1694)), (.str (Str.ofString "scopes") (nat_lit 1695)), (.str (Str.ofString "settle") (nat_lit 1696)), (.str (Str.ofString "starts") (nat_lit 1697)), (.str (Str.ofString "values") (nat_lit 1698)), (.str (Str.ofString "want") (nat_lit 1699))] (nat_lit 0)), #[]⟩) ::
  ((nat_lit 996), ⟨(.type "dict"), none, (.dict #[⟨PyData.keyHash P (Str.ofString "__module__"), (.str (Str.ofString "__module__") (nat_lit 1650)), (.str (Str.ofString "chancore.world") (nat_lit 1591))⟩, ⟨PyData.keyHash P (Str.ofString "__firstlineno__"), (.str (Str.ofString "__firstlineno__") (nat_lit 1654)), (.int (837) (nat_lit 1653))⟩, ⟨PyData.keyHash P (Str.ofString "__init__"), (.str (Str.ofString "__init__") (nat_lit 1662)), (.ref (nat_lit 980))⟩, ⟨PyData.keyHash P (Str.ofString "base_of"), (.str (Str.ofString "base_of") (nat_lit 1671)), (.ref (nat_lit 987))⟩, ⟨PyData.keyHash P (Str.ofString "settled"), (.str (Str.ofString "settled") (nat_lit 1679)), (.ref (nat_lit 994))⟩, ⟨PyData.keyHash P (Str.ofString "__static_attributes__"), (.str (Str.ofString "__static_attributes__") (nat_lit 1700)), (.ref (nat_lit 995))⟩, ⟨PyData.keyHash P (Str.ofString "__dict__"), (.str (Str.ofString "__dict__") (nat_lit 1702)), (.ref (nat_lit 998))⟩, ⟨PyData.keyHash P (Str.ofString "__weakref__"), (.str (Str.ofString "__weakref__") (nat_lit 1704)), (.ref (nat_lit 999))⟩, ⟨PyData.keyHash P (Str.ofString "__doc__"), (.str (Str.ofString "__doc__") (nat_lit 1705)), .none⟩] (nat_lit 4)), #[]⟩) ::
  ((nat_lit 997), ⟨(.type "type"), none, (.cls { name := Str.ofString "World", bases := [Value.type "object"], mro := [Value.ref (nat_lit 997), Value.type "object"], ns := (nat_lit 996),   qualname := Str.ofString "World" }), #[none, none, some (.str (Str.ofString "World") (nat_lit 1643)), some (.str (Str.ofString "World") (nat_lit 1651)), some (.builtin "object.__new__"), some (.bool true)]⟩) ::
  ((nat_lit 998), ⟨(.type "getset_descriptor"), none, (.fields #[(.str (Str.ofString "__dict__") (nat_lit 1701)), (.ref (nat_lit 997)), (.builtin "function.__dict__"), (.builtin "function.__dict__#set")]), #[]⟩) ::
  ((nat_lit 999), ⟨(.type "getset_descriptor"), none, (.fields #[(.str (Str.ofString "__weakref__") (nat_lit 1703)), (.ref (nat_lit 997)), (.builtin "ExceptionGroup.__weakref__"), .none]), #[]⟩) ::
  ((nat_lit 1007), ⟨(.type "code"), none, (.fields #[(.str (Str.ofString "_law_reel") (nat_lit 1710)), (.str (Str.ofString "_law_reel") (nat_lit 1711)), (.str (Str.ofString "/claim/cut.py") (nat_lit 1712)), (.int (878) (nat_lit 0)), (.int (1) (nat_lit 0)), (.int (0) (nat_lit 0)), (.int (0) (nat_lit 0)), (.int (3) (nat_lit 0)), (.ref (nat_lit 1002)), (.bool true), (.int (181) (nat_lit 0)), (.ref (nat_lit 1003)), .none, (.ref (nat_lit 1004)), (.ref (nat_lit 1005)), (.ref (nat_lit 1006)), (.int (1716) (nat_lit 0)), (.int (878) (nat_lit 0)), (.str (Str.ofString "/claim/cut.py") (nat_lit 1717))]), #[]⟩) ::
  ((nat_lit 1008), ⟨(.type "function"), none, (.func ⟨(Str.ofString "_law_reel"), (Str.ofString "_law_reel"), (fdTop (nat_lit 111)).params, .stmts (fdTop (nat_lit 111)).body, (fdTop (nat_lit 111)).scope, (nat_lit 3), [], .none, .none, .none, (.str (Str.ofString "law_xm0190_01") (nat_lit 1708)), none, (.ref (nat_lit 1007)), .none, (nat_lit 0)⟩), #[]⟩) ::
  ((nat_lit 1014), ⟨(.type "code"), none, (.fields #[(.str (Str.ofString "_law_wound") (nat_lit 1719)), (.str (Str.ofString "_law_wound") (nat_lit 1720)), (.str (Str.ofString "/claim/cut.py") (nat_lit 1721)), (.int (882) (nat_lit 0)), (.int (2) (nat_lit 0)), (.int (0) (nat_lit 0)), (.int (0) (nat_lit 0)), (.int (3) (nat_lit 0)), (.ref (nat_lit 1009)), (.bool true), (.int (181) (nat_lit 0)), (.ref (nat_lit 1010)), .none, (.ref (nat_lit 1011)), (.ref (nat_lit 1012)), (.ref (nat_lit 1013)), (.int (1725) (nat_lit 0)), (.int (882) (nat_lit 0)), (.str (Str.ofString "/claim/cut.py") (nat_lit 1726))]), #[]⟩) ::
  ((nat_lit 1015), ⟨(.type "function"), none, (.func ⟨(Str.ofString "_law_wound"), (Str.ofString "_law_wound"), (fdTop (nat_lit 112)).params, .stmts (fdTop (nat_lit 112)).body, (fdTop (nat_lit 112)).scope, (nat_lit 3), [], .none, .none, .none, (.str (Str.ofString "law_xm0190_01") (nat_lit 1708)), none, (.ref (nat_lit 1014)), .none, (nat_lit 0)⟩), #[]⟩) ::
  ((nat_lit 1021), ⟨(.type "code"), none, (.fields #[(.str (Str.ofString "_law_one") (nat_lit 1728)), (.str (Str.ofString "_law_one") (nat_lit 1729)), (.str (Str.ofString "/claim/cut.py") (nat_lit 1730)), (.int (889) (nat_lit 0)), (.int (2) (nat_lit 0)), (.int (0) (nat_lit 0)), (.int (0) (nat_lit 0)), (.int (3) (nat_lit 0)), (.ref (nat_lit 1016)), (.bool true), (.int (181) (nat_lit 0)), (.ref (nat_lit 1017)), .none, (.ref (nat_lit 1018)), (.ref (nat_lit 1019)), (.ref (nat_lit 1020)), (.int (1733) (nat_lit 0)), (.int (889) (nat_lit 0)), (.str (Str.ofString "/claim/cut.py") (nat_lit 1734))]), #[]⟩) ::
  ((nat_lit 1022), ⟨(.type "function"), none, (.func ⟨(Str.ofString "_law_one"), (Str.ofString "_law_one"), (fdTop (nat_lit 113)).params, .stmts (fdTop (nat_lit 113)).body, (fdTop (nat_lit 113)).scope, (nat_lit 3), [], .none, .none, .none, (.str (Str.ofString "law_xm0190_01") (nat_lit 1708)), none, (.ref (nat_lit 1021)), .none, (nat_lit 0)⟩), #[]⟩) ::
  ((nat_lit 1028), ⟨(.type "code"), none, (.fields #[(.str (Str.ofString "_law_tried") (nat_lit 1736)), (.str (Str.ofString "_law_tried") (nat_lit 1737)), (.str (Str.ofString "/claim/cut.py") (nat_lit 1738)), (.int (891) (nat_lit 0)), (.int (1) (nat_lit 0)), (.int (0) (nat_lit 0)), (.int (0) (nat_lit 0)), (.int (3) (nat_lit 0)), (.ref (nat_lit 1023)), (.bool true), (.int (181) (nat_lit 0)), (.ref (nat_lit 1024)), .none, (.ref (nat_lit 1025)), (.ref (nat_lit 1026)), (.ref (nat_lit 1027)), (.int (1741) (nat_lit 0)), (.int (891) (nat_lit 0)), (.str (Str.ofString "/claim/cut.py") (nat_lit 1742))]), #[]⟩) ::
  ((nat_lit 1029), ⟨(.type "function"), none, (.func ⟨(Str.ofString "_law_tried"), (Str.ofString "_law_tried"), (fdTop (nat_lit 114)).params, .stmts (fdTop (nat_lit 114)).body, (fdTop (nat_lit 114)).scope, (nat_lit 3), [], .none, .none, .none, (.str (Str.ofString "law_xm0190_01") (nat_lit 1708)), none, (.ref (nat_lit 1028)), .none, (nat_lit 0)⟩), #[]⟩) ::
  ((nat_lit 1035), ⟨(.type "code"), none, (.fields #[(.str (Str.ofString "_law_read_told") (nat_lit 1744)), (.str (Str.ofString "_law_read_told") (nat_lit 1745)), (.str (Str.ofString "/claim/cut.py") (nat_lit 1746)), (.int (900) (nat_lit 0)), (.int (3) (nat_lit 0)), (.int (0) (nat_lit 0)), (.int (0) (nat_lit 0)), (.int (3) (nat_lit 0)), (.ref (nat_lit 1030)), (.bool true), (.int (181) (nat_lit 0)), (.ref (nat_lit 1031)), .none, (.ref (nat_lit 1032)), (.ref (nat_lit 1033)), (.ref (nat_lit 1034)), (.int (1750) (nat_lit 0)), (.int (900) (nat_lit 0)), (.str (Str.ofString "/claim/cut.py") (nat_lit 1751))]), #[]⟩) ::
  ((nat_lit 1036), ⟨(.type "function"), none, (.func ⟨(Str.ofString "_law_read_told"), (Str.ofString "_law_read_told"), (fdTop (nat_lit 115)).params, .stmts (fdTop (nat_lit 115)).body, (fdTop (nat_lit 115)).scope, (nat_lit 3), [], .none, .none, .none, (.str (Str.ofString "law_xm0190_01") (nat_lit 1708)), none, (.ref (nat_lit 1035)), .none, (nat_lit 0)⟩), #[]⟩) ::
  ((nat_lit 1042), ⟨(.type "code"), none, (.fields #[(.str (Str.ofString "_law_checker") (nat_lit 1753)), (.str (Str.ofString "_law_checker") (nat_lit 1754)), (.str (Str.ofString "/claim/cut.py") (nat_lit 1755)), (.int (902) (nat_lit 0)), (.int (0) (nat_lit 0)), (.int (0) (nat_lit 0)), (.int (0) (nat_lit 0)), (.int (3) (nat_lit 0)), (.ref (nat_lit 1037)), (.bool true), (.int (181) (nat_lit 0)), (.ref (nat_lit 1038)), .none, (.ref (nat_lit 1039)), (.ref (nat_lit 1040)), (.ref (nat_lit 1041)), (.int (1758) (nat_lit 0)), (.int (902) (nat_lit 0)), (.str (Str.ofString "/claim/cut.py") (nat_lit 1759))]), #[]⟩) ::
  ((nat_lit 1043), ⟨(.type "function"), none, (.func ⟨(Str.ofString "_law_checker"), (Str.ofString "_law_checker"), (fdTop (nat_lit 116)).params, .stmts (fdTop (nat_lit 116)).body, (fdTop (nat_lit 116)).scope, (nat_lit 3), [], .none, .none, .none, (.str (Str.ofString "law_xm0190_01") (nat_lit 1708)), none, (.ref (nat_lit 1042)), .none, (nat_lit 0)⟩), #[]⟩) ::
  ((nat_lit 1049), ⟨(.type "code"), none, (.fields #[(.str (Str.ofString "_law_type_right") (nat_lit 1761)), (.str (Str.ofString "_law_type_right") (nat_lit 1762)), (.str (Str.ofString "/claim/cut.py") (nat_lit 1763)), (.int (908) (nat_lit 0)), (.int (2) (nat_lit 0)), (.int (0) (nat_lit 0)), (.int (0) (nat_lit 0)), (.int (3) (nat_lit 0)), (.ref (nat_lit 1044)), (.bool true), (.int (181) (nat_lit 0)), (.ref (nat_lit 1045)), .none, (.ref (nat_lit 1046)), (.ref (nat_lit 1047)), (.ref (nat_lit 1048)), (.int (1774) (nat_lit 0)), (.int (908) (nat_lit 0)), (.str (Str.ofString "/claim/cut.py") (nat_lit 1775))]), #[]⟩) ::
  ((nat_lit 1050), ⟨(.type "function"), none, (.func ⟨(Str.ofString "_law_type_right"), (Str.ofString "_law_type_right"), (fdTop (nat_lit 117)).params, .stmts (fdTop (nat_lit 117)).body, (fdTop (nat_lit 117)).scope, (nat_lit 3), [], .none, .none, .none, (.str (Str.ofString "law_xm0190_01") (nat_lit 1708)), none, (.ref (nat_lit 1049)), .none, (nat_lit 0)⟩), #[]⟩) ::
  ((nat_lit 1054), ⟨(.type "code"), none, (.fields #[(.str (Str.ofString "_law_places_right") (nat_lit 1777)), (.str (Str.ofString "_law_places_right") (nat_lit 1778)), (.str (Str.ofString "/claim/cut.py") (nat_lit 1779)), (.int (915) (nat_lit 0)), (.int (2) (nat_lit 0)), (.int (0) (nat_lit 0)), (.int (0) (nat_lit 0)), (.int (3) (nat_lit 0)), (.ref (nat_lit 1051)), (.bool true), (.int (181) (nat_lit 0)), (.ref (nat_lit 1052)), .none, .none, .none, (.ref (nat_lit 1053)), (.int (1780) (nat_lit 0)), (.int (915) (nat_lit 0)), (.str (Str.ofString "/claim/cut.py") (nat_lit 1781))]), #[]⟩) ::
  ((nat_lit 1055), ⟨(.type "function"), none, (.func ⟨(Str.ofString "_law_places_right"), (Str.ofString "_law_places_right"), (fdTop (nat_lit 118)).params, .stmts (fdTop (nat_lit 118)).body, (fdTop (nat_lit 118)).scope, (nat_lit 3), [], .none, .none, .none, (.str (Str.ofString "law_xm0190_01") (nat_lit 1708)), none, (.ref (nat_lit 1054)), .none, (nat_lit 0)⟩), #[]⟩) ::
  ((nat_lit 1061), ⟨(.type "code"), none, (.fields #[(.str (Str.ofString "_law_place_right") (nat_lit 1783)), (.str (Str.ofString "_law_place_right") (nat_lit 1784)), (.str (Str.ofString "/claim/cut.py") (nat_lit 1785)), (.int (931) (nat_lit 0)), (.int (2) (nat_lit 0)), (.int (0) (nat_lit 0)), (.int (0) (nat_lit 0)), (.int (3) (nat_lit 0)), (.ref (nat_lit 1056)), (.bool true), (.int (181) (nat_lit 0)), (.ref (nat_lit 1057)), .none, (.ref (nat_lit 1058)), (.ref (nat_lit 1059)), (.ref (nat_lit 1060)), (.int (1794) (nat_lit 0)), (.int (931) (nat_lit 0)), (.str (Str.ofString "/claim/cut.py") (nat_lit 1795))]), #[]⟩) ::
  ((nat_lit 1062), ⟨(.type "function"), none, (.func ⟨(Str.ofString "_law_place_right"), (Str.ofString "_law_place_right"), (fdTop (nat_lit 119)).params, .stmts (fdTop (nat_lit 119)).body, (fdTop (nat_lit 119)).scope, (nat_lit 3), [], .none, .none, .none, (.str (Str.ofString "law_xm0190_01") (nat_lit 1708)), none, (.ref (nat_lit 1061)), .none, (nat_lit 0)⟩), #[]⟩) ::
  ((nat_lit 1068), ⟨(.type "code"), none, (.fields #[(.str (Str.ofString "_law_constant_right") (nat_lit 1797)), (.str (Str.ofString "_law_constant_right") (nat_lit 1798)), (.str (Str.ofString "/claim/cut.py") (nat_lit 1799)), (.int (938) (nat_lit 0)), (.int (1) (nat_lit 0)), (.int (0) (nat_lit 0)), (.int (0) (nat_lit 0)), (.int (3) (nat_lit 0)), (.ref (nat_lit 1063)), (.bool true), (.int (181) (nat_lit 0)), (.ref (nat_lit 1064)), .none, (.ref (nat_lit 1065)), (.ref (nat_lit 1066)), (.ref (nat_lit 1067)), (.int (1805) (nat_lit 0)), (.int (938) (nat_lit 0)), (.str (Str.ofString "/claim/cut.py") (nat_lit 1806))]), #[]⟩) ::
  ((nat_lit 1069), ⟨(.type "function"), none, (.func ⟨(Str.ofString "_law_constant_right"), (Str.ofString "_law_constant_right"), (fdTop (nat_lit 120)).params, .stmts (fdTop (nat_lit 120)).body, (fdTop (nat_lit 120)).scope, (nat_lit 3), [], .none, .none, .none, (.str (Str.ofString "law_xm0190_01") (nat_lit 1708)), none, (.ref (nat_lit 1068)), .none, (nat_lit 0)⟩), #[]⟩) ::
  ((nat_lit 1075), ⟨(.type "code"), none, (.fields #[(.str (Str.ofString "law") (nat_lit 1808)), (.str (Str.ofString "law") (nat_lit 1809)), (.str (Str.ofString "/claim/cut.py") (nat_lit 1810)), (.int (945) (nat_lit 0)), (.int (1) (nat_lit 0)), (.int (0) (nat_lit 0)), (.int (0) (nat_lit 0)), (.int (3) (nat_lit 0)), (.ref (nat_lit 1070)), (.bool true), (.int (181) (nat_lit 0)), (.ref (nat_lit 1071)), .none, (.ref (nat_lit 1072)), (.ref (nat_lit 1073)), (.ref (nat_lit 1074)), (.int (1819) (nat_lit 0)), (.int (945) (nat_lit 0)), (.str (Str.ofString "/claim/cut.py") (nat_lit 1820))]), #[]⟩) ::
  ((nat_lit 1076), ⟨(.type "function"), none, (.func ⟨(Str.ofString "law"), (Str.ofString "law"), (fdTop (nat_lit 121)).params, .stmts (fdTop (nat_lit 121)).body, (fdTop (nat_lit 121)).scope, (nat_lit 3), [], .none, .none, .none, (.str (Str.ofString "law_xm0190_01") (nat_lit 1708)), none, (.ref (nat_lit 1075)), .none, (nat_lit 0)⟩), #[]⟩) :: []

end
open PySem.W in
theorem fillIt : (PySem.Challenge.rw_xm0190_01 = PySem.Challenge.rw_xm0190_01) ∧ Mine.Kb = Mine.Kb := by
  k_fill
  exact ⟨rfl, rfl⟩
-- MID
section
open PySem PySem.W PyProof.Rows PySem.Calls
noncomputable def treeM (P : Params) : BT :=
(.node (boot_o_0 P)
(.node (boot_o_1 P)
(.node ⟨(.type "dict"), none, (.dict (List.toArray (⟨PyData.keyHash P (Str.ofString "__name__"), (.str (Str.ofString "__name__") (nat_lit 165)), (.str (Str.ofString "chancore.consts") (nat_lit 780))⟩ :: ⟨PyData.keyHash P (Str.ofString "__doc__"), (.str (Str.ofString "__doc__") (nat_lit 166)), .none⟩ :: ⟨PyData.keyHash P (Str.ofString "__package__"), (.str (Str.ofString "__package__") (nat_lit 167)), .none⟩ :: ⟨PyData.keyHash P (Str.ofString "__loader__"), (.str (Str.ofString "__loader__") (nat_lit 168)), (.builtin "__main__.__loader__#opaque")⟩ :: ⟨PyData.keyHash P (Str.ofString "__spec__"), (.str (Str.ofString "__spec__") (nat_lit 169)), .none⟩ :: ⟨PyData.keyHash P (Str.ofString "__annotations__"), (.str (Str.ofString "__annotations__") (nat_lit 170)), (.ref (nat_lit 6))⟩ :: ⟨PyData.keyHash P (Str.ofString "__builtins__"), (.str (Str.ofString "__builtins__") (nat_lit 171)), (.ref (nat_lit 4))⟩ :: ⟨PyData.keyHash P (Str.ofString "__file__"), (.str (Str.ofString "__file__") (nat_lit 173)), (.str (Str.ofString "/claim/cut.py") (nat_lit 172))⟩ :: ⟨PyData.keyHash P (Str.ofString "__cached__"), (.str (Str.ofString "__cached__") (nat_lit 174)), .none⟩ :: ⟨PyData.keyHash P (Str.ofString "_wall"), (.str (Str.ofString "_wall") (nat_lit 193)), (.ref (nat_lit 21))⟩ :: ⟨PyData.keyHash P (Str.ofString "is_exported"), (.str (Str.ofString "is_exported") (nat_lit 202)), (.ref (nat_lit 28))⟩ :: ⟨PyData.keyHash P (Str.ofString "is_hidden"), (.str (Str.ofString "is_hidden") (nat_lit 212)), (.ref (nat_lit 35))⟩ :: ⟨PyData.keyHash P (Str.ofString "ChanError"), (.str (Str.ofString "ChanError") (nat_lit 246)), (.ref (nat_lit 53))⟩ :: ⟨PyData.keyHash P (Str.ofString "NameFault"), (.str (Str.ofString "NameFault") (nat_lit 262)), (.ref (nat_lit 66))⟩ :: ⟨PyData.keyHash P (Str.ofString "TypeFault"), (.str (Str.ofString "TypeFault") (nat_lit 278)), (.ref (nat_lit 78))⟩ :: ⟨PyData.keyHash P (Str.ofString "ConstFault"), (.str (Str.ofString "ConstFault") (nat_lit 294)), (.ref (nat_lit 90))⟩ :: ⟨PyData.keyHash P (Str.ofString "FlowFault"), (.str (Str.ofString "FlowFault") (nat_lit 310)), (.ref (nat_lit 102))⟩ :: ⟨PyData.keyHash P (Str.ofString "MAIN"), (.str (Str.ofString "MAIN") (nat_lit 314)), (.str (Str.ofString "main") (nat_lit 313))⟩ :: ⟨PyData.keyHash P (Str.ofString "Reached"), (.str (Str.ofString "Reached") (nat_lit 347)), (.ref (nat_lit 122))⟩ :: ⟨PyData.keyHash P (Str.ofString "own_name"), (.str (Str.ofString "own_name") (nat_lit 356)), (.ref (nat_lit 133))⟩ :: ⟨PyData.keyHash P (Str.ofString "without_pointer"), (.str (Str.ofString "without_pointer") (nat_lit 363)), (.ref (nat_lit 140))⟩ :: ⟨PyData.keyHash P (Str.ofString "own_methods"), (.str (Str.ofString "own_methods") (nat_lit 371)), (.ref (nat_lit 147))⟩ :: ⟨PyData.keyHash P (Str.ofString "members_at"), (.str (Str.ofString "members_at") (nat_lit 377)), (.ref (nat_lit 152))⟩ :: ⟨PyData.keyHash P (Str.ofString "embedded_in"), (.str (Str.ofString "embedded_in") (nat_lit 391)), (.ref (nat_lit 159))⟩ :: ⟨PyData.keyHash P (Str.ofString "Levels"), (.str (Str.ofString "Levels") (nat_lit 433)), (.ref (nat_lit 183))⟩ :: ⟨PyData.keyHash P (Str.ofString "start_type"), (.str (Str.ofString "start_type") (nat_lit 443)), (.ref (nat_lit 194))⟩ :: ⟨PyData.keyHash P (Str.ofString "find_member"), (.str (Str.ofString "find_member") (nat_lit 457)), (.ref (nat_lit 201))⟩ :: ⟨PyData.keyHash P (Str.ofString "SYNC_TYPES"), (.str (Str.ofString "SYNC_TYPES") (nat_lit 462)), (.ref (nat_lit 202))⟩ :: ⟨PyData.keyHash P (Str.ofString "MOST_LENGTH"), (.str (Str.ofString "MOST_LENGTH") (nat_lit 466)), (.int (1048576) (nat_lit 465))⟩ :: ⟨PyData.keyHash P (Str.ofString "MOST_PARTS"), (.str (Str.ofString "MOST_PARTS") (nat_lit 468)), (.int (2000) (nat_lit 467))⟩ :: ⟨PyData.keyHash P (Str.ofString "MOST_LEVELS"), (.str (Str.ofString "MOST_LEVELS") (nat_lit 470)), (.int (100) (nat_lit 469))⟩ :: ⟨PyData.keyHash P (Str.ofString "type_entry"), (.str (Str.ofString "type_entry") (nat_lit 484)), (.ref (nat_lit 210))⟩ :: ⟨PyData.keyHash P (Str.ofString "exported_entry"), (.str (Str.ofString "exported_entry") (nat_lit 495)), (.ref (nat_lit 218))⟩ :: ⟨PyData.keyHash P (Str.ofString "want_few_parts"), (.str (Str.ofString "want_few_parts") (nat_lit 501)), (.ref (nat_lit 223))⟩ :: ⟨PyData.keyHash P (Str.ofString "TypeReader"), (.str (Str.ofString "TypeReader") (nat_lit 600)), (.ref (nat_lit 285))⟩ :: ⟨PyData.keyHash P (Str.ofString "TEXT"), (.str (Str.ofString "TEXT") (nat_lit 604)), (.ref (nat_lit 290))⟩ :: ⟨PyData.keyHash P (Str.ofString "TRUTH"), (.str (Str.ofString "TRUTH") (nat_lit 606)), (.ref (nat_lit 291))⟩ :: ⟨PyData.keyHash P (Str.ofString "WHOLE"), (.str (Str.ofString "WHOLE") (nat_lit 609)), (.ref (nat_lit 292))⟩ :: ⟨PyData.keyHash P (Str.ofString "RUNE"), (.str (Str.ofString "RUNE") (nat_lit 612)), (.ref (nat_lit 293))⟩ :: ⟨PyData.keyHash P (Str.ofString "NIL"), (.str (Str.ofString "NIL") (nat_lit 614)), (.ref (nat_lit 294))⟩ :: ⟨PyData.keyHash P (Str.ofString "UNTYPED_DEFAULTS"), (.str (Str.ofString "UNTYPED_DEFAULTS") (nat_lit 623)), (.ref (nat_lit 295))⟩ :: ⟨PyData.keyHash P (Str.ofString "NILABLE"), (.str (Str.ofString "NILABLE") (nat_lit 630)), (.ref (nat_lit 296))⟩ :: ⟨PyData.keyHash P (Str.ofString "joined_texts"), (.str (Str.ofString "joined_texts") (nat_lit 636)), (.ref (nat_lit 301))⟩ :: ⟨PyData.keyHash P (Str.ofString "signature_text"), (.str (Str.ofString "signature_text") (nat_lit 642)), (.ref (nat_lit 306))⟩ :: ⟨PyData.keyHash P (Str.ofString "field_text"), (.str (Str.ofString "field_text") (nat_lit 652)), (.ref (nat_lit 313))⟩ :: ⟨PyData.keyHash P (Str.ofString "braced_text"), (.str (Str.ofString "braced_text") (nat_lit 660)), (.ref (nat_lit 320))⟩ :: ⟨PyData.keyHash P (Str.ofString "chan_text"), (.str (Str.ofString "chan_text") (nat_lit 669)), (.ref (nat_lit 327))⟩ :: ⟨PyData.keyHash P (Str.ofString "type_text"), (.str (Str.ofString "type_text") (nat_lit 675)), (.ref (nat_lit 332))⟩ :: ⟨PyData.keyHash P (Str.ofString "underlying_of"), (.str (Str.ofString "underlying_of") (nat_lit 683)), (.ref (nat_lit 339))⟩ :: ⟨PyData.keyHash P (Str.ofString "is_named"), (.str (Str.ofString "is_named") (nat_lit 690)), (.ref (nat_lit 346))⟩ :: ⟨PyData.keyHash P (Str.ofString "is_untyped"), (.str (Str.ofString "is_untyped") (nat_lit 697)), (.ref (nat_lit 353))⟩ :: ⟨PyData.keyHash P (Str.ofString "default_type"), (.str (Str.ofString "default_type") (nat_lit 704)), (.ref (nat_lit 360))⟩ :: ⟨PyData.keyHash P (Str.ofString "is_interface"), (.str (Str.ofString "is_interface") (nat_lit 712)), (.ref (nat_lit 367))⟩ :: ⟨PyData.keyHash P (Str.ofString "is_integer"), (.str (Str.ofString "is_integer") (nat_lit 720)), (.ref (nat_lit 374))⟩ :: ⟨PyData.keyHash P (Str.ofString "is_truth"), (.str (Str.ofString "is_truth") (nat_lit 728)), (.ref (nat_lit 381))⟩ :: ⟨PyData.keyHash P (Str.ofString "has_nil"), (.str (Str.ofString "has_nil") (nat_lit 736)), (.ref (nat_lit 388))⟩ :: ⟨PyData.keyHash P (Str.ofString "told_type"), (.str (Str.ofString "told_type") (nat_lit 747)), (.ref (nat_lit 395))⟩ :: ⟨PyData.keyHash P (Str.ofString "field_places"), (.str (Str.ofString "field_places") (nat_lit 753)), (.ref (nat_lit 400))⟩ :: ⟨PyData.keyHash P (Str.ofString "dropped"), (.str (Str.ofString "dropped") (nat_lit 763)), (.ref (nat_lit 407))⟩ :: ⟨PyData.keyHash P (Str.ofString "place_told"), (.str (Str.ofString "place_told") (nat_lit 772)), (.ref (nat_lit 414))⟩ :: ⟨PyData.keyHash P (Str.ofString "constant_within"), (.str (Str.ofString "constant_within") (nat_lit 779)), (.ref (nat_lit 421))⟩ :: ⟨PyData.keyHash P (Str.ofString "BITS"), (.str (Str.ofString "BITS") (nat_lit 812)), (.ref (nat_lit 422))⟩ :: [])) (nat_lit 62)), #[]⟩
(.node (boot_o_7 P)
(.node ⟨(.type "tuple"), none, (.seq #[] (nat_lit 0)), #[]⟩
(.node ⟨(.type "tuple"), none, (.seq #[(.str (Str.ofString "checker") (nat_lit 206)), (.str (Str.ofString "told") (nat_lit 207)), (.str (Str.ofString "name") (nat_lit 208)), (.str (Str.ofString "inner") (nat_lit 209))] (nat_lit 0)), #[]⟩
(.node ⟨(.type "frame"), none, .plain, #[some (.ref (nat_lit 62)), some (.ref (nat_lit 3)), some (.ref (nat_lit 59)), none, some (.str (Str.ofString "chancore.errors") (nat_lit 213)), none, some (.ref (nat_lit 0))]⟩
(.node ⟨(.type "tuple"), none, (.seq #[] (nat_lit 0)), #[]⟩
(.node ⟨(.type "code"), none, (.fields #[(.str (Str.ofString "length") (nat_lit 541)), (.str (Str.ofString "TypeReader.length") (nat_lit 542)), (.str (Str.ofString "/claim/cut.py") (nat_lit 543)), (.int (180) (nat_lit 0)), (.int (2) (nat_lit 0)), (.int (0) (nat_lit 0)), (.int (0) (nat_lit 0)), (.int (3) (nat_lit 0)), (.ref (nat_lit 250)), (.bool true), (.int (181) (nat_lit 0)), (.ref (nat_lit 251)), .none, (.ref (nat_lit 252)), (.ref (nat_lit 253)), (.ref (nat_lit 254)), (.int (548) (nat_lit 0)), (.int (180) (nat_lit 0)), (.str (Str.ofString "/claim/cut.py") (nat_lit 549))]), #[]⟩
.nil .nil) (.node ⟨.none, none, (.fields #[]), #[]⟩
.nil .nil)) (.node ⟨(.type "tuple"), none, (.seq #[] (nat_lit 0)), #[]⟩
(.node ⟨(.type "code"), none, (.fields #[(.str (Str.ofString "braced_text") (nat_lit 653)), (.str (Str.ofString "braced_text") (nat_lit 654)), (.str (Str.ofString "/claim/cut.py") (nat_lit 655)), (.int (244) (nat_lit 0)), (.int (2) (nat_lit 0)), (.int (0) (nat_lit 0)), (.int (0) (nat_lit 0)), (.int (3) (nat_lit 0)), (.ref (nat_lit 314)), (.bool true), (.int (181) (nat_lit 0)), (.ref (nat_lit 315)), .none, (.ref (nat_lit 316)), (.ref (nat_lit 317)), (.ref (nat_lit 318)), (.int (658) (nat_lit 0)), (.int (244) (nat_lit 0)), (.str (Str.ofString "/claim/cut.py") (nat_lit 659))]), #[]⟩
.nil .nil) .nil)) (.node ⟨(.type "dict"), none, (.dict #[⟨PyData.keyHash P (Str.ofString "__module__"), (.str (Str.ofString "__module__") (nat_lit 302)), (.str (Str.ofString "chancore.errors") (nat_lit 213))⟩, ⟨PyData.keyHash P (Str.ofString "__qualname__"), (.str (Str.ofString "__qualname__") (nat_lit 304)), (.str (Str.ofString "FlowFault") (nat_lit 303))⟩, ⟨PyData.keyHash P (Str.ofString "__firstlineno__"), (.str (Str.ofString "__firstlineno__") (nat_lit 306)), (.int (27) (nat_lit 305))⟩, ⟨PyData.keyHash P (Str.ofString "__static_attributes__"), (.str (Str.ofString "__static_attributes__") (nat_lit 307)), (.ref (nat_lit 100))⟩] (nat_lit 4)), #[]⟩
(.node ⟨(.type "function"), none, (.func ⟨(Str.ofString "embedded_in"), (Str.ofString "embedded_in"), (fdTop (nat_lit 17)).params, .stmts (fdTop (nat_lit 17)).body, (fdTop (nat_lit 17)).scope, (nat_lit 3), [], .none, .none, .none, (.str (Str.ofString "chancore.lookup") (nat_lit 311)), none, (.ref (nat_lit 158)), .none, (nat_lit 0)⟩), #[]⟩
(.node ⟨(.type "getset_descriptor"), none, (.fields #[(.str (Str.ofString "__weakref__") (nat_lit 596)), (.ref (nat_lit 285)), (.builtin "ExceptionGroup.__weakref__"), .none]), #[]⟩
.nil .nil) (.node ⟨(.type "tuple"), none, (.seq #[] (nat_lit 0)), #[]⟩
.nil .nil)) (.node ⟨(.type "function"), none, (.func ⟨(Str.ofString "want_few_parts"), (Str.ofString "want_few_parts"), (fdTop (nat_lit 28)).params, .stmts (fdTop (nat_lit 28)).body, (fdTop (nat_lit 28)).scope, (nat_lit 3), [], .none, .none, .none, (.str (Str.ofString "chancore.type_exprs") (nat_lit 458)), none, (.ref (nat_lit 222)), .none, (nat_lit 0)⟩), #[]⟩
(.node ⟨.none, none, (.func ⟨(Str.ofString "is_untyped"), (Str.ofString "is_untyped"), (fdTop (nat_lit 46)).params, .stmts (fdTop (nat_lit 46)).body, (fdTop (nat_lit 46)).scope, (nat_lit 0), [], .none, .none, .none, .none, none, .none, .none, (nat_lit 0)⟩), #[]⟩
.nil .nil) .nil))) (.node ⟨(.type "tuple"), none, (.seq #[] (nat_lit 0)), #[]⟩
(.node ⟨(.type "super"), none, (.fields #[(.ref (nat_lit 78)), (.ref (nat_lit 78)), (.ref (nat_lit 78))]), #[]⟩
(.node ⟨(.type "tuple"), none, (.seq #[(.str (Str.ofString "world") (nat_lit 367)), (.str (Str.ofString "told") (nat_lit 368))] (nat_lit 0)), #[]⟩
(.node ⟨(.type "tuple"), none, (.seq #[] (nat_lit 0)), #[]⟩
.nil .nil) (.node ⟨(.type "code"), none, (.fields #[(.str (Str.ofString "field_places") (nat_lit 748)), (.str (Str.ofString "field_places") (nat_lit 749)), (.str (Str.ofString "/claim/cut.py") (nat_lit 750)), (.int (300) (nat_lit 0)), (.int (5) (nat_lit 0)), (.int (0) (nat_lit 0)), (.int (0) (nat_lit 0)), (.int (3) (nat_lit 0)), (.ref (nat_lit 396)), (.bool true), (.int (181) (nat_lit 0)), (.ref (nat_lit 397)), .none, .none, .none, (.ref (nat_lit 398)), (.int (751) (nat_lit 0)), (.int (300) (nat_lit 0)), (.str (Str.ofString "/claim/cut.py") (nat_lit 752))]), #[]⟩
.nil .nil)) (.node ⟨(.type "tuple"), none, (.seq #[] (nat_lit 0)), #[]⟩
(.node ⟨(.type "tuple"), none, (.seq #[(.str (Str.ofString "world") (nat_lit 679)), (.str (Str.ofString "T") (nat_lit 680))] (nat_lit 0)), #[]⟩
.nil .nil) .nil)) (.node ⟨(.type "frame"), none, .plain, #[some (.ref (nat_lit 110)), some (.ref (nat_lit 3)), some (.ref (nat_lit 107)), none, some (.str (Str.ofString "chancore.lookup") (nat_lit 311)), none, some (.ref (nat_lit 0))]⟩
(.node ⟨.none, none, (.fields #[]), #[]⟩
(.node ⟨.none, none, (.fields #[]), #[]⟩
.nil .nil) .nil) (.node ⟨.none, none, (.fields #[]), #[]⟩
(.node ⟨(.type "function"), none, (.func ⟨(Str.ofString "is_interface"), (Str.ofString "is_interface"), (fdTop (nat_lit 48)).params, .stmts (fdTop (nat_lit 48)).body, (fdTop (nat_lit 48)).scope, (nat_lit 3), [], .none, .none, .none, (.str (Str.ofString "chancore.types") (nat_lit 601)), none, (.ref (nat_lit 366)), .none, (nat_lit 0)⟩), #[]⟩
.nil .nil) .nil)))) (.node ⟨.none, none, (.fields #[]), #[]⟩
(.node ⟨(.type "tuple"), none, (.seq #[] (nat_lit 0)), #[]⟩
(.node ⟨(.type "dict"), none, (.dict #[⟨PyData.keyHash P (Str.ofString "__module__"), (.str (Str.ofString "__module__") (nat_lit 270)), (.str (Str.ofString "chancore.errors") (nat_lit 213))⟩, ⟨PyData.keyHash P (Str.ofString "__qualname__"), (.str (Str.ofString "__qualname__") (nat_lit 272)), (.str (Str.ofString "TypeFault") (nat_lit 271))⟩, ⟨PyData.keyHash P (Str.ofString "__firstlineno__"), (.str (Str.ofString "__firstlineno__") (nat_lit 274)), (.int (23) (nat_lit 273))⟩, ⟨PyData.keyHash P (Str.ofString "__static_attributes__"), (.str (Str.ofString "__static_attributes__") (nat_lit 275)), (.ref (nat_lit 76))⟩] (nat_lit 4)), #[]⟩
(.node ⟨.none, none, (.fields #[]), #[]⟩
(.node ⟨(.type "function"), none, (.func ⟨(Str.ofString "key"), (Str.ofString "TypeReader.key"), (fdIn (nat_lit 29) (nat_lit 4)).params, .stmts (fdIn (nat_lit 29) (nat_lit 4)).body, (fdIn (nat_lit 29) (nat_lit 4)).scope, (nat_lit 3), [], .none, .none, .none, (.str (Str.ofString "chancore.type_exprs") (nat_lit 458)), none, (.ref (nat_lit 262)), .none, (nat_lit 0)⟩), #[]⟩
.nil .nil) (.node ⟨(.type "tuple"), none, (.seq #[(.str (Str.ofString "checker") (nat_lit 742)), (.str (Str.ofString "node") (nat_lit 743)), (.str (Str.ofString "wanted") (nat_lit 744))] (nat_lit 0)), #[]⟩
.nil .nil)) (.node ⟨.none, none, (.func ⟨(Str.ofString "find_member"), (Str.ofString "find_member"), (fdTop (nat_lit 20)).params, .stmts (fdTop (nat_lit 20)).body, (fdTop (nat_lit 20)).scope, (nat_lit 0), [], .none, .none, .none, .none, none, .none, .none, (nat_lit 0)⟩), #[]⟩
(.node ⟨(.type "function"), none, (.func ⟨(Str.ofString "chan_text"), (Str.ofString "chan_text"), (fdTop (nat_lit 42)).params, .stmts (fdTop (nat_lit 42)).body, (fdTop (nat_lit 42)).scope, (nat_lit 3), [], .none, .none, .none, (.str (Str.ofString "chancore.types") (nat_lit 601)), none, (.ref (nat_lit 326)), .none, (nat_lit 0)⟩), #[]⟩
.nil .nil) .nil)) (.node ⟨(.type "super"), none, (.fields #[(.ref (nat_lit 102)), (.ref (nat_lit 102)), (.ref (nat_lit 102))]), #[]⟩
(.node ⟨(.type "tuple"), none, (.seq #[] (nat_lit 0)), #[]⟩
(.node ⟨(.type "dict"), none, (.dict #[⟨PyData.keyHash P (Str.ofString "bool"), (.str (Str.ofString "bool") (nat_lit 615)), (.ref (nat_lit 291))⟩, ⟨PyData.keyHash P (Str.ofString "int"), (.str (Str.ofString "int") (nat_lit 616)), (.ref (nat_lit 292))⟩, ⟨PyData.keyHash P (Str.ofString "rune"), (.str (Str.ofString "rune") (nat_lit 617)), (.ref (nat_lit 293))⟩, ⟨PyData.keyHash P (Str.ofString "string"), (.str (Str.ofString "string") (nat_lit 618)), (.ref (nat_lit 290))⟩] (nat_lit 4)), #[]⟩
.nil .nil) .nil) (.node ⟨(.type "tuple"), none, (.seq #[] (nat_lit 0)), #[]⟩
(.node ⟨(.type "code"), none, (.fields #[(.str (Str.ofString "default_type") (nat_lit 698)), (.str (Str.ofString "default_type") (nat_lit 699)), (.str (Str.ofString "/claim/cut.py") (nat_lit 700)), (.int (281) (nat_lit 0)), (.int (1) (nat_lit 0)), (.int (0) (nat_lit 0)), (.int (0) (nat_lit 0)), (.int (3) (nat_lit 0)), (.ref (nat_lit 354)), (.bool true), (.int (181) (nat_lit 0)), (.ref (nat_lit 355)), .none, (.ref (nat_lit 356)), (.ref (nat_lit 357)), (.ref (nat_lit 358)), (.int (702) (nat_lit 0)), (.int (281) (nat_lit 0)), (.str (Str.ofString "/claim/cut.py") (nat_lit 703))]), #[]⟩
.nil .nil) .nil))) (.node ⟨(.type "super"), none, (.fields #[(.ref (nat_lit 53)), (.ref (nat_lit 53)), (.ref (nat_lit 53))]), #[]⟩
(.node ⟨(.type "frame"), none, .plain, #[some (.ref (nat_lit 86)), some (.ref (nat_lit 3)), some (.ref (nat_lit 83)), none, some (.str (Str.ofString "chancore.errors") (nat_lit 213)), none, some (.ref (nat_lit 0))]⟩
(.node ⟨(.type "code"), none, (.fields #[(.str (Str.ofString "members_at") (nat_lit 372)), (.str (Str.ofString "members_at") (nat_lit 373)), (.str (Str.ofString "/claim/cut.py") (nat_lit 374)), (.int (45) (nat_lit 0)), (.int (3) (nat_lit 0)), (.int (0) (nat_lit 0)), (.int (0) (nat_lit 0)), (.int (3) (nat_lit 0)), (.ref (nat_lit 148)), (.bool true), (.int (181) (nat_lit 0)), (.ref (nat_lit 149)), .none, .none, .none, (.ref (nat_lit 150)), (.int (375) (nat_lit 0)), (.int (45) (nat_lit 0)), (.str (Str.ofString "/claim/cut.py") (nat_lit 376))]), #[]⟩
(.node ⟨.none, none, (.fields #[]), #[]⟩
.nil .nil) (.node ⟨(.type "function"), none, (.func ⟨(Str.ofString "dropped"), (Str.ofString "dropped"), (fdTop (nat_lit 55)).params, .stmts (fdTop (nat_lit 55)).body, (fdTop (nat_lit 55)).scope, (nat_lit 3), [], .none, .none, .none, (.str (Str.ofString "chancore.check_literals") (nat_lit 737)), none, (.ref (nat_lit 406)), .none, (nat_lit 0)⟩), #[]⟩
.nil .nil)) (.node ⟨(.type "tuple"), none, (.seq #[] (nat_lit 0)), #[]⟩
(.node ⟨(.type "tuple"), none, (.seq #[] (nat_lit 0)), #[]⟩
.nil .nil) .nil)) (.node ⟨(.type "function"), none, (.func ⟨(Str.ofString "__init__"), (Str.ofString "Reached.__init__"), (fdIn (nat_lit 12) (nat_lit 0)).params, .stmts (fdIn (nat_lit 12) (nat_lit 0)).body, (fdIn (nat_lit 12) (nat_lit 0)).scope, (nat_lit 3), [], (.ref (nat_lit 112)), .none, .none, (.str (Str.ofString "chancore.lookup") (nat_lit 311)), none, (.ref (nat_lit 118)), .none, (nat_lit 0)⟩), #[]⟩
(.node ⟨(.type "type"), none, (.cls { name := Str.ofString "Levels", bases := [Value.type "object"], mro := [Value.ref (nat_lit 183), Value.type "object"], ns := (nat_lit 182), qualname := Str.ofString "Levels" }), #[none, none, some (.str (Str.ofString "Levels") (nat_lit 392)), some (.str (Str.ofString "Levels") (nat_lit 400)), some (.builtin "object.__new__"), some (.bool true)]⟩
(.node ⟨.none, none, (.func ⟨(Str.ofString "field_text"), (Str.ofString "field_text"), (fdTop (nat_lit 40)).params, .stmts (fdTop (nat_lit 40)).body, (fdTop (nat_lit 40)).scope, (nat_lit 0), [], .none, .none, .none, .none, none, .none, .none, (nat_lit 0)⟩), #[]⟩
.nil .nil) .nil) (.node ⟨.none, none, (.func ⟨(Str.ofString "all"), (Str.ofString "TypeReader.all"), (fdIn (nat_lit 29) (nat_lit 2)).params, .stmts (fdIn (nat_lit 29) (nat_lit 2)).body, (fdIn (nat_lit 29) (nat_lit 2)).scope, (nat_lit 0), [], .none, .none, .none, .none, none, .none, .none, (nat_lit 0)⟩), #[]⟩
(.node ⟨(.type "tuple"), none, (.seq #[] (nat_lit 0)), #[]⟩
.nil .nil) .nil))))) (.node ⟨(.type "tuple"), none, (.seq #[] (nat_lit 0)), #[]⟩
(.node ⟨.none, none, (.func ⟨(Str.ofString "_wall"), (Str.ofString "_wall"), (fdTop (nat_lit 0)).params, .stmts (fdTop (nat_lit 0)).body, (fdTop (nat_lit 0)).scope, (nat_lit 0), [], .none, .none, .none, .none, none, .none, .none, (nat_lit 0)⟩), #[]⟩
(.node ⟨(.type "function"), none, (.func ⟨(Str.ofString "is_hidden"), (Str.ofString "is_hidden"), (fdTop (nat_lit 3)).params, .stmts (fdTop (nat_lit 3)).body, (fdTop (nat_lit 3)).scope, (nat_lit 3), [], .none, .none, .none, (.str (Str.ofString "chancore.check_selectors") (nat_lit 194)), none, (.ref (nat_lit 34)), .none, (nat_lit 0)⟩), #[]⟩
(.node ⟨(.type "super"), none, (.fields #[(.ref (nat_lit 66)), (.ref (nat_lit 66)), (.ref (nat_lit 66))]), #[]⟩
(.node ⟨.none, none, (.func ⟨(Str.ofString "own_name"), (Str.ofString "own_name"), (fdTop (nat_lit 13)).params, .stmts (fdTop (nat_lit 13)).body, (fdTop (nat_lit 13)).scope, (nat_lit 0), [], .none, .none, .none, .none, none, .none, .none, (nat_lit 0)⟩), #[]⟩
(.node ⟨(.type "tuple"), none, (.seq #[(.str (Str.ofString "self") (nat_lit 554)), (.str (Str.ofString "typex") (nat_lit 555)), (.str (Str.ofString "told") (nat_lit 556))] (nat_lit 0)), #[]⟩
.nil .nil) (.node ⟨(.type "code"), none, (.fields #[(.str (Str.ofString "has_nil") (nat_lit 729)), (.str (Str.ofString "has_nil") (nat_lit 730)), (.str (Str.ofString "/claim/cut.py") (nat_lit 731)), (.int (291) (nat_lit 0)), (.int (2) (nat_lit 0)), (.int (0) (nat_lit 0)), (.int (0) (nat_lit 0)), (.int (3) (nat_lit 0)), (.ref (nat_lit 382)), (.bool true), (.int (181) (nat_lit 0)), (.ref (nat_lit 383)), .none, (.ref (nat_lit 384)), (.ref (nat_lit 385)), (.ref (nat_lit 386)), (.int (734) (nat_lit 0)), (.int (291) (nat_lit 0)), (.str (Str.ofString "/claim/cut.py") (nat_lit 735))]), #[]⟩
.nil .nil)) (.node ⟨(.type "tuple"), none, (.seq #[] (nat_lit 0)), #[]⟩
(.node ⟨(.type "tuple"), none, (.seq #[(.str (Str.ofString "T") (nat_lit 664)), (.str (Str.ofString "ahead") (nat_lit 665)), (.str (Str.ofString "inner") (nat_lit 666))] (nat_lit 0)), #[]⟩
.nil .nil) .nil)) (.node ⟨(.type "frame"), none, .plain, #[some (.ref (nat_lit 98)), some (.ref (nat_lit 3)), some (.ref (nat_lit 95)), none, some (.str (Str.ofString "chancore.errors") (nat_lit 213)), none, some (.ref (nat_lit 0))]⟩
(.node ⟨(.type "tuple"), none, (.seq #[] (nat_lit 0)), #[]⟩
(.node ⟨(.type "tuple"), none, (.seq #[(.str (Str.ofString "bool") (nat_lit 605))] (nat_lit 0)), #[]⟩
.nil .nil) (.node ⟨.none, none, (.func ⟨(Str.ofString "constant_within"), (Str.ofString "constant_within"), (fdTop (nat_lit 57)).params, .stmts (fdTop (nat_lit 57)).body, (fdTop (nat_lit 57)).scope, (nat_lit 0), [], .none, .none, .none, .none, none, .none, .none, (nat_lit 0)⟩), #[]⟩
.nil .nil)) (.node ⟨(.type "tuple"), none, (.seq #[] (nat_lit 0)), #[]⟩
(.node ⟨.none, none, (.fields #[]), #[]⟩
.nil .nil) .nil))) (.node ⟨(.type "tuple"), none, (.seq #[(.str (Str.ofString "message") (nat_lit 237)), (.str (Str.ofString "spot") (nat_lit 238))] (nat_lit 0)), #[]⟩
(.node ⟨(.type "dict"), none, (.dict #[⟨PyData.keyHash P (Str.ofString "__module__"), (.str (Str.ofString "__module__") (nat_lit 286)), (.str (Str.ofString "chancore.errors") (nat_lit 213))⟩, ⟨PyData.keyHash P (Str.ofString "__qualname__"), (.str (Str.ofString "__qualname__") (nat_lit 288)), (.str (Str.ofString "ConstFault") (nat_lit 287))⟩, ⟨PyData.keyHash P (Str.ofString "__firstlineno__"), (.str (Str.ofString "__firstlineno__") (nat_lit 290)), (.int (25) (nat_lit 289))⟩, ⟨PyData.keyHash P (Str.ofString "__static_attributes__"), (.str (Str.ofString "__static_attributes__") (nat_lit 291)), (.ref (nat_lit 88))⟩] (nat_lit 4)), #[]⟩
(.node ⟨(.type "function"), none, (.func ⟨(Str.ofString "own_methods"), (Str.ofString "own_methods"), (fdTop (nat_lit 15)).params, .stmts (fdTop (nat_lit 15)).body, (fdTop (nat_lit 15)).scope, (nat_lit 3), [], .none, .none, .none, (.str (Str.ofString "chancore.lookup") (nat_lit 311)), none, (.ref (nat_lit 146)), .none, (nat_lit 0)⟩), #[]⟩
(.node ⟨.none, none, (.func ⟨(Str.ofString "kept"), (Str.ofString "TypeReader.kept"), (fdIn (nat_lit 29) (nat_lit 6)).params, .stmts (fdIn (nat_lit 29) (nat_lit 6)).body, (fdIn (nat_lit 29) (nat_lit 6)).scope, (nat_lit 0), [], .none, .none, .none, .none, none, .none, .none, (nat_lit 0)⟩), #[]⟩
.nil .nil) (.node ⟨(.type "tuple"), none, (.seq #[(.str (Str.ofString "made") (nat_lit 757)), (.str (Str.ofString "T") (nat_lit 758)), (.str (Str.ofString "spot") (nat_lit 759)), (.str (Str.ofString "row") (nat_lit 760))] (nat_lit 0)), #[]⟩
.nil .nil)) (.node ⟨(.type "tuple"), none, (.seq #[(.bool true)] (nat_lit 0)), #[]⟩
(.node ⟨(.type "function"), none, (.func ⟨(Str.ofString "underlying_of"), (Str.ofString "underlying_of"), (fdTop (nat_lit 44)).params, .stmts (fdTop (nat_lit 44)).body, (fdTop (nat_lit 44)).scope, (nat_lit 3), [], .none, .none, .none, (.str (Str.ofString "chancore.types") (nat_lit 601)), none, (.ref (nat_lit 338)), .none, (nat_lit 0)⟩), #[]⟩
.nil .nil) .nil)) (.node ⟨(.type "tuple"), none, (.seq #[(.str (Str.ofString "self") (nat_lit 330)), (.str (Str.ofString "told") (nat_lit 331)), (.str (Str.ofString "steps") (nat_lit 332)), (.str (Str.ofString "is_twice") (nat_lit 333))] (nat_lit 0)), #[]⟩
(.node ⟨(.type "code"), none, (.fields #[(.str (Str.ofString "go_on") (nat_lit 413)), (.str (Str.ofString "Levels.go_on") (nat_lit 414)), (.str (Str.ofString "/claim/cut.py") (nat_lit 415)), (.int (75) (nat_lit 0)), (.int (1) (nat_lit 0)), (.int (0) (nat_lit 0)), (.int (0) (nat_lit 0)), (.int (3) (nat_lit 0)), (.ref (nat_lit 174)), (.bool true), (.int (181) (nat_lit 0)), (.ref (nat_lit 175)), .none, (.ref (nat_lit 176)), (.ref (nat_lit 177)), (.ref (nat_lit 178)), (.int (420) (nat_lit 0)), (.int (75) (nat_lit 0)), (.str (Str.ofString "/claim/cut.py") (nat_lit 421))]), #[]⟩
(.node ⟨(.type "tuple"), none, (.seq #[] (nat_lit 0)), #[]⟩
.nil .nil) .nil) (.node ⟨(.type "code"), none, (.fields #[(.str (Str.ofString "read") (nat_lit 525)), (.str (Str.ofString "TypeReader.read") (nat_lit 526)), (.str (Str.ofString "/claim/cut.py") (nat_lit 527)), (.int (159) (nat_lit 0)), (.int (2) (nat_lit 0)), (.int (0) (nat_lit 0)), (.int (0) (nat_lit 0)), (.int (3) (nat_lit 0)), (.ref (nat_lit 238)), (.bool true), (.int (181) (nat_lit 0)), (.ref (nat_lit 239)), .none, (.ref (nat_lit 240)), (.ref (nat_lit 241)), (.ref (nat_lit 242)), (.int (532) (nat_lit 0)), (.int (159) (nat_lit 0)), (.str (Str.ofString "/claim/cut.py") (nat_lit 533))]), #[]⟩
(.node ⟨(.type "tuple"), none, (.seq #[] (nat_lit 0)), #[]⟩
.nil .nil) .nil)))) (.node ⟨(.type "code"), none, (.fields #[(.str (Str.ofString "is_exported") (nat_lit 196)), (.str (Str.ofString "is_exported") (nat_lit 197)), (.str (Str.ofString "/claim/cut.py") (nat_lit 198)), (.int (5) (nat_lit 0)), (.int (1) (nat_lit 0)), (.int (0) (nat_lit 0)), (.int (0) (nat_lit 0)), (.int (3) (nat_lit 0)), (.ref (nat_lit 22)), (.bool true), (.int (181) (nat_lit 0)), (.ref (nat_lit 23)), .none, (.ref (nat_lit 24)), (.ref (nat_lit 25)), (.ref (nat_lit 26)), (.int (200) (nat_lit 0)), (.int (5) (nat_lit 0)), (.str (Str.ofString "/claim/cut.py") (nat_lit 201))]), #[]⟩
(.node ⟨(.type "tuple"), none, (.seq #[(.int (0) (nat_lit 227))] (nat_lit 0)), #[]⟩
(.node ⟨(.type "frame"), none, .plain, #[some (.ref (nat_lit 74)), some (.ref (nat_lit 3)), some (.ref (nat_lit 71)), none, some (.str (Str.ofString "chancore.errors") (nat_lit 213)), none, some (.ref (nat_lit 0))]⟩
(.node ⟨(.type "code"), none, (.fields #[(.str (Str.ofString "without_pointer") (nat_lit 357)), (.str (Str.ofString "without_pointer") (nat_lit 358)), (.str (Str.ofString "/claim/cut.py") (nat_lit 359)), (.int (41) (nat_lit 0)), (.int (1) (nat_lit 0)), (.int (0) (nat_lit 0)), (.int (0) (nat_lit 0)), (.int (3) (nat_lit 0)), (.ref (nat_lit 134)), (.bool true), (.int (181) (nat_lit 0)), (.ref (nat_lit 135)), .none, (.ref (nat_lit 136)), (.ref (nat_lit 137)), (.ref (nat_lit 138)), (.int (361) (nat_lit 0)), (.int (41) (nat_lit 0)), (.str (Str.ofString "/claim/cut.py") (nat_lit 362))]), #[]⟩
(.node ⟨(.type "tuple"), none, (.seq #[] (nat_lit 0)), #[]⟩
.nil .nil) (.node ⟨(.type "function"), none, (.func ⟨(Str.ofString "told_type"), (Str.ofString "told_type"), (fdTop (nat_lit 53)).params, .stmts (fdTop (nat_lit 53)).body, (fdTop (nat_lit 53)).scope, (nat_lit 3), [], .none, .none, .none, (.str (Str.ofString "chancore.check_literals") (nat_lit 737)), none, (.ref (nat_lit 394)), .none, (nat_lit 0)⟩), #[]⟩
.nil .nil)) (.node ⟨(.type "tuple"), none, (.seq #[(.bool true)] (nat_lit 0)), #[]⟩
(.node ⟨(.type "code"), none, (.fields #[(.str (Str.ofString "type_text") (nat_lit 670)), (.str (Str.ofString "type_text") (nat_lit 671)), (.str (Str.ofString "/claim/cut.py") (nat_lit 672)), (.int (252) (nat_lit 0)), (.int (1) (nat_lit 0)), (.int (0) (nat_lit 0)), (.int (0) (nat_lit 0)), (.int (3) (nat_lit 0)), (.ref (nat_lit 328)), (.bool true), (.int (181) (nat_lit 0)), (.ref (nat_lit 329)), .none, .none, .none, (.ref (nat_lit 330)), (.int (673) (nat_lit 0)), (.int (252) (nat_lit 0)), (.str (Str.ofString "/claim/cut.py") (nat_lit 674))]), #[]⟩
.nil .nil) .nil)) (.node ⟨(.type "dict"), none, (.dict #[⟨PyData.keyHash P (Str.ofString "__module__"), (.str (Str.ofString "__module__") (nat_lit 322)), (.str (Str.ofString "chancore.lookup") (nat_lit 311))⟩, ⟨PyData.keyHash P (Str.ofString "__qualname__"), (.str (Str.ofString "__qualname__") (nat_lit 324)), (.str (Str.ofString "Reached") (nat_lit 323))⟩, ⟨PyData.keyHash P (Str.ofString "__firstlineno__"), (.str (Str.ofString "__firstlineno__") (nat_lit 326)), (.int (31) (nat_lit 325))⟩, ⟨PyData.keyHash P (Str.ofString "__init__"), (.str (Str.ofString "__init__") (nat_lit 336)), (.ref (nat_lit 119))⟩, ⟨PyData.keyHash P (Str.ofString "__static_attributes__"), (.str (Str.ofString "__static_attributes__") (nat_lit 340)), (.ref (nat_lit 120))⟩] (nat_lit 5)), #[]⟩
(.node ⟨.none, none, (.func ⟨(Str.ofString "__init__"), (Str.ofString "Levels.__init__"), (fdIn (nat_lit 18) (nat_lit 0)).params, .stmts (fdIn (nat_lit 18) (nat_lit 0)).body, (fdIn (nat_lit 18) (nat_lit 0)).scope, (nat_lit 0), [], .none, .none, .none, .none, none, .none, .none, (nat_lit 0)⟩), #[]⟩
(.node ⟨.none, none, (.func ⟨(Str.ofString "joined_texts"), (Str.ofString "joined_texts"), (fdTop (nat_lit 38)).params, .stmts (fdTop (nat_lit 38)).body, (fdTop (nat_lit 38)).scope, (nat_lit 0), [], .none, .none, .none, .none, none, .none, .none, (nat_lit 0)⟩), #[]⟩
.nil .nil) .nil) (.node ⟨.none, none, (.func ⟨(Str.ofString "__init__"), (Str.ofString "TypeReader.__init__"), (fdIn (nat_lit 29) (nat_lit 0)).params, .stmts (fdIn (nat_lit 29) (nat_lit 0)).body, (fdIn (nat_lit 29) (nat_lit 0)).scope, (nat_lit 0), [], .none, .none, .none, .none, none, .none, .none, (nat_lit 0)⟩), #[]⟩
(.node ⟨(.type "tuple"), none, (.seq #[(.str (Str.ofString "world") (nat_lit 708)), (.str (Str.ofString "T") (nat_lit 709))] (nat_lit 0)), #[]⟩
.nil .nil) .nil))) (.node ⟨(.type "dict"), none, (.dict #[⟨PyData.keyHash P (Str.ofString "__module__"), (.str (Str.ofString "__module__") (nat_lit 254)), (.str (Str.ofString "chancore.errors") (nat_lit 213))⟩, ⟨PyData.keyHash P (Str.ofString "__qualname__"), (.str (Str.ofString "__qualname__") (nat_lit 256)), (.str (Str.ofString "NameFault") (nat_lit 255))⟩, ⟨PyData.keyHash P (Str.ofString "__firstlineno__"), (.str (Str.ofString "__firstlineno__") (nat_lit 258)), (.int (21) (nat_lit 257))⟩, ⟨PyData.keyHash P (Str.ofString "__static_attributes__"), (.str (Str.ofString "__static_attributes__") (nat_lit 259)), (.ref (nat_lit 64))⟩] (nat_lit 4)), #[]⟩
(.node ⟨(.type "super"), none, (.fields #[(.ref (nat_lit 90)), (.ref (nat_lit 90)), (.ref (nat_lit 90))]), #[]⟩
(.node ⟨(.type "tuple"), none, (.seq #[(.str (Str.ofString "world") (nat_lit 381)), (.str (Str.ofString "reached") (nat_lit 382)), (.str (Str.ofString "base") (nat_lit 383)), (.str (Str.ofString "found") (nat_lit 384)), (.str (Str.ofString "k") (nat_lit 385)), (.str (Str.ofString "row") (nat_lit 386)), (.str (Str.ofString "is_pointer") (nat_lit 387)), (.str (Str.ofString "steps") (nat_lit 388))] (nat_lit 0)), #[]⟩
(.node ⟨(.type "tuple"), none, (.seq #[(.str (Str.ofString "const_reader") (nat_lit 589)), (.str (Str.ofString "package") (nat_lit 590)), (.str (Str.ofString "scope") (nat_lit 591)), (.str (Str.ofString "world") (nat_lit 592))] (nat_lit 0)), #[]⟩
.nil .nil) (.node ⟨(.type "tuple"), none, (.seq #[] (nat_lit 0)), #[]⟩
.nil .nil)) (.node ⟨(.type "tuple"), none, (.seq #[] (nat_lit 0)), #[]⟩
(.node ⟨(.type "tuple"), none, (.seq #[] (nat_lit 0)), #[]⟩
.nil .nil) .nil)) (.node ⟨(.type "getset_descriptor"), none, (.fields #[(.str (Str.ofString "__dict__") (nat_lit 341)), (.ref (nat_lit 122)), (.builtin "function.__dict__"), (.builtin "function.__dict__#set")]), #[]⟩
(.node ⟨(.type "builtin_function_or_method"), none, (.fields #[(.builtin "object.__init_subclass__"), (.ref (nat_lit 183))]), #[]⟩
(.node ⟨.none, none, (.fields #[]), #[]⟩
.nil .nil) .nil) (.node ⟨.none, none, (.fields #[]), #[]⟩
(.node ⟨.none, none, (.func ⟨(Str.ofString "is_truth"), (Str.ofString "is_truth"), (fdTop (nat_lit 50)).params, .stmts (fdTop (nat_lit 50)).body, (fdTop (nat_lit 50)).scope, (nat_lit 0), [], .none, .none, .none, .none, none, .none, .none, (nat_lit 0)⟩), #[]⟩
.nil .nil) .nil)))))) (.node (boot_o_5 P)
(.node (boot_o_9 P)
(.node ⟨(.type "tuple"), none, (.seq #[(.str (Str.ofString "k") (nat_lit 190))] (nat_lit 0)), #[]⟩
(.node ⟨.none, none, (.func ⟨(Str.ofString "is_hidden"), (Str.ofString "is_hidden"), (fdTop (nat_lit 3)).params, .stmts (fdTop (nat_lit 3)).body, (fdTop (nat_lit 3)).scope, (nat_lit 0), [], .none, .none, .none, .none, none, .none, .none, (nat_lit 0)⟩), #[]⟩
(.node ⟨(.type "dict"), none, (.dict #[⟨PyData.keyHash P (Str.ofString "__module__"), (.str (Str.ofString "__module__") (nat_lit 254)), (.str (Str.ofString "chancore.errors") (nat_lit 213))⟩, ⟨PyData.keyHash P (Str.ofString "__firstlineno__"), (.str (Str.ofString "__firstlineno__") (nat_lit 258)), (.int (21) (nat_lit 257))⟩, ⟨PyData.keyHash P (Str.ofString "__static_attributes__"), (.str (Str.ofString "__static_attributes__") (nat_lit 259)), (.ref (nat_lit 64))⟩, ⟨PyData.keyHash P (Str.ofString "__doc__"), (.str (Str.ofString "__doc__") (nat_lit 260)), .none⟩] (nat_lit 2)), #[]⟩
(.node ⟨(.type "tuple"), none, (.seq #[(.str (Str.ofString "world") (nat_lit 351)), (.str (Str.ofString "package") (nat_lit 352)), (.str (Str.ofString "name") (nat_lit 353))] (nat_lit 0)), #[]⟩
(.node ⟨(.type "tuple"), none, (.seq #[] (nat_lit 0)), #[]⟩
.nil .nil) (.node ⟨(.type "tuple"), none, (.seq #[] (nat_lit 0)), #[]⟩
.nil .nil)) (.node ⟨(.type "code"), none, (.fields #[(.str (Str.ofString "start_type") (nat_lit 434)), (.str (Str.ofString "start_type") (nat_lit 435)), (.str (Str.ofString "/claim/cut.py") (nat_lit 436)), (.int (87) (nat_lit 0)), (.int (2) (nat_lit 0)), (.int (0) (nat_lit 0)), (.int (0) (nat_lit 0)), (.int (3) (nat_lit 0)), (.ref (nat_lit 188)), (.bool true), (.int (181) (nat_lit 0)), (.ref (nat_lit 189)), .none, (.ref (nat_lit 190)), (.ref (nat_lit 191)), (.ref (nat_lit 192)), (.int (441) (nat_lit 0)), (.int (87) (nat_lit 0)), (.str (Str.ofString "/claim/cut.py") (nat_lit 442))]), #[]⟩
(.node ⟨(.type "tuple"), none, (.seq #[] (nat_lit 0)), #[]⟩
.nil .nil) .nil)) (.node ⟨.none, none, (.fields #[]), #[]⟩
(.node ⟨(.type "builtin_function_or_method"), none, (.fields #[(.builtin "type.__prepare__"), (.type "type")]), #[]⟩
(.node ⟨(.type "builtin_function_or_method"), none, (.fields #[(.builtin "object.__init_subclass__"), (.ref (nat_lit 285))]), #[]⟩
.nil .nil) (.node ⟨(.type "tuple"), none, (.seq #[(.str (Str.ofString "made") (nat_lit 776))] (nat_lit 0)), #[]⟩
.nil .nil)) (.node ⟨(.type "builtin_function_or_method"), none, (.fields #[(.builtin "type.__prepare__"), (.type "type")]), #[]⟩
(.node ⟨(.type "function"), none, (.func ⟨(Str.ofString "is_untyped"), (Str.ofString "is_untyped"), (fdTop (nat_lit 46)).params, .stmts (fdTop (nat_lit 46)).body, (fdTop (nat_lit 46)).scope, (nat_lit 3), [], .none, .none, .none, (.str (Str.ofString "chancore.types") (nat_lit 601)), none, (.ref (nat_lit 352)), .none, (nat_lit 0)⟩), #[]⟩
.nil .nil) .nil))) (.node ⟨(.type "code"), none, (.fields #[(.str (Str.ofString "__init__") (nat_lit 228)), (.str (Str.ofString "ChanError.__init__") (nat_lit 229)), (.str (Str.ofString "/claim/cut.py") (nat_lit 230)), (.int (17) (nat_lit 0)), (.int (3) (nat_lit 0)), (.int (0) (nat_lit 0)), (.int (0) (nat_lit 0)), (.int (3) (nat_lit 0)), (.ref (nat_lit 44)), (.bool true), (.int (181) (nat_lit 0)), (.ref (nat_lit 45)), .none, (.ref (nat_lit 46)), (.ref (nat_lit 47)), (.ref (nat_lit 48)), (.int (234) (nat_lit 0)), (.int (17) (nat_lit 0)), (.str (Str.ofString "/claim/cut.py") (nat_lit 235))]), #[]⟩
(.node ⟨(.type "tuple"), none, (.seq #[(.ref (nat_lit 53))] (nat_lit 0)), #[]⟩
(.node ⟨.none, none, (.func ⟨(Str.ofString "own_methods"), (Str.ofString "own_methods"), (fdTop (nat_lit 15)).params, .stmts (fdTop (nat_lit 15)).body, (fdTop (nat_lit 15)).scope, (nat_lit 0), [], .none, .none, .none, .none, none, .none, .none, (nat_lit 0)⟩), #[]⟩
(.node ⟨(.type "tuple"), none, (.seq #[(.str (Str.ofString "self") (nat_lit 577)), (.str (Str.ofString "told") (nat_lit 578)), (.str (Str.ofString "spot") (nat_lit 579))] (nat_lit 0)), #[]⟩
.nil .nil) (.node ⟨(.type "tuple"), none, (.seq #[] (nat_lit 0)), #[]⟩
.nil .nil)) (.node ⟨(.type "code"), none, (.fields #[(.str (Str.ofString "type_entry") (nat_lit 471)), (.str (Str.ofString "type_entry") (nat_lit 472)), (.str (Str.ofString "/claim/cut.py") (nat_lit 473)), (.int (118) (nat_lit 0)), (.int (6) (nat_lit 0)), (.int (0) (nat_lit 0)), (.int (0) (nat_lit 0)), (.int (3) (nat_lit 0)), (.ref (nat_lit 204)), (.bool true), (.int (181) (nat_lit 0)), (.ref (nat_lit 205)), .none, (.ref (nat_lit 206)), (.ref (nat_lit 207)), (.ref (nat_lit 208)), (.int (482) (nat_lit 0)), (.int (118) (nat_lit 0)), (.str (Str.ofString "/claim/cut.py") (nat_lit 483))]), #[]⟩
(.node ⟨.none, none, (.func ⟨(Str.ofString "underlying_of"), (Str.ofString "underlying_of"), (fdTop (nat_lit 44)).params, .stmts (fdTop (nat_lit 44)).body, (fdTop (nat_lit 44)).scope, (nat_lit 0), [], .none, .none, .none, .none, none, .none, .none, (nat_lit 0)⟩), #[]⟩
.nil .nil) .nil)) (.node ⟨(.type "tuple"), none, (.seq #[] (nat_lit 0)), #[]⟩
(.node ⟨(.type "tuple"), none, (.seq #[] (nat_lit 0)), #[]⟩
(.node ⟨(.type "code"), none, (.fields #[(.str (Str.ofString "signature_text") (nat_lit 637)), (.str (Str.ofString "signature_text") (nat_lit 638)), (.str (Str.ofString "/claim/cut.py") (nat_lit 639)), (.int (233) (nat_lit 0)), (.int (1) (nat_lit 0)), (.int (0) (nat_lit 0)), (.int (0) (nat_lit 0)), (.int (3) (nat_lit 0)), (.ref (nat_lit 302)), (.bool true), (.int (181) (nat_lit 0)), (.ref (nat_lit 303)), .none, .none, .none, (.ref (nat_lit 304)), (.int (640) (nat_lit 0)), (.int (233) (nat_lit 0)), (.str (Str.ofString "/claim/cut.py") (nat_lit 641))]), #[]⟩
.nil .nil) .nil) (.node ⟨(.type "tuple"), none, (.seq #[] (nat_lit 0)), #[]⟩
(.node ⟨.none, none, (.fields #[]), #[]⟩
.nil .nil) .nil)))) (.node ⟨(.type "tuple"), none, (.seq #[] (nat_lit 0)), #[]⟩
(.node ⟨(.type "code"), none, (.fields #[(.str (Str.ofString "ChanError") (nat_lit 217)), (.str (Str.ofString "ChanError") (nat_lit 218)), (.str (Str.ofString "/claim/cut.py") (nat_lit 219)), (.int (15) (nat_lit 0)), (.int (0) (nat_lit 0)), (.int (0) (nat_lit 0)), (.int (0) (nat_lit 0)), (.int (0) (nat_lit 0)), (.ref (nat_lit 39)), (.bool false), (.int (181) (nat_lit 0)), (.ref (nat_lit 40)), .none, .none, .none, .none, (.int (220) (nat_lit 0)), (.int (15) (nat_lit 0)), (.str (Str.ofString "/claim/cut.py") (nat_lit 221))]), #[]⟩
(.node ⟨.none, none, (.fields #[]), #[]⟩
(.node ⟨(.type "tuple"), none, (.seq #[] (nat_lit 0)), #[]⟩
(.node ⟨.none, none, (.fields #[]), #[]⟩
.nil .nil) (.node ⟨.none, none, (.func ⟨(Str.ofString "told_type"), (Str.ofString "told_type"), (fdTop (nat_lit 53)).params, .stmts (fdTop (nat_lit 53)).body, (fdTop (nat_lit 53)).scope, (nat_lit 0), [], .none, .none, .none, .none, none, .none, .none, (nat_lit 0)⟩), #[]⟩
.nil .nil)) (.node ⟨(.type "function"), none, (.func ⟨(Str.ofString "find_member"), (Str.ofString "find_member"), (fdTop (nat_lit 20)).params, .stmts (fdTop (nat_lit 20)).body, (fdTop (nat_lit 20)).scope, (nat_lit 3), [], .none, .none, .none, (.str (Str.ofString "chancore.lookup") (nat_lit 311)), none, (.ref (nat_lit 200)), .none, (nat_lit 0)⟩), #[]⟩
(.node ⟨.none, none, (.fields #[]), #[]⟩
.nil .nil) .nil)) (.node ⟨(.type "tuple"), none, (.seq #[] (nat_lit 0)), #[]⟩
(.node ⟨(.type "tuple"), none, (.seq #[(.str (Str.ofString "self") (nat_lit 407)), (.str (Str.ofString "world") (nat_lit 408)), (.str (Str.ofString "told") (nat_lit 409))] (nat_lit 0)), #[]⟩
(.node ⟨(.type "tuple"), none, (.seq #[] (nat_lit 0)), #[]⟩
.nil .nil) .nil) (.node ⟨(.type "tuple"), none, (.seq #[(.str (Str.ofString "self") (nat_lit 517)), (.str (Str.ofString "world") (nat_lit 518)), (.str (Str.ofString "package") (nat_lit 519)), (.str (Str.ofString "scope") (nat_lit 520)), (.str (Str.ofString "const_reader") (nat_lit 521))] (nat_lit 0)), #[]⟩
(.node ⟨(.type "tuple"), none, (.seq #[] (nat_lit 0)), #[]⟩
.nil .nil) .nil))) (.node ⟨(.type "tuple"), none, (.seq #[(.ref (nat_lit 53))] (nat_lit 0)), #[]⟩
(.node ⟨(.type "dict"), none, (.dict #[⟨PyData.keyHash P (Str.ofString "__module__"), (.str (Str.ofString "__module__") (nat_lit 286)), (.str (Str.ofString "chancore.errors") (nat_lit 213))⟩, ⟨PyData.keyHash P (Str.ofString "__firstlineno__"), (.str (Str.ofString "__firstlineno__") (nat_lit 290)), (.int (25) (nat_lit 289))⟩, ⟨PyData.keyHash P (Str.ofString "__static_attributes__"), (.str (Str.ofString "__static_attributes__") (nat_lit 291)), (.ref (nat_lit 88))⟩, ⟨PyData.keyHash P (Str.ofString "__doc__"), (.str (Str.ofString "__doc__") (nat_lit 292)), .none⟩] (nat_lit 2)), #[]⟩
(.node ⟨(.type "tuple"), none, (.seq #[] (nat_lit 0)), #[]⟩
(.node ⟨(.type "code"), none, (.fields #[(.str (Str.ofString "interface") (nat_lit 583)), (.str (Str.ofString "TypeReader.interface") (nat_lit 584)), (.str (Str.ofString "/claim/cut.py") (nat_lit 585)), (.int (207) (nat_lit 0)), (.int (2) (nat_lit 0)), (.int (0) (nat_lit 0)), (.int (0) (nat_lit 0)), (.int (3) (nat_lit 0)), (.ref (nat_lit 278)), (.bool true), (.int (181) (nat_lit 0)), (.ref (nat_lit 279)), .none, .none, .none, (.ref (nat_lit 280)), (.int (586) (nat_lit 0)), (.int (207) (nat_lit 0)), (.str (Str.ofString "/claim/cut.py") (nat_lit 587))]), #[]⟩
.nil .nil) (.node ⟨.none, none, (.fields #[]), #[]⟩
.nil .nil)) (.node ⟨(.type "code"), none, (.fields #[(.str (Str.ofString "exported_entry") (nat_lit 485)), (.str (Str.ofString "exported_entry") (nat_lit 486)), (.str (Str.ofString "/claim/cut.py") (nat_lit 487)), (.int (133) (nat_lit 0)), (.int (5) (nat_lit 0)), (.int (0) (nat_lit 0)), (.int (0) (nat_lit 0)), (.int (3) (nat_lit 0)), (.ref (nat_lit 212)), (.bool true), (.int (181) (nat_lit 0)), (.ref (nat_lit 213)), .none, (.ref (nat_lit 214)), (.ref (nat_lit 215)), (.ref (nat_lit 216)), (.int (493) (nat_lit 0)), (.int (133) (nat_lit 0)), (.str (Str.ofString "/claim/cut.py") (nat_lit 494))]), #[]⟩
(.node ⟨(.type "code"), none, (.fields #[(.str (Str.ofString "is_named") (nat_lit 684)), (.str (Str.ofString "is_named") (nat_lit 685)), (.str (Str.ofString "/claim/cut.py") (nat_lit 686)), (.int (277) (nat_lit 0)), (.int (1) (nat_lit 0)), (.int (0) (nat_lit 0)), (.int (0) (nat_lit 0)), (.int (3) (nat_lit 0)), (.ref (nat_lit 340)), (.bool true), (.int (181) (nat_lit 0)), (.ref (nat_lit 341)), .none, (.ref (nat_lit 342)), (.ref (nat_lit 343)), (.ref (nat_lit 344)), (.int (688) (nat_lit 0)), (.int (277) (nat_lit 0)), (.str (Str.ofString "/claim/cut.py") (nat_lit 689))]), #[]⟩
.nil .nil) .nil)) (.node ⟨(.type "dict"), none, (.dict #[⟨PyData.keyHash P (Str.ofString "__module__"), (.str (Str.ofString "__module__") (nat_lit 322)), (.str (Str.ofString "chancore.lookup") (nat_lit 311))⟩, ⟨PyData.keyHash P (Str.ofString "__firstlineno__"), (.str (Str.ofString "__firstlineno__") (nat_lit 326)), (.int (31) (nat_lit 325))⟩, ⟨PyData.keyHash P (Str.ofString "__init__"), (.str (Str.ofString "__init__") (nat_lit 336)), (.ref (nat_lit 119))⟩, ⟨PyData.keyHash P (Str.ofString "__static_attributes__"), (.str (Str.ofString "__static_attributes__") (nat_lit 340)), (.ref (nat_lit 120))⟩, ⟨PyData.keyHash P (Str.ofString "__dict__"), (.str (Str.ofString "__dict__") (nat_lit 342)), (.ref (nat_lit 123))⟩, ⟨PyData.keyHash P (Str.ofString "__weakref__"), (.str (Str.ofString "__weakref__") (nat_lit 344)), (.ref (nat_lit 124))⟩, ⟨PyData.keyHash P (Str.ofString "__doc__"), (.str (Str.ofString "__doc__") (nat_lit 345)), .none⟩] (nat_lit 4)), #[]⟩
(.node ⟨(.type "getset_descriptor"), none, (.fields #[(.str (Str.ofString "__weakref__") (nat_lit 429)), (.ref (nat_lit 183)), (.builtin "ExceptionGroup.__weakref__"), .none]), #[]⟩
(.node ⟨(.type "function"), none, (.func ⟨(Str.ofString "field_text"), (Str.ofString "field_text"), (fdTop (nat_lit 40)).params, .stmts (fdTop (nat_lit 40)).body, (fdTop (nat_lit 40)).scope, (nat_lit 3), [], .none, .none, .none, (.str (Str.ofString "chancore.types") (nat_lit 601)), none, (.ref (nat_lit 312)), .none, (nat_lit 0)⟩), #[]⟩
.nil .nil) .nil) (.node ⟨(.type "function"), none, (.func ⟨(Str.ofString "all"), (Str.ofString "TypeReader.all"), (fdIn (nat_lit 29) (nat_lit 2)).params, .stmts (fdIn (nat_lit 29) (nat_lit 2)).body, (fdIn (nat_lit 29) (nat_lit 2)).scope, (nat_lit 3), [], .none, .none, .none, (.str (Str.ofString "chancore.type_exprs") (nat_lit 458)), none, (.ref (nat_lit 248)), .none, (nat_lit 0)⟩), #[]⟩
(.node ⟨(.type "tuple"), none, (.seq #[(.str (Str.ofString "world") (nat_lit 724)), (.str (Str.ofString "T") (nat_lit 725))] (nat_lit 0)), #[]⟩
.nil .nil) .nil))))) (.node ⟨(.type "code"), none, (.fields #[(.str (Str.ofString "<module>") (nat_lit 182)), (.str (Str.ofString "<module>") (nat_lit 183)), (.str (Str.ofString "/claim/cut.py") (nat_lit 184)), (.int (1) (nat_lit 0)), (.int (0) (nat_lit 0)), (.int (0) (nat_lit 0)), (.int (0) (nat_lit 0)), (.int (0) (nat_lit 0)), (.ref (nat_lit 11)), (.bool false), (.int (181) (nat_lit 0)), (.ref (nat_lit 12)), .none, .none, .none, .none, (.int (185) (nat_lit 0)), (.int (1) (nat_lit 0)), (.str (Str.ofString "/claim/cut.py") (nat_lit 186))]), #[]⟩
(.node ⟨(.type "function"), none, (.func ⟨(Str.ofString "_wall"), (Str.ofString "_wall"), (fdTop (nat_lit 0)).params, .stmts (fdTop (nat_lit 0)).body, (fdTop (nat_lit 0)).scope, (nat_lit 3), [], .none, .none, .none, (.str (Str.ofString "__main__") (nat_lit 164)), none, (.ref (nat_lit 20)), .none, (nat_lit 0)⟩), #[]⟩
(.node ⟨(.type "builtin_function_or_method"), none, (.fields #[(.builtin "type.__prepare__"), (.type "type")]), #[]⟩
(.node ⟨(.type "tuple"), none, (.seq #[(.ref (nat_lit 53))] (nat_lit 0)), #[]⟩
(.node ⟨(.type "function"), none, (.func ⟨(Str.ofString "own_name"), (Str.ofString "own_name"), (fdTop (nat_lit 13)).params, .stmts (fdTop (nat_lit 13)).body, (fdTop (nat_lit 13)).scope, (nat_lit 3), [], .none, .none, .none, (.str (Str.ofString "chancore.lookup") (nat_lit 311)), none, (.ref (nat_lit 132)), .none, (nat_lit 0)⟩), #[]⟩
(.node ⟨.none, none, (.func ⟨(Str.ofString "key"), (Str.ofString "TypeReader.key"), (fdIn (nat_lit 29) (nat_lit 4)).params, .stmts (fdIn (nat_lit 29) (nat_lit 4)).body, (fdIn (nat_lit 29) (nat_lit 4)).scope, (nat_lit 0), [], .none, .none, .none, .none, none, .none, .none, (nat_lit 0)⟩), #[]⟩
.nil .nil) (.node ⟨(.type "tuple"), none, (.seq #[] (nat_lit 0)), #[]⟩
.nil .nil)) (.node ⟨(.type "tuple"), none, (.seq #[(.str (Str.ofString "world") (nat_lit 447)), (.str (Str.ofString "told") (nat_lit 448)), (.str (Str.ofString "name") (nat_lit 449)), (.str (Str.ofString "begun") (nat_lit 450)), (.str (Str.ofString "levels") (nat_lit 451)), (.str (Str.ofString "found") (nat_lit 452)), (.str (Str.ofString "reached") (nat_lit 453)), (.str (Str.ofString "some") (nat_lit 454))] (nat_lit 0)), #[]⟩
(.node ⟨.none, none, (.func ⟨(Str.ofString "chan_text"), (Str.ofString "chan_text"), (fdTop (nat_lit 42)).params, .stmts (fdTop (nat_lit 42)).body, (fdTop (nat_lit 42)).scope, (nat_lit 0), [], .none, .none, .none, .none, none, .none, .none, (nat_lit 0)⟩), #[]⟩
.nil .nil) .nil)) (.node ⟨(.type "dict"), none, (.dict #[⟨PyData.keyHash P (Str.ofString "__module__"), (.str (Str.ofString "__module__") (nat_lit 302)), (.str (Str.ofString "chancore.errors") (nat_lit 213))⟩, ⟨PyData.keyHash P (Str.ofString "__firstlineno__"), (.str (Str.ofString "__firstlineno__") (nat_lit 306)), (.int (27) (nat_lit 305))⟩, ⟨PyData.keyHash P (Str.ofString "__static_attributes__"), (.str (Str.ofString "__static_attributes__") (nat_lit 307)), (.ref (nat_lit 100))⟩, ⟨PyData.keyHash P (Str.ofString "__doc__"), (.str (Str.ofString "__doc__") (nat_lit 308)), .none⟩] (nat_lit 2)), #[]⟩
(.node ⟨(.type "code"), none, (.fields #[(.str (Str.ofString "Levels") (nat_lit 394)), (.str (Str.ofString "Levels") (nat_lit 395)), (.str (Str.ofString "/claim/cut.py") (nat_lit 396)), (.int (68) (nat_lit 0)), (.int (0) (nat_lit 0)), (.int (0) (nat_lit 0)), (.int (0) (nat_lit 0)), (.int (0) (nat_lit 0)), (.ref (nat_lit 163)), (.bool false), (.int (181) (nat_lit 0)), (.ref (nat_lit 164)), .none, .none, .none, .none, (.int (397) (nat_lit 0)), (.int (68) (nat_lit 0)), (.str (Str.ofString "/claim/cut.py") (nat_lit 398))]), #[]⟩
(.node ⟨(.type "tuple"), none, (.seq #[(.str (Str.ofString "int") (nat_lit 610)), (.str (Str.ofString "int32") (nat_lit 611))] (nat_lit 0)), #[]⟩
.nil .nil) (.node ⟨(.type "function"), none, (.func ⟨(Str.ofString "constant_within"), (Str.ofString "constant_within"), (fdTop (nat_lit 57)).params, .stmts (fdTop (nat_lit 57)).body, (fdTop (nat_lit 57)).scope, (nat_lit 3), [], .none, .none, .none, (.str (Str.ofString "chancore.check_literals") (nat_lit 737)), none, (.ref (nat_lit 420)), .none, (nat_lit 0)⟩), #[]⟩
.nil .nil)) (.node ⟨(.type "code"), none, (.fields #[(.str (Str.ofString "TypeReader") (nat_lit 504)), (.str (Str.ofString "TypeReader") (nat_lit 505)), (.str (Str.ofString "/claim/cut.py") (nat_lit 506)), (.int (151) (nat_lit 0)), (.int (0) (nat_lit 0)), (.int (0) (nat_lit 0)), (.int (0) (nat_lit 0)), (.int (0) (nat_lit 0)), (.ref (nat_lit 227)), (.bool false), (.int (181) (nat_lit 0)), (.ref (nat_lit 228)), .none, .none, .none, .none, (.int (507) (nat_lit 0)), (.int (151) (nat_lit 0)), (.str (Str.ofString "/claim/cut.py") (nat_lit 508))]), #[]⟩
(.node ⟨(.type "tuple"), none, (.seq #[] (nat_lit 0)), #[]⟩
.nil .nil) .nil))) (.node ⟨(.type "type"), none, (.cls { name := Str.ofString "ChanError", bases := [Value.type "Exception"], mro := [Value.ref (nat_lit 53), Value.type "Exception", Value.type "BaseException", Value.type "object"], ns := (nat_lit 52), qualname := Str.ofString "ChanError", subclasses := [Value.ref (nat_lit 66), Value.ref (nat_lit 78), Value.ref (nat_lit 90), Value.ref (nat_lit 102)] }), #[some (.ref (nat_lit 36)), none, some (.str (Str.ofString "ChanError") (nat_lit 215)), some (.str (Str.ofString "ChanError") (nat_lit 223)), some (.builtin "Exception.__new__"), some (.bool true)]⟩
(.node ⟨.none, none, (.fields #[]), #[]⟩
(.node ⟨.none, none, (.fields #[]), #[]⟩
(.node ⟨(.type "function"), none, (.func ⟨(Str.ofString "kept"), (Str.ofString "TypeReader.kept"), (fdIn (nat_lit 29) (nat_lit 6)).params, .stmts (fdIn (nat_lit 29) (nat_lit 6)).body, (fdIn (nat_lit 29) (nat_lit 6)).scope, (nat_lit 3), [], .none, .none, .none, (.str (Str.ofString "chancore.type_exprs") (nat_lit 458)), none, (.ref (nat_lit 276)), .none, (nat_lit 0)⟩), #[]⟩
.nil .nil) (.node ⟨.none, none, (.func ⟨(Str.ofString "dropped"), (Str.ofString "dropped"), (fdTop (nat_lit 55)).params, .stmts (fdTop (nat_lit 55)).body, (fdTop (nat_lit 55)).scope, (nat_lit 0), [], .none, .none, .none, .none, none, .none, .none, (nat_lit 0)⟩), #[]⟩
.nil .nil)) (.node ⟨.none, none, (.fields #[]), #[]⟩
(.node ⟨.none, none, (.fields #[]), #[]⟩
.nil .nil) .nil)) (.node ⟨.none, none, (.func ⟨(Str.ofString "__init__"), (Str.ofString "Reached.__init__"), (fdIn (nat_lit 12) (nat_lit 0)).params, .stmts (fdIn (nat_lit 12) (nat_lit 0)).body, (fdIn (nat_lit 12) (nat_lit 0)).scope, (nat_lit 0), [], .none, .none, .none, .none, none, .none, .none, (nat_lit 0)⟩), #[]⟩
(.node ⟨(.type "tuple"), none, (.seq #[(.str (Str.ofString "here") (nat_lit 423)), (.str (Str.ofString "seen") (nat_lit 424)), (.str (Str.ofString "world") (nat_lit 425))] (nat_lit 0)), #[]⟩
(.node ⟨(.type "tuple"), none, (.seq #[(.str (Str.ofString "row") (nat_lit 646)), (.str (Str.ofString "name") (nat_lit 647)), (.str (Str.ofString "T") (nat_lit 648)), (.str (Str.ofString "is_embedded") (nat_lit 649))] (nat_lit 0)), #[]⟩
.nil .nil) .nil) (.node ⟨(.type "tuple"), none, (.seq #[] (nat_lit 0)), #[]⟩
(.node ⟨(.type "code"), none, (.fields #[(.str (Str.ofString "is_integer") (nat_lit 713)), (.str (Str.ofString "is_integer") (nat_lit 714)), (.str (Str.ofString "/claim/cut.py") (nat_lit 715)), (.int (285) (nat_lit 0)), (.int (2) (nat_lit 0)), (.int (0) (nat_lit 0)), (.int (0) (nat_lit 0)), (.int (3) (nat_lit 0)), (.ref (nat_lit 368)), (.bool true), (.int (181) (nat_lit 0)), (.ref (nat_lit 369)), .none, (.ref (nat_lit 370)), (.ref (nat_lit 371)), (.ref (nat_lit 372)), (.int (718) (nat_lit 0)), (.int (285) (nat_lit 0)), (.str (Str.ofString "/claim/cut.py") (nat_lit 719))]), #[]⟩
.nil .nil) .nil)))) (.node ⟨(.type "tuple"), none, (.seq #[] (nat_lit 0)), #[]⟩
(.node ⟨.none, none, (.fields #[]), #[]⟩
(.node ⟨(.type "dict"), none, (.dict #[⟨PyData.keyHash P (Str.ofString "__module__"), (.str (Str.ofString "__module__") (nat_lit 270)), (.str (Str.ofString "chancore.errors") (nat_lit 213))⟩, ⟨PyData.keyHash P (Str.ofString "__firstlineno__"), (.str (Str.ofString "__firstlineno__") (nat_lit 274)), (.int (23) (nat_lit 273))⟩, ⟨PyData.keyHash P (Str.ofString "__static_attributes__"), (.str (Str.ofString "__static_attributes__") (nat_lit 275)), (.ref (nat_lit 76))⟩, ⟨PyData.keyHash P (Str.ofString "__doc__"), (.str (Str.ofString "__doc__") (nat_lit 276)), .none⟩] (nat_lit 2)), #[]⟩
(.node ⟨(.type "tuple"), none, (.seq #[] (nat_lit 0)), #[]⟩
(.node ⟨(.type "code"), none, (.fields #[(.str (Str.ofString "struct") (nat_lit 560)), (.str (Str.ofString "TypeReader.struct") (nat_lit 561)), (.str (Str.ofString "/claim/cut.py") (nat_lit 562)), (.int (191) (nat_lit 0)), (.int (2) (nat_lit 0)), (.int (0) (nat_lit 0)), (.int (0) (nat_lit 0)), (.int (3) (nat_lit 0)), (.ref (nat_lit 264)), (.bool true), (.int (181) (nat_lit 0)), (.ref (nat_lit 265)), .none, (.ref (nat_lit 266)), (.ref (nat_lit 267)), (.ref (nat_lit 268)), (.int (571) (nat_lit 0)), (.int (191) (nat_lit 0)), (.str (Str.ofString "/claim/cut.py") (nat_lit 572))]), #[]⟩
.nil .nil) (.node ⟨.none, none, (.fields #[]), #[]⟩
.nil .nil)) (.node ⟨.none, none, (.fields #[]), #[]⟩
(.node ⟨(.type "tuple"), none, (.seq #[] (nat_lit 0)), #[]⟩
.nil .nil) .nil)) (.node ⟨.none, none, (.fields #[(.int (33) (nat_lit 0)), (.int (4) (nat_lit 0)), (.ref (nat_lit 118))]), #[]⟩
(.node ⟨(.type "function"), none, (.func ⟨(Str.ofString "__init__"), (Str.ofString "Levels.__init__"), (fdIn (nat_lit 18) (nat_lit 0)).params, .stmts (fdIn (nat_lit 18) (nat_lit 0)).body, (fdIn (nat_lit 18) (nat_lit 0)).scope, (nat_lit 3), [], .none, .none, .none, (.str (Str.ofString "chancore.lookup") (nat_lit 311)), none, (.ref (nat_lit 172)), .none, (nat_lit 0)⟩), #[]⟩
(.node ⟨(.type "function"), none, (.func ⟨(Str.ofString "joined_texts"), (Str.ofString "joined_texts"), (fdTop (nat_lit 38)).params, .stmts (fdTop (nat_lit 38)).body, (fdTop (nat_lit 38)).scope, (nat_lit 3), [], .none, .none, .none, (.str (Str.ofString "chancore.types") (nat_lit 601)), none, (.ref (nat_lit 300)), .none, (nat_lit 0)⟩), #[]⟩
.nil .nil) .nil) (.node ⟨(.type "function"), none, (.func ⟨(Str.ofString "__init__"), (Str.ofString "TypeReader.__init__"), (fdIn (nat_lit 29) (nat_lit 0)).params, .stmts (fdIn (nat_lit 29) (nat_lit 0)).body, (fdIn (nat_lit 29) (nat_lit 0)).scope, (nat_lit 3), [], .none, .none, .none, (.str (Str.ofString "chancore.type_exprs") (nat_lit 458)), none, (.ref (nat_lit 236)), .none, (nat_lit 0)⟩), #[]⟩
(.node ⟨.none, none, (.func ⟨(Str.ofString "is_interface"), (Str.ofString "is_interface"), (fdTop (nat_lit 48)).params, .stmts (fdTop (nat_lit 48)).body, (fdTop (nat_lit 48)).scope, (nat_lit 0), [], .none, .none, .none, .none, none, .none, .none, (nat_lit 0)⟩), #[]⟩
.nil .nil) .nil))) (.node ⟨.none, none, (.fields #[]), #[]⟩
(.node ⟨(.type "tuple"), none, (.seq #[(.ref (nat_lit 53))] (nat_lit 0)), #[]⟩
(.node ⟨.none, none, (.func ⟨(Str.ofString "embedded_in"), (Str.ofString "embedded_in"), (fdTop (nat_lit 17)).params, .stmts (fdTop (nat_lit 17)).body, (fdTop (nat_lit 17)).scope, (nat_lit 0), [], .none, .none, .none, .none, none, .none, .none, (nat_lit 0)⟩), #[]⟩
(.node ⟨(.type "type"), none, (.cls { name := Str.ofString "TypeReader", bases := [Value.type "object"], mro := [Value.ref (nat_lit 285), Value.type "object"], ns := (nat_lit 284), qualname := Str.ofString "TypeReader" }), #[none, none, some (.str (Str.ofString "TypeReader") (nat_lit 502)), some (.str (Str.ofString "TypeReader") (nat_lit 510)), some (.builtin "object.__new__"), some (.bool true)]⟩
.nil .nil) (.node ⟨(.type "code"), none, (.fields #[(.str (Str.ofString "place_told") (nat_lit 764)), (.str (Str.ofString "place_told") (nat_lit 765)), (.str (Str.ofString "/claim/cut.py") (nat_lit 766)), (.int (315) (nat_lit 0)), (.int (2) (nat_lit 0)), (.int (0) (nat_lit 0)), (.int (0) (nat_lit 0)), (.int (3) (nat_lit 0)), (.ref (nat_lit 408)), (.bool true), (.int (181) (nat_lit 0)), (.ref (nat_lit 409)), .none, (.ref (nat_lit 410)), (.ref (nat_lit 411)), (.ref (nat_lit 412)), (.int (770) (nat_lit 0)), (.int (315) (nat_lit 0)), (.str (Str.ofString "/claim/cut.py") (nat_lit 771))]), #[]⟩
.nil .nil)) (.node ⟨.none, none, (.func ⟨(Str.ofString "want_few_parts"), (Str.ofString "want_few_parts"), (fdTop (nat_lit 28)).params, .stmts (fdTop (nat_lit 28)).body, (fdTop (nat_lit 28)).scope, (nat_lit 0), [], .none, .none, .none, .none, none, .none, .none, (nat_lit 0)⟩), #[]⟩
(.node ⟨(.type "tuple"), none, (.seq #[(.str (Str.ofString "T") (nat_lit 694))] (nat_lit 0)), #[]⟩
.nil .nil) .nil)) (.node ⟨(.type "super"), none, (.fields #[(.ref (nat_lit 122)), (.ref (nat_lit 122)), (.ref (nat_lit 122))]), #[]⟩
(.node ⟨.none, none, (.fields #[]), #[]⟩
(.node ⟨(.type "tuple"), none, (.seq #[] (nat_lit 0)), #[]⟩
.nil .nil) .nil) (.node ⟨(.type "tuple"), none, (.seq #[] (nat_lit 0)), #[]⟩
(.node ⟨(.type "function"), none, (.func ⟨(Str.ofString "is_truth"), (Str.ofString "is_truth"), (fdTop (nat_lit 50)).params, .stmts (fdTop (nat_lit 50)).body, (fdTop (nat_lit 50)).scope, (nat_lit 3), [], .none, .none, .none, (.str (Str.ofString "chancore.types") (nat_lit 601)), none, (.ref (nat_lit 380)), .none, (nat_lit 0)⟩), #[]⟩
.nil .nil) .nil))))))) (.node ⟨.none, none, (.dict #[⟨PyData.keyHash P (Str.ofString "type.__subclasses__.Exception.0"), (.str (Str.ofString "type.__subclasses__.Exception.0") (nat_lit 243)), (.int (53) (nat_lit 0))⟩, ⟨PyData.keyHash P (Str.ofString "type.__subclasses__.Exception.n"), (.str (Str.ofString "type.__subclasses__.Exception.n") (nat_lit 244)), (.int (1) (nat_lit 0))⟩] (nat_lit 2)), #[]⟩
(.node (boot_o_4 P)
(.node (boot_o_8 P)
(.node ⟨.none, none, (.fields #[]), #[]⟩
(.node ⟨(.type "tuple"), none, (.seq #[] (nat_lit 0)), #[]⟩
(.node ⟨(.type "tuple"), none, (.seq #[] (nat_lit 0)), #[]⟩
(.node ⟨.none, none, (.fields #[]), #[]⟩
(.node ⟨(.type "function"), none, (.func ⟨(Str.ofString "length"), (Str.ofString "TypeReader.length"), (fdIn (nat_lit 29) (nat_lit 3)).params, .stmts (fdIn (nat_lit 29) (nat_lit 3)).body, (fdIn (nat_lit 29) (nat_lit 3)).scope, (nat_lit 3), [], .none, .none, .none, (.str (Str.ofString "chancore.type_exprs") (nat_lit 458)), none, (.ref (nat_lit 255)), .none, (nat_lit 0)⟩), #[]⟩
.nil .nil) (.node ⟨(.type "tuple"), none, (.seq #[(.str (Str.ofString "world") (nat_lit 732)), (.str (Str.ofString "T") (nat_lit 733))] (nat_lit 0)), #[]⟩
.nil .nil)) (.node ⟨.none, none, (.func ⟨(Str.ofString "start_type"), (Str.ofString "start_type"), (fdTop (nat_lit 19)).params, .stmts (fdTop (nat_lit 19)).body, (fdTop (nat_lit 19)).scope, (nat_lit 0), [], .none, .none, .none, .none, none, .none, .none, (nat_lit 0)⟩), #[]⟩
(.node ⟨(.type "function"), none, (.func ⟨(Str.ofString "braced_text"), (Str.ofString "braced_text"), (fdTop (nat_lit 41)).params, .stmts (fdTop (nat_lit 41)).body, (fdTop (nat_lit 41)).scope, (nat_lit 3), [], .none, .none, .none, (.str (Str.ofString "chancore.types") (nat_lit 601)), none, (.ref (nat_lit 319)), .none, (nat_lit 0)⟩), #[]⟩
.nil .nil) .nil)) (.node ⟨(.type "tuple"), none, (.seq #[] (nat_lit 0)), #[]⟩
(.node ⟨(.type "tuple"), none, (.seq #[] (nat_lit 0)), #[]⟩
(.node ⟨(.type "super"), none, (.fields #[(.ref (nat_lit 285)), (.ref (nat_lit 285)), (.ref (nat_lit 285))]), #[]⟩
.nil .nil) (.node ⟨.none, none, (.fields #[]), #[]⟩
.nil .nil)) (.node ⟨(.type "tuple"), none, (.seq #[] (nat_lit 0)), #[]⟩
(.node ⟨(.type "code"), none, (.fields #[(.str (Str.ofString "is_untyped") (nat_lit 691)), (.str (Str.ofString "is_untyped") (nat_lit 692)), (.str (Str.ofString "/claim/cut.py") (nat_lit 693)), (.int (279) (nat_lit 0)), (.int (1) (nat_lit 0)), (.int (0) (nat_lit 0)), (.int (0) (nat_lit 0)), (.int (3) (nat_lit 0)), (.ref (nat_lit 347)), (.bool true), (.int (181) (nat_lit 0)), (.ref (nat_lit 348)), .none, (.ref (nat_lit 349)), (.ref (nat_lit 350)), (.ref (nat_lit 351)), (.int (695) (nat_lit 0)), (.int (279) (nat_lit 0)), (.str (Str.ofString "/claim/cut.py") (nat_lit 696))]), #[]⟩
.nil .nil) .nil))) (.node ⟨.none, none, (.func ⟨(Str.ofString "__init__"), (Str.ofString "ChanError.__init__"), (fdIn (nat_lit 5) (nat_lit 0)).params, .stmts (fdIn (nat_lit 5) (nat_lit 0)).body, (fdIn (nat_lit 5) (nat_lit 0)).scope, (nat_lit 0), [], .none, .none, .none, .none, none, .none, .none, (nat_lit 0)⟩), #[]⟩
(.node ⟨(.type "builtin_function_or_method"), none, (.fields #[(.builtin "object.__init_subclass__"), (.ref (nat_lit 78))]), #[]⟩
(.node ⟨(.type "tuple"), none, (.seq #[] (nat_lit 0)), #[]⟩
(.node ⟨.none, none, (.fields #[]), #[]⟩
.nil .nil) (.node ⟨(.type "function"), none, (.func ⟨(Str.ofString "field_places"), (Str.ofString "field_places"), (fdTop (nat_lit 54)).params, .stmts (fdTop (nat_lit 54)).body, (fdTop (nat_lit 54)).scope, (nat_lit 3), [], .none, .none, .none, (.str (Str.ofString "chancore.check_literals") (nat_lit 737)), none, (.ref (nat_lit 399)), .none, (nat_lit 0)⟩), #[]⟩
.nil .nil)) (.node ⟨.none, none, (.func ⟨(Str.ofString "type_entry"), (Str.ofString "type_entry"), (fdTop (nat_lit 26)).params, .stmts (fdTop (nat_lit 26)).body, (fdTop (nat_lit 26)).scope, (nat_lit 0), [], .none, .none, .none, .none, none, .none, .none, (nat_lit 0)⟩), #[]⟩
(.node ⟨(.type "tuple"), none, (.seq #[] (nat_lit 0)), #[]⟩
.nil .nil) .nil)) (.node ⟨(.type "tuple"), none, (.seq #[(.bool false)] (nat_lit 0)), #[]⟩
(.node ⟨(.type "tuple"), none, (.seq #[(.str (Str.ofString "self") (nat_lit 416)), (.str (Str.ofString "reached") (nat_lit 417)), (.str (Str.ofString "later") (nat_lit 418)), (.str (Str.ofString "inner") (nat_lit 419))] (nat_lit 0)), #[]⟩
(.node ⟨.none, none, (.func ⟨(Str.ofString "signature_text"), (Str.ofString "signature_text"), (fdTop (nat_lit 39)).params, .stmts (fdTop (nat_lit 39)).body, (fdTop (nat_lit 39)).scope, (nat_lit 0), [], .none, .none, .none, .none, none, .none, .none, (nat_lit 0)⟩), #[]⟩
.nil .nil) .nil) (.node ⟨(.type "tuple"), none, (.seq #[(.str (Str.ofString "self") (nat_lit 528)), (.str (Str.ofString "typex") (nat_lit 529)), (.str (Str.ofString "kind") (nat_lit 530)), (.str (Str.ofString "spot") (nat_lit 531))] (nat_lit 0)), #[]⟩
(.node ⟨(.type "tuple"), none, (.seq #[] (nat_lit 0)), #[]⟩
.nil .nil) .nil)))) (.node ⟨(.type "tuple"), none, (.seq #[(.str (Str.ofString "name") (nat_lit 199))] (nat_lit 0)), #[]⟩
(.node ⟨.none, none, (.fields #[(.int (17) (nat_lit 0)), (.int (4) (nat_lit 0)), (.ref (nat_lit 49))]), #[]⟩
(.node ⟨(.type "tuple"), none, (.seq #[] (nat_lit 0)), #[]⟩
(.node ⟨(.type "tuple"), none, (.seq #[(.str (Str.ofString "told") (nat_lit 360))] (nat_lit 0)), #[]⟩
(.node ⟨(.type "tuple"), none, (.seq #[] (nat_lit 0)), #[]⟩
.nil .nil) (.node ⟨(.type "tuple"), none, (.seq #[] (nat_lit 0)), #[]⟩
.nil .nil)) (.node ⟨(.type "code"), none, (.fields #[(.str (Str.ofString "find_member") (nat_lit 444)), (.str (Str.ofString "find_member") (nat_lit 445)), (.str (Str.ofString "/claim/cut.py") (nat_lit 446)), (.int (95) (nat_lit 0)), (.int (3) (nat_lit 0)), (.int (0) (nat_lit 0)), (.int (0) (nat_lit 0)), (.int (3) (nat_lit 0)), (.ref (nat_lit 195)), (.bool true), (.int (181) (nat_lit 0)), (.ref (nat_lit 196)), .none, (.ref (nat_lit 197)), (.ref (nat_lit 198)), (.ref (nat_lit 199)), (.int (455) (nat_lit 0)), (.int (95) (nat_lit 0)), (.str (Str.ofString "/claim/cut.py") (nat_lit 456))]), #[]⟩
(.node ⟨(.type "tuple"), none, (.seq #[] (nat_lit 0)), #[]⟩
.nil .nil) .nil)) (.node ⟨(.type "builtin_function_or_method"), none, (.fields #[(.builtin "object.__init_subclass__"), (.ref (nat_lit 102))]), #[]⟩
(.node ⟨.none, none, (.fields #[]), #[]⟩
(.node ⟨(.type "tuple"), none, (.seq #[(.str (Str.ofString "ptr") (nat_lit 624)), (.str (Str.ofString "func") (nat_lit 625)), (.str (Str.ofString "slice") (nat_lit 626)), (.str (Str.ofString "map") (nat_lit 627)), (.str (Str.ofString "chan") (nat_lit 628)), (.str (Str.ofString "interface") (nat_lit 629))] (nat_lit 0)), #[]⟩
.nil .nil) .nil) (.node ⟨.none, none, (.fields #[]), #[]⟩
(.node ⟨(.type "function"), none, (.func ⟨(Str.ofString "default_type"), (Str.ofString "default_type"), (fdTop (nat_lit 47)).params, .stmts (fdTop (nat_lit 47)).body, (fdTop (nat_lit 47)).scope, (nat_lit 3), [], .none, .none, .none, (.str (Str.ofString "chancore.types") (nat_lit 601)), none, (.ref (nat_lit 359)), .none, (nat_lit 0)⟩), #[]⟩
.nil .nil) .nil))) (.node ⟨(.type "builtin_function_or_method"), none, (.fields #[(.builtin "object.__init_subclass__"), (.ref (nat_lit 53))]), #[]⟩
(.node ⟨(.type "tuple"), none, (.seq #[] (nat_lit 0)), #[]⟩
(.node ⟨(.type "function"), none, (.func ⟨(Str.ofString "members_at"), (Str.ofString "members_at"), (fdTop (nat_lit 16)).params, .stmts (fdTop (nat_lit 16)).body, (fdTop (nat_lit 16)).scope, (nat_lit 3), [], .none, .none, .none, (.str (Str.ofString "chancore.lookup") (nat_lit 311)), none, (.ref (nat_lit 151)), .none, (nat_lit 0)⟩), #[]⟩
(.node ⟨.none, none, (.func ⟨(Str.ofString "interface"), (Str.ofString "TypeReader.interface"), (fdIn (nat_lit 29) (nat_lit 7)).params, .stmts (fdIn (nat_lit 29) (nat_lit 7)).body, (fdIn (nat_lit 29) (nat_lit 7)).scope, (nat_lit 0), [], .none, .none, .none, .none, none, .none, .none, (nat_lit 0)⟩), #[]⟩
.nil .nil) (.node ⟨(.type "tuple"), none, (.seq #[] (nat_lit 0)), #[]⟩
.nil .nil)) (.node ⟨.none, none, (.func ⟨(Str.ofString "exported_entry"), (Str.ofString "exported_entry"), (fdTop (nat_lit 27)).params, .stmts (fdTop (nat_lit 27)).body, (fdTop (nat_lit 27)).scope, (nat_lit 0), [], .none, .none, .none, .none, none, .none, .none, (nat_lit 0)⟩), #[]⟩
(.node ⟨.none, none, (.func ⟨(Str.ofString "is_named"), (Str.ofString "is_named"), (fdTop (nat_lit 45)).params, .stmts (fdTop (nat_lit 45)).body, (fdTop (nat_lit 45)).scope, (nat_lit 0), [], .none, .none, .none, .none, none, .none, .none, (nat_lit 0)⟩), #[]⟩
.nil .nil) .nil)) (.node ⟨(.type "tuple"), none, (.seq #[(.str (Str.ofString "is_twice") (nat_lit 337)), (.str (Str.ofString "steps") (nat_lit 338)), (.str (Str.ofString "told") (nat_lit 339))] (nat_lit 0)), #[]⟩
(.node ⟨(.type "getset_descriptor"), none, (.fields #[(.str (Str.ofString "__dict__") (nat_lit 427)), (.ref (nat_lit 183)), (.builtin "function.__dict__"), (.builtin "function.__dict__#set")]), #[]⟩
(.node ⟨(.type "code"), none, (.fields #[(.str (Str.ofString "field_text") (nat_lit 643)), (.str (Str.ofString "field_text") (nat_lit 644)), (.str (Str.ofString "/claim/cut.py") (nat_lit 645)), (.int (241) (nat_lit 0)), (.int (1) (nat_lit 0)), (.int (0) (nat_lit 0)), (.int (0) (nat_lit 0)), (.int (3) (nat_lit 0)), (.ref (nat_lit 307)), (.bool true), (.int (181) (nat_lit 0)), (.ref (nat_lit 308)), .none, (.ref (nat_lit 309)), (.ref (nat_lit 310)), (.ref (nat_lit 311)), (.int (650) (nat_lit 0)), (.int (241) (nat_lit 0)), (.str (Str.ofString "/claim/cut.py") (nat_lit 651))]), #[]⟩
.nil .nil) .nil) (.node ⟨(.type "code"), none, (.fields #[(.str (Str.ofString "all") (nat_lit 535)), (.str (Str.ofString "TypeReader.all") (nat_lit 536)), (.str (Str.ofString "/claim/cut.py") (nat_lit 537)), (.int (177) (nat_lit 0)), (.int (2) (nat_lit 0)), (.int (0) (nat_lit 0)), (.int (0) (nat_lit 0)), (.int (3) (nat_lit 0)), (.ref (nat_lit 245)), (.bool true), (.int (181) (nat_lit 0)), (.ref (nat_lit 246)), .none, .none, .none, (.ref (nat_lit 247)), (.int (538) (nat_lit 0)), (.int (177) (nat_lit 0)), (.str (Str.ofString "/claim/cut.py") (nat_lit 539))]), #[]⟩
(.node ⟨.none, none, (.fields #[]), #[]⟩
.nil .nil) .nil))))) (.node ⟨.none, none, (.fields #[(.int (1) (nat_lit 0)), (.int (0) (nat_lit 0)), (.ref (nat_lit 20)), (.int (5) (nat_lit 0)), (.int (0) (nat_lit 0)), (.ref (nat_lit 27)), (.int (7) (nat_lit 0)), (.int (0) (nat_lit 0)), (.ref (nat_lit 34)), (.int (15) (nat_lit 0)), (.int (0) (nat_lit 0)), (.ref (nat_lit 41)), (.int (21) (nat_lit 0)), (.int (0) (nat_lit 0)), (.ref (nat_lit 62)), (.int (23) (nat_lit 0)), (.int (0) (nat_lit 0)), (.ref (nat_lit 74)), (.int (25) (nat_lit 0)), (.int (0) (nat_lit 0)), (.ref (nat_lit 86)), (.int (27) (nat_lit 0)), (.int (0) (nat_lit 0)), (.ref (nat_lit 98)), (.int (31) (nat_lit 0)), (.int (0) (nat_lit 0)), (.ref (nat_lit 110)), (.int (37) (nat_lit 0)), (.int (0) (nat_lit 0)), (.ref (nat_lit 132)), (.int (41) (nat_lit 0)), (.int (0) (nat_lit 0)), (.ref (nat_lit 139)), (.int (43) (nat_lit 0)), (.int (0) (nat_lit 0)), (.ref (nat_lit 146)), (.int (45) (nat_lit 0)), (.int (0) (nat_lit 0)), (.ref (nat_lit 151)), (.int (59) (nat_lit 0)), (.int (0) (nat_lit 0)), (.ref (nat_lit 158)), (.int (68) (nat_lit 0)), (.int (0) (nat_lit 0)), (.ref (nat_lit 165)), (.int (87) (nat_lit 0)), (.int (0) (nat_lit 0)), (.ref (nat_lit 193)), (.int (95) (nat_lit 0)), (.int (0) (nat_lit 0)), (.ref (nat_lit 200)), (.int (118) (nat_lit 0)), (.int (0) (nat_lit 0)), (.ref (nat_lit 209)), (.int (133) (nat_lit 0)), (.int (0) (nat_lit 0)), (.ref (nat_lit 217)), (.int (142) (nat_lit 0)), (.int (0) (nat_lit 0)), (.ref (nat_lit 222)), (.int (151) (nat_lit 0)), (.int (0) (nat_lit 0)), (.ref (nat_lit 229)), (.int (231) (nat_lit 0)), (.int (0) (nat_lit 0)), (.ref (nat_lit 300)), (.int (233) (nat_lit 0)), (.int (0) (nat_lit 0)), (.ref (nat_lit 305)), (.int (241) (nat_lit 0)), (.int (0) (nat_lit 0)), (.ref (nat_lit 312)), (.int (244) (nat_lit 0)), (.int (0) (nat_lit 0)), (.ref (nat_lit 319)), (.int (246) (nat_lit 0)), (.int (0) (nat_lit 0)), (.ref (nat_lit 326)), (.int (252) (nat_lit 0)), (.int (0) (nat_lit 0)), (.ref (nat_lit 331)), (.int (275) (nat_lit 0)), (.int (0) (nat_lit 0)), (.ref (nat_lit 338)), (.int (277) (nat_lit 0)), (.int (0) (nat_lit 0)), (.ref (nat_lit 345)), (.int (279) (nat_lit 0)), (.int (0) (nat_lit 0)), (.ref (nat_lit 352)), (.int (281) (nat_lit 0)), (.int (0) (nat_lit 0)), (.ref (nat_lit 359)), (.int (283) (nat_lit 0)), (.int (0) (nat_lit 0)), (.ref (nat_lit 366)), (.int (285) (nat_lit 0)), (.int (0) (nat_lit 0)), (.ref (nat_lit 373)), (.int (289) (nat_lit 0)), (.int (0) (nat_lit 0)), (.ref (nat_lit 380)), (.int (291) (nat_lit 0)), (.int (0) (nat_lit 0)), (.ref (nat_lit 387)), (.int (294) (nat_lit 0)), (.int (0) (nat_lit 0)), (.ref (nat_lit 394)), (.int (300) (nat_lit 0)), (.int (0) (nat_lit 0)), (.ref (nat_lit 399)), (.int (312) (nat_lit 0)), (.int (0) (nat_lit 0)), (.ref (nat_lit 406)), (.int (315) (nat_lit 0)), (.int (0) (nat_lit 0)), (.ref (nat_lit 413)), (.int (322) (nat_lit 0)), (.int (0) (nat_lit 0)), (.ref (nat_lit 420))]), #[]⟩
(.node ⟨(.type "code"), none, (.fields #[(.str (Str.ofString "_wall") (nat_lit 187)), (.str (Str.ofString "_wall") (nat_lit 188)), (.str (Str.ofString "/claim/cut.py") (nat_lit 189)), (.int (1) (nat_lit 0)), (.int (1) (nat_lit 0)), (.int (0) (nat_lit 0)), (.int (0) (nat_lit 0)), (.int (3) (nat_lit 0)), (.ref (nat_lit 15)), (.bool true), (.int (181) (nat_lit 0)), (.ref (nat_lit 16)), .none, (.ref (nat_lit 17)), (.ref (nat_lit 18)), (.ref (nat_lit 19)), (.int (191) (nat_lit 0)), (.int (1) (nat_lit 0)), (.str (Str.ofString "/claim/cut.py") (nat_lit 192))]), #[]⟩
(.node ⟨(.type "tuple"), none, (.seq #[(.type "Exception")] (nat_lit 0)), #[]⟩
(.node ⟨(.type "builtin_function_or_method"), none, (.fields #[(.builtin "object.__init_subclass__"), (.ref (nat_lit 66))]), #[]⟩
(.node ⟨(.type "code"), none, (.fields #[(.str (Str.ofString "own_name") (nat_lit 348)), (.str (Str.ofString "own_name") (nat_lit 349)), (.str (Str.ofString "/claim/cut.py") (nat_lit 350)), (.int (37) (nat_lit 0)), (.int (3) (nat_lit 0)), (.int (0) (nat_lit 0)), (.int (0) (nat_lit 0)), (.int (3) (nat_lit 0)), (.ref (nat_lit 127)), (.bool true), (.int (181) (nat_lit 0)), (.ref (nat_lit 128)), .none, (.ref (nat_lit 129)), (.ref (nat_lit 130)), (.ref (nat_lit 131)), (.int (354) (nat_lit 0)), (.int (37) (nat_lit 0)), (.str (Str.ofString "/claim/cut.py") (nat_lit 355))]), #[]⟩
(.node ⟨(.type "tuple"), none, (.seq #[] (nat_lit 0)), #[]⟩
.nil .nil) (.node ⟨(.type "function"), none, (.func ⟨(Str.ofString "has_nil"), (Str.ofString "has_nil"), (fdTop (nat_lit 51)).params, .stmts (fdTop (nat_lit 51)).body, (fdTop (nat_lit 51)).scope, (nat_lit 3), [], .none, .none, .none, (.str (Str.ofString "chancore.types") (nat_lit 601)), none, (.ref (nat_lit 387)), .none, (nat_lit 0)⟩), #[]⟩
.nil .nil)) (.node ⟨.none, none, (.fields #[]), #[]⟩
(.node ⟨(.type "tuple"), none, (.seq #[] (nat_lit 0)), #[]⟩
.nil .nil) .nil)) (.node ⟨(.type "tuple"), none, (.seq #[] (nat_lit 0)), #[]⟩
(.node ⟨.none, none, (.fields #[(.int (70) (nat_lit 0)), (.int (4) (nat_lit 0)), (.ref (nat_lit 172)), (.int (75) (nat_lit 0)), (.int (4) (nat_lit 0)), (.ref (nat_lit 179))]), #[]⟩
(.node ⟨(.type "tuple"), none, (.seq #[(.str (Str.ofString "int") (nat_lit 607)), (.str (Str.ofString "int") (nat_lit 608))] (nat_lit 0)), #[]⟩
.nil .nil) (.node ⟨(.type "code"), none, (.fields #[(.str (Str.ofString "constant_within") (nat_lit 773)), (.str (Str.ofString "constant_within") (nat_lit 774)), (.str (Str.ofString "/claim/cut.py") (nat_lit 775)), (.int (322) (nat_lit 0)), (.int (1) (nat_lit 0)), (.int (0) (nat_lit 0)), (.int (0) (nat_lit 0)), (.int (3) (nat_lit 0)), (.ref (nat_lit 415)), (.bool true), (.int (181) (nat_lit 0)), (.ref (nat_lit 416)), .none, (.ref (nat_lit 417)), (.ref (nat_lit 418)), (.ref (nat_lit 419)), (.int (777) (nat_lit 0)), (.int (322) (nat_lit 0)), (.str (Str.ofString "/claim/cut.py") (nat_lit 778))]), #[]⟩
.nil .nil)) (.node ⟨.none, none, (.fields #[(.int (153) (nat_lit 0)), (.int (4) (nat_lit 0)), (.ref (nat_lit 236)), (.int (159) (nat_lit 0)), (.int (4) (nat_lit 0)), (.ref (nat_lit 243)), (.int (177) (nat_lit 0)), (.int (4) (nat_lit 0)), (.ref (nat_lit 248)), (.int (180) (nat_lit 0)), (.int (4) (nat_lit 0)), (.ref (nat_lit 255)), (.int (186) (nat_lit 0)), (.int (4) (nat_lit 0)), (.ref (nat_lit 262)), (.int (191) (nat_lit 0)), (.int (4) (nat_lit 0)), (.ref (nat_lit 269)), (.int (203) (nat_lit 0)), (.int (4) (nat_lit 0)), (.ref (nat_lit 276)), (.int (207) (nat_lit 0)), (.int (4) (nat_lit 0)), (.ref (nat_lit 281))]), #[]⟩
(.node ⟨(.type "tuple"), none, (.seq #[(.str (Str.ofString "T") (nat_lit 701))] (nat_lit 0)), #[]⟩
.nil .nil) .nil))) (.node ⟨(.type "dict"), none, (.dict #[⟨PyData.keyHash P (Str.ofString "__module__"), (.str (Str.ofString "__module__") (nat_lit 222)), (.str (Str.ofString "chancore.errors") (nat_lit 213))⟩, ⟨PyData.keyHash P (Str.ofString "__firstlineno__"), (.str (Str.ofString "__firstlineno__") (nat_lit 226)), (.int (15) (nat_lit 225))⟩, ⟨PyData.keyHash P (Str.ofString "__init__"), (.str (Str.ofString "__init__") (nat_lit 236)), (.ref (nat_lit 50))⟩, ⟨PyData.keyHash P (Str.ofString "__static_attributes__"), (.str (Str.ofString "__static_attributes__") (nat_lit 239)), (.ref (nat_lit 51))⟩, ⟨PyData.keyHash P (Str.ofString "__weakref__"), (.str (Str.ofString "__weakref__") (nat_lit 241)), (.ref (nat_lit 54))⟩, ⟨PyData.keyHash P (Str.ofString "__doc__"), (.str (Str.ofString "__doc__") (nat_lit 242)), .none⟩] (nat_lit 3)), #[]⟩
(.node ⟨(.type "tuple"), none, (.seq #[] (nat_lit 0)), #[]⟩
(.node ⟨(.type "tuple"), none, (.seq #[] (nat_lit 0)), #[]⟩
(.node ⟨(.type "code"), none, (.fields #[(.str (Str.ofString "kept") (nat_lit 574)), (.str (Str.ofString "TypeReader.kept") (nat_lit 575)), (.str (Str.ofString "/claim/cut.py") (nat_lit 576)), (.int (203) (nat_lit 0)), (.int (3) (nat_lit 0)), (.int (0) (nat_lit 0)), (.int (0) (nat_lit 0)), (.int (3) (nat_lit 0)), (.ref (nat_lit 271)), (.bool true), (.int (181) (nat_lit 0)), (.ref (nat_lit 272)), .none, (.ref (nat_lit 273)), (.ref (nat_lit 274)), (.ref (nat_lit 275)), (.int (580) (nat_lit 0)), (.int (203) (nat_lit 0)), (.str (Str.ofString "/claim/cut.py") (nat_lit 581))]), #[]⟩
.nil .nil) (.node ⟨(.type "tuple"), none, (.seq #[] (nat_lit 0)), #[]⟩
.nil .nil)) (.node ⟨(.type "tuple"), none, (.seq #[] (nat_lit 0)), #[]⟩
(.node ⟨(.type "tuple"), none, (.seq #[] (nat_lit 0)), #[]⟩
.nil .nil) .nil)) (.node ⟨(.type "tuple"), none, (.seq #[] (nat_lit 0)), #[]⟩
(.node ⟨(.type "function"), none, (.func ⟨(Str.ofString "go_on"), (Str.ofString "Levels.go_on"), (fdIn (nat_lit 18) (nat_lit 1)).params, .stmts (fdIn (nat_lit 18) (nat_lit 1)).body, (fdIn (nat_lit 18) (nat_lit 1)).scope, (nat_lit 3), [], .none, .none, .none, (.str (Str.ofString "chancore.lookup") (nat_lit 311)), none, (.ref (nat_lit 179)), .none, (nat_lit 0)⟩), #[]⟩
(.node ⟨.none, none, (.fields #[]), #[]⟩
.nil .nil) .nil) (.node ⟨(.type "function"), none, (.func ⟨(Str.ofString "read"), (Str.ofString "TypeReader.read"), (fdIn (nat_lit 29) (nat_lit 1)).params, .stmts (fdIn (nat_lit 29) (nat_lit 1)).body, (fdIn (nat_lit 29) (nat_lit 1)).scope, (nat_lit 3), [], .none, .none, .none, (.str (Str.ofString "chancore.type_exprs") (nat_lit 458)), none, (.ref (nat_lit 243)), .none, (nat_lit 0)⟩), #[]⟩
(.node ⟨.none, none, (.func ⟨(Str.ofString "is_integer"), (Str.ofString "is_integer"), (fdTop (nat_lit 49)).params, .stmts (fdTop (nat_lit 49)).body, (fdTop (nat_lit 49)).scope, (nat_lit 0), [], .none, .none, .none, .none, none, .none, .none, (nat_lit 0)⟩), #[]⟩
.nil .nil) .nil)))) (.node ⟨(.type "function"), none, (.func ⟨(Str.ofString "is_exported"), (Str.ofString "is_exported"), (fdTop (nat_lit 2)).params, .stmts (fdTop (nat_lit 2)).body, (fdTop (nat_lit 2)).scope, (nat_lit 3), [], .none, .none, .none, (.str (Str.ofString "chancore.check_selectors") (nat_lit 194)), none, (.ref (nat_lit 27)), .none, (nat_lit 0)⟩), #[]⟩
(.node ⟨(.type "tuple"), none, (.seq #[] (nat_lit 0)), #[]⟩
(.node ⟨(.type "tuple"), none, (.seq #[] (nat_lit 0)), #[]⟩
(.node ⟨(.type "function"), none, (.func ⟨(Str.ofString "without_pointer"), (Str.ofString "without_pointer"), (fdTop (nat_lit 14)).params, .stmts (fdTop (nat_lit 14)).body, (fdTop (nat_lit 14)).scope, (nat_lit 3), [], .none, .none, .none, (.str (Str.ofString "chancore.lookup") (nat_lit 311)), none, (.ref (nat_lit 139)), .none, (nat_lit 0)⟩), #[]⟩
(.node ⟨.none, none, (.func ⟨(Str.ofString "struct"), (Str.ofString "TypeReader.struct"), (fdIn (nat_lit 29) (nat_lit 5)).params, .stmts (fdIn (nat_lit 29) (nat_lit 5)).body, (fdIn (nat_lit 29) (nat_lit 5)).scope, (nat_lit 0), [], .none, .none, .none, .none, none, .none, .none, (nat_lit 0)⟩), #[]⟩
.nil .nil) (.node ⟨(.type "tuple"), none, (.seq #[] (nat_lit 0)), #[]⟩
.nil .nil)) (.node ⟨(.type "tuple"), none, (.seq #[] (nat_lit 0)), #[]⟩
(.node ⟨(.type "function"), none, (.func ⟨(Str.ofString "type_text"), (Str.ofString "type_text"), (fdTop (nat_lit 43)).params, .stmts (fdTop (nat_lit 43)).body, (fdTop (nat_lit 43)).scope, (nat_lit 3), [], .none, .none, .none, (.str (Str.ofString "chancore.types") (nat_lit 601)), none, (.ref (nat_lit 331)), .none, (nat_lit 0)⟩), #[]⟩
.nil .nil) .nil)) (.node ⟨(.type "tuple"), none, (.seq #[] (nat_lit 0)), #[]⟩
(.node ⟨(.type "code"), none, (.fields #[(.str (Str.ofString "__init__") (nat_lit 404)), (.str (Str.ofString "Levels.__init__") (nat_lit 405)), (.str (Str.ofString "/claim/cut.py") (nat_lit 406)), (.int (70) (nat_lit 0)), (.int (3) (nat_lit 0)), (.int (0) (nat_lit 0)), (.int (0) (nat_lit 0)), (.int (3) (nat_lit 0)), (.ref (nat_lit 167)), (.bool true), (.int (181) (nat_lit 0)), (.ref (nat_lit 168)), .none, (.ref (nat_lit 169)), (.ref (nat_lit 170)), (.ref (nat_lit 171)), (.int (410) (nat_lit 0)), (.int (70) (nat_lit 0)), (.str (Str.ofString "/claim/cut.py") (nat_lit 411))]), #[]⟩
(.node ⟨(.type "code"), none, (.fields #[(.str (Str.ofString "joined_texts") (nat_lit 631)), (.str (Str.ofString "joined_texts") (nat_lit 632)), (.str (Str.ofString "/claim/cut.py") (nat_lit 633)), (.int (231) (nat_lit 0)), (.int (1) (nat_lit 0)), (.int (0) (nat_lit 0)), (.int (0) (nat_lit 0)), (.int (3) (nat_lit 0)), (.ref (nat_lit 297)), (.bool true), (.int (181) (nat_lit 0)), (.ref (nat_lit 298)), .none, .none, .none, (.ref (nat_lit 299)), (.int (634) (nat_lit 0)), (.int (231) (nat_lit 0)), (.str (Str.ofString "/claim/cut.py") (nat_lit 635))]), #[]⟩
.nil .nil) .nil) (.node ⟨(.type "code"), none, (.fields #[(.str (Str.ofString "__init__") (nat_lit 514)), (.str (Str.ofString "TypeReader.__init__") (nat_lit 515)), (.str (Str.ofString "/claim/cut.py") (nat_lit 516)), (.int (153) (nat_lit 0)), (.int (5) (nat_lit 0)), (.int (0) (nat_lit 0)), (.int (0) (nat_lit 0)), (.int (3) (nat_lit 0)), (.ref (nat_lit 231)), (.bool true), (.int (181) (nat_lit 0)), (.ref (nat_lit 232)), .none, (.ref (nat_lit 233)), (.ref (nat_lit 234)), (.ref (nat_lit 235)), (.int (522) (nat_lit 0)), (.int (153) (nat_lit 0)), (.str (Str.ofString "/claim/cut.py") (nat_lit 523))]), #[]⟩
(.node ⟨(.type "tuple"), none, (.seq #[] (nat_lit 0)), #[]⟩
.nil .nil) .nil))) (.node ⟨(.type "tuple"), none, (.seq #[] (nat_lit 0)), #[]⟩
(.node ⟨(.type "builtin_function_or_method"), none, (.fields #[(.builtin "object.__init_subclass__"), (.ref (nat_lit 90))]), #[]⟩
(.node ⟨(.type "tuple"), none, (.seq #[] (nat_lit 0)), #[]⟩
(.node ⟨(.type "dict"), none, (.dict #[⟨PyData.keyHash P (Str.ofString "__module__"), (.str (Str.ofString "__module__") (nat_lit 509)), (.str (Str.ofString "chancore.type_exprs") (nat_lit 458))⟩, ⟨PyData.keyHash P (Str.ofString "__firstlineno__"), (.str (Str.ofString "__firstlineno__") (nat_lit 513)), (.int (151) (nat_lit 512))⟩, ⟨PyData.keyHash P (Str.ofString "__init__"), (.str (Str.ofString "__init__") (nat_lit 524)), (.ref (nat_lit 237))⟩, ⟨PyData.keyHash P (Str.ofString "read"), (.str (Str.ofString "read") (nat_lit 534)), (.ref (nat_lit 244))⟩, ⟨PyData.keyHash P (Str.ofString "all"), (.str (Str.ofString "all") (nat_lit 540)), (.ref (nat_lit 249))⟩, ⟨PyData.keyHash P (Str.ofString "length"), (.str (Str.ofString "length") (nat_lit 550)), (.ref (nat_lit 256))⟩, ⟨PyData.keyHash P (Str.ofString "key"), (.str (Str.ofString "key") (nat_lit 559)), (.ref (nat_lit 263))⟩, ⟨PyData.keyHash P (Str.ofString "struct"), (.str (Str.ofString "struct") (nat_lit 573)), (.ref (nat_lit 270))⟩, ⟨PyData.keyHash P (Str.ofString "kept"), (.str (Str.ofString "kept") (nat_lit 582)), (.ref (nat_lit 277))⟩, ⟨PyData.keyHash P (Str.ofString "interface"), (.str (Str.ofString "interface") (nat_lit 588)), (.ref (nat_lit 282))⟩, ⟨PyData.keyHash P (Str.ofString "__static_attributes__"), (.str (Str.ofString "__static_attributes__") (nat_lit 593)), (.ref (nat_lit 283))⟩, ⟨PyData.keyHash P (Str.ofString "__dict__"), (.str (Str.ofString "__dict__") (nat_lit 595)), (.ref (nat_lit 286))⟩, ⟨PyData.keyHash P (Str.ofString "__weakref__"), (.str (Str.ofString "__weakref__") (nat_lit 597)), (.ref (nat_lit 287))⟩, ⟨PyData.keyHash P (Str.ofString "__doc__"), (.str (Str.ofString "__doc__") (nat_lit 598)), .none⟩] (nat_lit 4)), #[]⟩
.nil .nil) (.node ⟨.none, none, (.func ⟨(Str.ofString "place_told"), (Str.ofString "place_told"), (fdTop (nat_lit 56)).params, .stmts (fdTop (nat_lit 56)).body, (fdTop (nat_lit 56)).scope, (nat_lit 0), [], .none, .none, .none, .none, none, .none, .none, (nat_lit 0)⟩), #[]⟩
.nil .nil)) (.node ⟨.none, none, (.fields #[]), #[]⟩
(.node ⟨.none, none, (.fields #[]), #[]⟩
.nil .nil) .nil)) (.node ⟨(.type "getset_descriptor"), none, (.fields #[(.str (Str.ofString "__weakref__") (nat_lit 343)), (.ref (nat_lit 122)), (.builtin "ExceptionGroup.__weakref__"), .none]), #[]⟩
(.node ⟨(.type "tuple"), none, (.seq #[] (nat_lit 0)), #[]⟩
(.node ⟨(.type "tuple"), none, (.seq #[(.str (Str.ofString "word") (nat_lit 656)), (.str (Str.ofString "rows") (nat_lit 657))] (nat_lit 0)), #[]⟩
.nil .nil) .nil) (.node ⟨(.type "tuple"), none, (.seq #[(.str (Str.ofString "self") (nat_lit 544)), (.str (Str.ofString "expr") (nat_lit 545)), (.str (Str.ofString "told") (nat_lit 546)), (.str (Str.ofString "value") (nat_lit 547))] (nat_lit 0)), #[]⟩
(.node ⟨(.type "code"), none, (.fields #[(.str (Str.ofString "is_truth") (nat_lit 721)), (.str (Str.ofString "is_truth") (nat_lit 722)), (.str (Str.ofString "/claim/cut.py") (nat_lit 723)), (.int (289) (nat_lit 0)), (.int (2) (nat_lit 0)), (.int (0) (nat_lit 0)), (.int (0) (nat_lit 0)), (.int (3) (nat_lit 0)), (.ref (nat_lit 375)), (.bool true), (.int (181) (nat_lit 0)), (.ref (nat_lit 376)), .none, (.ref (nat_lit 377)), (.ref (nat_lit 378)), (.ref (nat_lit 379)), (.int (726) (nat_lit 0)), (.int (289) (nat_lit 0)), (.str (Str.ofString "/claim/cut.py") (nat_lit 727))]), #[]⟩
.nil .nil) .nil)))))) (.node (boot_o_6 P)
(.node (boot_o_10 P)
(.node ⟨(.type "tuple"), none, (.seq #[] (nat_lit 0)), #[]⟩
(.node ⟨(.type "code"), none, (.fields #[(.str (Str.ofString "is_hidden") (nat_lit 203)), (.str (Str.ofString "is_hidden") (nat_lit 204)), (.str (Str.ofString "/claim/cut.py") (nat_lit 205)), (.int (7) (nat_lit 0)), (.int (3) (nat_lit 0)), (.int (0) (nat_lit 0)), (.int (0) (nat_lit 0)), (.int (3) (nat_lit 0)), (.ref (nat_lit 29)), (.bool true), (.int (181) (nat_lit 0)), (.ref (nat_lit 30)), .none, (.ref (nat_lit 31)), (.ref (nat_lit 32)), (.ref (nat_lit 33)), (.int (210) (nat_lit 0)), (.int (7) (nat_lit 0)), (.str (Str.ofString "/claim/cut.py") (nat_lit 211))]), #[]⟩
(.node ⟨(.type "type"), none, (.cls { name := Str.ofString "NameFault", bases := [Value.ref (nat_lit 53)], mro := [Value.ref (nat_lit 66), Value.ref (nat_lit 53), Value.type "Exception", Value.type "BaseException", Value.type "object"], ns := (nat_lit 65), qualname := Str.ofString "NameFault" }), #[some (.ref (nat_lit 57)), none, some (.str (Str.ofString "NameFault") (nat_lit 247)), some (.str (Str.ofString "NameFault") (nat_lit 255)), some (.builtin "Exception.__new__"), some (.bool true)]⟩
(.node ⟨(.type "tuple"), none, (.seq #[] (nat_lit 0)), #[]⟩
(.node ⟨.none, none, (.fields #[]), #[]⟩
.nil .nil) (.node ⟨.none, none, (.func ⟨(Str.ofString "has_nil"), (Str.ofString "has_nil"), (fdTop (nat_lit 51)).params, .stmts (fdTop (nat_lit 51)).body, (fdTop (nat_lit 51)).scope, (nat_lit 0), [], .none, .none, .none, .none, none, .none, .none, (nat_lit 0)⟩), #[]⟩
.nil .nil)) (.node ⟨(.type "function"), none, (.func ⟨(Str.ofString "start_type"), (Str.ofString "start_type"), (fdTop (nat_lit 19)).params, .stmts (fdTop (nat_lit 19)).body, (fdTop (nat_lit 19)).scope, (nat_lit 3), [], .none, .none, .none, (.str (Str.ofString "chancore.lookup") (nat_lit 311)), none, (.ref (nat_lit 193)), .none, (nat_lit 0)⟩), #[]⟩
(.node ⟨.none, none, (.fields #[]), #[]⟩
.nil .nil) .nil)) (.node ⟨(.type "code"), none, (.fields #[(.str (Str.ofString "FlowFault") (nat_lit 297)), (.str (Str.ofString "FlowFault") (nat_lit 298)), (.str (Str.ofString "/claim/cut.py") (nat_lit 299)), (.int (27) (nat_lit 0)), (.int (0) (nat_lit 0)), (.int (0) (nat_lit 0)), (.int (0) (nat_lit 0)), (.int (0) (nat_lit 0)), (.ref (nat_lit 96)), (.bool false), (.int (181) (nat_lit 0)), (.ref (nat_lit 97)), .none, .none, .none, .none, (.int (300) (nat_lit 0)), (.int (27) (nat_lit 0)), (.str (Str.ofString "/claim/cut.py") (nat_lit 301))]), #[]⟩
(.node ⟨(.type "dict"), none, (.dict #[⟨PyData.keyHash P (Str.ofString "__module__"), (.str (Str.ofString "__module__") (nat_lit 399)), (.str (Str.ofString "chancore.lookup") (nat_lit 311))⟩, ⟨PyData.keyHash P (Str.ofString "__qualname__"), (.str (Str.ofString "__qualname__") (nat_lit 401)), (.str (Str.ofString "Levels") (nat_lit 400))⟩, ⟨PyData.keyHash P (Str.ofString "__firstlineno__"), (.str (Str.ofString "__firstlineno__") (nat_lit 403)), (.int (68) (nat_lit 402))⟩, ⟨PyData.keyHash P (Str.ofString "__init__"), (.str (Str.ofString "__init__") (nat_lit 412)), (.ref (nat_lit 173))⟩, ⟨PyData.keyHash P (Str.ofString "go_on"), (.str (Str.ofString "go_on") (nat_lit 422)), (.ref (nat_lit 180))⟩, ⟨PyData.keyHash P (Str.ofString "__static_attributes__"), (.str (Str.ofString "__static_attributes__") (nat_lit 426)), (.ref (nat_lit 181))⟩] (nat_lit 6)), #[]⟩
(.node ⟨(.type "tuple"), none, (.seq #[(.str (Str.ofString "string") (nat_lit 603))] (nat_lit 0)), #[]⟩
.nil .nil) (.node ⟨(.type "tuple"), none, (.seq #[] (nat_lit 0)), #[]⟩
.nil .nil)) (.node ⟨(.type "dict"), none, (.dict #[⟨PyData.keyHash P (Str.ofString "__module__"), (.str (Str.ofString "__module__") (nat_lit 509)), (.str (Str.ofString "chancore.type_exprs") (nat_lit 458))⟩, ⟨PyData.keyHash P (Str.ofString "__qualname__"), (.str (Str.ofString "__qualname__") (nat_lit 511)), (.str (Str.ofString "TypeReader") (nat_lit 510))⟩, ⟨PyData.keyHash P (Str.ofString "__firstlineno__"), (.str (Str.ofString "__firstlineno__") (nat_lit 513)), (.int (151) (nat_lit 512))⟩, ⟨PyData.keyHash P (Str.ofString "__init__"), (.str (Str.ofString "__init__") (nat_lit 524)), (.ref (nat_lit 237))⟩, ⟨PyData.keyHash P (Str.ofString "read"), (.str (Str.ofString "read") (nat_lit 534)), (.ref (nat_lit 244))⟩, ⟨PyData.keyHash P (Str.ofString "all"), (.str (Str.ofString "all") (nat_lit 540)), (.ref (nat_lit 249))⟩, ⟨PyData.keyHash P (Str.ofString "length"), (.str (Str.ofString "length") (nat_lit 550)), (.ref (nat_lit 256))⟩, ⟨PyData.keyHash P (Str.ofString "key"), (.str (Str.ofString "key") (nat_lit 559)), (.ref (nat_lit 263))⟩, ⟨PyData.keyHash P (Str.ofString "struct"), (.str (Str.ofString "struct") (nat_lit 573)), (.ref (nat_lit 270))⟩, ⟨PyData.keyHash P (Str.ofString "kept"), (.str (Str.ofString "kept") (nat_lit 582)), (.ref (nat_lit 277))⟩, ⟨PyData.keyHash P (Str.ofString "interface"), (.str (Str.ofString "interface") (nat_lit 588)), (.ref (nat_lit 282))⟩, ⟨PyData.keyHash P (Str.ofString "__static_attributes__"), (.str (Str.ofString "__static_attributes__") (nat_lit 593)), (.ref (nat_lit 283))⟩] (nat_lit 12)), #[]⟩
(.node ⟨(.type "tuple"), none, (.seq #[] (nat_lit 0)), #[]⟩
.nil .nil) .nil))) (.node ⟨(.type "function"), none, (.func ⟨(Str.ofString "__init__"), (Str.ofString "ChanError.__init__"), (fdIn (nat_lit 5) (nat_lit 0)).params, .stmts (fdIn (nat_lit 5) (nat_lit 0)).body, (fdIn (nat_lit 5) (nat_lit 0)).scope, (nat_lit 3), [], (.ref (nat_lit 43)), .none, .none, (.str (Str.ofString "chancore.errors") (nat_lit 213)), none, (.ref (nat_lit 49)), .none, (nat_lit 0)⟩), #[]⟩
(.node ⟨(.type "builtin_function_or_method"), none, (.fields #[(.builtin "type.__prepare__"), (.type "type")]), #[]⟩
(.node ⟨(.type "code"), none, (.fields #[(.str (Str.ofString "own_methods") (nat_lit 364)), (.str (Str.ofString "own_methods") (nat_lit 365)), (.str (Str.ofString "/claim/cut.py") (nat_lit 366)), (.int (43) (nat_lit 0)), (.int (2) (nat_lit 0)), (.int (0) (nat_lit 0)), (.int (0) (nat_lit 0)), (.int (3) (nat_lit 0)), (.ref (nat_lit 141)), (.bool true), (.int (181) (nat_lit 0)), (.ref (nat_lit 142)), .none, (.ref (nat_lit 143)), (.ref (nat_lit 144)), (.ref (nat_lit 145)), (.int (369) (nat_lit 0)), (.int (43) (nat_lit 0)), (.str (Str.ofString "/claim/cut.py") (nat_lit 370))]), #[]⟩
(.node ⟨(.type "tuple"), none, (.seq #[] (nat_lit 0)), #[]⟩
.nil .nil) (.node ⟨.none, none, (.fields #[]), #[]⟩
.nil .nil)) (.node ⟨(.type "function"), none, (.func ⟨(Str.ofString "type_entry"), (Str.ofString "type_entry"), (fdTop (nat_lit 26)).params, .stmts (fdTop (nat_lit 26)).body, (fdTop (nat_lit 26)).scope, (nat_lit 3), [], (.ref (nat_lit 203)), .none, .none, (.str (Str.ofString "chancore.type_exprs") (nat_lit 458)), none, (.ref (nat_lit 209)), .none, (nat_lit 0)⟩), #[]⟩
(.node ⟨(.type "code"), none, (.fields #[(.str (Str.ofString "underlying_of") (nat_lit 676)), (.str (Str.ofString "underlying_of") (nat_lit 677)), (.str (Str.ofString "/claim/cut.py") (nat_lit 678)), (.int (275) (nat_lit 0)), (.int (2) (nat_lit 0)), (.int (0) (nat_lit 0)), (.int (0) (nat_lit 0)), (.int (3) (nat_lit 0)), (.ref (nat_lit 333)), (.bool true), (.int (181) (nat_lit 0)), (.ref (nat_lit 334)), .none, (.ref (nat_lit 335)), (.ref (nat_lit 336)), (.ref (nat_lit 337)), (.int (681) (nat_lit 0)), (.int (275) (nat_lit 0)), (.str (Str.ofString "/claim/cut.py") (nat_lit 682))]), #[]⟩
.nil .nil) .nil)) (.node ⟨.none, none, (.fields #[]), #[]⟩
(.node ⟨.none, none, (.func ⟨(Str.ofString "go_on"), (Str.ofString "Levels.go_on"), (fdIn (nat_lit 18) (nat_lit 1)).params, .stmts (fdIn (nat_lit 18) (nat_lit 1)).body, (fdIn (nat_lit 18) (nat_lit 1)).scope, (nat_lit 0), [], .none, .none, .none, .none, none, .none, .none, (nat_lit 0)⟩), #[]⟩
(.node ⟨(.type "function"), none, (.func ⟨(Str.ofString "signature_text"), (Str.ofString "signature_text"), (fdTop (nat_lit 39)).params, .stmts (fdTop (nat_lit 39)).body, (fdTop (nat_lit 39)).scope, (nat_lit 3), [], .none, .none, .none, (.str (Str.ofString "chancore.types") (nat_lit 601)), none, (.ref (nat_lit 305)), .none, (nat_lit 0)⟩), #[]⟩
.nil .nil) .nil) (.node ⟨.none, none, (.func ⟨(Str.ofString "read"), (Str.ofString "TypeReader.read"), (fdIn (nat_lit 29) (nat_lit 1)).params, .stmts (fdIn (nat_lit 29) (nat_lit 1)).body, (fdIn (nat_lit 29) (nat_lit 1)).scope, (nat_lit 0), [], .none, .none, .none, .none, none, .none, .none, (nat_lit 0)⟩), #[]⟩
(.node ⟨(.type "tuple"), none, (.seq #[(.str (Str.ofString "world") (nat_lit 716)), (.str (Str.ofString "T") (nat_lit 717))] (nat_lit 0)), #[]⟩
.nil .nil) .nil)))) (.node ⟨.none, none, (.func ⟨(Str.ofString "is_exported"), (Str.ofString "is_exported"), (fdTop (nat_lit 2)).params, .stmts (fdTop (nat_lit 2)).body, (fdTop (nat_lit 2)).scope, (nat_lit 0), [], .none, .none, .none, .none, none, .none, .none, (nat_lit 0)⟩), #[]⟩
(.node ⟨(.type "frame"), none, .plain, #[some (.ref (nat_lit 41)), some (.ref (nat_lit 3)), some (.ref (nat_lit 38)), none, some (.str (Str.ofString "chancore.errors") (nat_lit 213)), none, some (.ref (nat_lit 0))]⟩
(.node ⟨(.type "code"), none, (.fields #[(.str (Str.ofString "TypeFault") (nat_lit 265)), (.str (Str.ofString "TypeFault") (nat_lit 266)), (.str (Str.ofString "/claim/cut.py") (nat_lit 267)), (.int (23) (nat_lit 0)), (.int (0) (nat_lit 0)), (.int (0) (nat_lit 0)), (.int (0) (nat_lit 0)), (.int (0) (nat_lit 0)), (.ref (nat_lit 72)), (.bool false), (.int (181) (nat_lit 0)), (.ref (nat_lit 73)), .none, .none, .none, .none, (.int (268) (nat_lit 0)), (.int (23) (nat_lit 0)), (.str (Str.ofString "/claim/cut.py") (nat_lit 269))]), #[]⟩
(.node ⟨.none, none, (.func ⟨(Str.ofString "without_pointer"), (Str.ofString "without_pointer"), (fdTop (nat_lit 14)).params, .stmts (fdTop (nat_lit 14)).body, (fdTop (nat_lit 14)).scope, (nat_lit 0), [], .none, .none, .none, .none, none, .none, .none, (nat_lit 0)⟩), #[]⟩
(.node ⟨(.type "tuple"), none, (.seq #[(.str (Str.ofString "self") (nat_lit 563)), (.str (Str.ofString "typex") (nat_lit 564)), (.str (Str.ofString "rows") (nat_lit 565)), (.str (Str.ofString "names") (nat_lit 566)), (.str (Str.ofString "name") (nat_lit 567)), (.str (Str.ofString "inner") (nat_lit 568)), (.str (Str.ofString "is_embedded") (nat_lit 569)), (.str (Str.ofString "told") (nat_lit 570))] (nat_lit 0)), #[]⟩
.nil .nil) (.node ⟨(.type "code"), none, (.fields #[(.str (Str.ofString "told_type") (nat_lit 739)), (.str (Str.ofString "told_type") (nat_lit 740)), (.str (Str.ofString "/claim/cut.py") (nat_lit 741)), (.int (294) (nat_lit 0)), (.int (3) (nat_lit 0)), (.int (0) (nat_lit 0)), (.int (0) (nat_lit 0)), (.int (3) (nat_lit 0)), (.ref (nat_lit 389)), (.bool true), (.int (181) (nat_lit 0)), (.ref (nat_lit 390)), .none, (.ref (nat_lit 391)), (.ref (nat_lit 392)), (.ref (nat_lit 393)), (.int (745) (nat_lit 0)), (.int (294) (nat_lit 0)), (.str (Str.ofString "/claim/cut.py") (nat_lit 746))]), #[]⟩
.nil .nil)) (.node ⟨(.type "tuple"), none, (.seq #[(.str (Str.ofString "Mutex") (nat_lit 460)), (.str (Str.ofString "WaitGroup") (nat_lit 461))] (nat_lit 0)), #[]⟩
(.node ⟨.none, none, (.func ⟨(Str.ofString "type_text"), (Str.ofString "type_text"), (fdTop (nat_lit 43)).params, .stmts (fdTop (nat_lit 43)).body, (fdTop (nat_lit 43)).scope, (nat_lit 0), [], .none, .none, .none, .none, none, .none, .none, (nat_lit 0)⟩), #[]⟩
.nil .nil) .nil)) (.node ⟨(.type "builtin_function_or_method"), none, (.fields #[(.builtin "type.__prepare__"), (.type "type")]), #[]⟩
(.node ⟨(.type "tuple"), none, (.seq #[] (nat_lit 0)), #[]⟩
(.node ⟨.none, none, (.fields #[]), #[]⟩
.nil .nil) .nil) (.node ⟨(.type "tuple"), none, (.seq #[] (nat_lit 0)), #[]⟩
(.node ⟨.none, none, (.fields #[]), #[]⟩
.nil .nil) .nil))) (.node ⟨(.type "builtin_function_or_method"), none, (.fields #[(.builtin "type.__prepare__"), (.type "type")]), #[]⟩
(.node ⟨(.type "type"), none, (.cls { name := Str.ofString "ConstFault", bases := [Value.ref (nat_lit 53)], mro := [Value.ref (nat_lit 90), Value.ref (nat_lit 53), Value.type "Exception", Value.type "BaseException", Value.type "object"], ns := (nat_lit 89), qualname := Str.ofString "ConstFault" }), #[some (.ref (nat_lit 81)), none, some (.str (Str.ofString "ConstFault") (nat_lit 279)), some (.str (Str.ofString "ConstFault") (nat_lit 287)), some (.builtin "Exception.__new__"), some (.bool true)]⟩
(.node ⟨.none, none, (.fields #[]), #[]⟩
(.node ⟨(.type "function"), none, (.func ⟨(Str.ofString "interface"), (Str.ofString "TypeReader.interface"), (fdIn (nat_lit 29) (nat_lit 7)).params, .stmts (fdIn (nat_lit 29) (nat_lit 7)).body, (fdIn (nat_lit 29) (nat_lit 7)).scope, (nat_lit 3), [], .none, .none, .none, (.str (Str.ofString "chancore.type_exprs") (nat_lit 458)), none, (.ref (nat_lit 281)), .none, (nat_lit 0)⟩), #[]⟩
.nil .nil) (.node ⟨(.type "tuple"), none, (.seq #[(.str (Str.ofString "checker") (nat_lit 767)), (.str (Str.ofString "key") (nat_lit 768)), (.str (Str.ofString "made") (nat_lit 769))] (nat_lit 0)), #[]⟩
.nil .nil)) (.node ⟨(.type "function"), none, (.func ⟨(Str.ofString "exported_entry"), (Str.ofString "exported_entry"), (fdTop (nat_lit 27)).params, .stmts (fdTop (nat_lit 27)).body, (fdTop (nat_lit 27)).scope, (nat_lit 3), [], (.ref (nat_lit 211)), .none, .none, (.str (Str.ofString "chancore.type_exprs") (nat_lit 458)), none, (.ref (nat_lit 217)), .none, (nat_lit 0)⟩), #[]⟩
(.node ⟨(.type "function"), none, (.func ⟨(Str.ofString "is_named"), (Str.ofString "is_named"), (fdTop (nat_lit 45)).params, .stmts (fdTop (nat_lit 45)).body, (fdTop (nat_lit 45)).scope, (nat_lit 3), [], .none, .none, .none, (.str (Str.ofString "chancore.types") (nat_lit 601)), none, (.ref (nat_lit 345)), .none, (nat_lit 0)⟩), #[]⟩
.nil .nil) .nil)) (.node ⟨(.type "type"), none, (.cls { name := Str.ofString "Reached", bases := [Value.type "object"], mro := [Value.ref (nat_lit 122), Value.type "object"], ns := (nat_lit 121), qualname := Str.ofString "Reached" }), #[none, none, some (.str (Str.ofString "Reached") (nat_lit 315)), some (.str (Str.ofString "Reached") (nat_lit 323)), some (.builtin "object.__new__"), some (.bool true)]⟩
(.node ⟨(.type "super"), none, (.fields #[(.ref (nat_lit 183)), (.ref (nat_lit 183)), (.ref (nat_lit 183))]), #[]⟩
(.node ⟨(.type "tuple"), none, (.seq #[] (nat_lit 0)), #[]⟩
.nil .nil) .nil) (.node ⟨(.type "tuple"), none, (.seq #[] (nat_lit 0)), #[]⟩
(.node ⟨(.type "tuple"), none, (.seq #[] (nat_lit 0)), #[]⟩
.nil .nil) .nil))))) (.node ⟨(.type "frame"), none, .plain, #[some (.ref (nat_lit 13)), some (.ref (nat_lit 3)), some (.ref (nat_lit 3)), none, some (.str (Str.ofString "__main__") (nat_lit 164)), none, some (.ref (nat_lit 0))]⟩
(.node ⟨(.type "tuple"), none, (.seq #[] (nat_lit 0)), #[]⟩
(.node ⟨(.type "dict"), none, (.dict #[⟨PyData.keyHash P (Str.ofString "__module__"), (.str (Str.ofString "__module__") (nat_lit 222)), (.str (Str.ofString "chancore.errors") (nat_lit 213))⟩, ⟨PyData.keyHash P (Str.ofString "__qualname__"), (.str (Str.ofString "__qualname__") (nat_lit 224)), (.str (Str.ofString "ChanError") (nat_lit 223))⟩, ⟨PyData.keyHash P (Str.ofString "__firstlineno__"), (.str (Str.ofString "__firstlineno__") (nat_lit 226)), (.int (15) (nat_lit 225))⟩, ⟨PyData.keyHash P (Str.ofString "__init__"), (.str (Str.ofString "__init__") (nat_lit 236)), (.ref (nat_lit 50))⟩, ⟨PyData.keyHash P (Str.ofString "__static_attributes__"), (.str (Str.ofString "__static_attributes__") (nat_lit 239)), (.ref (nat_lit 51))⟩] (nat_lit 5)), #[]⟩
(.node ⟨(.type "builtin_function_or_method"), none, (.fields #[(.builtin "type.__prepare__"), (.type "type")]), #[]⟩
(.node ⟨(.type "tuple"), none, (.seq #[] (nat_lit 0)), #[]⟩
(.node ⟨(.type "code"), none, (.fields #[(.str (Str.ofString "key") (nat_lit 551)), (.str (Str.ofString "TypeReader.key") (nat_lit 552)), (.str (Str.ofString "/claim/cut.py") (nat_lit 553)), (.int (186) (nat_lit 0)), (.int (2) (nat_lit 0)), (.int (0) (nat_lit 0)), (.int (0) (nat_lit 0)), (.int (3) (nat_lit 0)), (.ref (nat_lit 257)), (.bool true), (.int (181) (nat_lit 0)), (.ref (nat_lit 258)), .none, (.ref (nat_lit 259)), (.ref (nat_lit 260)), (.ref (nat_lit 261)), (.int (557) (nat_lit 0)), (.int (186) (nat_lit 0)), (.str (Str.ofString "/claim/cut.py") (nat_lit 558))]), #[]⟩
.nil .nil) (.node ⟨.none, none, (.fields #[]), #[]⟩
.nil .nil)) (.node ⟨(.type "tuple"), none, (.seq #[] (nat_lit 0)), #[]⟩
(.node ⟨(.type "code"), none, (.fields #[(.str (Str.ofString "chan_text") (nat_lit 661)), (.str (Str.ofString "chan_text") (nat_lit 662)), (.str (Str.ofString "/claim/cut.py") (nat_lit 663)), (.int (246) (nat_lit 0)), (.int (1) (nat_lit 0)), (.int (0) (nat_lit 0)), (.int (0) (nat_lit 0)), (.int (3) (nat_lit 0)), (.ref (nat_lit 321)), (.bool true), (.int (181) (nat_lit 0)), (.ref (nat_lit 322)), .none, (.ref (nat_lit 323)), (.ref (nat_lit 324)), (.ref (nat_lit 325)), (.int (667) (nat_lit 0)), (.int (246) (nat_lit 0)), (.str (Str.ofString "/claim/cut.py") (nat_lit 668))]), #[]⟩
.nil .nil) .nil)) (.node ⟨(.type "type"), none, (.cls { name := Str.ofString "FlowFault", bases := [Value.ref (nat_lit 53)], mro := [Value.ref (nat_lit 102), Value.ref (nat_lit 53), Value.type "Exception", Value.type "BaseException", Value.type "object"], ns := (nat_lit 101), qualname := Str.ofString "FlowFault" }), #[some (.ref (nat_lit 93)), none, some (.str (Str.ofString "FlowFault") (nat_lit 295)), some (.str (Str.ofString "FlowFault") (nat_lit 303)), some (.builtin "Exception.__new__"), some (.bool true)]⟩
(.node ⟨(.type "frame"), none, .plain, #[some (.ref (nat_lit 165)), some (.ref (nat_lit 3)), some (.ref (nat_lit 162)), none, some (.str (Str.ofString "chancore.lookup") (nat_lit 311)), none, some (.ref (nat_lit 0))]⟩
(.node ⟨(.type "tuple"), none, (.seq #[(.str (Str.ofString "nil") (nat_lit 613))] (nat_lit 0)), #[]⟩
.nil .nil) (.node ⟨(.type "dict"), none, (.dict #[⟨PyData.keyHash P (Str.ofString "int"), (.str (Str.ofString "int") (nat_lit 782)), (.int (64) (nat_lit 783))⟩, ⟨PyData.keyHash P (Str.ofString "int8"), (.str (Str.ofString "int8") (nat_lit 784)), (.int (8) (nat_lit 785))⟩, ⟨PyData.keyHash P (Str.ofString "int16"), (.str (Str.ofString "int16") (nat_lit 786)), (.int (16) (nat_lit 787))⟩, ⟨PyData.keyHash P (Str.ofString "int32"), (.str (Str.ofString "int32") (nat_lit 788)), (.int (32) (nat_lit 789))⟩, ⟨PyData.keyHash P (Str.ofString "int64"), (.str (Str.ofString "int64") (nat_lit 790)), (.int (64) (nat_lit 791))⟩, ⟨PyData.keyHash P (Str.ofString "uint"), (.str (Str.ofString "uint") (nat_lit 792)), (.int (64) (nat_lit 793))⟩, ⟨PyData.keyHash P (Str.ofString "uint8"), (.str (Str.ofString "uint8") (nat_lit 794)), (.int (8) (nat_lit 795))⟩, ⟨PyData.keyHash P (Str.ofString "uint16"), (.str (Str.ofString "uint16") (nat_lit 796)), (.int (16) (nat_lit 797))⟩, ⟨PyData.keyHash P (Str.ofString "uint32"), (.str (Str.ofString "uint32") (nat_lit 798)), (.int (32) (nat_lit 799))⟩, ⟨PyData.keyHash P (Str.ofString "uint64"), (.str (Str.ofString "uint64") (nat_lit 800)), (.int (64) (nat_lit 801))⟩] (nat_lit 10)), #[]⟩
.nil .nil)) (.node ⟨(.type "frame"), none, .plain, #[some (.ref (nat_lit 229)), some (.ref (nat_lit 3)), some (.ref (nat_lit 226)), none, some (.str (Str.ofString "chancore.type_exprs") (nat_lit 458)), none, some (.ref (nat_lit 0))]⟩
(.node ⟨.none, none, (.func ⟨(Str.ofString "default_type"), (Str.ofString "default_type"), (fdTop (nat_lit 47)).params, .stmts (fdTop (nat_lit 47)).body, (fdTop (nat_lit 47)).scope, (nat_lit 0), [], .none, .none, .none, .none, none, .none, .none, (nat_lit 0)⟩), #[]⟩
.nil .nil) .nil))) (.node ⟨(.type "getset_descriptor"), none, (.fields #[(.str (Str.ofString "__weakref__") (nat_lit 240)), (.ref (nat_lit 53)), (.builtin "ExceptionGroup.__weakref__"), .none]), #[]⟩
(.node ⟨(.type "code"), none, (.fields #[(.str (Str.ofString "ConstFault") (nat_lit 281)), (.str (Str.ofString "ConstFault") (nat_lit 282)), (.str (Str.ofString "/claim/cut.py") (nat_lit 283)), (.int (25) (nat_lit 0)), (.int (0) (nat_lit 0)), (.int (0) (nat_lit 0)), (.int (0) (nat_lit 0)), (.int (0) (nat_lit 0)), (.ref (nat_lit 84)), (.bool false), (.int (181) (nat_lit 0)), (.ref (nat_lit 85)), .none, .none, .none, .none, (.int (284) (nat_lit 0)), (.int (25) (nat_lit 0)), (.str (Str.ofString "/claim/cut.py") (nat_lit 285))]), #[]⟩
(.node ⟨.none, none, (.func ⟨(Str.ofString "members_at"), (Str.ofString "members_at"), (fdTop (nat_lit 16)).params, .stmts (fdTop (nat_lit 16)).body, (fdTop (nat_lit 16)).scope, (nat_lit 0), [], .none, .none, .none, .none, none, .none, .none, (nat_lit 0)⟩), #[]⟩
(.node ⟨(.type "tuple"), none, (.seq #[] (nat_lit 0)), #[]⟩
.nil .nil) (.node ⟨(.type "code"), none, (.fields #[(.str (Str.ofString "dropped") (nat_lit 754)), (.str (Str.ofString "dropped") (nat_lit 755)), (.str (Str.ofString "/claim/cut.py") (nat_lit 756)), (.int (312) (nat_lit 0)), (.int (3) (nat_lit 0)), (.int (0) (nat_lit 0)), (.int (0) (nat_lit 0)), (.int (3) (nat_lit 0)), (.ref (nat_lit 401)), (.bool true), (.int (181) (nat_lit 0)), (.ref (nat_lit 402)), .none, (.ref (nat_lit 403)), (.ref (nat_lit 404)), (.ref (nat_lit 405)), (.int (761) (nat_lit 0)), (.int (312) (nat_lit 0)), (.str (Str.ofString "/claim/cut.py") (nat_lit 762))]), #[]⟩
.nil .nil)) (.node ⟨(.type "tuple"), none, (.seq #[(.str (Str.ofString "world") (nat_lit 488)), (.str (Str.ofString "path") (nat_lit 489)), (.str (Str.ofString "name") (nat_lit 490)), (.str (Str.ofString "spot") (nat_lit 491)), (.str (Str.ofString "is_wanted") (nat_lit 492))] (nat_lit 0)), #[]⟩
(.node ⟨(.type "tuple"), none, (.seq #[(.str (Str.ofString "T") (nat_lit 687))] (nat_lit 0)), #[]⟩
.nil .nil) .nil)) (.node ⟨(.type "code"), none, (.fields #[(.str (Str.ofString "__init__") (nat_lit 327)), (.str (Str.ofString "Reached.__init__") (nat_lit 328)), (.str (Str.ofString "/claim/cut.py") (nat_lit 329)), (.int (33) (nat_lit 0)), (.int (4) (nat_lit 0)), (.int (0) (nat_lit 0)), (.int (0) (nat_lit 0)), (.int (3) (nat_lit 0)), (.ref (nat_lit 113)), (.bool true), (.int (181) (nat_lit 0)), (.ref (nat_lit 114)), .none, (.ref (nat_lit 115)), (.ref (nat_lit 116)), (.ref (nat_lit 117)), (.int (334) (nat_lit 0)), (.int (33) (nat_lit 0)), (.str (Str.ofString "/claim/cut.py") (nat_lit 335))]), #[]⟩
(.node ⟨(.type "dict"), none, (.dict #[⟨PyData.keyHash P (Str.ofString "__module__"), (.str (Str.ofString "__module__") (nat_lit 399)), (.str (Str.ofString "chancore.lookup") (nat_lit 311))⟩, ⟨PyData.keyHash P (Str.ofString "__firstlineno__"), (.str (Str.ofString "__firstlineno__") (nat_lit 403)), (.int (68) (nat_lit 402))⟩, ⟨PyData.keyHash P (Str.ofString "__init__"), (.str (Str.ofString "__init__") (nat_lit 412)), (.ref (nat_lit 173))⟩, ⟨PyData.keyHash P (Str.ofString "go_on"), (.str (Str.ofString "go_on") (nat_lit 422)), (.ref (nat_lit 180))⟩, ⟨PyData.keyHash P (Str.ofString "__static_attributes__"), (.str (Str.ofString "__static_attributes__") (nat_lit 426)), (.ref (nat_lit 181))⟩, ⟨PyData.keyHash P (Str.ofString "__dict__"), (.str (Str.ofString "__dict__") (nat_lit 428)), (.ref (nat_lit 184))⟩, ⟨PyData.keyHash P (Str.ofString "__weakref__"), (.str (Str.ofString "__weakref__") (nat_lit 430)), (.ref (nat_lit 185))⟩, ⟨PyData.keyHash P (Str.ofString "__doc__"), (.str (Str.ofString "__doc__") (nat_lit 431)), .none⟩] (nat_lit 4)), #[]⟩
(.node ⟨(.type "tuple"), none, (.seq #[] (nat_lit 0)), #[]⟩
.nil .nil) .nil) (.node ⟨.none, none, (.fields #[]), #[]⟩
(.node ⟨(.type "function"), none, (.func ⟨(Str.ofString "is_integer"), (Str.ofString "is_integer"), (fdTop (nat_lit 49)).params, .stmts (fdTop (nat_lit 49)).body, (fdTop (nat_lit 49)).scope, (nat_lit 3), [], .none, .none, .none, (.str (Str.ofString "chancore.types") (nat_lit 601)), none, (.ref (nat_lit 373)), .none, (nat_lit 0)⟩), #[]⟩
.nil .nil) .nil)))) (.node ⟨.none, none, (.fields #[]), #[]⟩
(.node ⟨(.type "tuple"), none, (.seq #[(.str (Str.ofString "self") (nat_lit 231)), (.str (Str.ofString "message") (nat_lit 232)), (.str (Str.ofString "spot") (nat_lit 233))] (nat_lit 0)), #[]⟩
(.node ⟨(.type "type"), none, (.cls { name := Str.ofString "TypeFault", bases := [Value.ref (nat_lit 53)], mro := [Value.ref (nat_lit 78), Value.ref (nat_lit 53), Value.type "Exception", Value.type "BaseException", Value.type "object"], ns := (nat_lit 77), qualname := Str.ofString "TypeFault" }), #[some (.ref (nat_lit 69)), none, some (.str (Str.ofString "TypeFault") (nat_lit 263)), some (.str (Str.ofString "TypeFault") (nat_lit 271)), some (.builtin "Exception.__new__"), some (.bool true)]⟩
(.node ⟨.none, none, (.fields #[]), #[]⟩
(.node ⟨(.type "function"), none, (.func ⟨(Str.ofString "struct"), (Str.ofString "TypeReader.struct"), (fdIn (nat_lit 29) (nat_lit 5)).params, .stmts (fdIn (nat_lit 29) (nat_lit 5)).body, (fdIn (nat_lit 29) (nat_lit 5)).scope, (nat_lit 3), [], .none, .none, .none, (.str (Str.ofString "chancore.type_exprs") (nat_lit 458)), none, (.ref (nat_lit 269)), .none, (nat_lit 0)⟩), #[]⟩
.nil .nil) (.node ⟨.none, none, (.func ⟨(Str.ofString "field_places"), (Str.ofString "field_places"), (fdTop (nat_lit 54)).params, .stmts (fdTop (nat_lit 54)).body, (fdTop (nat_lit 54)).scope, (nat_lit 0), [], .none, .none, .none, .none, none, .none, .none, (nat_lit 0)⟩), #[]⟩
.nil .nil)) (.node ⟨(.type "tuple"), none, (.seq #[(.str (Str.ofString "world") (nat_lit 474)), (.str (Str.ofString "scope") (nat_lit 475)), (.str (Str.ofString "package") (nat_lit 476)), (.str (Str.ofString "name") (nat_lit 477)), (.str (Str.ofString "spot") (nat_lit 478)), (.str (Str.ofString "is_wanted") (nat_lit 479)), (.str (Str.ofString "entry") (nat_lit 480)), (.str (Str.ofString "around") (nat_lit 481))] (nat_lit 0)), #[]⟩
(.node ⟨.none, none, (.fields #[]), #[]⟩
.nil .nil) .nil)) (.node ⟨(.type "code"), none, (.fields #[(.str (Str.ofString "Reached") (nat_lit 317)), (.str (Str.ofString "Reached") (nat_lit 318)), (.str (Str.ofString "/claim/cut.py") (nat_lit 319)), (.int (31) (nat_lit 0)), (.int (0) (nat_lit 0)), (.int (0) (nat_lit 0)), (.int (0) (nat_lit 0)), (.int (0) (nat_lit 0)), (.ref (nat_lit 108)), (.bool false), (.int (181) (nat_lit 0)), (.ref (nat_lit 109)), .none, .none, .none, .none, (.int (320) (nat_lit 0)), (.int (31) (nat_lit 0)), (.str (Str.ofString "/claim/cut.py") (nat_lit 321))]), #[]⟩
(.node ⟨(.type "tuple"), none, (.seq #[] (nat_lit 0)), #[]⟩
(.node ⟨(.type "tuple"), none, (.seq #[] (nat_lit 0)), #[]⟩
.nil .nil) .nil) (.node ⟨(.type "tuple"), none, (.seq #[] (nat_lit 0)), #[]⟩
(.node ⟨(.type "code"), none, (.fields #[(.str (Str.ofString "is_interface") (nat_lit 705)), (.str (Str.ofString "is_interface") (nat_lit 706)), (.str (Str.ofString "/claim/cut.py") (nat_lit 707)), (.int (283) (nat_lit 0)), (.int (2) (nat_lit 0)), (.int (0) (nat_lit 0)), (.int (0) (nat_lit 0)), (.int (3) (nat_lit 0)), (.ref (nat_lit 361)), (.bool true), (.int (181) (nat_lit 0)), (.ref (nat_lit 362)), .none, (.ref (nat_lit 363)), (.ref (nat_lit 364)), (.ref (nat_lit 365)), (.int (710) (nat_lit 0)), (.int (283) (nat_lit 0)), (.str (Str.ofString "/claim/cut.py") (nat_lit 711))]), #[]⟩
.nil .nil) .nil))) (.node ⟨(.type "code"), none, (.fields #[(.str (Str.ofString "NameFault") (nat_lit 249)), (.str (Str.ofString "NameFault") (nat_lit 250)), (.str (Str.ofString "/claim/cut.py") (nat_lit 251)), (.int (21) (nat_lit 0)), (.int (0) (nat_lit 0)), (.int (0) (nat_lit 0)), (.int (0) (nat_lit 0)), (.int (0) (nat_lit 0)), (.ref (nat_lit 60)), (.bool false), (.int (181) (nat_lit 0)), (.ref (nat_lit 61)), .none, .none, .none, .none, (.int (252) (nat_lit 0)), (.int (21) (nat_lit 0)), (.str (Str.ofString "/claim/cut.py") (nat_lit 253))]), #[]⟩
(.node ⟨(.type "builtin_function_or_method"), none, (.fields #[(.builtin "type.__prepare__"), (.type "type")]), #[]⟩
(.node ⟨(.type "code"), none, (.fields #[(.str (Str.ofString "embedded_in") (nat_lit 378)), (.str (Str.ofString "embedded_in") (nat_lit 379)), (.str (Str.ofString "/claim/cut.py") (nat_lit 380)), (.int (59) (nat_lit 0)), (.int (2) (nat_lit 0)), (.int (0) (nat_lit 0)), (.int (0) (nat_lit 0)), (.int (3) (nat_lit 0)), (.ref (nat_lit 153)), (.bool true), (.int (181) (nat_lit 0)), (.ref (nat_lit 154)), .none, (.ref (nat_lit 155)), (.ref (nat_lit 156)), (.ref (nat_lit 157)), (.int (389) (nat_lit 0)), (.int (59) (nat_lit 0)), (.str (Str.ofString "/claim/cut.py") (nat_lit 390))]), #[]⟩
(.node ⟨(.type "getset_descriptor"), none, (.fields #[(.str (Str.ofString "__dict__") (nat_lit 594)), (.ref (nat_lit 285)), (.builtin "function.__dict__"), (.builtin "function.__dict__#set")]), #[]⟩
.nil .nil) (.node ⟨(.type "function"), none, (.func ⟨(Str.ofString "place_told"), (Str.ofString "place_told"), (fdTop (nat_lit 56)).params, .stmts (fdTop (nat_lit 56)).body, (fdTop (nat_lit 56)).scope, (nat_lit 3), [], .none, .none, .none, (.str (Str.ofString "chancore.check_literals") (nat_lit 737)), none, (.ref (nat_lit 413)), .none, (nat_lit 0)⟩), #[]⟩
.nil .nil)) (.node ⟨(.type "code"), none, (.fields #[(.str (Str.ofString "want_few_parts") (nat_lit 496)), (.str (Str.ofString "want_few_parts") (nat_lit 497)), (.str (Str.ofString "/claim/cut.py") (nat_lit 498)), (.int (142) (nat_lit 0)), (.int (2) (nat_lit 0)), (.int (0) (nat_lit 0)), (.int (0) (nat_lit 0)), (.int (3) (nat_lit 0)), (.ref (nat_lit 219)), (.bool true), (.int (181) (nat_lit 0)), (.ref (nat_lit 220)), .none, .none, .none, (.ref (nat_lit 221)), (.int (499) (nat_lit 0)), (.int (142) (nat_lit 0)), (.str (Str.ofString "/claim/cut.py") (nat_lit 500))]), #[]⟩
(.node ⟨(.type "tuple"), none, (.seq #[] (nat_lit 0)), #[]⟩
.nil .nil) .nil)) (.node ⟨(.type "builtin_function_or_method"), none, (.fields #[(.builtin "object.__init_subclass__"), (.ref (nat_lit 122))]), #[]⟩
(.node ⟨(.type "tuple"), none, (.seq #[(.str (Str.ofString "world") (nat_lit 437)), (.str (Str.ofString "told") (nat_lit 438)), (.str (Str.ofString "inner") (nat_lit 439)), (.str (Str.ofString "base") (nat_lit 440))] (nat_lit 0)), #[]⟩
(.node ⟨.none, none, (.func ⟨(Str.ofString "braced_text"), (Str.ofString "braced_text"), (fdTop (nat_lit 41)).params, .stmts (fdTop (nat_lit 41)).body, (fdTop (nat_lit 41)).scope, (nat_lit 0), [], .none, .none, .none, .none, none, .none, .none, (nat_lit 0)⟩), #[]⟩
.nil .nil) .nil) (.node ⟨.none, none, (.func ⟨(Str.ofString "length"), (Str.ofString "TypeReader.length"), (fdIn (nat_lit 29) (nat_lit 3)).params, .stmts (fdIn (nat_lit 29) (nat_lit 3)).body, (fdIn (nat_lit 29) (nat_lit 3)).scope, (nat_lit 0), [], .none, .none, .none, .none, none, .none, .none, (nat_lit 0)⟩), #[]⟩
(.node ⟨(.type "tuple"), none, (.seq #[] (nat_lit 0)), #[]⟩
.nil .nil) .nil))))))))
noncomputable def gM (P : Params) (i : Nat) : Obj := ((treeM P).get i).getD (n11 P)
noncomputable def treeN (P : Params) : BT :=
(.node (gM P (nat_lit 0))
(.node (gM P (nat_lit 1))
(.node ⟨(.type "dict"), none, (.dict (List.toArray (⟨PyData.keyHash P (Str.ofString "__name__"), (.str (Str.ofString "__name__") (nat_lit 165)), (.str (Str.ofString "chancore.scopes") (nat_lit 1279))⟩ :: ⟨PyData.keyHash P (Str.ofString "__doc__"), (.str (Str.ofString "__doc__") (nat_lit 166)), .none⟩ :: ⟨PyData.keyHash P (Str.ofString "__package__"), (.str (Str.ofString "__package__") (nat_lit 167)), .none⟩ :: ⟨PyData.keyHash P (Str.ofString "__loader__"), (.str (Str.ofString "__loader__") (nat_lit 168)), (.builtin "__main__.__loader__#opaque")⟩ :: ⟨PyData.keyHash P (Str.ofString "__spec__"), (.str (Str.ofString "__spec__") (nat_lit 169)), .none⟩ :: ⟨PyData.keyHash P (Str.ofString "__annotations__"), (.str (Str.ofString "__annotations__") (nat_lit 170)), (.ref (nat_lit 6))⟩ :: ⟨PyData.keyHash P (Str.ofString "__builtins__"), (.str (Str.ofString "__builtins__") (nat_lit 171)), (.ref (nat_lit 4))⟩ :: ⟨PyData.keyHash P (Str.ofString "__file__"), (.str (Str.ofString "__file__") (nat_lit 173)), (.str (Str.ofString "/claim/cut.py") (nat_lit 172))⟩ :: ⟨PyData.keyHash P (Str.ofString "__cached__"), (.str (Str.ofString "__cached__") (nat_lit 174)), .none⟩ :: ⟨PyData.keyHash P (Str.ofString "_wall"), (.str (Str.ofString "_wall") (nat_lit 193)), (.ref (nat_lit 21))⟩ :: ⟨PyData.keyHash P (Str.ofString "is_exported"), (.str (Str.ofString "is_exported") (nat_lit 202)), (.ref (nat_lit 28))⟩ :: ⟨PyData.keyHash P (Str.ofString "is_hidden"), (.str (Str.ofString "is_hidden") (nat_lit 212)), (.ref (nat_lit 35))⟩ :: ⟨PyData.keyHash P (Str.ofString "ChanError"), (.str (Str.ofString "ChanError") (nat_lit 246)), (.ref (nat_lit 53))⟩ :: ⟨PyData.keyHash P (Str.ofString "NameFault"), (.str (Str.ofString "NameFault") (nat_lit 262)), (.ref (nat_lit 66))⟩ :: ⟨PyData.keyHash P (Str.ofString "TypeFault"), (.str (Str.ofString "TypeFault") (nat_lit 278)), (.ref (nat_lit 78))⟩ :: ⟨PyData.keyHash P (Str.ofString "ConstFault"), (.str (Str.ofString "ConstFault") (nat_lit 294)), (.ref (nat_lit 90))⟩ :: ⟨PyData.keyHash P (Str.ofString "FlowFault"), (.str (Str.ofString "FlowFault") (nat_lit 310)), (.ref (nat_lit 102))⟩ :: ⟨PyData.keyHash P (Str.ofString "MAIN"), (.str (Str.ofString "MAIN") (nat_lit 314)), (.str (Str.ofString "main") (nat_lit 313))⟩ :: ⟨PyData.keyHash P (Str.ofString "Reached"), (.str (Str.ofString "Reached") (nat_lit 347)), (.ref (nat_lit 122))⟩ :: ⟨PyData.keyHash P (Str.ofString "own_name"), (.str (Str.ofString "own_name") (nat_lit 356)), (.ref (nat_lit 133))⟩ :: ⟨PyData.keyHash P (Str.ofString "without_pointer"), (.str (Str.ofString "without_pointer") (nat_lit 363)), (.ref (nat_lit 140))⟩ :: ⟨PyData.keyHash P (Str.ofString "own_methods"), (.str (Str.ofString "own_methods") (nat_lit 371)), (.ref (nat_lit 147))⟩ :: ⟨PyData.keyHash P (Str.ofString "members_at"), (.str (Str.ofString "members_at") (nat_lit 377)), (.ref (nat_lit 152))⟩ :: ⟨PyData.keyHash P (Str.ofString "embedded_in"), (.str (Str.ofString "embedded_in") (nat_lit 391)), (.ref (nat_lit 159))⟩ :: ⟨PyData.keyHash P (Str.ofString "Levels"), (.str (Str.ofString "Levels") (nat_lit 433)), (.ref (nat_lit 183))⟩ :: ⟨PyData.keyHash P (Str.ofString "start_type"), (.str (Str.ofString "start_type") (nat_lit 443)), (.ref (nat_lit 194))⟩ :: ⟨PyData.keyHash P (Str.ofString "find_member"), (.str (Str.ofString "find_member") (nat_lit 457)), (.ref (nat_lit 201))⟩ :: ⟨PyData.keyHash P (Str.ofString "SYNC_TYPES"), (.str (Str.ofString "SYNC_TYPES") (nat_lit 462)), (.ref (nat_lit 202))⟩ :: ⟨PyData.keyHash P (Str.ofString "MOST_LENGTH"), (.str (Str.ofString "MOST_LENGTH") (nat_lit 466)), (.int (1048576) (nat_lit 465))⟩ :: ⟨PyData.keyHash P (Str.ofString "MOST_PARTS"), (.str (Str.ofString "MOST_PARTS") (nat_lit 468)), (.int (2000) (nat_lit 467))⟩ :: ⟨PyData.keyHash P (Str.ofString "MOST_LEVELS"), (.str (Str.ofString "MOST_LEVELS") (nat_lit 470)), (.int (100) (nat_lit 469))⟩ :: ⟨PyData.keyHash P (Str.ofString "type_entry"), (.str (Str.ofString "type_entry") (nat_lit 484)), (.ref (nat_lit 210))⟩ :: ⟨PyData.keyHash P (Str.ofString "exported_entry"), (.str (Str.ofString "exported_entry") (nat_lit 495)), (.ref (nat_lit 218))⟩ :: ⟨PyData.keyHash P (Str.ofString "want_few_parts"), (.str (Str.ofString "want_few_parts") (nat_lit 501)), (.ref (nat_lit 223))⟩ :: ⟨PyData.keyHash P (Str.ofString "TypeReader"), (.str (Str.ofString "TypeReader") (nat_lit 600)), (.ref (nat_lit 285))⟩ :: ⟨PyData.keyHash P (Str.ofString "TEXT"), (.str (Str.ofString "TEXT") (nat_lit 604)), (.ref (nat_lit 290))⟩ :: ⟨PyData.keyHash P (Str.ofString "TRUTH"), (.str (Str.ofString "TRUTH") (nat_lit 606)), (.ref (nat_lit 291))⟩ :: ⟨PyData.keyHash P (Str.ofString "WHOLE"), (.str (Str.ofString "WHOLE") (nat_lit 609)), (.ref (nat_lit 292))⟩ :: ⟨PyData.keyHash P (Str.ofString "RUNE"), (.str (Str.ofString "RUNE") (nat_lit 612)), (.ref (nat_lit 293))⟩ :: ⟨PyData.keyHash P (Str.ofString "NIL"), (.str (Str.ofString "NIL") (nat_lit 614)), (.ref (nat_lit 294))⟩ :: ⟨PyData.keyHash P (Str.ofString "UNTYPED_DEFAULTS"), (.str (Str.ofString "UNTYPED_DEFAULTS") (nat_lit 623)), (.ref (nat_lit 295))⟩ :: ⟨PyData.keyHash P (Str.ofString "NILABLE"), (.str (Str.ofString "NILABLE") (nat_lit 630)), (.ref (nat_lit 296))⟩ :: ⟨PyData.keyHash P (Str.ofString "joined_texts"), (.str (Str.ofString "joined_texts") (nat_lit 636)), (.ref (nat_lit 301))⟩ :: ⟨PyData.keyHash P (Str.ofString "signature_text"), (.str (Str.ofString "signature_text") (nat_lit 642)), (.ref (nat_lit 306))⟩ :: ⟨PyData.keyHash P (Str.ofString "field_text"), (.str (Str.ofString "field_text") (nat_lit 652)), (.ref (nat_lit 313))⟩ :: ⟨PyData.keyHash P (Str.ofString "braced_text"), (.str (Str.ofString "braced_text") (nat_lit 660)), (.ref (nat_lit 320))⟩ :: ⟨PyData.keyHash P (Str.ofString "chan_text"), (.str (Str.ofString "chan_text") (nat_lit 669)), (.ref (nat_lit 327))⟩ :: ⟨PyData.keyHash P (Str.ofString "type_text"), (.str (Str.ofString "type_text") (nat_lit 675)), (.ref (nat_lit 332))⟩ :: ⟨PyData.keyHash P (Str.ofString "underlying_of"), (.str (Str.ofString "underlying_of") (nat_lit 683)), (.ref (nat_lit 339))⟩ :: ⟨PyData.keyHash P (Str.ofString "is_named"), (.str (Str.ofString "is_named") (nat_lit 690)), (.ref (nat_lit 346))⟩ :: ⟨PyData.keyHash P (Str.ofString "is_untyped"), (.str (Str.ofString "is_untyped") (nat_lit 697)), (.ref (nat_lit 353))⟩ :: ⟨PyData.keyHash P (Str.ofString "default_type"), (.str (Str.ofString "default_type") (nat_lit 704)), (.ref (nat_lit 360))⟩ :: ⟨PyData.keyHash P (Str.ofString "is_interface"), (.str (Str.ofString "is_interface") (nat_lit 712)), (.ref (nat_lit 367))⟩ :: ⟨PyData.keyHash P (Str.ofString "is_integer"), (.str (Str.ofString "is_integer") (nat_lit 720)), (.ref (nat_lit 374))⟩ :: ⟨PyData.keyHash P (Str.ofString "is_truth"), (.str (Str.ofString "is_truth") (nat_lit 728)), (.ref (nat_lit 381))⟩ :: ⟨PyData.keyHash P (Str.ofString "has_nil"), (.str (Str.ofString "has_nil") (nat_lit 736)), (.ref (nat_lit 388))⟩ :: ⟨PyData.keyHash P (Str.ofString "told_type"), (.str (Str.ofString "told_type") (nat_lit 747)), (.ref (nat_lit 395))⟩ :: ⟨PyData.keyHash P (Str.ofString "field_places"), (.str (Str.ofString "field_places") (nat_lit 753)), (.ref (nat_lit 400))⟩ :: ⟨PyData.keyHash P (Str.ofString "dropped"), (.str (Str.ofString "dropped") (nat_lit 763)), (.ref (nat_lit 407))⟩ :: ⟨PyData.keyHash P (Str.ofString "place_told"), (.str (Str.ofString "place_told") (nat_lit 772)), (.ref (nat_lit 414))⟩ :: ⟨PyData.keyHash P (Str.ofString "constant_within"), (.str (Str.ofString "constant_within") (nat_lit 779)), (.ref (nat_lit 421))⟩ :: ⟨PyData.keyHash P (Str.ofString "BITS"), (.str (Str.ofString "BITS") (nat_lit 812)), (.ref (nat_lit 422))⟩ :: ⟨PyData.keyHash P (Str.ofString "MOST_BITS"), (.str (Str.ofString "MOST_BITS") (nat_lit 814)), (.int (512) (nat_lit 813))⟩ :: ⟨PyData.keyHash P (Str.ofString "MOST_TEXT"), (.str (Str.ofString "MOST_TEXT") (nat_lit 818)), (.int (1048576) (nat_lit 817))⟩ :: ⟨PyData.keyHash P (Str.ofString "COMPARISONS"), (.str (Str.ofString "COMPARISONS") (nat_lit 825)), (.ref (nat_lit 423))⟩ :: ⟨PyData.keyHash P (Str.ofString "WRONG_RUNE"), (.str (Str.ofString "WRONG_RUNE") (nat_lit 827)), (.bytes #[239, 191, 189] (nat_lit 826))⟩ :: ⟨PyData.keyHash P (Str.ofString "is_unsigned"), (.str (Str.ofString "is_unsigned") (nat_lit 834)), (.ref (nat_lit 430))⟩ :: ⟨PyData.keyHash P (Str.ofString "int_range"), (.str (Str.ofString "int_range") (nat_lit 841)), (.ref (nat_lit 437))⟩ :: ⟨PyData.keyHash P (Str.ofString "is_in_range"), (.str (Str.ofString "is_in_range") (nat_lit 851)), (.ref (nat_lit 444))⟩ :: ⟨PyData.keyHash P (Str.ofString "within_range"), (.str (Str.ofString "within_range") (nat_lit 859)), (.ref (nat_lit 451))⟩ :: ⟨PyData.keyHash P (Str.ofString "representable"), (.str (Str.ofString "representable") (nat_lit 868)), (.ref (nat_lit 458))⟩ :: ⟨PyData.keyHash P (Str.ofString "const_unary"), (.str (Str.ofString "const_unary") (nat_lit 877)), (.ref (nat_lit 466))⟩ :: ⟨PyData.keyHash P (Str.ofString "const_quotient"), (.str (Str.ofString "const_quotient") (nat_lit 886)), (.ref (nat_lit 473))⟩ :: ⟨PyData.keyHash P (Str.ofString "const_shift"), (.str (Str.ofString "const_shift") (nat_lit 896)), (.ref (nat_lit 480))⟩ :: ⟨PyData.keyHash P (Str.ofString "int_binary"), (.str (Str.ofString "int_binary") (nat_lit 905)), (.ref (nat_lit 487))⟩ :: ⟨PyData.keyHash P (Str.ofString "const_compared"), (.str (Str.ofString "const_compared") (nat_lit 914)), (.ref (nat_lit 494))⟩ :: ⟨PyData.keyHash P (Str.ofString "sort_of_const"), (.str (Str.ofString "sort_of_const") (nat_lit 921)), (.ref (nat_lit 501))⟩ :: ⟨PyData.keyHash P (Str.ofString "const_binary"), (.str (Str.ofString "const_binary") (nat_lit 932)), (.ref (nat_lit 509))⟩ :: ⟨PyData.keyHash P (Str.ofString "rune_octets"), (.str (Str.ofString "rune_octets") (nat_lit 939)), (.ref (nat_lit 516))⟩ :: ⟨PyData.keyHash P (Str.ofString "const_convert"), (.str (Str.ofString "const_convert") (nat_lit 947)), (.ref (nat_lit 523))⟩ :: ⟨PyData.keyHash P (Str.ofString "names_of_methods"), (.str (Str.ofString "names_of_methods") (nat_lit 963)), (.ref (nat_lit 530))⟩ :: ⟨PyData.keyHash P (Str.ofString "member_or_none"), (.str (Str.ofString "member_or_none") (nat_lit 972)), (.ref (nat_lit 537))⟩ :: ⟨PyData.keyHash P (Str.ofString "is_in_set"), (.str (Str.ofString "is_in_set") (nat_lit 978)), (.ref (nat_lit 542))⟩ :: ⟨PyData.keyHash P (Str.ofString "method_set"), (.str (Str.ofString "method_set") (nat_lit 991)), (.ref (nat_lit 549))⟩ :: ⟨PyData.keyHash P (Str.ofString "lack_of"), (.str (Str.ofString "lack_of") (nat_lit 1002)), (.ref (nat_lit 556))⟩ :: ⟨PyData.keyHash P (Str.ofString "implements"), (.str (Str.ofString "implements") (nat_lit 1014)), (.ref (nat_lit 563))⟩ :: ⟨PyData.keyHash P (Str.ofString "is_like_chan"), (.str (Str.ofString "is_like_chan") (nat_lit 1027)), (.ref (nat_lit 570))⟩ :: ⟨PyData.keyHash P (Str.ofString "meets_face"), (.str (Str.ofString "meets_face") (nat_lit 1036)), (.ref (nat_lit 577))⟩ :: ⟨PyData.keyHash P (Str.ofString "is_assignable"), (.str (Str.ofString "is_assignable") (nat_lit 1046)), (.ref (nat_lit 585))⟩ :: ⟨PyData.keyHash P (Str.ofString "is_const_assignable"), (.str (Str.ofString "is_const_assignable") (nat_lit 1057)), (.ref (nat_lit 592))⟩ :: ⟨PyData.keyHash P (Str.ofString "UNTYPED_INT"), (.str (Str.ofString "UNTYPED_INT") (nat_lit 1062)), (.ref (nat_lit 593))⟩ :: ⟨PyData.keyHash P (Str.ofString "UNTYPED_RUNE"), (.str (Str.ofString "UNTYPED_RUNE") (nat_lit 1065)), (.ref (nat_lit 594))⟩ :: ⟨PyData.keyHash P (Str.ofString "UNTYPED_BOOL"), (.str (Str.ofString "UNTYPED_BOOL") (nat_lit 1068)), (.ref (nat_lit 595))⟩ :: ⟨PyData.keyHash P (Str.ofString "UNTYPED_TEXT"), (.str (Str.ofString "UNTYPED_TEXT") (nat_lit 1071)), (.ref (nat_lit 596))⟩ :: ⟨PyData.keyHash P (Str.ofString "NUMBERS"), (.str (Str.ofString "NUMBERS") (nat_lit 1072)), (.ref (nat_lit 597))⟩ :: ⟨PyData.keyHash P (Str.ofString "ConstReader"), (.str (Str.ofString "ConstReader") (nat_lit 1253)), (.ref (nat_lit 703))⟩ :: ⟨PyData.keyHash P (Str.ofString "const_of"), (.str (Str.ofString "const_of") (nat_lit 1264)), (.ref (nat_lit 715))⟩ :: ⟨PyData.keyHash P (Str.ofString "type_of"), (.str (Str.ofString "type_of") (nat_lit 1278)), (.ref (nat_lit 722))⟩ :: ⟨PyData.keyHash P (Str.ofString "ScopeRow"), (.str (Str.ofString "ScopeRow") (nat_lit 1318)), (.ref (nat_lit 739))⟩ :: ⟨PyData.keyHash P (Str.ofString "Scope"), (.str (Str.ofString "Scope") (nat_lit 1413)), (.ref (nat_lit 812))⟩ :: [])) (nat_lit 100)), #[]⟩
(.node (gM P (nat_lit 7))
(.node (gM P (nat_lit 15))
(.node (gM P (nat_lit 31))
(.node (gM P (nat_lit 63))
(.node (gM P (nat_lit 127))
(.node (gM P (nat_lit 255))
(.node ⟨.none, none, (.fields #[]), #[]⟩
.nil .nil) (.node ⟨(.type "tuple"), none, (.seq #[] (nat_lit 0)), #[]⟩
.nil .nil)) (.node (gM P (nat_lit 383))
(.node ⟨(.type "function"), none, (.func ⟨(Str.ofString "kind_of"), (Str.ofString "ConstReader.kind_of"), (fdIn (nat_lit 96) (nat_lit 4)).params, .stmts (fdIn (nat_lit 96) (nat_lit 4)).body, (fdIn (nat_lit 96) (nat_lit 4)).scope, (nat_lit 3), [], .none, .none, .none, (.str (Str.ofString "chancore.const_exprs") (nat_lit 1058)), none, (.ref (nat_lit 638)), .none, (nat_lit 0)⟩), #[]⟩
.nil .nil) .nil)) (.node (gM P (nat_lit 191))
(.node (gM P (nat_lit 319))
(.node ⟨.none, none, (.func ⟨(Str.ofString "meets_face"), (Str.ofString "meets_face"), (fdTop (nat_lit 87)).params, .stmts (fdTop (nat_lit 87)).body, (fdTop (nat_lit 87)).scope, (nat_lit 0), [], .none, .none, .none, .none, none, .none, .none, (nat_lit 0)⟩), #[]⟩
.nil .nil) .nil) (.node ⟨(.type "tuple"), none, (.seq #[(.str (Str.ofString "number") (nat_lit 855)), (.str (Str.ofString "kind") (nat_lit 856))] (nat_lit 0)), #[]⟩
(.node ⟨(.type "type"), none, (.cls { name := Str.ofString "ConstReader", bases := [Value.type "object"], mro := [Value.ref (nat_lit 703), Value.type "object"], ns := (nat_lit 702), qualname := Str.ofString "ConstReader" }), #[none, none, some (.str (Str.ofString "ConstReader") (nat_lit 1073)), some (.str (Str.ofString "ConstReader") (nat_lit 1081)), some (.builtin "object.__new__"), some (.bool true)]⟩
.nil .nil) .nil))) (.node (gM P (nat_lit 95))
(.node (gM P (nat_lit 159))
(.node (gM P (nat_lit 287))
(.node ⟨(.type "tuple"), none, (.seq #[] (nat_lit 0)), #[]⟩
.nil .nil) (.node ⟨(.type "tuple"), none, (.seq #[] (nat_lit 0)), #[]⟩
.nil .nil)) (.node (gM P (nat_lit 415))
(.node ⟨(.type "tuple"), none, (.seq #[] (nat_lit 0)), #[]⟩
.nil .nil) .nil)) (.node (gM P (nat_lit 223))
(.node (gM P (nat_lit 351))
(.node ⟨(.type "tuple"), none, (.seq #[(.str (Str.ofString "self") (nat_lit 1088)), (.str (Str.ofString "world") (nat_lit 1089)), (.str (Str.ofString "package") (nat_lit 1090)), (.str (Str.ofString "scope") (nat_lit 1091)), (.str (Str.ofString "iota") (nat_lit 1092))] (nat_lit 0)), #[]⟩
.nil .nil) .nil) (.node ⟨(.type "code"), none, (.fields #[(.str (Str.ofString "const_shift") (nat_lit 887)), (.str (Str.ofString "const_shift") (nat_lit 888)), (.str (Str.ofString "/claim/cut.py") (nat_lit 889)), (.int (377) (nat_lit 0)), (.int (4) (nat_lit 0)), (.int (0) (nat_lit 0)), (.int (0) (nat_lit 0)), (.int (3) (nat_lit 0)), (.ref (nat_lit 474)), (.bool true), (.int (181) (nat_lit 0)), (.ref (nat_lit 475)), .none, (.ref (nat_lit 476)), (.ref (nat_lit 477)), (.ref (nat_lit 478)), (.int (894) (nat_lit 0)), (.int (377) (nat_lit 0)), (.str (Str.ofString "/claim/cut.py") (nat_lit 895))]), #[]⟩
(.node ⟨(.type "code"), none, (.fields #[(.str (Str.ofString "__init__") (nat_lit 1293)), (.str (Str.ofString "ScopeRow.__init__") (nat_lit 1294)), (.str (Str.ofString "/claim/cut.py") (nat_lit 1295)), (.int (683) (nat_lit 0)), (.int (6) (nat_lit 0)), (.int (0) (nat_lit 0)), (.int (0) (nat_lit 0)), (.int (3) (nat_lit 0)), (.ref (nat_lit 730)), (.bool true), (.int (181) (nat_lit 0)), (.ref (nat_lit 731)), .none, (.ref (nat_lit 732)), (.ref (nat_lit 733)), (.ref (nat_lit 734)), (.int (1302) (nat_lit 0)), (.int (683) (nat_lit 0)), (.str (Str.ofString "/claim/cut.py") (nat_lit 1303))]), #[]⟩
.nil .nil) .nil)))) (.node (gM P (nat_lit 47))
(.node (gM P (nat_lit 79))
(.node (gM P (nat_lit 143))
(.node (gM P (nat_lit 271))
(.node ⟨(.type "tuple"), none, (.seq #[] (nat_lit 0)), #[]⟩
.nil .nil) (.node ⟨.none, none, (.fields #[]), #[]⟩
.nil .nil)) (.node (gM P (nat_lit 399))
(.node ⟨.none, none, (.fields #[]), #[]⟩
.nil .nil) .nil)) (.node (gM P (nat_lit 207))
(.node (gM P (nat_lit 335))
(.node ⟨(.type "code"), none, (.fields #[(.str (Str.ofString "is_const_assignable") (nat_lit 1047)), (.str (Str.ofString "is_const_assignable") (nat_lit 1048)), (.str (Str.ofString "/claim/cut.py") (nat_lit 1049)), (.int (511) (nat_lit 0)), (.int (4) (nat_lit 0)), (.int (0) (nat_lit 0)), (.int (0) (nat_lit 0)), (.int (3) (nat_lit 0)), (.ref (nat_lit 586)), (.bool true), (.int (181) (nat_lit 0)), (.ref (nat_lit 587)), .none, (.ref (nat_lit 588)), (.ref (nat_lit 589)), (.ref (nat_lit 590)), (.int (1055) (nat_lit 0)), (.int (511) (nat_lit 0)), (.str (Str.ofString "/claim/cut.py") (nat_lit 1056))]), #[]⟩
.nil .nil) .nil) (.node ⟨(.type "tuple"), none, (.seq #[] (nat_lit 0)), #[]⟩
(.node ⟨(.type "tuple"), none, (.seq #[(.str (Str.ofString "world") (nat_lit 1273)), (.str (Str.ofString "package") (nat_lit 1274)), (.str (Str.ofString "scope") (nat_lit 1275))] (nat_lit 0)), #[]⟩
.nil .nil) .nil))) (.node (gM P (nat_lit 111))
(.node (gM P (nat_lit 175))
(.node (gM P (nat_lit 303))
(.node ⟨(.type "tuple"), none, (.seq #[(.str (Str.ofString "world") (nat_lit 1006)), (.str (Str.ofString "told") (nat_lit 1007)), (.str (Str.ofString "wanted") (nat_lit 1008)), (.str (Str.ofString "methods") (nat_lit 1009)), (.str (Str.ofString "name") (nat_lit 1010)), (.str (Str.ofString "func") (nat_lit 1011))] (nat_lit 0)), #[]⟩
.nil .nil) (.node ⟨(.type "super"), none, (.fields #[(.ref (nat_lit 812)), (.ref (nat_lit 812)), (.ref (nat_lit 812))]), #[]⟩
.nil .nil)) (.node ⟨(.type "tuple"), none, (.seq #[] (nat_lit 0)), #[]⟩
(.node ⟨(.type "tuple"), none, (.seq #[] (nat_lit 0)), #[]⟩
.nil .nil) .nil)) (.node (gM P (nat_lit 239))
(.node (gM P (nat_lit 367))
(.node ⟨.none, none, (.func ⟨(Str.ofString "named"), (Str.ofString "ConstReader.named"), (fdIn (nat_lit 96) (nat_lit 2)).params, .stmts (fdIn (nat_lit 96) (nat_lit 2)).body, (fdIn (nat_lit 96) (nat_lit 2)).scope, (nat_lit 0), [], .none, .none, .none, .none, none, .none, .none, (nat_lit 0)⟩), #[]⟩
.nil .nil) .nil) (.node ⟨(.type "tuple"), none, (.seq #[] (nat_lit 0)), #[]⟩
(.node ⟨(.type "tuple"), none, (.seq #[.none] (nat_lit 0)), #[]⟩
.nil .nil) .nil))))) (.node (gM P (nat_lit 23))
(.node (gM P (nat_lit 39))
(.node (gM P (nat_lit 71))
(.node (gM P (nat_lit 135))
(.node (gM P (nat_lit 263))
(.node ⟨(.type "tuple"), none, (.seq #[(.str (Str.ofString "value") (nat_lit 943)), (.str (Str.ofString "told") (nat_lit 944))] (nat_lit 0)), #[]⟩
.nil .nil) (.node ⟨.none, none, (.fields #[]), #[]⟩
.nil .nil)) (.node (gM P (nat_lit 391))
(.node ⟨(.type "tuple"), none, (.seq #[] (nat_lit 0)), #[]⟩
.nil .nil) .nil)) (.node (gM P (nat_lit 199))
(.node (gM P (nat_lit 327))
(.node ⟨.none, none, (.func ⟨(Str.ofString "is_assignable"), (Str.ofString "is_assignable"), (fdTop (nat_lit 88)).params, .stmts (fdTop (nat_lit 88)).body, (fdTop (nat_lit 88)).scope, (nat_lit 0), [], .none, .none, .none, .none, none, .none, .none, (nat_lit 0)⟩), #[]⟩
.nil .nil) .nil) (.node ⟨(.type "tuple"), none, (.seq #[] (nat_lit 0)), #[]⟩
(.node ⟨(.type "tuple"), none, (.seq #[(.str (Str.ofString "world") (nat_lit 1257)), (.str (Str.ofString "package") (nat_lit 1258)), (.str (Str.ofString "scope") (nat_lit 1259)), (.str (Str.ofString "expr") (nat_lit 1260)), (.str (Str.ofString "iota") (nat_lit 1261))] (nat_lit 0)), #[]⟩
.nil .nil) .nil))) (.node (gM P (nat_lit 103))
(.node (gM P (nat_lit 167))
(.node (gM P (nat_lit 295))
(.node ⟨.none, none, (.fields #[]), #[]⟩
.nil .nil) (.node ⟨.none, none, (.func ⟨(Str.ofString "depth"), (Str.ofString "Scope.depth"), (fdIn (nat_lit 101) (nat_lit 7)).params, .stmts (fdIn (nat_lit 101) (nat_lit 7)).body, (fdIn (nat_lit 101) (nat_lit 7)).scope, (nat_lit 0), [], .none, .none, .none, .none, none, .none, .none, (nat_lit 0)⟩), #[]⟩
.nil .nil)) (.node ⟨(.type "tuple"), none, (.seq #[(.str (Str.ofString "==") (nat_lit 819)), (.str (Str.ofString "!=") (nat_lit 820)), (.str (Str.ofString "<") (nat_lit 821)), (.str (Str.ofString "<=") (nat_lit 822)), (.str (Str.ofString ">") (nat_lit 823)), (.str (Str.ofString ">=") (nat_lit 824))] (nat_lit 0)), #[]⟩
(.node ⟨.none, none, (.func ⟨(Str.ofString "array_size"), (Str.ofString "ConstReader.array_size"), (fdIn (nat_lit 96) (nat_lit 10)).params, .stmts (fdIn (nat_lit 96) (nat_lit 10)).body, (fdIn (nat_lit 96) (nat_lit 10)).scope, (nat_lit 0), [], .none, .none, .none, .none, none, .none, .none, (nat_lit 0)⟩), #[]⟩
.nil .nil) .nil)) (.node (gM P (nat_lit 231))
(.node (gM P (nat_lit 359))
(.node ⟨(.type "tuple"), none, (.seq #[] (nat_lit 0)), #[]⟩
.nil .nil) .nil) (.node ⟨(.type "function"), none, (.func ⟨(Str.ofString "int_binary"), (Str.ofString "int_binary"), (fdTop (nat_lit 72)).params, .stmts (fdTop (nat_lit 72)).body, (fdTop (nat_lit 72)).scope, (nat_lit 3), [], .none, .none, .none, (.str (Str.ofString "chancore.consts") (nat_lit 780)), none, (.ref (nat_lit 486)), .none, (nat_lit 0)⟩), #[]⟩
(.node ⟨(.type "builtin_function_or_method"), none, (.fields #[(.builtin "object.__init_subclass__"), (.ref (nat_lit 739))]), #[]⟩
.nil .nil) .nil)))) (.node (gM P (nat_lit 55))
(.node (gM P (nat_lit 87))
(.node (gM P (nat_lit 151))
(.node (gM P (nat_lit 279))
(.node ⟨.none, none, (.func ⟨(Str.ofString "member_or_none"), (Str.ofString "member_or_none"), (fdTop (nat_lit 80)).params, .stmts (fdTop (nat_lit 80)).body, (fdTop (nat_lit 80)).scope, (nat_lit 0), [], .none, .none, .none, .none, none, .none, .none, (nat_lit 0)⟩), #[]⟩
.nil .nil) (.node ⟨(.type "tuple"), none, (.seq #[(.str (Str.ofString "self") (nat_lit 1381)), (.str (Str.ofString "name") (nat_lit 1382))] (nat_lit 0)), #[]⟩
.nil .nil)) (.node (gM P (nat_lit 407))
(.node ⟨(.type "tuple"), none, (.seq #[(.str (Str.ofString "self") (nat_lit 1181)), (.str (Str.ofString "expr") (nat_lit 1182)), (.str (Str.ofString "spot") (nat_lit 1183)), (.str (Str.ofString "func") (nat_lit 1184)), (.str (Str.ofString "args") (nat_lit 1185)), (.str (Str.ofString "entry") (nat_lit 1186)), (.str (Str.ofString "wanted") (nat_lit 1187)), (.str (Str.ofString "told") (nat_lit 1188))] (nat_lit 0)), #[]⟩
.nil .nil) .nil)) (.node (gM P (nat_lit 215))
(.node (gM P (nat_lit 343))
(.node ⟨(.type "builtin_function_or_method"), none, (.fields #[(.builtin "type.__prepare__"), (.type "type")]), #[]⟩
.nil .nil) .nil) (.node ⟨.none, none, (.func ⟨(Str.ofString "const_quotient"), (Str.ofString "const_quotient"), (fdTop (nat_lit 70)).params, .stmts (fdTop (nat_lit 70)).body, (fdTop (nat_lit 70)).scope, (nat_lit 0), [], .none, .none, .none, .none, none, .none, .none, (nat_lit 0)⟩), #[]⟩
(.node ⟨.none, none, (.fields #[(.int (683) (nat_lit 0)), (.int (4) (nat_lit 0)), (.ref (nat_lit 735))]), #[]⟩
.nil .nil) .nil))) (.node (gM P (nat_lit 119))
(.node (gM P (nat_lit 183))
(.node (gM P (nat_lit 311))
(.node ⟨(.type "tuple"), none, (.seq #[] (nat_lit 0)), #[]⟩
.nil .nil) .nil) (.node ⟨.none, none, (.fields #[]), #[]⟩
(.node ⟨.none, none, (.fields #[]), #[]⟩
.nil .nil) .nil)) (.node (gM P (nat_lit 247))
(.node (gM P (nat_lit 375))
(.node ⟨(.type "code"), none, (.fields #[(.str (Str.ofString "selected") (nat_lit 1116)), (.str (Str.ofString "ConstReader.selected") (nat_lit 1117)), (.str (Str.ofString "/claim/cut.py") (nat_lit 1118)), (.int (562) (nat_lit 0)), (.int (2) (nat_lit 0)), (.int (0) (nat_lit 0)), (.int (0) (nat_lit 0)), (.int (3) (nat_lit 0)), (.ref (nat_lit 626)), (.bool true), (.int (181) (nat_lit 0)), (.ref (nat_lit 627)), .none, (.ref (nat_lit 628)), (.ref (nat_lit 629)), (.ref (nat_lit 630)), (.int (1125) (nat_lit 0)), (.int (562) (nat_lit 0)), (.str (Str.ofString "/claim/cut.py") (nat_lit 1126))]), #[]⟩
.nil .nil) .nil) (.node ⟨(.type "tuple"), none, (.seq #[] (nat_lit 0)), #[]⟩
(.node ⟨(.type "tuple"), none, (.seq #[(.bool false)] (nat_lit 0)), #[]⟩
.nil .nil) .nil)))))) (.node (gM P (nat_lit 11))
(.node (gM P (nat_lit 19))
(.node (gM P (nat_lit 35))
(.node (gM P (nat_lit 67))
(.node (gM P (nat_lit 131))
(.node (gM P (nat_lit 259))
(.node ⟨(.type "code"), none, (.fields #[(.str (Str.ofString "rune_octets") (nat_lit 933)), (.str (Str.ofString "rune_octets") (nat_lit 934)), (.str (Str.ofString "/claim/cut.py") (nat_lit 935)), (.int (438) (nat_lit 0)), (.int (1) (nat_lit 0)), (.int (0) (nat_lit 0)), (.int (0) (nat_lit 0)), (.int (3) (nat_lit 0)), (.ref (nat_lit 510)), (.bool true), (.int (181) (nat_lit 0)), (.ref (nat_lit 511)), .none, (.ref (nat_lit 512)), (.ref (nat_lit 513)), (.ref (nat_lit 514)), (.int (937) (nat_lit 0)), (.int (438) (nat_lit 0)), (.str (Str.ofString "/claim/cut.py") (nat_lit 938))]), #[]⟩
.nil .nil) (.node ⟨.none, none, (.func ⟨(Str.ofString "is_here"), (Str.ofString "Scope.is_here"), (fdIn (nat_lit 101) (nat_lit 2)).params, .stmts (fdIn (nat_lit 101) (nat_lit 2)).body, (fdIn (nat_lit 101) (nat_lit 2)).scope, (nat_lit 0), [], .none, .none, .none, .none, none, .none, .none, (nat_lit 0)⟩), #[]⟩
.nil .nil)) (.node (gM P (nat_lit 387))
(.node ⟨(.type "tuple"), none, (.seq #[(.str (Str.ofString "self") (nat_lit 1142)), (.str (Str.ofString "expr") (nat_lit 1143)), (.str (Str.ofString "told") (nat_lit 1144)), (.str (Str.ofString "value") (nat_lit 1145))] (nat_lit 0)), #[]⟩
.nil .nil) .nil)) (.node (gM P (nat_lit 195))
(.node (gM P (nat_lit 323))
(.node ⟨(.type "tuple"), none, (.seq #[] (nat_lit 0)), #[]⟩
.nil .nil) .nil) (.node ⟨(.type "function"), none, (.func ⟨(Str.ofString "within_range"), (Str.ofString "within_range"), (fdTop (nat_lit 67)).params, .stmts (fdTop (nat_lit 67)).body, (fdTop (nat_lit 67)).scope, (nat_lit 3), [], .none, .none, .none, (.str (Str.ofString "chancore.consts") (nat_lit 780)), none, (.ref (nat_lit 450)), .none, (nat_lit 0)⟩), #[]⟩
(.node ⟨(.type "builtin_function_or_method"), none, (.fields #[(.builtin "object.__init_subclass__"), (.ref (nat_lit 703))]), #[]⟩
.nil .nil) .nil))) (.node (gM P (nat_lit 99))
(.node (gM P (nat_lit 163))
(.node (gM P (nat_lit 291))
(.node ⟨.none, none, (.func ⟨(Str.ofString "method_set"), (Str.ofString "method_set"), (fdTop (nat_lit 82)).params, .stmts (fdTop (nat_lit 82)).body, (fdTop (nat_lit 82)).scope, (nat_lit 0), [], .none, .none, .none, .none, none, .none, .none, (nat_lit 0)⟩), #[]⟩
.nil .nil) (.node ⟨(.type "tuple"), none, (.seq #[] (nat_lit 0)), #[]⟩
.nil .nil)) (.node (gM P (nat_lit 419))
(.node ⟨(.type "tuple"), none, (.seq #[] (nat_lit 0)), #[]⟩
.nil .nil) .nil)) (.node (gM P (nat_lit 227))
(.node (gM P (nat_lit 355))
(.node ⟨(.type "function"), none, (.func ⟨(Str.ofString "__init__"), (Str.ofString "ConstReader.__init__"), (fdIn (nat_lit 96) (nat_lit 0)).params, .stmts (fdIn (nat_lit 96) (nat_lit 0)).body, (fdIn (nat_lit 96) (nat_lit 0)).scope, (nat_lit 3), [], .none, .none, .none, (.str (Str.ofString "chancore.const_exprs") (nat_lit 1058)), none, (.ref (nat_lit 610)), .none, (nat_lit 0)⟩), #[]⟩
.nil .nil) .nil) (.node ⟨(.type "tuple"), none, (.seq #[(.str (Str.ofString "op") (nat_lit 900)), (.str (Str.ofString "a") (nat_lit 901)), (.str (Str.ofString "b") (nat_lit 902))] (nat_lit 0)), #[]⟩
(.node ⟨(.type "type"), none, (.cls { name := Str.ofString "ScopeRow", bases := [Value.type "object"], mro := [Value.ref (nat_lit 739), Value.type "object"], ns := (nat_lit 738), qualname := Str.ofString "ScopeRow" }), #[none, none, some (.str (Str.ofString "ScopeRow") (nat_lit 1281)), some (.str (Str.ofString "ScopeRow") (nat_lit 1289)), some (.builtin "object.__new__"), some (.bool true)]⟩
.nil .nil) .nil)))) (.node (gM P (nat_lit 51))
(.node (gM P (nat_lit 83))
(.node (gM P (nat_lit 147))
(.node (gM P (nat_lit 275))
(.node ⟨(.type "tuple"), none, (.seq #[] (nat_lit 0)), #[]⟩
.nil .nil) (.node ⟨(.type "code"), none, (.fields #[(.str (Str.ofString "find") (nat_lit 1368)), (.str (Str.ofString "Scope.find") (nat_lit 1369)), (.str (Str.ofString "/claim/cut.py") (nat_lit 1370)), (.int (715) (nat_lit 0)), (.int (3) (nat_lit 0)), (.int (0) (nat_lit 0)), (.int (0) (nat_lit 0)), (.int (3) (nat_lit 0)), (.ref (nat_lit 782)), (.bool true), (.int (181) (nat_lit 0)), (.ref (nat_lit 783)), .none, (.ref (nat_lit 784)), (.ref (nat_lit 785)), (.ref (nat_lit 786)), (.int (1375) (nat_lit 0)), (.int (715) (nat_lit 0)), (.str (Str.ofString "/claim/cut.py") (nat_lit 1376))]), #[]⟩
.nil .nil)) (.node (gM P (nat_lit 403))
(.node ⟨(.type "code"), none, (.fields #[(.str (Str.ofString "common") (nat_lit 1166)), (.str (Str.ofString "ConstReader.common") (nat_lit 1167)), (.str (Str.ofString "/claim/cut.py") (nat_lit 1168)), (.int (590) (nat_lit 0)), (.int (6) (nat_lit 0)), (.int (0) (nat_lit 0)), (.int (0) (nat_lit 0)), (.int (3) (nat_lit 0)), (.ref (nat_lit 654)), (.bool true), (.int (181) (nat_lit 0)), (.ref (nat_lit 655)), .none, (.ref (nat_lit 656)), (.ref (nat_lit 657)), (.ref (nat_lit 658)), (.int (1175) (nat_lit 0)), (.int (590) (nat_lit 0)), (.str (Str.ofString "/claim/cut.py") (nat_lit 1176))]), #[]⟩
.nil .nil) .nil)) (.node (gM P (nat_lit 211))
(.node (gM P (nat_lit 339))
(.node ⟨(.type "tuple"), none, (.seq #[(.str (Str.ofString "untyped") (nat_lit 1066)), (.str (Str.ofString "bool") (nat_lit 1067))] (nat_lit 0)), #[]⟩
.nil .nil) .nil) (.node ⟨(.type "tuple"), none, (.seq #[] (nat_lit 0)), #[]⟩
(.node ⟨(.type "tuple"), none, (.seq #[] (nat_lit 0)), #[]⟩
.nil .nil) .nil))) (.node (gM P (nat_lit 115))
(.node (gM P (nat_lit 179))
(.node (gM P (nat_lit 307))
(.node ⟨(.type "function"), none, (.func ⟨(Str.ofString "implements"), (Str.ofString "implements"), (fdTop (nat_lit 84)).params, .stmts (fdTop (nat_lit 84)).body, (fdTop (nat_lit 84)).scope, (nat_lit 3), [], .none, .none, .none, (.str (Str.ofString "chancore.method_sets") (nat_lit 948)), none, (.ref (nat_lit 562)), .none, (nat_lit 0)⟩), #[]⟩
.nil .nil) .nil) (.node ⟨.none, none, (.func ⟨(Str.ofString "int_range"), (Str.ofString "int_range"), (fdTop (nat_lit 65)).params, .stmts (fdTop (nat_lit 65)).body, (fdTop (nat_lit 65)).scope, (nat_lit 0), [], .none, .none, .none, .none, none, .none, .none, (nat_lit 0)⟩), #[]⟩
(.node ⟨.none, none, (.func ⟨(Str.ofString "wanted"), (Str.ofString "ConstReader.wanted"), (fdIn (nat_lit 96) (nat_lit 12)).params, .stmts (fdIn (nat_lit 96) (nat_lit 12)).body, (fdIn (nat_lit 96) (nat_lit 12)).scope, (nat_lit 0), [], .none, .none, .none, .none, none, .none, .none, (nat_lit 0)⟩), #[]⟩
.nil .nil) .nil)) (.node (gM P (nat_lit 243))
(.node (gM P (nat_lit 371))
(.node ⟨.none, none, (.fields #[]), #[]⟩
.nil .nil) .nil) (.node ⟨.none, none, (.func ⟨(Str.ofString "sort_of_const"), (Str.ofString "sort_of_const"), (fdTop (nat_lit 74)).params, .stmts (fdTop (nat_lit 74)).body, (fdTop (nat_lit 74)).scope, (nat_lit 0), [], .none, .none, .none, .none, none, .none, .none, (nat_lit 0)⟩), #[]⟩
(.node ⟨(.type "tuple"), none, (.seq #[] (nat_lit 0)), #[]⟩
.nil .nil) .nil))))) (.node (gM P (nat_lit 27))
(.node (gM P (nat_lit 43))
(.node (gM P (nat_lit 75))
(.node (gM P (nat_lit 139))
(.node (gM P (nat_lit 267))
(.node ⟨(.type "function"), none, (.func ⟨(Str.ofString "const_convert"), (Str.ofString "const_convert"), (fdTop (nat_lit 77)).params, .stmts (fdTop (nat_lit 77)).body, (fdTop (nat_lit 77)).scope, (nat_lit 3), [], .none, .none, .none, (.str (Str.ofString "chancore.consts") (nat_lit 780)), none, (.ref (nat_lit 522)), .none, (nat_lit 0)⟩), #[]⟩
.nil .nil) (.node ⟨(.type "code"), none, (.fields #[(.str (Str.ofString "row") (nat_lit 1359)), (.str (Str.ofString "Scope.row") (nat_lit 1360)), (.str (Str.ofString "/claim/cut.py") (nat_lit 1361)), (.int (707) (nat_lit 0)), (.int (2) (nat_lit 0)), (.int (0) (nat_lit 0)), (.int (0) (nat_lit 0)), (.int (3) (nat_lit 0)), (.ref (nat_lit 774)), (.bool true), (.int (181) (nat_lit 0)), (.ref (nat_lit 775)), .none, (.ref (nat_lit 776)), (.ref (nat_lit 777)), (.ref (nat_lit 778)), (.int (1365) (nat_lit 0)), (.int (707) (nat_lit 0)), (.str (Str.ofString "/claim/cut.py") (nat_lit 1366))]), #[]⟩
.nil .nil)) (.node (gM P (nat_lit 395))
(.node ⟨.none, none, (.func ⟨(Str.ofString "of_two"), (Str.ofString "ConstReader.of_two"), (fdIn (nat_lit 96) (nat_lit 6)).params, .stmts (fdIn (nat_lit 96) (nat_lit 6)).body, (fdIn (nat_lit 96) (nat_lit 6)).scope, (nat_lit 0), [], .none, .none, .none, .none, none, .none, .none, (nat_lit 0)⟩), #[]⟩
.nil .nil) .nil)) (.node (gM P (nat_lit 203))
(.node (gM P (nat_lit 331))
(.node ⟨.none, none, (.fields #[]), #[]⟩
.nil .nil) .nil) (.node ⟨(.type "tuple"), none, (.seq #[.none] (nat_lit 0)), #[]⟩
(.node ⟨(.type "function"), none, (.func ⟨(Str.ofString "const_of"), (Str.ofString "const_of"), (fdTop (nat_lit 97)).params, .stmts (fdTop (nat_lit 97)).body, (fdTop (nat_lit 97)).scope, (nat_lit 3), [], (.ref (nat_lit 708)), .none, .none, (.str (Str.ofString "chancore.const_exprs") (nat_lit 1058)), none, (.ref (nat_lit 714)), .none, (nat_lit 0)⟩), #[]⟩
.nil .nil) .nil))) (.node (gM P (nat_lit 107))
(.node (gM P (nat_lit 171))
(.node (gM P (nat_lit 299))
(.node ⟨(.type "code"), none, (.fields #[(.str (Str.ofString "lack_of") (nat_lit 992)), (.str (Str.ofString "lack_of") (nat_lit 993)), (.str (Str.ofString "/claim/cut.py") (nat_lit 994)), (.int (479) (nat_lit 0)), (.int (4) (nat_lit 0)), (.int (0) (nat_lit 0)), (.int (0) (nat_lit 0)), (.int (3) (nat_lit 0)), (.ref (nat_lit 550)), (.bool true), (.int (181) (nat_lit 0)), (.ref (nat_lit 551)), .none, (.ref (nat_lit 552)), (.ref (nat_lit 553)), (.ref (nat_lit 554)), (.int (1000) (nat_lit 0)), (.int (479) (nat_lit 0)), (.str (Str.ofString "/claim/cut.py") (nat_lit 1001))]), #[]⟩
.nil .nil) (.node ⟨(.type "dict"), none, (.dict #[⟨PyData.keyHash P (Str.ofString "__module__"), (.str (Str.ofString "__module__") (nat_lit 1326)), (.str (Str.ofString "chancore.scopes") (nat_lit 1279))⟩, ⟨PyData.keyHash P (Str.ofString "__firstlineno__"), (.str (Str.ofString "__firstlineno__") (nat_lit 1330)), (.int (690) (nat_lit 1329))⟩, ⟨PyData.keyHash P (Str.ofString "__init__"), (.str (Str.ofString "__init__") (nat_lit 1339)), (.ref (nat_lit 758))⟩, ⟨PyData.keyHash P (Str.ofString "declare"), (.str (Str.ofString "declare") (nat_lit 1350)), (.ref (nat_lit 766))⟩, ⟨PyData.keyHash P (Str.ofString "is_here"), (.str (Str.ofString "is_here") (nat_lit 1358)), (.ref (nat_lit 773))⟩, ⟨PyData.keyHash P (Str.ofString "row"), (.str (Str.ofString "row") (nat_lit 1367)), (.ref (nat_lit 780))⟩, ⟨PyData.keyHash P (Str.ofString "find"), (.str (Str.ofString "find") (nat_lit 1377)), (.ref (nat_lit 788))⟩, ⟨PyData.keyHash P (Str.ofString "use"), (.str (Str.ofString "use") (nat_lit 1385)), (.ref (nat_lit 795))⟩, ⟨PyData.keyHash P (Str.ofString "unused"), (.str (Str.ofString "unused") (nat_lit 1395)), (.ref (nat_lit 802))⟩, ⟨PyData.keyHash P (Str.ofString "depth"), (.str (Str.ofString "depth") (nat_lit 1402)), (.ref (nat_lit 809))⟩, ⟨PyData.keyHash P (Str.ofString "__static_attributes__"), (.str (Str.ofString "__static_attributes__") (nat_lit 1406)), (.ref (nat_lit 810))⟩, ⟨PyData.keyHash P (Str.ofString "__dict__"), (.str (Str.ofString "__dict__") (nat_lit 1408)), (.ref (nat_lit 813))⟩, ⟨PyData.keyHash P (Str.ofString "__weakref__"), (.str (Str.ofString "__weakref__") (nat_lit 1410)), (.ref (nat_lit 814))⟩, ⟨PyData.keyHash P (Str.ofString "__doc__"), (.str (Str.ofString "__doc__") (nat_lit 1411)), .none⟩] (nat_lit 4)), #[]⟩
.nil .nil)) (.node ⟨(.type "tuple"), none, (.seq #[] (nat_lit 0)), #[]⟩
(.node ⟨.none, none, (.fields #[]), #[]⟩
.nil .nil) .nil)) (.node (gM P (nat_lit 235))
(.node (gM P (nat_lit 363))
(.node ⟨(.type "tuple"), none, (.seq #[] (nat_lit 0)), #[]⟩
.nil .nil) .nil) (.node ⟨(.type "tuple"), none, (.seq #[] (nat_lit 0)), #[]⟩
(.node ⟨(.type "tuple"), none, (.seq #[] (nat_lit 0)), #[]⟩
.nil .nil) .nil)))) (.node (gM P (nat_lit 59))
(.node (gM P (nat_lit 91))
(.node (gM P (nat_lit 155))
(.node (gM P (nat_lit 283))
(.node ⟨.none, none, (.fields #[]), #[]⟩
.nil .nil) (.node ⟨(.type "function"), none, (.func ⟨(Str.ofString "use"), (Str.ofString "Scope.use"), (fdIn (nat_lit 101) (nat_lit 5)).params, .stmts (fdIn (nat_lit 101) (nat_lit 5)).body, (fdIn (nat_lit 101) (nat_lit 5)).scope, (nat_lit 3), [], .none, .none, .none, (.str (Str.ofString "chancore.scopes") (nat_lit 1279)), none, (.ref (nat_lit 794)), .none, (nat_lit 0)⟩), #[]⟩
.nil .nil)) (.node (gM P (nat_lit 411))
(.node ⟨(.type "function"), none, (.func ⟨(Str.ofString "called"), (Str.ofString "ConstReader.called"), (fdIn (nat_lit 96) (nat_lit 8)).params, .stmts (fdIn (nat_lit 96) (nat_lit 8)).body, (fdIn (nat_lit 96) (nat_lit 8)).scope, (nat_lit 3), [], .none, .none, .none, (.str (Str.ofString "chancore.const_exprs") (nat_lit 1058)), none, (.ref (nat_lit 666)), .none, (nat_lit 0)⟩), #[]⟩
.nil .nil) .nil)) (.node (gM P (nat_lit 219))
(.node (gM P (nat_lit 347))
(.node ⟨(.type "code"), none, (.fields #[(.str (Str.ofString "ConstReader") (nat_lit 1075)), (.str (Str.ofString "ConstReader") (nat_lit 1076)), (.str (Str.ofString "/claim/cut.py") (nat_lit 1077)), (.int (526) (nat_lit 0)), (.int (0) (nat_lit 0)), (.int (0) (nat_lit 0)), (.int (0) (nat_lit 0)), (.int (0) (nat_lit 0)), (.ref (nat_lit 601)), (.bool false), (.int (181) (nat_lit 0)), (.ref (nat_lit 602)), .none, .none, .none, .none, (.int (1078) (nat_lit 0)), (.int (526) (nat_lit 0)), (.str (Str.ofString "/claim/cut.py") (nat_lit 1079))]), #[]⟩
.nil .nil) .nil) (.node ⟨.none, none, (.fields #[]), #[]⟩
(.node ⟨.none, none, (.fields #[]), #[]⟩
.nil .nil) .nil))) (.node (gM P (nat_lit 123))
(.node (gM P (nat_lit 187))
(.node (gM P (nat_lit 315))
(.node ⟨(.type "tuple"), none, (.seq #[] (nat_lit 0)), #[]⟩
.nil .nil) .nil) (.node ⟨(.type "code"), none, (.fields #[(.str (Str.ofString "is_in_range") (nat_lit 842)), (.str (Str.ofString "is_in_range") (nat_lit 843)), (.str (Str.ofString "/claim/cut.py") (nat_lit 844)), (.int (338) (nat_lit 0)), (.int (2) (nat_lit 0)), (.int (0) (nat_lit 0)), (.int (0) (nat_lit 0)), (.int (3) (nat_lit 0)), (.ref (nat_lit 438)), (.bool true), (.int (181) (nat_lit 0)), (.ref (nat_lit 439)), .none, (.ref (nat_lit 440)), (.ref (nat_lit 441)), (.ref (nat_lit 442)), (.int (849) (nat_lit 0)), (.int (338) (nat_lit 0)), (.str (Str.ofString "/claim/cut.py") (nat_lit 850))]), #[]⟩
(.node ⟨(.type "code"), none, (.fields #[(.str (Str.ofString "reckoned") (nat_lit 1232)), (.str (Str.ofString "ConstReader.reckoned") (nat_lit 1233)), (.str (Str.ofString "/claim/cut.py") (nat_lit 1234)), (.int (669) (nat_lit 0)), (.int (3) (nat_lit 0)), (.int (0) (nat_lit 0)), (.int (0) (nat_lit 0)), (.int (3) (nat_lit 0)), (.ref (nat_lit 694)), (.bool true), (.int (181) (nat_lit 0)), (.ref (nat_lit 695)), .none, (.ref (nat_lit 696)), (.ref (nat_lit 697)), (.ref (nat_lit 698)), (.int (1239) (nat_lit 0)), (.int (669) (nat_lit 0)), (.str (Str.ofString "/claim/cut.py") (nat_lit 1240))]), #[]⟩
.nil .nil) .nil)) (.node (gM P (nat_lit 251))
(.node (gM P (nat_lit 379))
(.node ⟨(.type "tuple"), none, (.seq #[(.str (Str.ofString "self") (nat_lit 1131)), (.str (Str.ofString "told") (nat_lit 1132)), (.str (Str.ofString "base") (nat_lit 1133))] (nat_lit 0)), #[]⟩
.nil .nil) .nil) (.node ⟨.none, none, (.func ⟨(Str.ofString "const_binary"), (Str.ofString "const_binary"), (fdTop (nat_lit 75)).params, .stmts (fdTop (nat_lit 75)).body, (fdTop (nat_lit 75)).scope, (nat_lit 0), [], .none, .none, .none, .none, none, .none, .none, (nat_lit 0)⟩), #[]⟩
(.node ⟨(.type "tuple"), none, (.seq #[] (nat_lit 0)), #[]⟩
.nil .nil) .nil))))))) (.node (gM P (nat_lit 5))
(.node (gM P (nat_lit 9))
(.node (gM P (nat_lit 17))
(.node (gM P (nat_lit 33))
(.node (gM P (nat_lit 65))
(.node (gM P (nat_lit 129))
(.node (gM P (nat_lit 257))
(.node ⟨(.type "tuple"), none, (.seq #[] (nat_lit 0)), #[]⟩
.nil .nil) (.node ⟨(.type "tuple"), none, (.seq #[(.str (Str.ofString "self") (nat_lit 1354)), (.str (Str.ofString "name") (nat_lit 1355))] (nat_lit 0)), #[]⟩
.nil .nil)) (.node (gM P (nat_lit 385))
(.node ⟨.none, none, (.fields #[]), #[]⟩
.nil .nil) .nil)) (.node (gM P (nat_lit 193))
(.node (gM P (nat_lit 321))
(.node ⟨(.type "function"), none, (.func ⟨(Str.ofString "meets_face"), (Str.ofString "meets_face"), (fdTop (nat_lit 87)).params, .stmts (fdTop (nat_lit 87)).body, (fdTop (nat_lit 87)).scope, (nat_lit 3), [], .none, .none, .none, (.str (Str.ofString "chancore.assign") (nat_lit 1015)), none, (.ref (nat_lit 576)), .none, (nat_lit 0)⟩), #[]⟩
.nil .nil) .nil) (.node ⟨.none, none, (.func ⟨(Str.ofString "within_range"), (Str.ofString "within_range"), (fdTop (nat_lit 67)).params, .stmts (fdTop (nat_lit 67)).body, (fdTop (nat_lit 67)).scope, (nat_lit 0), [], .none, .none, .none, .none, none, .none, .none, (nat_lit 0)⟩), #[]⟩
(.node ⟨(.type "getset_descriptor"), none, (.fields #[(.str (Str.ofString "__weakref__") (nat_lit 1249)), (.ref (nat_lit 703)), (.builtin "ExceptionGroup.__weakref__"), .none]), #[]⟩
.nil .nil) .nil))) (.node (gM P (nat_lit 97))
(.node (gM P (nat_lit 161))
(.node (gM P (nat_lit 289))
(.node ⟨(.type "tuple"), none, (.seq #[(.str (Str.ofString "world") (nat_lit 982)), (.str (Str.ofString "told") (nat_lit 983)), (.str (Str.ofString "begun") (nat_lit 984)), (.str (Str.ofString "found") (nat_lit 985)), (.str (Str.ofString "name") (nat_lit 986)), (.str (Str.ofString "member") (nat_lit 987)), (.str (Str.ofString "key") (nat_lit 988))] (nat_lit 0)), #[]⟩
.nil .nil) (.node ⟨(.type "code"), none, (.fields #[(.str (Str.ofString "unused") (nat_lit 1386)), (.str (Str.ofString "Scope.unused") (nat_lit 1387)), (.str (Str.ofString "/claim/cut.py") (nat_lit 1388)), (.int (724) (nat_lit 0)), (.int (1) (nat_lit 0)), (.int (0) (nat_lit 0)), (.int (0) (nat_lit 0)), (.int (3) (nat_lit 0)), (.ref (nat_lit 796)), (.bool true), (.int (181) (nat_lit 0)), (.ref (nat_lit 797)), .none, (.ref (nat_lit 798)), (.ref (nat_lit 799)), (.ref (nat_lit 800)), (.int (1393) (nat_lit 0)), (.int (724) (nat_lit 0)), (.str (Str.ofString "/claim/cut.py") (nat_lit 1394))]), #[]⟩
.nil .nil)) (.node (gM P (nat_lit 417))
(.node ⟨(.type "code"), none, (.fields #[(.str (Str.ofString "size") (nat_lit 1194)), (.str (Str.ofString "ConstReader.size") (nat_lit 1195)), (.str (Str.ofString "/claim/cut.py") (nat_lit 1196)), (.int (619) (nat_lit 0)), (.int (4) (nat_lit 0)), (.int (0) (nat_lit 0)), (.int (0) (nat_lit 0)), (.int (3) (nat_lit 0)), (.ref (nat_lit 668)), (.bool true), (.int (181) (nat_lit 0)), (.ref (nat_lit 669)), .none, (.ref (nat_lit 670)), (.ref (nat_lit 671)), (.ref (nat_lit 672)), (.int (1204) (nat_lit 0)), (.int (619) (nat_lit 0)), (.str (Str.ofString "/claim/cut.py") (nat_lit 1205))]), #[]⟩
.nil .nil) .nil)) (.node (gM P (nat_lit 225))
(.node (gM P (nat_lit 353))
(.node ⟨.none, none, (.func ⟨(Str.ofString "__init__"), (Str.ofString "ConstReader.__init__"), (fdIn (nat_lit 96) (nat_lit 0)).params, .stmts (fdIn (nat_lit 96) (nat_lit 0)).body, (fdIn (nat_lit 96) (nat_lit 0)).scope, (nat_lit 0), [], .none, .none, .none, .none, none, .none, .none, (nat_lit 0)⟩), #[]⟩
.nil .nil) .nil) (.node ⟨(.type "tuple"), none, (.seq #[] (nat_lit 0)), #[]⟩
(.node ⟨(.type "tuple"), none, (.seq #[(.str (Str.ofString "entry") (nat_lit 1305)), (.str (Str.ofString "is_checked") (nat_lit 1306)), (.str (Str.ofString "is_used") (nat_lit 1307)), (.str (Str.ofString "name") (nat_lit 1308)), (.str (Str.ofString "owner") (nat_lit 1309)), (.str (Str.ofString "spot") (nat_lit 1310))] (nat_lit 0)), #[]⟩
.nil .nil) .nil)))) (.node (gM P (nat_lit 49))
(.node (gM P (nat_lit 81))
(.node (gM P (nat_lit 145))
(.node (gM P (nat_lit 273))
(.node ⟨(.type "code"), none, (.fields #[(.str (Str.ofString "names_of_methods") (nat_lit 950)), (.str (Str.ofString "names_of_methods") (nat_lit 951)), (.str (Str.ofString "/claim/cut.py") (nat_lit 952)), (.int (449) (nat_lit 0)), (.int (2) (nat_lit 0)), (.int (0) (nat_lit 0)), (.int (0) (nat_lit 0)), (.int (3) (nat_lit 0)), (.ref (nat_lit 524)), (.bool true), (.int (181) (nat_lit 0)), (.ref (nat_lit 525)), .none, (.ref (nat_lit 526)), (.ref (nat_lit 527)), (.ref (nat_lit 528)), (.int (961) (nat_lit 0)), (.int (449) (nat_lit 0)), (.str (Str.ofString "/claim/cut.py") (nat_lit 962))]), #[]⟩
.nil .nil) (.node ⟨(.type "tuple"), none, (.seq #[] (nat_lit 0)), #[]⟩
.nil .nil)) (.node (gM P (nat_lit 401))
(.node ⟨(.type "tuple"), none, (.seq #[] (nat_lit 0)), #[]⟩
.nil .nil) .nil)) (.node (gM P (nat_lit 209))
(.node (gM P (nat_lit 337))
(.node ⟨(.type "tuple"), none, (.seq #[(.str (Str.ofString "untyped") (nat_lit 1060)), (.str (Str.ofString "int") (nat_lit 1061))] (nat_lit 0)), #[]⟩
.nil .nil) .nil) (.node ⟨(.type "code"), none, (.fields #[(.str (Str.ofString "const_unary") (nat_lit 869)), (.str (Str.ofString "const_unary") (nat_lit 870)), (.str (Str.ofString "/claim/cut.py") (nat_lit 871)), (.int (360) (nat_lit 0)), (.int (3) (nat_lit 0)), (.int (0) (nat_lit 0)), (.int (0) (nat_lit 0)), (.int (3) (nat_lit 0)), (.ref (nat_lit 460)), (.bool true), (.int (181) (nat_lit 0)), (.ref (nat_lit 461)), .none, (.ref (nat_lit 462)), (.ref (nat_lit 463)), (.ref (nat_lit 464)), (.int (875) (nat_lit 0)), (.int (360) (nat_lit 0)), (.str (Str.ofString "/claim/cut.py") (nat_lit 876))]), #[]⟩
(.node ⟨(.type "code"), none, (.fields #[(.str (Str.ofString "type_of") (nat_lit 1265)), (.str (Str.ofString "type_of") (nat_lit 1266)), (.str (Str.ofString "/claim/cut.py") (nat_lit 1267)), (.int (676) (nat_lit 0)), (.int (4) (nat_lit 0)), (.int (0) (nat_lit 0)), (.int (0) (nat_lit 0)), (.int (3) (nat_lit 0)), (.ref (nat_lit 716)), (.bool true), (.int (181) (nat_lit 0)), (.ref (nat_lit 717)), .none, (.ref (nat_lit 718)), (.ref (nat_lit 719)), (.ref (nat_lit 720)), (.int (1276) (nat_lit 0)), (.int (676) (nat_lit 0)), (.str (Str.ofString "/claim/cut.py") (nat_lit 1277))]), #[]⟩
.nil .nil) .nil))) (.node (gM P (nat_lit 113))
(.node (gM P (nat_lit 177))
(.node (gM P (nat_lit 305))
(.node ⟨.none, none, (.func ⟨(Str.ofString "implements"), (Str.ofString "implements"), (fdTop (nat_lit 84)).params, .stmts (fdTop (nat_lit 84)).body, (fdTop (nat_lit 84)).scope, (nat_lit 0), [], .none, .none, .none, .none, none, .none, .none, (nat_lit 0)⟩), #[]⟩
.nil .nil) .nil) (.node ⟨(.type "tuple"), none, (.seq #[(.str (Str.ofString "kind") (nat_lit 838))] (nat_lit 0)), #[]⟩
(.node ⟨(.type "tuple"), none, (.seq #[(.str (Str.ofString "self") (nat_lit 1227)), (.str (Str.ofString "func") (nat_lit 1228))] (nat_lit 0)), #[]⟩
.nil .nil) .nil)) (.node (gM P (nat_lit 241))
(.node (gM P (nat_lit 369))
(.node ⟨(.type "function"), none, (.func ⟨(Str.ofString "named"), (Str.ofString "ConstReader.named"), (fdIn (nat_lit 96) (nat_lit 2)).params, .stmts (fdIn (nat_lit 96) (nat_lit 2)).body, (fdIn (nat_lit 96) (nat_lit 2)).scope, (nat_lit 3), [], .none, .none, .none, (.str (Str.ofString "chancore.const_exprs") (nat_lit 1058)), none, (.ref (nat_lit 624)), .none, (nat_lit 0)⟩), #[]⟩
.nil .nil) .nil) (.node ⟨(.type "tuple"), none, (.seq #[(.str (Str.ofString "value") (nat_lit 918))] (nat_lit 0)), #[]⟩
(.node ⟨.none, none, (.fields #[]), #[]⟩
.nil .nil) .nil))))) (.node (gM P (nat_lit 25))
(.node (gM P (nat_lit 41))
(.node (gM P (nat_lit 73))
(.node (gM P (nat_lit 137))
(.node (gM P (nat_lit 265))
(.node ⟨.none, none, (.func ⟨(Str.ofString "const_convert"), (Str.ofString "const_convert"), (fdTop (nat_lit 77)).params, .stmts (fdTop (nat_lit 77)).body, (fdTop (nat_lit 77)).scope, (nat_lit 0), [], .none, .none, .none, .none, none, .none, .none, (nat_lit 0)⟩), #[]⟩
.nil .nil) (.node ⟨(.type "tuple"), none, (.seq #[] (nat_lit 0)), #[]⟩
.nil .nil)) (.node (gM P (nat_lit 393))
(.node ⟨(.type "tuple"), none, (.seq #[(.str (Str.ofString "self") (nat_lit 1152)), (.str (Str.ofString "expr") (nat_lit 1153)), (.str (Str.ofString "spot") (nat_lit 1154)), (.str (Str.ofString "right") (nat_lit 1155)), (.str (Str.ofString "found") (nat_lit 1156))] (nat_lit 0)), #[]⟩
.nil .nil) .nil)) (.node (gM P (nat_lit 201))
(.node (gM P (nat_lit 329))
(.node ⟨(.type "function"), none, (.func ⟨(Str.ofString "is_assignable"), (Str.ofString "is_assignable"), (fdTop (nat_lit 88)).params, .stmts (fdTop (nat_lit 88)).body, (fdTop (nat_lit 88)).scope, (nat_lit 3), [], (.ref (nat_lit 578)), .none, .none, (.str (Str.ofString "chancore.assign") (nat_lit 1015)), none, (.ref (nat_lit 584)), .none, (nat_lit 0)⟩), #[]⟩
.nil .nil) .nil) (.node ⟨(.type "code"), none, (.fields #[(.str (Str.ofString "representable") (nat_lit 860)), (.str (Str.ofString "representable") (nat_lit 861)), (.str (Str.ofString "/claim/cut.py") (nat_lit 862)), (.int (347) (nat_lit 0)), (.int (2) (nat_lit 0)), (.int (0) (nat_lit 0)), (.int (0) (nat_lit 0)), (.int (3) (nat_lit 0)), (.ref (nat_lit 452)), (.bool true), (.int (181) (nat_lit 0)), (.ref (nat_lit 453)), .none, (.ref (nat_lit 454)), (.ref (nat_lit 455)), (.ref (nat_lit 456)), (.int (866) (nat_lit 0)), (.int (347) (nat_lit 0)), (.str (Str.ofString "/claim/cut.py") (nat_lit 867))]), #[]⟩
(.node ⟨.none, none, (.func ⟨(Str.ofString "const_of"), (Str.ofString "const_of"), (fdTop (nat_lit 97)).params, .stmts (fdTop (nat_lit 97)).body, (fdTop (nat_lit 97)).scope, (nat_lit 0), [], .none, .none, .none, .none, none, .none, .none, (nat_lit 0)⟩), #[]⟩
.nil .nil) .nil))) (.node (gM P (nat_lit 105))
(.node (gM P (nat_lit 169))
(.node (gM P (nat_lit 297))
(.node ⟨(.type "tuple"), none, (.seq #[] (nat_lit 0)), #[]⟩
.nil .nil) (.node ⟨(.type "function"), none, (.func ⟨(Str.ofString "depth"), (Str.ofString "Scope.depth"), (fdIn (nat_lit 101) (nat_lit 7)).params, .stmts (fdIn (nat_lit 101) (nat_lit 7)).body, (fdIn (nat_lit 101) (nat_lit 7)).scope, (nat_lit 3), [], .none, .none, .none, (.str (Str.ofString "chancore.scopes") (nat_lit 1279)), none, (.ref (nat_lit 808)), .none, (nat_lit 0)⟩), #[]⟩
.nil .nil)) (.node ⟨.none, none, (.fields #[]), #[]⟩
(.node ⟨(.type "function"), none, (.func ⟨(Str.ofString "array_size"), (Str.ofString "ConstReader.array_size"), (fdIn (nat_lit 96) (nat_lit 10)).params, .stmts (fdIn (nat_lit 96) (nat_lit 10)).body, (fdIn (nat_lit 96) (nat_lit 10)).scope, (nat_lit 3), [], .none, .none, .none, (.str (Str.ofString "chancore.const_exprs") (nat_lit 1058)), none, (.ref (nat_lit 680)), .none, (nat_lit 0)⟩), #[]⟩
.nil .nil) .nil)) (.node (gM P (nat_lit 233))
(.node (gM P (nat_lit 361))
(.node ⟨(.type "code"), none, (.fields #[(.str (Str.ofString "read") (nat_lit 1096)), (.str (Str.ofString "ConstReader.read") (nat_lit 1097)), (.str (Str.ofString "/claim/cut.py") (nat_lit 1098)), (.int (534) (nat_lit 0)), (.int (2) (nat_lit 0)), (.int (0) (nat_lit 0)), (.int (0) (nat_lit 0)), (.int (3) (nat_lit 0)), (.ref (nat_lit 612)), (.bool true), (.int (181) (nat_lit 0)), (.ref (nat_lit 613)), .none, (.ref (nat_lit 614)), (.ref (nat_lit 615)), (.ref (nat_lit 616)), (.int (1103) (nat_lit 0)), (.int (534) (nat_lit 0)), (.str (Str.ofString "/claim/cut.py") (nat_lit 1104))]), #[]⟩
.nil .nil) .nil) (.node ⟨.none, none, (.fields #[]), #[]⟩
(.node ⟨(.type "builtin_function_or_method"), none, (.fields #[(.builtin "type.__prepare__"), (.type "type")]), #[]⟩
.nil .nil) .nil)))) (.node (gM P (nat_lit 57))
(.node (gM P (nat_lit 89))
(.node (gM P (nat_lit 153))
(.node (gM P (nat_lit 281))
(.node ⟨(.type "function"), none, (.func ⟨(Str.ofString "member_or_none"), (Str.ofString "member_or_none"), (fdTop (nat_lit 80)).params, .stmts (fdTop (nat_lit 80)).body, (fdTop (nat_lit 80)).scope, (nat_lit 3), [], .none, .none, .none, (.str (Str.ofString "chancore.method_sets") (nat_lit 948)), none, (.ref (nat_lit 536)), .none, (nat_lit 0)⟩), #[]⟩
.nil .nil) (.node ⟨.none, none, (.func ⟨(Str.ofString "use"), (Str.ofString "Scope.use"), (fdIn (nat_lit 101) (nat_lit 5)).params, .stmts (fdIn (nat_lit 101) (nat_lit 5)).body, (fdIn (nat_lit 101) (nat_lit 5)).scope, (nat_lit 0), [], .none, .none, .none, .none, none, .none, .none, (nat_lit 0)⟩), #[]⟩
.nil .nil)) (.node (gM P (nat_lit 409))
(.node ⟨.none, none, (.func ⟨(Str.ofString "called"), (Str.ofString "ConstReader.called"), (fdIn (nat_lit 96) (nat_lit 8)).params, .stmts (fdIn (nat_lit 96) (nat_lit 8)).body, (fdIn (nat_lit 96) (nat_lit 8)).scope, (nat_lit 0), [], .none, .none, .none, .none, none, .none, .none, (nat_lit 0)⟩), #[]⟩
.nil .nil) .nil)) (.node (gM P (nat_lit 217))
(.node (gM P (nat_lit 345))
(.node ⟨(.type "tuple"), none, (.seq #[] (nat_lit 0)), #[]⟩
.nil .nil) .nil) (.node ⟨(.type "function"), none, (.func ⟨(Str.ofString "const_quotient"), (Str.ofString "const_quotient"), (fdTop (nat_lit 70)).params, .stmts (fdTop (nat_lit 70)).body, (fdTop (nat_lit 70)).scope, (nat_lit 3), [], .none, .none, .none, (.str (Str.ofString "chancore.consts") (nat_lit 780)), none, (.ref (nat_lit 472)), .none, (nat_lit 0)⟩), #[]⟩
(.node ⟨(.type "frame"), none, .plain, #[some (.ref (nat_lit 728)), some (.ref (nat_lit 3)), some (.ref (nat_lit 725)), none, some (.str (Str.ofString "chancore.scopes") (nat_lit 1279)), none, some (.ref (nat_lit 0))]⟩
.nil .nil) .nil))) (.node (gM P (nat_lit 121))
(.node (gM P (nat_lit 185))
(.node (gM P (nat_lit 313))
(.node ⟨(.type "code"), none, (.fields #[(.str (Str.ofString "is_like_chan") (nat_lit 1017)), (.str (Str.ofString "is_like_chan") (nat_lit 1018)), (.str (Str.ofString "/claim/cut.py") (nat_lit 1019)), (.int (494) (nat_lit 0)), (.int (3) (nat_lit 0)), (.int (0) (nat_lit 0)), (.int (0) (nat_lit 0)), (.int (3) (nat_lit 0)), (.ref (nat_lit 564)), (.bool true), (.int (181) (nat_lit 0)), (.ref (nat_lit 565)), .none, (.ref (nat_lit 566)), (.ref (nat_lit 567)), (.ref (nat_lit 568)), (.int (1025) (nat_lit 0)), (.int (494) (nat_lit 0)), (.str (Str.ofString "/claim/cut.py") (nat_lit 1026))]), #[]⟩
.nil .nil) .nil) (.node ⟨(.type "tuple"), none, (.seq #[] (nat_lit 0)), #[]⟩
(.node ⟨(.type "tuple"), none, (.seq #[] (nat_lit 0)), #[]⟩
.nil .nil) .nil)) (.node (gM P (nat_lit 249))
(.node (gM P (nat_lit 377))
(.node ⟨(.type "tuple"), none, (.seq #[] (nat_lit 0)), #[]⟩
.nil .nil) .nil) (.node ⟨(.type "tuple"), none, (.seq #[(.str (Str.ofString "op") (nat_lit 925)), (.str (Str.ofString "a") (nat_lit 926)), (.str (Str.ofString "b") (nat_lit 927)), (.str (Str.ofString "kind") (nat_lit 928)), (.str (Str.ofString "sort") (nat_lit 929))] (nat_lit 0)), #[]⟩
(.node ⟨.none, none, (.fields #[]), #[]⟩
.nil .nil) .nil)))))) (.node (gM P (nat_lit 13))
(.node (gM P (nat_lit 21))
(.node (gM P (nat_lit 37))
(.node (gM P (nat_lit 69))
(.node (gM P (nat_lit 133))
(.node (gM P (nat_lit 261))
(.node ⟨(.type "tuple"), none, (.seq #[] (nat_lit 0)), #[]⟩
.nil .nil) (.node ⟨(.type "function"), none, (.func ⟨(Str.ofString "is_here"), (Str.ofString "Scope.is_here"), (fdIn (nat_lit 101) (nat_lit 2)).params, .stmts (fdIn (nat_lit 101) (nat_lit 2)).body, (fdIn (nat_lit 101) (nat_lit 2)).scope, (nat_lit 3), [], .none, .none, .none, (.str (Str.ofString "chancore.scopes") (nat_lit 1279)), none, (.ref (nat_lit 772)), .none, (nat_lit 0)⟩), #[]⟩
.nil .nil)) (.node (gM P (nat_lit 389))
(.node ⟨(.type "code"), none, (.fields #[(.str (Str.ofString "of_one") (nat_lit 1137)), (.str (Str.ofString "ConstReader.of_one") (nat_lit 1138)), (.str (Str.ofString "/claim/cut.py") (nat_lit 1139)), (.int (574) (nat_lit 0)), (.int (2) (nat_lit 0)), (.int (0) (nat_lit 0)), (.int (0) (nat_lit 0)), (.int (3) (nat_lit 0)), (.ref (nat_lit 640)), (.bool true), (.int (181) (nat_lit 0)), (.ref (nat_lit 641)), .none, (.ref (nat_lit 642)), (.ref (nat_lit 643)), (.ref (nat_lit 644)), (.int (1146) (nat_lit 0)), (.int (574) (nat_lit 0)), (.str (Str.ofString "/claim/cut.py") (nat_lit 1147))]), #[]⟩
.nil .nil) .nil)) (.node (gM P (nat_lit 197))
(.node (gM P (nat_lit 325))
(.node ⟨(.type "tuple"), none, (.seq #[(.str (Str.ofString "world") (nat_lit 1040)), (.str (Str.ofString "one") (nat_lit 1041)), (.str (Str.ofString "other") (nat_lit 1042)), (.str (Str.ofString "is_nil") (nat_lit 1043))] (nat_lit 0)), #[]⟩
.nil .nil) .nil) (.node ⟨.none, none, (.fields #[]), #[]⟩
(.node ⟨(.type "tuple"), none, (.seq #[] (nat_lit 0)), #[]⟩
.nil .nil) .nil))) (.node (gM P (nat_lit 101))
(.node (gM P (nat_lit 165))
(.node (gM P (nat_lit 293))
(.node ⟨(.type "function"), none, (.func ⟨(Str.ofString "method_set"), (Str.ofString "method_set"), (fdTop (nat_lit 82)).params, .stmts (fdTop (nat_lit 82)).body, (fdTop (nat_lit 82)).scope, (nat_lit 3), [], .none, .none, .none, (.str (Str.ofString "chancore.method_sets") (nat_lit 948)), none, (.ref (nat_lit 548)), .none, (nat_lit 0)⟩), #[]⟩
.nil .nil) (.node ⟨(.type "tuple"), none, (.seq #[(.str (Str.ofString "self") (nat_lit 1399))] (nat_lit 0)), #[]⟩
.nil .nil)) (.node (gM P (nat_lit 421))
(.node ⟨(.type "tuple"), none, (.seq #[(.str (Str.ofString "self") (nat_lit 1210)), (.str (Str.ofString "e") (nat_lit 1211)), (.str (Str.ofString "entry") (nat_lit 1212)), (.str (Str.ofString "told") (nat_lit 1213)), (.str (Str.ofString "base") (nat_lit 1214))] (nat_lit 0)), #[]⟩
.nil .nil) .nil)) (.node (gM P (nat_lit 229))
(.node (gM P (nat_lit 357))
(.node ⟨.none, none, (.fields #[]), #[]⟩
.nil .nil) .nil) (.node ⟨.none, none, (.func ⟨(Str.ofString "int_binary"), (Str.ofString "int_binary"), (fdTop (nat_lit 72)).params, .stmts (fdTop (nat_lit 72)).body, (fdTop (nat_lit 72)).scope, (nat_lit 0), [], .none, .none, .none, .none, none, .none, .none, (nat_lit 0)⟩), #[]⟩
(.node ⟨(.type "getset_descriptor"), none, (.fields #[(.str (Str.ofString "__weakref__") (nat_lit 1314)), (.ref (nat_lit 739)), (.builtin "ExceptionGroup.__weakref__"), .none]), #[]⟩
.nil .nil) .nil)))) (.node (gM P (nat_lit 53))
(.node (gM P (nat_lit 85))
(.node (gM P (nat_lit 149))
(.node (gM P (nat_lit 277))
(.node ⟨(.type "tuple"), none, (.seq #[(.str (Str.ofString "world") (nat_lit 967)), (.str (Str.ofString "told") (nat_lit 968)), (.str (Str.ofString "name") (nat_lit 969))] (nat_lit 0)), #[]⟩
.nil .nil) (.node ⟨(.type "tuple"), none, (.seq #[] (nat_lit 0)), #[]⟩
.nil .nil)) (.node (gM P (nat_lit 405))
(.node ⟨(.type "tuple"), none, (.seq #[] (nat_lit 0)), #[]⟩
.nil .nil) .nil)) (.node (gM P (nat_lit 213))
(.node (gM P (nat_lit 341))
(.node ⟨(.type "tuple"), none, (.seq #[(.ref (nat_lit 593)), (.ref (nat_lit 594))] (nat_lit 0)), #[]⟩
.nil .nil) .nil) (.node ⟨(.type "tuple"), none, (.seq #[(.str (Str.ofString "a") (nat_lit 881)), (.str (Str.ofString "b") (nat_lit 882)), (.str (Str.ofString "found") (nat_lit 883))] (nat_lit 0)), #[]⟩
(.node ⟨(.type "dict"), none, (.dict #[⟨PyData.keyHash P (Str.ofString "__module__"), (.str (Str.ofString "__module__") (nat_lit 1288)), (.str (Str.ofString "chancore.scopes") (nat_lit 1279))⟩, ⟨PyData.keyHash P (Str.ofString "__qualname__"), (.str (Str.ofString "__qualname__") (nat_lit 1290)), (.str (Str.ofString "ScopeRow") (nat_lit 1289))⟩, ⟨PyData.keyHash P (Str.ofString "__firstlineno__"), (.str (Str.ofString "__firstlineno__") (nat_lit 1292)), (.int (681) (nat_lit 1291))⟩, ⟨PyData.keyHash P (Str.ofString "__init__"), (.str (Str.ofString "__init__") (nat_lit 1304)), (.ref (nat_lit 736))⟩, ⟨PyData.keyHash P (Str.ofString "__static_attributes__"), (.str (Str.ofString "__static_attributes__") (nat_lit 1311)), (.ref (nat_lit 737))⟩] (nat_lit 5)), #[]⟩
.nil .nil) .nil))) (.node (gM P (nat_lit 117))
(.node (gM P (nat_lit 181))
(.node (gM P (nat_lit 309))
(.node ⟨.none, none, (.fields #[]), #[]⟩
.nil .nil) .nil) (.node ⟨(.type "function"), none, (.func ⟨(Str.ofString "int_range"), (Str.ofString "int_range"), (fdTop (nat_lit 65)).params, .stmts (fdTop (nat_lit 65)).body, (fdTop (nat_lit 65)).scope, (nat_lit 3), [], .none, .none, .none, (.str (Str.ofString "chancore.consts") (nat_lit 780)), none, (.ref (nat_lit 436)), .none, (nat_lit 0)⟩), #[]⟩
(.node ⟨(.type "function"), none, (.func ⟨(Str.ofString "wanted"), (Str.ofString "ConstReader.wanted"), (fdIn (nat_lit 96) (nat_lit 12)).params, .stmts (fdIn (nat_lit 96) (nat_lit 12)).body, (fdIn (nat_lit 96) (nat_lit 12)).scope, (nat_lit 3), [], .none, .none, .none, (.str (Str.ofString "chancore.const_exprs") (nat_lit 1058)), none, (.ref (nat_lit 692)), .none, (nat_lit 0)⟩), #[]⟩
.nil .nil) .nil)) (.node (gM P (nat_lit 245))
(.node (gM P (nat_lit 373))
(.node ⟨(.type "tuple"), none, (.seq #[] (nat_lit 0)), #[]⟩
.nil .nil) .nil) (.node ⟨(.type "function"), none, (.func ⟨(Str.ofString "sort_of_const"), (Str.ofString "sort_of_const"), (fdTop (nat_lit 74)).params, .stmts (fdTop (nat_lit 74)).body, (fdTop (nat_lit 74)).scope, (nat_lit 3), [], .none, .none, .none, (.str (Str.ofString "chancore.consts") (nat_lit 780)), none, (.ref (nat_lit 500)), .none, (nat_lit 0)⟩), #[]⟩
(.node ⟨(.type "code"), none, (.fields #[(.str (Str.ofString "__init__") (nat_lit 1331)), (.str (Str.ofString "Scope.__init__") (nat_lit 1332)), (.str (Str.ofString "/claim/cut.py") (nat_lit 1333)), (.int (692) (nat_lit 0)), (.int (3) (nat_lit 0)), (.int (0) (nat_lit 0)), (.int (0) (nat_lit 0)), (.int (3) (nat_lit 0)), (.ref (nat_lit 752)), (.bool true), (.int (181) (nat_lit 0)), (.ref (nat_lit 753)), .none, (.ref (nat_lit 754)), (.ref (nat_lit 755)), (.ref (nat_lit 756)), (.int (1337) (nat_lit 0)), (.int (692) (nat_lit 0)), (.str (Str.ofString "/claim/cut.py") (nat_lit 1338))]), #[]⟩
.nil .nil) .nil))))) (.node (gM P (nat_lit 29))
(.node (gM P (nat_lit 45))
(.node (gM P (nat_lit 77))
(.node (gM P (nat_lit 141))
(.node (gM P (nat_lit 269))
(.node ⟨.none, none, (.fields #[]), #[]⟩
.nil .nil) (.node ⟨(.type "tuple"), none, (.seq #[.none] (nat_lit 0)), #[]⟩
.nil .nil)) (.node (gM P (nat_lit 397))
(.node ⟨(.type "function"), none, (.func ⟨(Str.ofString "of_two"), (Str.ofString "ConstReader.of_two"), (fdIn (nat_lit 96) (nat_lit 6)).params, .stmts (fdIn (nat_lit 96) (nat_lit 6)).body, (fdIn (nat_lit 96) (nat_lit 6)).scope, (nat_lit 3), [], .none, .none, .none, (.str (Str.ofString "chancore.const_exprs") (nat_lit 1058)), none, (.ref (nat_lit 652)), .none, (nat_lit 0)⟩), #[]⟩
.nil .nil) .nil)) (.node (gM P (nat_lit 205))
(.node (gM P (nat_lit 333))
(.node ⟨(.type "tuple"), none, (.seq #[] (nat_lit 0)), #[]⟩
.nil .nil) .nil) (.node ⟨.none, none, (.fields #[]), #[]⟩
(.node ⟨.none, none, (.fields #[]), #[]⟩
.nil .nil) .nil))) (.node (gM P (nat_lit 109))
(.node (gM P (nat_lit 173))
(.node (gM P (nat_lit 301))
(.node ⟨(.type "tuple"), none, (.seq #[] (nat_lit 0)), #[]⟩
.nil .nil) (.node ⟨(.type "getset_descriptor"), none, (.fields #[(.str (Str.ofString "__dict__") (nat_lit 1407)), (.ref (nat_lit 812)), (.builtin "function.__dict__"), (.builtin "function.__dict__#set")]), #[]⟩
.nil .nil)) (.node ⟨(.type "code"), none, (.fields #[(.str (Str.ofString "is_unsigned") (nat_lit 828)), (.str (Str.ofString "is_unsigned") (nat_lit 829)), (.str (Str.ofString "/claim/cut.py") (nat_lit 830)), (.int (332) (nat_lit 0)), (.int (1) (nat_lit 0)), (.int (0) (nat_lit 0)), (.int (0) (nat_lit 0)), (.int (3) (nat_lit 0)), (.ref (nat_lit 424)), (.bool true), (.int (181) (nat_lit 0)), (.ref (nat_lit 425)), .none, (.ref (nat_lit 426)), (.ref (nat_lit 427)), (.ref (nat_lit 428)), (.int (832) (nat_lit 0)), (.int (332) (nat_lit 0)), (.str (Str.ofString "/claim/cut.py") (nat_lit 833))]), #[]⟩
(.node ⟨(.type "code"), none, (.fields #[(.str (Str.ofString "extreme") (nat_lit 1218)), (.str (Str.ofString "ConstReader.extreme") (nat_lit 1219)), (.str (Str.ofString "/claim/cut.py") (nat_lit 1220)), (.int (645) (nat_lit 0)), (.int (4) (nat_lit 0)), (.int (0) (nat_lit 0)), (.int (0) (nat_lit 0)), (.int (3) (nat_lit 0)), (.ref (nat_lit 682)), (.bool true), (.int (181) (nat_lit 0)), (.ref (nat_lit 683)), .none, .none, .none, (.ref (nat_lit 684)), (.int (1221) (nat_lit 0)), (.int (645) (nat_lit 0)), (.str (Str.ofString "/claim/cut.py") (nat_lit 1222))]), #[]⟩
.nil .nil) .nil)) (.node (gM P (nat_lit 237))
(.node (gM P (nat_lit 365))
(.node ⟨(.type "tuple"), none, (.seq #[(.str (Str.ofString "self") (nat_lit 1109)), (.str (Str.ofString "entry") (nat_lit 1110)), (.str (Str.ofString "name") (nat_lit 1111)), (.str (Str.ofString "spot") (nat_lit 1112))] (nat_lit 0)), #[]⟩
.nil .nil) .nil) (.node ⟨(.type "code"), none, (.fields #[(.str (Str.ofString "const_compared") (nat_lit 906)), (.str (Str.ofString "const_compared") (nat_lit 907)), (.str (Str.ofString "/claim/cut.py") (nat_lit 908)), (.int (405) (nat_lit 0)), (.int (3) (nat_lit 0)), (.int (0) (nat_lit 0)), (.int (0) (nat_lit 0)), (.int (3) (nat_lit 0)), (.ref (nat_lit 488)), (.bool true), (.int (181) (nat_lit 0)), (.ref (nat_lit 489)), .none, (.ref (nat_lit 490)), (.ref (nat_lit 491)), (.ref (nat_lit 492)), (.int (912) (nat_lit 0)), (.int (405) (nat_lit 0)), (.str (Str.ofString "/claim/cut.py") (nat_lit 913))]), #[]⟩
(.node ⟨(.type "code"), none, (.fields #[(.str (Str.ofString "Scope") (nat_lit 1321)), (.str (Str.ofString "Scope") (nat_lit 1322)), (.str (Str.ofString "/claim/cut.py") (nat_lit 1323)), (.int (690) (nat_lit 0)), (.int (0) (nat_lit 0)), (.int (0) (nat_lit 0)), (.int (0) (nat_lit 0)), (.int (0) (nat_lit 0)), (.ref (nat_lit 747)), (.bool false), (.int (181) (nat_lit 0)), (.ref (nat_lit 748)), .none, .none, .none, .none, (.int (1324) (nat_lit 0)), (.int (690) (nat_lit 0)), (.str (Str.ofString "/claim/cut.py") (nat_lit 1325))]), #[]⟩
.nil .nil) .nil)))) (.node (gM P (nat_lit 61))
(.node (gM P (nat_lit 93))
(.node (gM P (nat_lit 157))
(.node (gM P (nat_lit 285))
(.node ⟨(.type "code"), none, (.fields #[(.str (Str.ofString "is_in_set") (nat_lit 973)), (.str (Str.ofString "is_in_set") (nat_lit 974)), (.str (Str.ofString "/claim/cut.py") (nat_lit 975)), (.int (465) (nat_lit 0)), (.int (2) (nat_lit 0)), (.int (0) (nat_lit 0)), (.int (0) (nat_lit 0)), (.int (3) (nat_lit 0)), (.ref (nat_lit 538)), (.bool true), (.int (181) (nat_lit 0)), (.ref (nat_lit 539)), .none, .none, .none, (.ref (nat_lit 540)), (.int (976) (nat_lit 0)), (.int (465) (nat_lit 0)), (.str (Str.ofString "/claim/cut.py") (nat_lit 977))]), #[]⟩
.nil .nil) (.node ⟨.none, none, (.fields #[]), #[]⟩
.nil .nil)) (.node (gM P (nat_lit 413))
(.node ⟨.none, none, (.fields #[]), #[]⟩
.nil .nil) .nil)) (.node (gM P (nat_lit 221))
(.node (gM P (nat_lit 349))
(.node ⟨(.type "tuple"), none, (.seq #[] (nat_lit 0)), #[]⟩
.nil .nil) .nil) (.node ⟨(.type "tuple"), none, (.seq #[] (nat_lit 0)), #[]⟩
(.node ⟨(.type "tuple"), none, (.seq #[] (nat_lit 0)), #[]⟩
.nil .nil) .nil))) (.node (gM P (nat_lit 125))
(.node (gM P (nat_lit 189))
(.node (gM P (nat_lit 317))
(.node ⟨(.type "tuple"), none, (.seq #[(.str (Str.ofString "world") (nat_lit 1031)), (.str (Str.ofString "one") (nat_lit 1032)), (.str (Str.ofString "other") (nat_lit 1033))] (nat_lit 0)), #[]⟩
.nil .nil) .nil) (.node ⟨(.type "tuple"), none, (.seq #[] (nat_lit 0)), #[]⟩
(.node ⟨(.type "tuple"), none, (.seq #[(.str (Str.ofString "iota") (nat_lit 1242)), (.str (Str.ofString "package") (nat_lit 1243)), (.str (Str.ofString "scope") (nat_lit 1244)), (.str (Str.ofString "world") (nat_lit 1245))] (nat_lit 0)), #[]⟩
.nil .nil) .nil)) (.node (gM P (nat_lit 253))
(.node (gM P (nat_lit 381))
(.node ⟨.none, none, (.func ⟨(Str.ofString "kind_of"), (Str.ofString "ConstReader.kind_of"), (fdIn (nat_lit 96) (nat_lit 4)).params, .stmts (fdIn (nat_lit 96) (nat_lit 4)).body, (fdIn (nat_lit 96) (nat_lit 4)).scope, (nat_lit 0), [], .none, .none, .none, .none, none, .none, .none, (nat_lit 0)⟩), #[]⟩
.nil .nil) .nil) (.node ⟨(.type "function"), none, (.func ⟨(Str.ofString "const_binary"), (Str.ofString "const_binary"), (fdTop (nat_lit 75)).params, .stmts (fdTop (nat_lit 75)).body, (fdTop (nat_lit 75)).scope, (nat_lit 3), [], (.ref (nat_lit 502)), .none, .none, (.str (Str.ofString "chancore.consts") (nat_lit 780)), none, (.ref (nat_lit 508)), .none, (nat_lit 0)⟩), #[]⟩
(.node ⟨(.type "code"), none, (.fields #[(.str (Str.ofString "declare") (nat_lit 1340)), (.str (Str.ofString "Scope.declare") (nat_lit 1341)), (.str (Str.ofString "/claim/cut.py") (nat_lit 1342)), (.int (697) (nat_lit 0)), (.int (5) (nat_lit 0)), (.int (0) (nat_lit 0)), (.int (0) (nat_lit 0)), (.int (3) (nat_lit 0)), (.ref (nat_lit 760)), (.bool true), (.int (181) (nat_lit 0)), (.ref (nat_lit 761)), .none, (.ref (nat_lit 762)), (.ref (nat_lit 763)), (.ref (nat_lit 764)), (.int (1348) (nat_lit 0)), (.int (697) (nat_lit 0)), (.str (Str.ofString "/claim/cut.py") (nat_lit 1349))]), #[]⟩
.nil .nil) .nil)))))))) (.node (gM P (nat_lit 2))
(.node (gM P (nat_lit 4))
(.node (gM P (nat_lit 8))
(.node (gM P (nat_lit 16))
(.node (gM P (nat_lit 32))
(.node (gM P (nat_lit 64))
(.node (gM P (nat_lit 128))
(.node (gM P (nat_lit 256))
(.node ⟨(.type "tuple"), none, (.seq #[(.str (Str.ofString "number") (nat_lit 936))] (nat_lit 0)), #[]⟩
.nil .nil) (.node ⟨.none, none, (.fields #[]), #[]⟩
.nil .nil)) (.node (gM P (nat_lit 384))
(.node ⟨(.type "tuple"), none, (.seq #[] (nat_lit 0)), #[]⟩
.nil .nil) .nil)) (.node (gM P (nat_lit 192))
(.node (gM P (nat_lit 320))
(.node ⟨(.type "code"), none, (.fields #[(.str (Str.ofString "meets_face") (nat_lit 1028)), (.str (Str.ofString "meets_face") (nat_lit 1029)), (.str (Str.ofString "/claim/cut.py") (nat_lit 1030)), (.int (499) (nat_lit 0)), (.int (3) (nat_lit 0)), (.int (0) (nat_lit 0)), (.int (0) (nat_lit 0)), (.int (3) (nat_lit 0)), (.ref (nat_lit 571)), (.bool true), (.int (181) (nat_lit 0)), (.ref (nat_lit 572)), .none, (.ref (nat_lit 573)), (.ref (nat_lit 574)), (.ref (nat_lit 575)), (.int (1034) (nat_lit 0)), (.int (499) (nat_lit 0)), (.str (Str.ofString "/claim/cut.py") (nat_lit 1035))]), #[]⟩
.nil .nil) .nil) (.node ⟨(.type "tuple"), none, (.seq #[] (nat_lit 0)), #[]⟩
(.node ⟨(.type "getset_descriptor"), none, (.fields #[(.str (Str.ofString "__dict__") (nat_lit 1247)), (.ref (nat_lit 703)), (.builtin "function.__dict__"), (.builtin "function.__dict__#set")]), #[]⟩
.nil .nil) .nil))) (.node (gM P (nat_lit 96))
(.node (gM P (nat_lit 160))
(.node (gM P (nat_lit 288))
(.node ⟨.none, none, (.fields #[]), #[]⟩
.nil .nil) (.node ⟨.none, none, (.func ⟨(Str.ofString "unused"), (Str.ofString "Scope.unused"), (fdIn (nat_lit 101) (nat_lit 6)).params, .stmts (fdIn (nat_lit 101) (nat_lit 6)).body, (fdIn (nat_lit 101) (nat_lit 6)).scope, (nat_lit 0), [], .none, .none, .none, .none, none, .none, .none, (nat_lit 0)⟩), #[]⟩
.nil .nil)) (.node (gM P (nat_lit 416))
(.node ⟨.none, none, (.func ⟨(Str.ofString "size"), (Str.ofString "ConstReader.size"), (fdIn (nat_lit 96) (nat_lit 9)).params, .stmts (fdIn (nat_lit 96) (nat_lit 9)).body, (fdIn (nat_lit 96) (nat_lit 9)).scope, (nat_lit 0), [], .none, .none, .none, .none, none, .none, .none, (nat_lit 0)⟩), #[]⟩
.nil .nil) .nil)) (.node (gM P (nat_lit 224))
(.node (gM P (nat_lit 352))
(.node ⟨(.type "tuple"), none, (.seq #[] (nat_lit 0)), #[]⟩
.nil .nil) .nil) (.node ⟨(.type "function"), none, (.func ⟨(Str.ofString "const_shift"), (Str.ofString "const_shift"), (fdTop (nat_lit 71)).params, .stmts (fdTop (nat_lit 71)).body, (fdTop (nat_lit 71)).scope, (nat_lit 3), [], .none, .none, .none, (.str (Str.ofString "chancore.consts") (nat_lit 780)), none, (.ref (nat_lit 479)), .none, (nat_lit 0)⟩), #[]⟩
(.node ⟨(.type "function"), none, (.func ⟨(Str.ofString "__init__"), (Str.ofString "ScopeRow.__init__"), (fdIn (nat_lit 100) (nat_lit 0)).params, .stmts (fdIn (nat_lit 100) (nat_lit 0)).body, (fdIn (nat_lit 100) (nat_lit 0)).scope, (nat_lit 3), [], .none, .none, .none, (.str (Str.ofString "chancore.scopes") (nat_lit 1279)), none, (.ref (nat_lit 735)), .none, (nat_lit 0)⟩), #[]⟩
.nil .nil) .nil)))) (.node (gM P (nat_lit 48))
(.node (gM P (nat_lit 80))
(.node (gM P (nat_lit 144))
(.node (gM P (nat_lit 272))
(.node ⟨.none, none, (.func ⟨(Str.ofString "names_of_methods"), (Str.ofString "names_of_methods"), (fdTop (nat_lit 79)).params, .stmts (fdTop (nat_lit 79)).body, (fdTop (nat_lit 79)).scope, (nat_lit 0), [], .none, .none, .none, .none, none, .none, .none, (nat_lit 0)⟩), #[]⟩
.nil .nil) (.node ⟨(.type "tuple"), none, (.seq #[(.str (Str.ofString "self") (nat_lit 1371)), (.str (Str.ofString "name") (nat_lit 1372)), (.str (Str.ofString "spot") (nat_lit 1373)), (.str (Str.ofString "found") (nat_lit 1374))] (nat_lit 0)), #[]⟩
.nil .nil)) (.node (gM P (nat_lit 400))
(.node ⟨(.type "tuple"), none, (.seq #[(.str (Str.ofString "self") (nat_lit 1169)), (.str (Str.ofString "left") (nat_lit 1170)), (.str (Str.ofString "a") (nat_lit 1171)), (.str (Str.ofString "right") (nat_lit 1172)), (.str (Str.ofString "b") (nat_lit 1173)), (.str (Str.ofString "spot") (nat_lit 1174))] (nat_lit 0)), #[]⟩
.nil .nil) .nil)) (.node (gM P (nat_lit 208))
(.node (gM P (nat_lit 336))
(.node ⟨(.type "function"), none, (.func ⟨(Str.ofString "is_const_assignable"), (Str.ofString "is_const_assignable"), (fdTop (nat_lit 89)).params, .stmts (fdTop (nat_lit 89)).body, (fdTop (nat_lit 89)).scope, (nat_lit 3), [], .none, .none, .none, (.str (Str.ofString "chancore.assign") (nat_lit 1015)), none, (.ref (nat_lit 591)), .none, (nat_lit 0)⟩), #[]⟩
.nil .nil) .nil) (.node ⟨.none, none, (.func ⟨(Str.ofString "const_unary"), (Str.ofString "const_unary"), (fdTop (nat_lit 69)).params, .stmts (fdTop (nat_lit 69)).body, (fdTop (nat_lit 69)).scope, (nat_lit 0), [], .none, .none, .none, .none, none, .none, .none, (nat_lit 0)⟩), #[]⟩
(.node ⟨.none, none, (.func ⟨(Str.ofString "type_of"), (Str.ofString "type_of"), (fdTop (nat_lit 98)).params, .stmts (fdTop (nat_lit 98)).body, (fdTop (nat_lit 98)).scope, (nat_lit 0), [], .none, .none, .none, .none, none, .none, .none, (nat_lit 0)⟩), #[]⟩
.nil .nil) .nil))) (.node (gM P (nat_lit 112))
(.node (gM P (nat_lit 176))
(.node (gM P (nat_lit 304))
(.node ⟨(.type "tuple"), none, (.seq #[] (nat_lit 0)), #[]⟩
.nil .nil) (.node ⟨(.type "builtin_function_or_method"), none, (.fields #[(.builtin "object.__init_subclass__"), (.ref (nat_lit 812))]), #[]⟩
.nil .nil)) (.node ⟨.none, none, (.fields #[]), #[]⟩
(.node ⟨.none, none, (.fields #[]), #[]⟩
.nil .nil) .nil)) (.node (gM P (nat_lit 240))
(.node (gM P (nat_lit 368))
(.node ⟨(.type "code"), none, (.fields #[(.str (Str.ofString "named") (nat_lit 1106)), (.str (Str.ofString "ConstReader.named") (nat_lit 1107)), (.str (Str.ofString "/claim/cut.py") (nat_lit 1108)), (.int (554) (nat_lit 0)), (.int (4) (nat_lit 0)), (.int (0) (nat_lit 0)), (.int (0) (nat_lit 0)), (.int (3) (nat_lit 0)), (.ref (nat_lit 619)), (.bool true), (.int (181) (nat_lit 0)), (.ref (nat_lit 620)), .none, (.ref (nat_lit 621)), (.ref (nat_lit 622)), (.ref (nat_lit 623)), (.int (1113) (nat_lit 0)), (.int (554) (nat_lit 0)), (.str (Str.ofString "/claim/cut.py") (nat_lit 1114))]), #[]⟩
.nil .nil) .nil) (.node ⟨.none, none, (.fields #[]), #[]⟩
(.node ⟨(.type "tuple"), none, (.seq #[] (nat_lit 0)), #[]⟩
.nil .nil) .nil))))) (.node (gM P (nat_lit 24))
(.node (gM P (nat_lit 40))
(.node (gM P (nat_lit 72))
(.node (gM P (nat_lit 136))
(.node (gM P (nat_lit 264))
(.node ⟨(.type "tuple"), none, (.seq #[] (nat_lit 0)), #[]⟩
.nil .nil) (.node ⟨(.type "tuple"), none, (.seq #[(.str (Str.ofString "self") (nat_lit 1362)), (.str (Str.ofString "name") (nat_lit 1363)), (.str (Str.ofString "here") (nat_lit 1364))] (nat_lit 0)), #[]⟩
.nil .nil)) (.node (gM P (nat_lit 392))
(.node ⟨.none, none, (.fields #[]), #[]⟩
.nil .nil) .nil)) (.node (gM P (nat_lit 200))
(.node (gM P (nat_lit 328))
(.node ⟨(.type "code"), none, (.fields #[(.str (Str.ofString "is_assignable") (nat_lit 1037)), (.str (Str.ofString "is_assignable") (nat_lit 1038)), (.str (Str.ofString "/claim/cut.py") (nat_lit 1039)), (.int (501) (nat_lit 0)), (.int (4) (nat_lit 0)), (.int (0) (nat_lit 0)), (.int (0) (nat_lit 0)), (.int (3) (nat_lit 0)), (.ref (nat_lit 579)), (.bool true), (.int (181) (nat_lit 0)), (.ref (nat_lit 580)), .none, (.ref (nat_lit 581)), (.ref (nat_lit 582)), (.ref (nat_lit 583)), (.int (1044) (nat_lit 0)), (.int (501) (nat_lit 0)), (.str (Str.ofString "/claim/cut.py") (nat_lit 1045))]), #[]⟩
.nil .nil) .nil) (.node ⟨.none, none, (.func ⟨(Str.ofString "representable"), (Str.ofString "representable"), (fdTop (nat_lit 68)).params, .stmts (fdTop (nat_lit 68)).body, (fdTop (nat_lit 68)).scope, (nat_lit 0), [], .none, .none, .none, .none, none, .none, .none, (nat_lit 0)⟩), #[]⟩
(.node ⟨(.type "tuple"), none, (.seq #[] (nat_lit 0)), #[]⟩
.nil .nil) .nil))) (.node (gM P (nat_lit 104))
(.node (gM P (nat_lit 168))
(.node (gM P (nat_lit 296))
(.node ⟨(.type "tuple"), none, (.seq #[(.str (Str.ofString "world") (nat_lit 995)), (.str (Str.ofString "told") (nat_lit 996)), (.str (Str.ofString "name") (nat_lit 997)), (.str (Str.ofString "func") (nat_lit 998)), (.str (Str.ofString "others") (nat_lit 999))] (nat_lit 0)), #[]⟩
.nil .nil) (.node ⟨(.type "code"), none, (.fields #[(.str (Str.ofString "depth") (nat_lit 1396)), (.str (Str.ofString "Scope.depth") (nat_lit 1397)), (.str (Str.ofString "/claim/cut.py") (nat_lit 1398)), (.int (732) (nat_lit 0)), (.int (1) (nat_lit 0)), (.int (0) (nat_lit 0)), (.int (0) (nat_lit 0)), (.int (3) (nat_lit 0)), (.ref (nat_lit 803)), (.bool true), (.int (181) (nat_lit 0)), (.ref (nat_lit 804)), .none, (.ref (nat_lit 805)), (.ref (nat_lit 806)), (.ref (nat_lit 807)), (.int (1400) (nat_lit 0)), (.int (732) (nat_lit 0)), (.str (Str.ofString "/claim/cut.py") (nat_lit 1401))]), #[]⟩
.nil .nil)) (.node ⟨(.type "tuple"), none, (.seq #[] (nat_lit 0)), #[]⟩
(.node ⟨(.type "code"), none, (.fields #[(.str (Str.ofString "array_size") (nat_lit 1207)), (.str (Str.ofString "ConstReader.array_size") (nat_lit 1208)), (.str (Str.ofString "/claim/cut.py") (nat_lit 1209)), (.int (628) (nat_lit 0)), (.int (2) (nat_lit 0)), (.int (0) (nat_lit 0)), (.int (0) (nat_lit 0)), (.int (3) (nat_lit 0)), (.ref (nat_lit 675)), (.bool true), (.int (181) (nat_lit 0)), (.ref (nat_lit 676)), .none, (.ref (nat_lit 677)), (.ref (nat_lit 678)), (.ref (nat_lit 679)), (.int (1215) (nat_lit 0)), (.int (628) (nat_lit 0)), (.str (Str.ofString "/claim/cut.py") (nat_lit 1216))]), #[]⟩
.nil .nil) .nil)) (.node (gM P (nat_lit 232))
(.node (gM P (nat_lit 360))
(.node ⟨.none, none, (.func ⟨(Str.ofString "read"), (Str.ofString "ConstReader.read"), (fdIn (nat_lit 96) (nat_lit 1)).params, .stmts (fdIn (nat_lit 96) (nat_lit 1)).body, (fdIn (nat_lit 96) (nat_lit 1)).scope, (nat_lit 0), [], .none, .none, .none, .none, none, .none, .none, (nat_lit 0)⟩), #[]⟩
.nil .nil) .nil) (.node ⟨(.type "tuple"), none, (.seq #[] (nat_lit 0)), #[]⟩
(.node ⟨(.type "tuple"), none, (.seq #[] (nat_lit 0)), #[]⟩
.nil .nil) .nil)))) (.node (gM P (nat_lit 56))
(.node (gM P (nat_lit 88))
(.node (gM P (nat_lit 152))
(.node (gM P (nat_lit 280))
(.node ⟨(.type "code"), none, (.fields #[(.str (Str.ofString "member_or_none") (nat_lit 964)), (.str (Str.ofString "member_or_none") (nat_lit 965)), (.str (Str.ofString "/claim/cut.py") (nat_lit 966)), (.int (460) (nat_lit 0)), (.int (3) (nat_lit 0)), (.int (0) (nat_lit 0)), (.int (0) (nat_lit 0)), (.int (3) (nat_lit 0)), (.ref (nat_lit 531)), (.bool true), (.int (181) (nat_lit 0)), (.ref (nat_lit 532)), .none, (.ref (nat_lit 533)), (.ref (nat_lit 534)), (.ref (nat_lit 535)), (.int (970) (nat_lit 0)), (.int (460) (nat_lit 0)), (.str (Str.ofString "/claim/cut.py") (nat_lit 971))]), #[]⟩
.nil .nil) (.node ⟨(.type "tuple"), none, (.seq #[] (nat_lit 0)), #[]⟩
.nil .nil)) (.node (gM P (nat_lit 408))
(.node ⟨(.type "tuple"), none, (.seq #[(.str (Str.ofString "base") (nat_lit 1189)), (.str (Str.ofString "value") (nat_lit 1190))] (nat_lit 0)), #[]⟩
.nil .nil) .nil)) (.node (gM P (nat_lit 216))
(.node (gM P (nat_lit 344))
(.node ⟨(.type "dict"), none, (.dict #[⟨PyData.keyHash P (Str.ofString "__module__"), (.str (Str.ofString "__module__") (nat_lit 1080)), (.str (Str.ofString "chancore.const_exprs") (nat_lit 1058))⟩, ⟨PyData.keyHash P (Str.ofString "__qualname__"), (.str (Str.ofString "__qualname__") (nat_lit 1082)), (.str (Str.ofString "ConstReader") (nat_lit 1081))⟩, ⟨PyData.keyHash P (Str.ofString "__firstlineno__"), (.str (Str.ofString "__firstlineno__") (nat_lit 1084)), (.int (526) (nat_lit 1083))⟩, ⟨PyData.keyHash P (Str.ofString "__init__"), (.str (Str.ofString "__init__") (nat_lit 1095)), (.ref (nat_lit 611))⟩, ⟨PyData.keyHash P (Str.ofString "read"), (.str (Str.ofString "read") (nat_lit 1105)), (.ref (nat_lit 618))⟩, ⟨PyData.keyHash P (Str.ofString "named"), (.str (Str.ofString "named") (nat_lit 1115)), (.ref (nat_lit 625))⟩, ⟨PyData.keyHash P (Str.ofString "selected"), (.str (Str.ofString "selected") (nat_lit 1127)), (.ref (nat_lit 632))⟩, ⟨PyData.keyHash P (Str.ofString "kind_of"), (.str (Str.ofString "kind_of") (nat_lit 1136)), (.ref (nat_lit 639))⟩, ⟨PyData.keyHash P (Str.ofString "of_one"), (.str (Str.ofString "of_one") (nat_lit 1148)), (.ref (nat_lit 646))⟩, ⟨PyData.keyHash P (Str.ofString "of_two"), (.str (Str.ofString "of_two") (nat_lit 1165)), (.ref (nat_lit 653))⟩, ⟨PyData.keyHash P (Str.ofString "common"), (.str (Str.ofString "common") (nat_lit 1177)), (.ref (nat_lit 660))⟩, ⟨PyData.keyHash P (Str.ofString "called"), (.str (Str.ofString "called") (nat_lit 1193)), (.ref (nat_lit 667))⟩, ⟨PyData.keyHash P (Str.ofString "size"), (.str (Str.ofString "size") (nat_lit 1206)), (.ref (nat_lit 674))⟩, ⟨PyData.keyHash P (Str.ofString "array_size"), (.str (Str.ofString "array_size") (nat_lit 1217)), (.ref (nat_lit 681))⟩, ⟨PyData.keyHash P (Str.ofString "extreme"), (.str (Str.ofString "extreme") (nat_lit 1223)), (.ref (nat_lit 686))⟩, ⟨PyData.keyHash P (Str.ofString "wanted"), (.str (Str.ofString "wanted") (nat_lit 1231)), (.ref (nat_lit 693))⟩, ⟨PyData.keyHash P (Str.ofString "reckoned"), (.str (Str.ofString "reckoned") (nat_lit 1241)), (.ref (nat_lit 700))⟩, ⟨PyData.keyHash P (Str.ofString "__static_attributes__"), (.str (Str.ofString "__static_attributes__") (nat_lit 1246)), (.ref (nat_lit 701))⟩] (nat_lit 18)), #[]⟩
.nil .nil) .nil) (.node ⟨(.type "code"), none, (.fields #[(.str (Str.ofString "const_quotient") (nat_lit 878)), (.str (Str.ofString "const_quotient") (nat_lit 879)), (.str (Str.ofString "/claim/cut.py") (nat_lit 880)), (.int (372) (nat_lit 0)), (.int (2) (nat_lit 0)), (.int (0) (nat_lit 0)), (.int (0) (nat_lit 0)), (.int (3) (nat_lit 0)), (.ref (nat_lit 467)), (.bool true), (.int (181) (nat_lit 0)), (.ref (nat_lit 468)), .none, (.ref (nat_lit 469)), (.ref (nat_lit 470)), (.ref (nat_lit 471)), (.int (884) (nat_lit 0)), (.int (372) (nat_lit 0)), (.str (Str.ofString "/claim/cut.py") (nat_lit 885))]), #[]⟩
(.node ⟨(.type "code"), none, (.fields #[(.str (Str.ofString "ScopeRow") (nat_lit 1283)), (.str (Str.ofString "ScopeRow") (nat_lit 1284)), (.str (Str.ofString "/claim/cut.py") (nat_lit 1285)), (.int (681) (nat_lit 0)), (.int (0) (nat_lit 0)), (.int (0) (nat_lit 0)), (.int (0) (nat_lit 0)), (.int (0) (nat_lit 0)), (.ref (nat_lit 726)), (.bool false), (.int (181) (nat_lit 0)), (.ref (nat_lit 727)), .none, .none, .none, .none, (.int (1286) (nat_lit 0)), (.int (681) (nat_lit 0)), (.str (Str.ofString "/claim/cut.py") (nat_lit 1287))]), #[]⟩
.nil .nil) .nil))) (.node (gM P (nat_lit 120))
(.node (gM P (nat_lit 184))
(.node (gM P (nat_lit 312))
(.node ⟨.none, none, (.func ⟨(Str.ofString "is_like_chan"), (Str.ofString "is_like_chan"), (fdTop (nat_lit 86)).params, .stmts (fdTop (nat_lit 86)).body, (fdTop (nat_lit 86)).scope, (nat_lit 0), [], .none, .none, .none, .none, none, .none, .none, (nat_lit 0)⟩), #[]⟩
.nil .nil) .nil) (.node ⟨(.type "tuple"), none, (.seq #[(.str (Str.ofString "number") (nat_lit 845)), (.str (Str.ofString "kind") (nat_lit 846)), (.str (Str.ofString "low") (nat_lit 847)), (.str (Str.ofString "high") (nat_lit 848))] (nat_lit 0)), #[]⟩
(.node ⟨(.type "tuple"), none, (.seq #[(.str (Str.ofString "self") (nat_lit 1235)), (.str (Str.ofString "call") (nat_lit 1236)), (.str (Str.ofString "spot") (nat_lit 1237)), (.str (Str.ofString "fault") (nat_lit 1238))] (nat_lit 0)), #[]⟩
.nil .nil) .nil)) (.node (gM P (nat_lit 248))
(.node (gM P (nat_lit 376))
(.node ⟨(.type "function"), none, (.func ⟨(Str.ofString "selected"), (Str.ofString "ConstReader.selected"), (fdIn (nat_lit 96) (nat_lit 3)).params, .stmts (fdIn (nat_lit 96) (nat_lit 3)).body, (fdIn (nat_lit 96) (nat_lit 3)).scope, (nat_lit 3), [], .none, .none, .none, (.str (Str.ofString "chancore.const_exprs") (nat_lit 1058)), none, (.ref (nat_lit 631)), .none, (nat_lit 0)⟩), #[]⟩
.nil .nil) .nil) (.node ⟨.none, none, (.fields #[]), #[]⟩
(.node ⟨(.type "tuple"), none, (.seq #[] (nat_lit 0)), #[]⟩
.nil .nil) .nil)))))) (.node ⟨.none, none, (.fields #[(.int (1) (nat_lit 0)), (.int (0) (nat_lit 0)), (.ref (nat_lit 20)), (.int (5) (nat_lit 0)), (.int (0) (nat_lit 0)), (.ref (nat_lit 27)), (.int (7) (nat_lit 0)), (.int (0) (nat_lit 0)), (.ref (nat_lit 34)), (.int (15) (nat_lit 0)), (.int (0) (nat_lit 0)), (.ref (nat_lit 41)), (.int (21) (nat_lit 0)), (.int (0) (nat_lit 0)), (.ref (nat_lit 62)), (.int (23) (nat_lit 0)), (.int (0) (nat_lit 0)), (.ref (nat_lit 74)), (.int (25) (nat_lit 0)), (.int (0) (nat_lit 0)), (.ref (nat_lit 86)), (.int (27) (nat_lit 0)), (.int (0) (nat_lit 0)), (.ref (nat_lit 98)), (.int (31) (nat_lit 0)), (.int (0) (nat_lit 0)), (.ref (nat_lit 110)), (.int (37) (nat_lit 0)), (.int (0) (nat_lit 0)), (.ref (nat_lit 132)), (.int (41) (nat_lit 0)), (.int (0) (nat_lit 0)), (.ref (nat_lit 139)), (.int (43) (nat_lit 0)), (.int (0) (nat_lit 0)), (.ref (nat_lit 146)), (.int (45) (nat_lit 0)), (.int (0) (nat_lit 0)), (.ref (nat_lit 151)), (.int (59) (nat_lit 0)), (.int (0) (nat_lit 0)), (.ref (nat_lit 158)), (.int (68) (nat_lit 0)), (.int (0) (nat_lit 0)), (.ref (nat_lit 165)), (.int (87) (nat_lit 0)), (.int (0) (nat_lit 0)), (.ref (nat_lit 193)), (.int (95) (nat_lit 0)), (.int (0) (nat_lit 0)), (.ref (nat_lit 200)), (.int (118) (nat_lit 0)), (.int (0) (nat_lit 0)), (.ref (nat_lit 209)), (.int (133) (nat_lit 0)), (.int (0) (nat_lit 0)), (.ref (nat_lit 217)), (.int (142) (nat_lit 0)), (.int (0) (nat_lit 0)), (.ref (nat_lit 222)), (.int (151) (nat_lit 0)), (.int (0) (nat_lit 0)), (.ref (nat_lit 229)), (.int (231) (nat_lit 0)), (.int (0) (nat_lit 0)), (.ref (nat_lit 300)), (.int (233) (nat_lit 0)), (.int (0) (nat_lit 0)), (.ref (nat_lit 305)), (.int (241) (nat_lit 0)), (.int (0) (nat_lit 0)), (.ref (nat_lit 312)), (.int (244) (nat_lit 0)), (.int (0) (nat_lit 0)), (.ref (nat_lit 319)), (.int (246) (nat_lit 0)), (.int (0) (nat_lit 0)), (.ref (nat_lit 326)), (.int (252) (nat_lit 0)), (.int (0) (nat_lit 0)), (.ref (nat_lit 331)), (.int (275) (nat_lit 0)), (.int (0) (nat_lit 0)), (.ref (nat_lit 338)), (.int (277) (nat_lit 0)), (.int (0) (nat_lit 0)), (.ref (nat_lit 345)), (.int (279) (nat_lit 0)), (.int (0) (nat_lit 0)), (.ref (nat_lit 352)), (.int (281) (nat_lit 0)), (.int (0) (nat_lit 0)), (.ref (nat_lit 359)), (.int (283) (nat_lit 0)), (.int (0) (nat_lit 0)), (.ref (nat_lit 366)), (.int (285) (nat_lit 0)), (.int (0) (nat_lit 0)), (.ref (nat_lit 373)), (.int (289) (nat_lit 0)), (.int (0) (nat_lit 0)), (.ref (nat_lit 380)), (.int (291) (nat_lit 0)), (.int (0) (nat_lit 0)), (.ref (nat_lit 387)), (.int (294) (nat_lit 0)), (.int (0) (nat_lit 0)), (.ref (nat_lit 394)), (.int (300) (nat_lit 0)), (.int (0) (nat_lit 0)), (.ref (nat_lit 399)), (.int (312) (nat_lit 0)), (.int (0) (nat_lit 0)), (.ref (nat_lit 406)), (.int (315) (nat_lit 0)), (.int (0) (nat_lit 0)), (.ref (nat_lit 413)), (.int (322) (nat_lit 0)), (.int (0) (nat_lit 0)), (.ref (nat_lit 420)), (.int (332) (nat_lit 0)), (.int (0) (nat_lit 0)), (.ref (nat_lit 429)), (.int (334) (nat_lit 0)), (.int (0) (nat_lit 0)), (.ref (nat_lit 436)), (.int (338) (nat_lit 0)), (.int (0) (nat_lit 0)), (.ref (nat_lit 443)), (.int (343) (nat_lit 0)), (.int (0) (nat_lit 0)), (.ref (nat_lit 450)), (.int (347) (nat_lit 0)), (.int (0) (nat_lit 0)), (.ref (nat_lit 457)), (.int (360) (nat_lit 0)), (.int (0) (nat_lit 0)), (.ref (nat_lit 465)), (.int (372) (nat_lit 0)), (.int (0) (nat_lit 0)), (.ref (nat_lit 472)), (.int (377) (nat_lit 0)), (.int (0) (nat_lit 0)), (.ref (nat_lit 479)), (.int (385) (nat_lit 0)), (.int (0) (nat_lit 0)), (.ref (nat_lit 486)), (.int (405) (nat_lit 0)), (.int (0) (nat_lit 0)), (.ref (nat_lit 493)), (.int (417) (nat_lit 0)), (.int (0) (nat_lit 0)), (.ref (nat_lit 500)), (.int (421) (nat_lit 0)), (.int (0) (nat_lit 0)), (.ref (nat_lit 508)), (.int (438) (nat_lit 0)), (.int (0) (nat_lit 0)), (.ref (nat_lit 515)), (.int (442) (nat_lit 0)), (.int (0) (nat_lit 0)), (.ref (nat_lit 522)), (.int (449) (nat_lit 0)), (.int (0) (nat_lit 0)), (.ref (nat_lit 529)), (.int (460) (nat_lit 0)), (.int (0) (nat_lit 0)), (.ref (nat_lit 536)), (.int (465) (nat_lit 0)), (.int (0) (nat_lit 0)), (.ref (nat_lit 541)), (.int (469) (nat_lit 0)), (.int (0) (nat_lit 0)), (.ref (nat_lit 548)), (.int (479) (nat_lit 0)), (.int (0) (nat_lit 0)), (.ref (nat_lit 555)), (.int (485) (nat_lit 0)), (.int (0) (nat_lit 0)), (.ref (nat_lit 562)), (.int (494) (nat_lit 0)), (.int (0) (nat_lit 0)), (.ref (nat_lit 569)), (.int (499) (nat_lit 0)), (.int (0) (nat_lit 0)), (.ref (nat_lit 576)), (.int (501) (nat_lit 0)), (.int (0) (nat_lit 0)), (.ref (nat_lit 584)), (.int (511) (nat_lit 0)), (.int (0) (nat_lit 0)), (.ref (nat_lit 591)), (.int (526) (nat_lit 0)), (.int (0) (nat_lit 0)), (.ref (nat_lit 603)), (.int (674) (nat_lit 0)), (.int (0) (nat_lit 0)), (.ref (nat_lit 714)), (.int (676) (nat_lit 0)), (.int (0) (nat_lit 0)), (.ref (nat_lit 721)), (.int (681) (nat_lit 0)), (.int (0) (nat_lit 0)), (.ref (nat_lit 728)), (.int (690) (nat_lit 0)), (.int (0) (nat_lit 0)), (.ref (nat_lit 749))]), #[]⟩
(.node (gM P (nat_lit 20))
(.node (gM P (nat_lit 36))
(.node (gM P (nat_lit 68))
(.node (gM P (nat_lit 132))
(.node (gM P (nat_lit 260))
(.node ⟨(.type "function"), none, (.func ⟨(Str.ofString "rune_octets"), (Str.ofString "rune_octets"), (fdTop (nat_lit 76)).params, .stmts (fdTop (nat_lit 76)).body, (fdTop (nat_lit 76)).scope, (nat_lit 3), [], .none, .none, .none, (.str (Str.ofString "chancore.consts") (nat_lit 780)), none, (.ref (nat_lit 515)), .none, (nat_lit 0)⟩), #[]⟩
.nil .nil) (.node ⟨(.type "code"), none, (.fields #[(.str (Str.ofString "is_here") (nat_lit 1351)), (.str (Str.ofString "Scope.is_here") (nat_lit 1352)), (.str (Str.ofString "/claim/cut.py") (nat_lit 1353)), (.int (704) (nat_lit 0)), (.int (2) (nat_lit 0)), (.int (0) (nat_lit 0)), (.int (0) (nat_lit 0)), (.int (3) (nat_lit 0)), (.ref (nat_lit 767)), (.bool true), (.int (181) (nat_lit 0)), (.ref (nat_lit 768)), .none, (.ref (nat_lit 769)), (.ref (nat_lit 770)), (.ref (nat_lit 771)), (.int (1356) (nat_lit 0)), (.int (704) (nat_lit 0)), (.str (Str.ofString "/claim/cut.py") (nat_lit 1357))]), #[]⟩
.nil .nil)) (.node (gM P (nat_lit 388))
(.node ⟨.none, none, (.func ⟨(Str.ofString "of_one"), (Str.ofString "ConstReader.of_one"), (fdIn (nat_lit 96) (nat_lit 5)).params, .stmts (fdIn (nat_lit 96) (nat_lit 5)).body, (fdIn (nat_lit 96) (nat_lit 5)).scope, (nat_lit 0), [], .none, .none, .none, .none, none, .none, .none, (nat_lit 0)⟩), #[]⟩
.nil .nil) .nil)) (.node (gM P (nat_lit 196))
(.node (gM P (nat_lit 324))
(.node ⟨.none, none, (.fields #[]), #[]⟩
.nil .nil) .nil) (.node ⟨(.type "tuple"), none, (.seq #[] (nat_lit 0)), #[]⟩
(.node ⟨(.type "tuple"), none, (.seq #[.none] (nat_lit 0)), #[]⟩
.nil .nil) .nil))) (.node (gM P (nat_lit 100))
(.node (gM P (nat_lit 164))
(.node (gM P (nat_lit 292))
(.node ⟨(.type "code"), none, (.fields #[(.str (Str.ofString "method_set") (nat_lit 979)), (.str (Str.ofString "method_set") (nat_lit 980)), (.str (Str.ofString "/claim/cut.py") (nat_lit 981)), (.int (469) (nat_lit 0)), (.int (2) (nat_lit 0)), (.int (0) (nat_lit 0)), (.int (0) (nat_lit 0)), (.int (3) (nat_lit 0)), (.ref (nat_lit 543)), (.bool true), (.int (181) (nat_lit 0)), (.ref (nat_lit 544)), .none, (.ref (nat_lit 545)), (.ref (nat_lit 546)), (.ref (nat_lit 547)), (.int (989) (nat_lit 0)), (.int (469) (nat_lit 0)), (.str (Str.ofString "/claim/cut.py") (nat_lit 990))]), #[]⟩
.nil .nil) (.node ⟨.none, none, (.fields #[]), #[]⟩
.nil .nil)) (.node (gM P (nat_lit 420))
(.node ⟨.none, none, (.fields #[]), #[]⟩
.nil .nil) .nil)) (.node (gM P (nat_lit 228))
(.node (gM P (nat_lit 356))
(.node ⟨(.type "tuple"), none, (.seq #[] (nat_lit 0)), #[]⟩
.nil .nil) .nil) (.node ⟨(.type "tuple"), none, (.seq #[] (nat_lit 0)), #[]⟩
(.node ⟨(.type "getset_descriptor"), none, (.fields #[(.str (Str.ofString "__dict__") (nat_lit 1312)), (.ref (nat_lit 739)), (.builtin "function.__dict__"), (.builtin "function.__dict__#set")]), #[]⟩
.nil .nil) .nil)))) (.node (gM P (nat_lit 52))
(.node (gM P (nat_lit 84))
(.node (gM P (nat_lit 148))
(.node (gM P (nat_lit 276))
(.node ⟨.none, none, (.fields #[]), #[]⟩
.nil .nil) (.node ⟨(.type "function"), none, (.func ⟨(Str.ofString "find"), (Str.ofString "Scope.find"), (fdIn (nat_lit 101) (nat_lit 4)).params, .stmts (fdIn (nat_lit 101) (nat_lit 4)).body, (fdIn (nat_lit 101) (nat_lit 4)).scope, (nat_lit 3), [], (.ref (nat_lit 781)), .none, .none, (.str (Str.ofString "chancore.scopes") (nat_lit 1279)), none, (.ref (nat_lit 787)), .none, (nat_lit 0)⟩), #[]⟩
.nil .nil)) (.node (gM P (nat_lit 404))
(.node ⟨(.type "function"), none, (.func ⟨(Str.ofString "common"), (Str.ofString "ConstReader.common"), (fdIn (nat_lit 96) (nat_lit 7)).params, .stmts (fdIn (nat_lit 96) (nat_lit 7)).body, (fdIn (nat_lit 96) (nat_lit 7)).scope, (nat_lit 3), [], .none, .none, .none, (.str (Str.ofString "chancore.const_exprs") (nat_lit 1058)), none, (.ref (nat_lit 659)), .none, (nat_lit 0)⟩), #[]⟩
.nil .nil) .nil)) (.node (gM P (nat_lit 212))
(.node (gM P (nat_lit 340))
(.node ⟨(.type "tuple"), none, (.seq #[(.str (Str.ofString "untyped") (nat_lit 1069)), (.str (Str.ofString "string") (nat_lit 1070))] (nat_lit 0)), #[]⟩
.nil .nil) .nil) (.node ⟨.none, none, (.fields #[]), #[]⟩
(.node ⟨(.type "builtin_function_or_method"), none, (.fields #[(.builtin "type.__prepare__"), (.type "type")]), #[]⟩
.nil .nil) .nil))) (.node (gM P (nat_lit 116))
(.node (gM P (nat_lit 180))
(.node (gM P (nat_lit 308))
(.node ⟨(.type "tuple"), none, (.seq #[] (nat_lit 0)), #[]⟩
.nil .nil) .nil) (.node ⟨(.type "code"), none, (.fields #[(.str (Str.ofString "int_range") (nat_lit 835)), (.str (Str.ofString "int_range") (nat_lit 836)), (.str (Str.ofString "/claim/cut.py") (nat_lit 837)), (.int (334) (nat_lit 0)), (.int (1) (nat_lit 0)), (.int (0) (nat_lit 0)), (.int (0) (nat_lit 0)), (.int (3) (nat_lit 0)), (.ref (nat_lit 431)), (.bool true), (.int (181) (nat_lit 0)), (.ref (nat_lit 432)), .none, (.ref (nat_lit 433)), (.ref (nat_lit 434)), (.ref (nat_lit 435)), (.int (839) (nat_lit 0)), (.int (334) (nat_lit 0)), (.str (Str.ofString "/claim/cut.py") (nat_lit 840))]), #[]⟩
(.node ⟨(.type "code"), none, (.fields #[(.str (Str.ofString "wanted") (nat_lit 1224)), (.str (Str.ofString "ConstReader.wanted") (nat_lit 1225)), (.str (Str.ofString "/claim/cut.py") (nat_lit 1226)), (.int (660) (nat_lit 0)), (.int (2) (nat_lit 0)), (.int (0) (nat_lit 0)), (.int (0) (nat_lit 0)), (.int (3) (nat_lit 0)), (.ref (nat_lit 687)), (.bool true), (.int (181) (nat_lit 0)), (.ref (nat_lit 688)), .none, (.ref (nat_lit 689)), (.ref (nat_lit 690)), (.ref (nat_lit 691)), (.int (1229) (nat_lit 0)), (.int (660) (nat_lit 0)), (.str (Str.ofString "/claim/cut.py") (nat_lit 1230))]), #[]⟩
.nil .nil) .nil)) (.node (gM P (nat_lit 244))
(.node (gM P (nat_lit 372))
(.node ⟨(.type "tuple"), none, (.seq #[(.str (Str.ofString "self") (nat_lit 1119)), (.str (Str.ofString "expr") (nat_lit 1120)), (.str (Str.ofString "spot") (nat_lit 1121)), (.str (Str.ofString "around") (nat_lit 1122)), (.str (Str.ofString "name") (nat_lit 1123)), (.str (Str.ofString "entry") (nat_lit 1124))] (nat_lit 0)), #[]⟩
.nil .nil) .nil) (.node ⟨(.type "code"), none, (.fields #[(.str (Str.ofString "sort_of_const") (nat_lit 915)), (.str (Str.ofString "sort_of_const") (nat_lit 916)), (.str (Str.ofString "/claim/cut.py") (nat_lit 917)), (.int (417) (nat_lit 0)), (.int (1) (nat_lit 0)), (.int (0) (nat_lit 0)), (.int (0) (nat_lit 0)), (.int (3) (nat_lit 0)), (.ref (nat_lit 495)), (.bool true), (.int (181) (nat_lit 0)), (.ref (nat_lit 496)), .none, (.ref (nat_lit 497)), (.ref (nat_lit 498)), (.ref (nat_lit 499)), (.int (919) (nat_lit 0)), (.int (417) (nat_lit 0)), (.str (Str.ofString "/claim/cut.py") (nat_lit 920))]), #[]⟩
(.node ⟨.none, none, (.func ⟨(Str.ofString "__init__"), (Str.ofString "Scope.__init__"), (fdIn (nat_lit 101) (nat_lit 0)).params, .stmts (fdIn (nat_lit 101) (nat_lit 0)).body, (fdIn (nat_lit 101) (nat_lit 0)).scope, (nat_lit 0), [], .none, .none, .none, .none, none, .none, .none, (nat_lit 0)⟩), #[]⟩
.nil .nil) .nil))))) (.node (gM P (nat_lit 28))
(.node (gM P (nat_lit 44))
(.node (gM P (nat_lit 76))
(.node (gM P (nat_lit 140))
(.node (gM P (nat_lit 268))
(.node ⟨(.type "tuple"), none, (.seq #[] (nat_lit 0)), #[]⟩
.nil .nil) (.node ⟨(.type "function"), none, (.func ⟨(Str.ofString "row"), (Str.ofString "Scope.row"), (fdIn (nat_lit 101) (nat_lit 3)).params, .stmts (fdIn (nat_lit 101) (nat_lit 3)).body, (fdIn (nat_lit 101) (nat_lit 3)).scope, (nat_lit 3), [], .none, .none, .none, (.str (Str.ofString "chancore.scopes") (nat_lit 1279)), none, (.ref (nat_lit 779)), .none, (nat_lit 0)⟩), #[]⟩
.nil .nil)) (.node (gM P (nat_lit 396))
(.node ⟨(.type "code"), none, (.fields #[(.str (Str.ofString "of_two") (nat_lit 1149)), (.str (Str.ofString "ConstReader.of_two") (nat_lit 1150)), (.str (Str.ofString "/claim/cut.py") (nat_lit 1151)), (.int (578) (nat_lit 0)), (.int (2) (nat_lit 0)), (.int (0) (nat_lit 0)), (.int (0) (nat_lit 0)), (.int (3) (nat_lit 0)), (.ref (nat_lit 647)), (.bool true), (.int (181) (nat_lit 0)), (.ref (nat_lit 648)), .none, (.ref (nat_lit 649)), (.ref (nat_lit 650)), (.ref (nat_lit 651)), (.int (1163) (nat_lit 0)), (.int (578) (nat_lit 0)), (.str (Str.ofString "/claim/cut.py") (nat_lit 1164))]), #[]⟩
.nil .nil) .nil)) (.node (gM P (nat_lit 204))
(.node (gM P (nat_lit 332))
(.node ⟨(.type "tuple"), none, (.seq #[(.str (Str.ofString "world") (nat_lit 1050)), (.str (Str.ofString "value") (nat_lit 1051)), (.str (Str.ofString "one") (nat_lit 1052)), (.str (Str.ofString "other") (nat_lit 1053)), (.str (Str.ofString "inner") (nat_lit 1054))] (nat_lit 0)), #[]⟩
.nil .nil) .nil) (.node ⟨(.type "tuple"), none, (.seq #[] (nat_lit 0)), #[]⟩
(.node ⟨(.type "tuple"), none, (.seq #[] (nat_lit 0)), #[]⟩
.nil .nil) .nil))) (.node (gM P (nat_lit 108))
(.node (gM P (nat_lit 172))
(.node (gM P (nat_lit 300))
(.node ⟨(.type "function"), none, (.func ⟨(Str.ofString "lack_of"), (Str.ofString "lack_of"), (fdTop (nat_lit 83)).params, .stmts (fdTop (nat_lit 83)).body, (fdTop (nat_lit 83)).scope, (nat_lit 3), [], .none, .none, .none, (.str (Str.ofString "chancore.method_sets") (nat_lit 948)), none, (.ref (nat_lit 555)), .none, (nat_lit 0)⟩), #[]⟩
.nil .nil) (.node ⟨(.type "type"), none, (.cls { name := Str.ofString "Scope", bases := [Value.type "object"], mro := [Value.ref (nat_lit 812), Value.type "object"], ns := (nat_lit 811), qualname := Str.ofString "Scope" }), #[none, none, some (.str (Str.ofString "Scope") (nat_lit 1319)), some (.str (Str.ofString "Scope") (nat_lit 1327)), some (.builtin "object.__new__"), some (.bool true)]⟩
.nil .nil)) (.node ⟨.none, none, (.func ⟨(Str.ofString "is_unsigned"), (Str.ofString "is_unsigned"), (fdTop (nat_lit 64)).params, .stmts (fdTop (nat_lit 64)).body, (fdTop (nat_lit 64)).scope, (nat_lit 0), [], .none, .none, .none, .none, none, .none, .none, (nat_lit 0)⟩), #[]⟩
(.node ⟨.none, none, (.func ⟨(Str.ofString "extreme"), (Str.ofString "ConstReader.extreme"), (fdIn (nat_lit 96) (nat_lit 11)).params, .stmts (fdIn (nat_lit 96) (nat_lit 11)).body, (fdIn (nat_lit 96) (nat_lit 11)).scope, (nat_lit 0), [], .none, .none, .none, .none, none, .none, .none, (nat_lit 0)⟩), #[]⟩
.nil .nil) .nil)) (.node (gM P (nat_lit 236))
(.node (gM P (nat_lit 364))
(.node ⟨.none, none, (.fields #[]), #[]⟩
.nil .nil) .nil) (.node ⟨.none, none, (.func ⟨(Str.ofString "const_compared"), (Str.ofString "const_compared"), (fdTop (nat_lit 73)).params, .stmts (fdTop (nat_lit 73)).body, (fdTop (nat_lit 73)).scope, (nat_lit 0), [], .none, .none, .none, .none, none, .none, .none, (nat_lit 0)⟩), #[]⟩
(.node ⟨.none, none, (.fields #[(.int (692) (nat_lit 0)), (.int (4) (nat_lit 0)), (.ref (nat_lit 757)), (.int (697) (nat_lit 0)), (.int (4) (nat_lit 0)), (.ref (nat_lit 765)), (.int (704) (nat_lit 0)), (.int (4) (nat_lit 0)), (.ref (nat_lit 772)), (.int (707) (nat_lit 0)), (.int (4) (nat_lit 0)), (.ref (nat_lit 779)), (.int (715) (nat_lit 0)), (.int (4) (nat_lit 0)), (.ref (nat_lit 787)), (.int (721) (nat_lit 0)), (.int (4) (nat_lit 0)), (.ref (nat_lit 794)), (.int (724) (nat_lit 0)), (.int (4) (nat_lit 0)), (.ref (nat_lit 801)), (.int (732) (nat_lit 0)), (.int (4) (nat_lit 0)), (.ref (nat_lit 808))]), #[]⟩
.nil .nil) .nil)))) (.node (gM P (nat_lit 60))
(.node (gM P (nat_lit 92))
(.node (gM P (nat_lit 156))
(.node (gM P (nat_lit 284))
(.node ⟨.none, none, (.func ⟨(Str.ofString "is_in_set"), (Str.ofString "is_in_set"), (fdTop (nat_lit 81)).params, .stmts (fdTop (nat_lit 81)).body, (fdTop (nat_lit 81)).scope, (nat_lit 0), [], .none, .none, .none, .none, none, .none, .none, (nat_lit 0)⟩), #[]⟩
.nil .nil) (.node ⟨(.type "tuple"), none, (.seq #[] (nat_lit 0)), #[]⟩
.nil .nil)) (.node (gM P (nat_lit 412))
(.node ⟨(.type "tuple"), none, (.seq #[] (nat_lit 0)), #[]⟩
.nil .nil) .nil)) (.node (gM P (nat_lit 220))
(.node (gM P (nat_lit 348))
(.node ⟨(.type "frame"), none, .plain, #[some (.ref (nat_lit 603)), some (.ref (nat_lit 3)), some (.ref (nat_lit 600)), none, some (.str (Str.ofString "chancore.const_exprs") (nat_lit 1058)), none, some (.ref (nat_lit 0))]⟩
.nil .nil) .nil) (.node ⟨(.type "tuple"), none, (.seq #[(.str (Str.ofString "op") (nat_lit 890)), (.str (Str.ofString "a") (nat_lit 891)), (.str (Str.ofString "many") (nat_lit 892)), (.str (Str.ofString "kind") (nat_lit 893))] (nat_lit 0)), #[]⟩
(.node ⟨(.type "tuple"), none, (.seq #[(.str (Str.ofString "self") (nat_lit 1296)), (.str (Str.ofString "name") (nat_lit 1297)), (.str (Str.ofString "entry") (nat_lit 1298)), (.str (Str.ofString "spot") (nat_lit 1299)), (.str (Str.ofString "owner") (nat_lit 1300)), (.str (Str.ofString "is_checked") (nat_lit 1301))] (nat_lit 0)), #[]⟩
.nil .nil) .nil))) (.node (gM P (nat_lit 124))
(.node (gM P (nat_lit 188))
(.node (gM P (nat_lit 316))
(.node ⟨.none, none, (.fields #[]), #[]⟩
.nil .nil) .nil) (.node ⟨(.type "function"), none, (.func ⟨(Str.ofString "is_in_range"), (Str.ofString "is_in_range"), (fdTop (nat_lit 66)).params, .stmts (fdTop (nat_lit 66)).body, (fdTop (nat_lit 66)).scope, (nat_lit 3), [], .none, .none, .none, (.str (Str.ofString "chancore.consts") (nat_lit 780)), none, (.ref (nat_lit 443)), .none, (nat_lit 0)⟩), #[]⟩
(.node ⟨(.type "function"), none, (.func ⟨(Str.ofString "reckoned"), (Str.ofString "ConstReader.reckoned"), (fdIn (nat_lit 96) (nat_lit 13)).params, .stmts (fdIn (nat_lit 96) (nat_lit 13)).body, (fdIn (nat_lit 96) (nat_lit 13)).scope, (nat_lit 3), [], .none, .none, .none, (.str (Str.ofString "chancore.const_exprs") (nat_lit 1058)), none, (.ref (nat_lit 699)), .none, (nat_lit 0)⟩), #[]⟩
.nil .nil) .nil)) (.node (gM P (nat_lit 252))
(.node (gM P (nat_lit 380))
(.node ⟨(.type "tuple"), none, (.seq #[] (nat_lit 0)), #[]⟩
.nil .nil) .nil) (.node ⟨(.type "code"), none, (.fields #[(.str (Str.ofString "const_binary") (nat_lit 922)), (.str (Str.ofString "const_binary") (nat_lit 923)), (.str (Str.ofString "/claim/cut.py") (nat_lit 924)), (.int (421) (nat_lit 0)), (.int (4) (nat_lit 0)), (.int (0) (nat_lit 0)), (.int (0) (nat_lit 0)), (.int (3) (nat_lit 0)), (.ref (nat_lit 503)), (.bool true), (.int (181) (nat_lit 0)), (.ref (nat_lit 504)), .none, (.ref (nat_lit 505)), (.ref (nat_lit 506)), (.ref (nat_lit 507)), (.int (930) (nat_lit 0)), (.int (421) (nat_lit 0)), (.str (Str.ofString "/claim/cut.py") (nat_lit 931))]), #[]⟩
(.node ⟨.none, none, (.func ⟨(Str.ofString "declare"), (Str.ofString "Scope.declare"), (fdIn (nat_lit 101) (nat_lit 1)).params, .stmts (fdIn (nat_lit 101) (nat_lit 1)).body, (fdIn (nat_lit 101) (nat_lit 1)).scope, (nat_lit 0), [], .none, .none, .none, .none, none, .none, .none, (nat_lit 0)⟩), #[]⟩
.nil .nil) .nil))))))) (.node (gM P (nat_lit 6))
(.node (gM P (nat_lit 10))
(.node (gM P (nat_lit 18))
(.node (gM P (nat_lit 34))
(.node (gM P (nat_lit 66))
(.node (gM P (nat_lit 130))
(.node (gM P (nat_lit 258))
(.node ⟨.none, none, (.func ⟨(Str.ofString "rune_octets"), (Str.ofString "rune_octets"), (fdTop (nat_lit 76)).params, .stmts (fdTop (nat_lit 76)).body, (fdTop (nat_lit 76)).scope, (nat_lit 0), [], .none, .none, .none, .none, none, .none, .none, (nat_lit 0)⟩), #[]⟩
.nil .nil) (.node ⟨(.type "tuple"), none, (.seq #[] (nat_lit 0)), #[]⟩
.nil .nil)) (.node (gM P (nat_lit 386))
(.node ⟨(.type "tuple"), none, (.seq #[(.str (Str.ofString "self") (nat_lit 1140)), (.str (Str.ofString "expr") (nat_lit 1141))] (nat_lit 0)), #[]⟩
.nil .nil) .nil)) (.node (gM P (nat_lit 194))
(.node (gM P (nat_lit 322))
(.node ⟨(.type "tuple"), none, (.seq #[(.bool false)] (nat_lit 0)), #[]⟩
.nil .nil) .nil) (.node ⟨(.type "code"), none, (.fields #[(.str (Str.ofString "within_range") (nat_lit 852)), (.str (Str.ofString "within_range") (nat_lit 853)), (.str (Str.ofString "/claim/cut.py") (nat_lit 854)), (.int (343) (nat_lit 0)), (.int (2) (nat_lit 0)), (.int (0) (nat_lit 0)), (.int (0) (nat_lit 0)), (.int (3) (nat_lit 0)), (.ref (nat_lit 445)), (.bool true), (.int (181) (nat_lit 0)), (.ref (nat_lit 446)), .none, (.ref (nat_lit 447)), (.ref (nat_lit 448)), (.ref (nat_lit 449)), (.int (857) (nat_lit 0)), (.int (343) (nat_lit 0)), (.str (Str.ofString "/claim/cut.py") (nat_lit 858))]), #[]⟩
(.node ⟨(.type "super"), none, (.fields #[(.ref (nat_lit 703)), (.ref (nat_lit 703)), (.ref (nat_lit 703))]), #[]⟩
.nil .nil) .nil))) (.node (gM P (nat_lit 98))
(.node (gM P (nat_lit 162))
(.node (gM P (nat_lit 290))
(.node ⟨(.type "tuple"), none, (.seq #[] (nat_lit 0)), #[]⟩
.nil .nil) (.node ⟨(.type "function"), none, (.func ⟨(Str.ofString "unused"), (Str.ofString "Scope.unused"), (fdIn (nat_lit 101) (nat_lit 6)).params, .stmts (fdIn (nat_lit 101) (nat_lit 6)).body, (fdIn (nat_lit 101) (nat_lit 6)).scope, (nat_lit 3), [], .none, .none, .none, (.str (Str.ofString "chancore.scopes") (nat_lit 1279)), none, (.ref (nat_lit 801)), .none, (nat_lit 0)⟩), #[]⟩
.nil .nil)) (.node (gM P (nat_lit 418))
(.node ⟨(.type "function"), none, (.func ⟨(Str.ofString "size"), (Str.ofString "ConstReader.size"), (fdIn (nat_lit 96) (nat_lit 9)).params, .stmts (fdIn (nat_lit 96) (nat_lit 9)).body, (fdIn (nat_lit 96) (nat_lit 9)).scope, (nat_lit 3), [], .none, .none, .none, (.str (Str.ofString "chancore.const_exprs") (nat_lit 1058)), none, (.ref (nat_lit 673)), .none, (nat_lit 0)⟩), #[]⟩
.nil .nil) .nil)) (.node (gM P (nat_lit 226))
(.node (gM P (nat_lit 354))
(.node ⟨(.type "code"), none, (.fields #[(.str (Str.ofString "__init__") (nat_lit 1085)), (.str (Str.ofString "ConstReader.__init__") (nat_lit 1086)), (.str (Str.ofString "/claim/cut.py") (nat_lit 1087)), (.int (528) (nat_lit 0)), (.int (5) (nat_lit 0)), (.int (0) (nat_lit 0)), (.int (0) (nat_lit 0)), (.int (3) (nat_lit 0)), (.ref (nat_lit 605)), (.bool true), (.int (181) (nat_lit 0)), (.ref (nat_lit 606)), .none, (.ref (nat_lit 607)), (.ref (nat_lit 608)), (.ref (nat_lit 609)), (.int (1093) (nat_lit 0)), (.int (528) (nat_lit 0)), (.str (Str.ofString "/claim/cut.py") (nat_lit 1094))]), #[]⟩
.nil .nil) .nil) (.node ⟨.none, none, (.fields #[]), #[]⟩
(.node ⟨(.type "dict"), none, (.dict #[⟨PyData.keyHash P (Str.ofString "__module__"), (.str (Str.ofString "__module__") (nat_lit 1288)), (.str (Str.ofString "chancore.scopes") (nat_lit 1279))⟩, ⟨PyData.keyHash P (Str.ofString "__firstlineno__"), (.str (Str.ofString "__firstlineno__") (nat_lit 1292)), (.int (681) (nat_lit 1291))⟩, ⟨PyData.keyHash P (Str.ofString "__init__"), (.str (Str.ofString "__init__") (nat_lit 1304)), (.ref (nat_lit 736))⟩, ⟨PyData.keyHash P (Str.ofString "__static_attributes__"), (.str (Str.ofString "__static_attributes__") (nat_lit 1311)), (.ref (nat_lit 737))⟩, ⟨PyData.keyHash P (Str.ofString "__dict__"), (.str (Str.ofString "__dict__") (nat_lit 1313)), (.ref (nat_lit 740))⟩, ⟨PyData.keyHash P (Str.ofString "__weakref__"), (.str (Str.ofString "__weakref__") (nat_lit 1315)), (.ref (nat_lit 741))⟩, ⟨PyData.keyHash P (Str.ofString "__doc__"), (.str (Str.ofString "__doc__") (nat_lit 1316)), .none⟩] (nat_lit 4)), #[]⟩
.nil .nil) .nil)))) (.node (gM P (nat_lit 50))
(.node (gM P (nat_lit 82))
(.node (gM P (nat_lit 146))
(.node (gM P (nat_lit 274))
(.node ⟨(.type "function"), none, (.func ⟨(Str.ofString "names_of_methods"), (Str.ofString "names_of_methods"), (fdTop (nat_lit 79)).params, .stmts (fdTop (nat_lit 79)).body, (fdTop (nat_lit 79)).scope, (nat_lit 3), [], .none, .none, .none, (.str (Str.ofString "chancore.method_sets") (nat_lit 948)), none, (.ref (nat_lit 529)), .none, (nat_lit 0)⟩), #[]⟩
.nil .nil) (.node ⟨.none, none, (.func ⟨(Str.ofString "find"), (Str.ofString "Scope.find"), (fdIn (nat_lit 101) (nat_lit 4)).params, .stmts (fdIn (nat_lit 101) (nat_lit 4)).body, (fdIn (nat_lit 101) (nat_lit 4)).scope, (nat_lit 0), [], .none, .none, .none, .none, none, .none, .none, (nat_lit 0)⟩), #[]⟩
.nil .nil)) (.node (gM P (nat_lit 402))
(.node ⟨.none, none, (.func ⟨(Str.ofString "common"), (Str.ofString "ConstReader.common"), (fdIn (nat_lit 96) (nat_lit 7)).params, .stmts (fdIn (nat_lit 96) (nat_lit 7)).body, (fdIn (nat_lit 96) (nat_lit 7)).scope, (nat_lit 0), [], .none, .none, .none, .none, none, .none, .none, (nat_lit 0)⟩), #[]⟩
.nil .nil) .nil)) (.node (gM P (nat_lit 210))
(.node (gM P (nat_lit 338))
(.node ⟨(.type "tuple"), none, (.seq #[(.str (Str.ofString "untyped") (nat_lit 1063)), (.str (Str.ofString "rune") (nat_lit 1064))] (nat_lit 0)), #[]⟩
.nil .nil) .nil) (.node ⟨(.type "function"), none, (.func ⟨(Str.ofString "const_unary"), (Str.ofString "const_unary"), (fdTop (nat_lit 69)).params, .stmts (fdTop (nat_lit 69)).body, (fdTop (nat_lit 69)).scope, (nat_lit 3), [], (.ref (nat_lit 459)), .none, .none, (.str (Str.ofString "chancore.consts") (nat_lit 780)), none, (.ref (nat_lit 465)), .none, (nat_lit 0)⟩), #[]⟩
(.node ⟨(.type "function"), none, (.func ⟨(Str.ofString "type_of"), (Str.ofString "type_of"), (fdTop (nat_lit 98)).params, .stmts (fdTop (nat_lit 98)).body, (fdTop (nat_lit 98)).scope, (nat_lit 3), [], .none, .none, .none, (.str (Str.ofString "chancore.const_exprs") (nat_lit 1058)), none, (.ref (nat_lit 721)), .none, (nat_lit 0)⟩), #[]⟩
.nil .nil) .nil))) (.node (gM P (nat_lit 114))
(.node (gM P (nat_lit 178))
(.node (gM P (nat_lit 306))
(.node ⟨(.type "code"), none, (.fields #[(.str (Str.ofString "implements") (nat_lit 1003)), (.str (Str.ofString "implements") (nat_lit 1004)), (.str (Str.ofString "/claim/cut.py") (nat_lit 1005)), (.int (485) (nat_lit 0)), (.int (3) (nat_lit 0)), (.int (0) (nat_lit 0)), (.int (0) (nat_lit 0)), (.int (3) (nat_lit 0)), (.ref (nat_lit 557)), (.bool true), (.int (181) (nat_lit 0)), (.ref (nat_lit 558)), .none, (.ref (nat_lit 559)), (.ref (nat_lit 560)), (.ref (nat_lit 561)), (.int (1012) (nat_lit 0)), (.int (485) (nat_lit 0)), (.str (Str.ofString "/claim/cut.py") (nat_lit 1013))]), #[]⟩
.nil .nil) .nil) (.node ⟨(.type "tuple"), none, (.seq #[] (nat_lit 0)), #[]⟩
(.node ⟨(.type "tuple"), none, (.seq #[] (nat_lit 0)), #[]⟩
.nil .nil) .nil)) (.node (gM P (nat_lit 242))
(.node (gM P (nat_lit 370))
(.node ⟨(.type "tuple"), none, (.seq #[] (nat_lit 0)), #[]⟩
.nil .nil) .nil) (.node ⟨(.type "tuple"), none, (.seq #[] (nat_lit 0)), #[]⟩
(.node ⟨(.type "tuple"), none, (.seq #[(.str (Str.ofString "self") (nat_lit 1334)), (.str (Str.ofString "outer") (nat_lit 1335)), (.str (Str.ofString "owner") (nat_lit 1336))] (nat_lit 0)), #[]⟩
.nil .nil) .nil))))) (.node (gM P (nat_lit 26))
(.node (gM P (nat_lit 42))
(.node (gM P (nat_lit 74))
(.node (gM P (nat_lit 138))
(.node (gM P (nat_lit 266))
(.node ⟨(.type "code"), none, (.fields #[(.str (Str.ofString "const_convert") (nat_lit 940)), (.str (Str.ofString "const_convert") (nat_lit 941)), (.str (Str.ofString "/claim/cut.py") (nat_lit 942)), (.int (442) (nat_lit 0)), (.int (2) (nat_lit 0)), (.int (0) (nat_lit 0)), (.int (0) (nat_lit 0)), (.int (3) (nat_lit 0)), (.ref (nat_lit 517)), (.bool true), (.int (181) (nat_lit 0)), (.ref (nat_lit 518)), .none, (.ref (nat_lit 519)), (.ref (nat_lit 520)), (.ref (nat_lit 521)), (.int (945) (nat_lit 0)), (.int (442) (nat_lit 0)), (.str (Str.ofString "/claim/cut.py") (nat_lit 946))]), #[]⟩
.nil .nil) (.node ⟨.none, none, (.func ⟨(Str.ofString "row"), (Str.ofString "Scope.row"), (fdIn (nat_lit 101) (nat_lit 3)).params, .stmts (fdIn (nat_lit 101) (nat_lit 3)).body, (fdIn (nat_lit 101) (nat_lit 3)).scope, (nat_lit 0), [], .none, .none, .none, .none, none, .none, .none, (nat_lit 0)⟩), #[]⟩
.nil .nil)) (.node (gM P (nat_lit 394))
(.node ⟨(.type "tuple"), none, (.seq #[(.str (Str.ofString "self") (nat_lit 1157)), (.str (Str.ofString "a") (nat_lit 1158)), (.str (Str.ofString "b") (nat_lit 1159)), (.str (Str.ofString "left") (nat_lit 1160)), (.str (Str.ofString "op") (nat_lit 1161)), (.str (Str.ofString "told") (nat_lit 1162))] (nat_lit 0)), #[]⟩
.nil .nil) .nil)) (.node (gM P (nat_lit 202))
(.node (gM P (nat_lit 330))
(.node ⟨(.type "tuple"), none, (.seq #[] (nat_lit 0)), #[]⟩
.nil .nil) .nil) (.node ⟨(.type "function"), none, (.func ⟨(Str.ofString "representable"), (Str.ofString "representable"), (fdTop (nat_lit 68)).params, .stmts (fdTop (nat_lit 68)).body, (fdTop (nat_lit 68)).scope, (nat_lit 3), [], .none, .none, .none, (.str (Str.ofString "chancore.consts") (nat_lit 780)), none, (.ref (nat_lit 457)), .none, (nat_lit 0)⟩), #[]⟩
(.node ⟨(.type "code"), none, (.fields #[(.str (Str.ofString "const_of") (nat_lit 1254)), (.str (Str.ofString "const_of") (nat_lit 1255)), (.str (Str.ofString "/claim/cut.py") (nat_lit 1256)), (.int (674) (nat_lit 0)), (.int (5) (nat_lit 0)), (.int (0) (nat_lit 0)), (.int (0) (nat_lit 0)), (.int (3) (nat_lit 0)), (.ref (nat_lit 709)), (.bool true), (.int (181) (nat_lit 0)), (.ref (nat_lit 710)), .none, (.ref (nat_lit 711)), (.ref (nat_lit 712)), (.ref (nat_lit 713)), (.int (1262) (nat_lit 0)), (.int (674) (nat_lit 0)), (.str (Str.ofString "/claim/cut.py") (nat_lit 1263))]), #[]⟩
.nil .nil) .nil))) (.node (gM P (nat_lit 106))
(.node (gM P (nat_lit 170))
(.node (gM P (nat_lit 298))
(.node ⟨.none, none, (.func ⟨(Str.ofString "lack_of"), (Str.ofString "lack_of"), (fdTop (nat_lit 83)).params, .stmts (fdTop (nat_lit 83)).body, (fdTop (nat_lit 83)).scope, (nat_lit 0), [], .none, .none, .none, .none, none, .none, .none, (nat_lit 0)⟩), #[]⟩
.nil .nil) (.node ⟨(.type "tuple"), none, (.seq #[(.str (Str.ofString "outer") (nat_lit 1403)), (.str (Str.ofString "owner") (nat_lit 1404)), (.str (Str.ofString "rows") (nat_lit 1405))] (nat_lit 0)), #[]⟩
.nil .nil)) (.node ⟨(.type "tuple"), none, (.seq #[(.str (Str.ofString "kind") (nat_lit 831))] (nat_lit 0)), #[]⟩
(.node ⟨(.type "tuple"), none, (.seq #[] (nat_lit 0)), #[]⟩
.nil .nil) .nil)) (.node (gM P (nat_lit 234))
(.node (gM P (nat_lit 362))
(.node ⟨(.type "function"), none, (.func ⟨(Str.ofString "read"), (Str.ofString "ConstReader.read"), (fdIn (nat_lit 96) (nat_lit 1)).params, .stmts (fdIn (nat_lit 96) (nat_lit 1)).body, (fdIn (nat_lit 96) (nat_lit 1)).scope, (nat_lit 3), [], .none, .none, .none, (.str (Str.ofString "chancore.const_exprs") (nat_lit 1058)), none, (.ref (nat_lit 617)), .none, (nat_lit 0)⟩), #[]⟩
.nil .nil) .nil) (.node ⟨(.type "tuple"), none, (.seq #[(.str (Str.ofString "op") (nat_lit 909)), (.str (Str.ofString "a") (nat_lit 910)), (.str (Str.ofString "b") (nat_lit 911))] (nat_lit 0)), #[]⟩
(.node ⟨(.type "dict"), none, (.dict #[⟨PyData.keyHash P (Str.ofString "__module__"), (.str (Str.ofString "__module__") (nat_lit 1326)), (.str (Str.ofString "chancore.scopes") (nat_lit 1279))⟩, ⟨PyData.keyHash P (Str.ofString "__qualname__"), (.str (Str.ofString "__qualname__") (nat_lit 1328)), (.str (Str.ofString "Scope") (nat_lit 1327))⟩, ⟨PyData.keyHash P (Str.ofString "__firstlineno__"), (.str (Str.ofString "__firstlineno__") (nat_lit 1330)), (.int (690) (nat_lit 1329))⟩, ⟨PyData.keyHash P (Str.ofString "__init__"), (.str (Str.ofString "__init__") (nat_lit 1339)), (.ref (nat_lit 758))⟩, ⟨PyData.keyHash P (Str.ofString "declare"), (.str (Str.ofString "declare") (nat_lit 1350)), (.ref (nat_lit 766))⟩, ⟨PyData.keyHash P (Str.ofString "is_here"), (.str (Str.ofString "is_here") (nat_lit 1358)), (.ref (nat_lit 773))⟩, ⟨PyData.keyHash P (Str.ofString "row"), (.str (Str.ofString "row") (nat_lit 1367)), (.ref (nat_lit 780))⟩, ⟨PyData.keyHash P (Str.ofString "find"), (.str (Str.ofString "find") (nat_lit 1377)), (.ref (nat_lit 788))⟩, ⟨PyData.keyHash P (Str.ofString "use"), (.str (Str.ofString "use") (nat_lit 1385)), (.ref (nat_lit 795))⟩, ⟨PyData.keyHash P (Str.ofString "unused"), (.str (Str.ofString "unused") (nat_lit 1395)), (.ref (nat_lit 802))⟩, ⟨PyData.keyHash P (Str.ofString "depth"), (.str (Str.ofString "depth") (nat_lit 1402)), (.ref (nat_lit 809))⟩, ⟨PyData.keyHash P (Str.ofString "__static_attributes__"), (.str (Str.ofString "__static_attributes__") (nat_lit 1406)), (.ref (nat_lit 810))⟩] (nat_lit 12)), #[]⟩
.nil .nil) .nil)))) (.node (gM P (nat_lit 58))
(.node (gM P (nat_lit 90))
(.node (gM P (nat_lit 154))
(.node (gM P (nat_lit 282))
(.node ⟨(.type "tuple"), none, (.seq #[] (nat_lit 0)), #[]⟩
.nil .nil) (.node ⟨(.type "code"), none, (.fields #[(.str (Str.ofString "use") (nat_lit 1378)), (.str (Str.ofString "Scope.use") (nat_lit 1379)), (.str (Str.ofString "/claim/cut.py") (nat_lit 1380)), (.int (721) (nat_lit 0)), (.int (2) (nat_lit 0)), (.int (0) (nat_lit 0)), (.int (0) (nat_lit 0)), (.int (3) (nat_lit 0)), (.ref (nat_lit 789)), (.bool true), (.int (181) (nat_lit 0)), (.ref (nat_lit 790)), .none, (.ref (nat_lit 791)), (.ref (nat_lit 792)), (.ref (nat_lit 793)), (.int (1383) (nat_lit 0)), (.int (721) (nat_lit 0)), (.str (Str.ofString "/claim/cut.py") (nat_lit 1384))]), #[]⟩
.nil .nil)) (.node (gM P (nat_lit 410))
(.node ⟨(.type "code"), none, (.fields #[(.str (Str.ofString "called") (nat_lit 1178)), (.str (Str.ofString "ConstReader.called") (nat_lit 1179)), (.str (Str.ofString "/claim/cut.py") (nat_lit 1180)), (.int (601) (nat_lit 0)), (.int (2) (nat_lit 0)), (.int (0) (nat_lit 0)), (.int (0) (nat_lit 0)), (.int (3) (nat_lit 0)), (.ref (nat_lit 661)), (.bool true), (.int (181) (nat_lit 0)), (.ref (nat_lit 662)), .none, (.ref (nat_lit 663)), (.ref (nat_lit 664)), (.ref (nat_lit 665)), (.int (1191) (nat_lit 0)), (.int (601) (nat_lit 0)), (.str (Str.ofString "/claim/cut.py") (nat_lit 1192))]), #[]⟩
.nil .nil) .nil)) (.node (gM P (nat_lit 218))
(.node (gM P (nat_lit 346))
(.node ⟨.none, none, (.fields #[(.int (528) (nat_lit 0)), (.int (4) (nat_lit 0)), (.ref (nat_lit 610)), (.int (534) (nat_lit 0)), (.int (4) (nat_lit 0)), (.ref (nat_lit 617)), (.int (554) (nat_lit 0)), (.int (4) (nat_lit 0)), (.ref (nat_lit 624)), (.int (562) (nat_lit 0)), (.int (4) (nat_lit 0)), (.ref (nat_lit 631)), (.int (570) (nat_lit 0)), (.int (4) (nat_lit 0)), (.ref (nat_lit 638)), (.int (574) (nat_lit 0)), (.int (4) (nat_lit 0)), (.ref (nat_lit 645)), (.int (578) (nat_lit 0)), (.int (4) (nat_lit 0)), (.ref (nat_lit 652)), (.int (590) (nat_lit 0)), (.int (4) (nat_lit 0)), (.ref (nat_lit 659)), (.int (601) (nat_lit 0)), (.int (4) (nat_lit 0)), (.ref (nat_lit 666)), (.int (619) (nat_lit 0)), (.int (4) (nat_lit 0)), (.ref (nat_lit 673)), (.int (628) (nat_lit 0)), (.int (4) (nat_lit 0)), (.ref (nat_lit 680)), (.int (645) (nat_lit 0)), (.int (4) (nat_lit 0)), (.ref (nat_lit 685)), (.int (660) (nat_lit 0)), (.int (4) (nat_lit 0)), (.ref (nat_lit 692)), (.int (669) (nat_lit 0)), (.int (4) (nat_lit 0)), (.ref (nat_lit 699))]), #[]⟩
.nil .nil) .nil) (.node ⟨(.type "tuple"), none, (.seq #[] (nat_lit 0)), #[]⟩
(.node ⟨(.type "tuple"), none, (.seq #[] (nat_lit 0)), #[]⟩
.nil .nil) .nil))) (.node (gM P (nat_lit 122))
(.node (gM P (nat_lit 186))
(.node (gM P (nat_lit 314))
(.node ⟨(.type "function"), none, (.func ⟨(Str.ofString "is_like_chan"), (Str.ofString "is_like_chan"), (fdTop (nat_lit 86)).params, .stmts (fdTop (nat_lit 86)).body, (fdTop (nat_lit 86)).scope, (nat_lit 3), [], .none, .none, .none, (.str (Str.ofString "chancore.assign") (nat_lit 1015)), none, (.ref (nat_lit 569)), .none, (nat_lit 0)⟩), #[]⟩
.nil .nil) .nil) (.node ⟨.none, none, (.func ⟨(Str.ofString "is_in_range"), (Str.ofString "is_in_range"), (fdTop (nat_lit 66)).params, .stmts (fdTop (nat_lit 66)).body, (fdTop (nat_lit 66)).scope, (nat_lit 0), [], .none, .none, .none, .none, none, .none, .none, (nat_lit 0)⟩), #[]⟩
(.node ⟨.none, none, (.func ⟨(Str.ofString "reckoned"), (Str.ofString "ConstReader.reckoned"), (fdIn (nat_lit 96) (nat_lit 13)).params, .stmts (fdIn (nat_lit 96) (nat_lit 13)).body, (fdIn (nat_lit 96) (nat_lit 13)).scope, (nat_lit 0), [], .none, .none, .none, .none, none, .none, .none, (nat_lit 0)⟩), #[]⟩
.nil .nil) .nil)) (.node (gM P (nat_lit 250))
(.node (gM P (nat_lit 378))
(.node ⟨.none, none, (.fields #[]), #[]⟩
.nil .nil) .nil) (.node ⟨(.type "tuple"), none, (.seq #[] (nat_lit 0)), #[]⟩
(.node ⟨(.type "tuple"), none, (.seq #[(.str (Str.ofString "self") (nat_lit 1343)), (.str (Str.ofString "name") (nat_lit 1344)), (.str (Str.ofString "entry") (nat_lit 1345)), (.str (Str.ofString "spot") (nat_lit 1346)), (.str (Str.ofString "is_checked") (nat_lit 1347))] (nat_lit 0)), #[]⟩
.nil .nil) .nil)))))) (.node (gM P (nat_lit 14))
(.node (gM P (nat_lit 22))
(.node (gM P (nat_lit 38))
(.node (gM P (nat_lit 70))
(.node (gM P (nat_lit 134))
(.node (gM P (nat_lit 262))
(.node ⟨.none, none, (.fields #[]), #[]⟩
.nil .nil) (.node ⟨(.type "tuple"), none, (.seq #[] (nat_lit 0)), #[]⟩
.nil .nil)) (.node (gM P (nat_lit 390))
(.node ⟨(.type "function"), none, (.func ⟨(Str.ofString "of_one"), (Str.ofString "ConstReader.of_one"), (fdIn (nat_lit 96) (nat_lit 5)).params, .stmts (fdIn (nat_lit 96) (nat_lit 5)).body, (fdIn (nat_lit 96) (nat_lit 5)).scope, (nat_lit 3), [], .none, .none, .none, (.str (Str.ofString "chancore.const_exprs") (nat_lit 1058)), none, (.ref (nat_lit 645)), .none, (nat_lit 0)⟩), #[]⟩
.nil .nil) .nil)) (.node (gM P (nat_lit 198))
(.node (gM P (nat_lit 326))
(.node ⟨(.type "tuple"), none, (.seq #[] (nat_lit 0)), #[]⟩
.nil .nil) .nil) (.node ⟨(.type "tuple"), none, (.seq #[(.str (Str.ofString "value") (nat_lit 863)), (.str (Str.ofString "told") (nat_lit 864)), (.str (Str.ofString "word") (nat_lit 865))] (nat_lit 0)), #[]⟩
(.node ⟨.none, none, (.fields #[]), #[]⟩
.nil .nil) .nil))) (.node (gM P (nat_lit 102))
(.node (gM P (nat_lit 166))
(.node (gM P (nat_lit 294))
(.node ⟨(.type "tuple"), none, (.seq #[] (nat_lit 0)), #[]⟩
.nil .nil) (.node ⟨(.type "tuple"), none, (.seq #[] (nat_lit 0)), #[]⟩
.nil .nil)) (.node (gM P (nat_lit 422))
(.node ⟨(.type "tuple"), none, (.seq #[] (nat_lit 0)), #[]⟩
.nil .nil) .nil)) (.node (gM P (nat_lit 230))
(.node (gM P (nat_lit 358))
(.node ⟨(.type "tuple"), none, (.seq #[(.str (Str.ofString "self") (nat_lit 1099)), (.str (Str.ofString "expr") (nat_lit 1100)), (.str (Str.ofString "kind") (nat_lit 1101)), (.str (Str.ofString "spot") (nat_lit 1102))] (nat_lit 0)), #[]⟩
.nil .nil) .nil) (.node ⟨(.type "code"), none, (.fields #[(.str (Str.ofString "int_binary") (nat_lit 897)), (.str (Str.ofString "int_binary") (nat_lit 898)), (.str (Str.ofString "/claim/cut.py") (nat_lit 899)), (.int (385) (nat_lit 0)), (.int (3) (nat_lit 0)), (.int (0) (nat_lit 0)), (.int (0) (nat_lit 0)), (.int (3) (nat_lit 0)), (.ref (nat_lit 481)), (.bool true), (.int (181) (nat_lit 0)), (.ref (nat_lit 482)), .none, (.ref (nat_lit 483)), (.ref (nat_lit 484)), (.ref (nat_lit 485)), (.int (903) (nat_lit 0)), (.int (385) (nat_lit 0)), (.str (Str.ofString "/claim/cut.py") (nat_lit 904))]), #[]⟩
(.node ⟨(.type "super"), none, (.fields #[(.ref (nat_lit 739)), (.ref (nat_lit 739)), (.ref (nat_lit 739))]), #[]⟩
.nil .nil) .nil)))) (.node (gM P (nat_lit 54))
(.node (gM P (nat_lit 86))
(.node (gM P (nat_lit 150))
(.node (gM P (nat_lit 278))
(.node ⟨(.type "tuple"), none, (.seq #[] (nat_lit 0)), #[]⟩
.nil .nil) (.node ⟨.none, none, (.fields #[]), #[]⟩
.nil .nil)) (.node (gM P (nat_lit 406))
(.node ⟨.none, none, (.fields #[]), #[]⟩
.nil .nil) .nil)) (.node (gM P (nat_lit 214))
(.node (gM P (nat_lit 342))
(.node ⟨(.type "tuple"), none, (.seq #[] (nat_lit 0)), #[]⟩
.nil .nil) .nil) (.node ⟨(.type "tuple"), none, (.seq #[] (nat_lit 0)), #[]⟩
(.node ⟨(.type "tuple"), none, (.seq #[] (nat_lit 0)), #[]⟩
.nil .nil) .nil))) (.node (gM P (nat_lit 118))
(.node (gM P (nat_lit 182))
(.node (gM P (nat_lit 310))
(.node ⟨(.type "tuple"), none, (.seq #[(.str (Str.ofString "world") (nat_lit 1020)), (.str (Str.ofString "one") (nat_lit 1021)), (.str (Str.ofString "other") (nat_lit 1022)), (.str (Str.ofString "here") (nat_lit 1023)), (.str (Str.ofString "there") (nat_lit 1024))] (nat_lit 0)), #[]⟩
.nil .nil) .nil) (.node ⟨(.type "tuple"), none, (.seq #[] (nat_lit 0)), #[]⟩
(.node ⟨(.type "tuple"), none, (.seq #[] (nat_lit 0)), #[]⟩
.nil .nil) .nil)) (.node (gM P (nat_lit 246))
(.node (gM P (nat_lit 374))
(.node ⟨.none, none, (.func ⟨(Str.ofString "selected"), (Str.ofString "ConstReader.selected"), (fdIn (nat_lit 96) (nat_lit 3)).params, .stmts (fdIn (nat_lit 96) (nat_lit 3)).body, (fdIn (nat_lit 96) (nat_lit 3)).scope, (nat_lit 0), [], .none, .none, .none, .none, none, .none, .none, (nat_lit 0)⟩), #[]⟩
.nil .nil) .nil) (.node ⟨(.type "tuple"), none, (.seq #[.none] (nat_lit 0)), #[]⟩
(.node ⟨(.type "function"), none, (.func ⟨(Str.ofString "__init__"), (Str.ofString "Scope.__init__"), (fdIn (nat_lit 101) (nat_lit 0)).params, .stmts (fdIn (nat_lit 101) (nat_lit 0)).body, (fdIn (nat_lit 101) (nat_lit 0)).scope, (nat_lit 3), [], (.ref (nat_lit 751)), .none, .none, (.str (Str.ofString "chancore.scopes") (nat_lit 1279)), none, (.ref (nat_lit 757)), .none, (nat_lit 0)⟩), #[]⟩
.nil .nil) .nil))))) (.node (gM P (nat_lit 30))
(.node (gM P (nat_lit 46))
(.node (gM P (nat_lit 78))
(.node (gM P (nat_lit 142))
(.node (gM P (nat_lit 270))
(.node ⟨(.type "tuple"), none, (.seq #[(.str (Str.ofString "world") (nat_lit 953)), (.str (Str.ofString "told") (nat_lit 954)), (.str (Str.ofString "levels") (nat_lit 955)), (.str (Str.ofString "found") (nat_lit 956)), (.str (Str.ofString "reached") (nat_lit 957)), (.str (Str.ofString "base") (nat_lit 958)), (.str (Str.ofString "name") (nat_lit 959)), (.str (Str.ofString "func") (nat_lit 960))] (nat_lit 0)), #[]⟩
.nil .nil) (.node ⟨(.type "tuple"), none, (.seq #[] (nat_lit 0)), #[]⟩
.nil .nil)) (.node (gM P (nat_lit 398))
(.node ⟨(.type "tuple"), none, (.seq #[] (nat_lit 0)), #[]⟩
.nil .nil) .nil)) (.node (gM P (nat_lit 206))
(.node (gM P (nat_lit 334))
(.node ⟨.none, none, (.func ⟨(Str.ofString "is_const_assignable"), (Str.ofString "is_const_assignable"), (fdTop (nat_lit 89)).params, .stmts (fdTop (nat_lit 89)).body, (fdTop (nat_lit 89)).scope, (nat_lit 0), [], .none, .none, .none, .none, none, .none, .none, (nat_lit 0)⟩), #[]⟩
.nil .nil) .nil) (.node ⟨(.type "tuple"), none, (.seq #[(.str (Str.ofString "op") (nat_lit 872)), (.str (Str.ofString "value") (nat_lit 873)), (.str (Str.ofString "kind") (nat_lit 874))] (nat_lit 0)), #[]⟩
(.node ⟨(.type "tuple"), none, (.seq #[(.str (Str.ofString "world") (nat_lit 1268)), (.str (Str.ofString "package") (nat_lit 1269)), (.str (Str.ofString "scope") (nat_lit 1270)), (.str (Str.ofString "typex") (nat_lit 1271)), (.str (Str.ofString "told") (nat_lit 1272))] (nat_lit 0)), #[]⟩
.nil .nil) .nil))) (.node (gM P (nat_lit 110))
(.node (gM P (nat_lit 174))
(.node (gM P (nat_lit 302))
(.node ⟨.none, none, (.fields #[]), #[]⟩
.nil .nil) (.node ⟨(.type "getset_descriptor"), none, (.fields #[(.str (Str.ofString "__weakref__") (nat_lit 1409)), (.ref (nat_lit 812)), (.builtin "ExceptionGroup.__weakref__"), .none]), #[]⟩
.nil .nil)) (.node ⟨(.type "function"), none, (.func ⟨(Str.ofString "is_unsigned"), (Str.ofString "is_unsigned"), (fdTop (nat_lit 64)).params, .stmts (fdTop (nat_lit 64)).body, (fdTop (nat_lit 64)).scope, (nat_lit 3), [], .none, .none, .none, (.str (Str.ofString "chancore.consts") (nat_lit 780)), none, (.ref (nat_lit 429)), .none, (nat_lit 0)⟩), #[]⟩
(.node ⟨(.type "function"), none, (.func ⟨(Str.ofString "extreme"), (Str.ofString "ConstReader.extreme"), (fdIn (nat_lit 96) (nat_lit 11)).params, .stmts (fdIn (nat_lit 96) (nat_lit 11)).body, (fdIn (nat_lit 96) (nat_lit 11)).scope, (nat_lit 3), [], .none, .none, .none, (.str (Str.ofString "chancore.const_exprs") (nat_lit 1058)), none, (.ref (nat_lit 685)), .none, (nat_lit 0)⟩), #[]⟩
.nil .nil) .nil)) (.node (gM P (nat_lit 238))
(.node (gM P (nat_lit 366))
(.node ⟨(.type "tuple"), none, (.seq #[] (nat_lit 0)), #[]⟩
.nil .nil) .nil) (.node ⟨(.type "function"), none, (.func ⟨(Str.ofString "const_compared"), (Str.ofString "const_compared"), (fdTop (nat_lit 73)).params, .stmts (fdTop (nat_lit 73)).body, (fdTop (nat_lit 73)).scope, (nat_lit 3), [], .none, .none, .none, (.str (Str.ofString "chancore.consts") (nat_lit 780)), none, (.ref (nat_lit 493)), .none, (nat_lit 0)⟩), #[]⟩
(.node ⟨(.type "frame"), none, .plain, #[some (.ref (nat_lit 749)), some (.ref (nat_lit 3)), some (.ref (nat_lit 746)), none, some (.str (Str.ofString "chancore.scopes") (nat_lit 1279)), none, some (.ref (nat_lit 0))]⟩
.nil .nil) .nil)))) (.node (gM P (nat_lit 62))
(.node (gM P (nat_lit 94))
(.node (gM P (nat_lit 158))
(.node (gM P (nat_lit 286))
(.node ⟨(.type "function"), none, (.func ⟨(Str.ofString "is_in_set"), (Str.ofString "is_in_set"), (fdTop (nat_lit 81)).params, .stmts (fdTop (nat_lit 81)).body, (fdTop (nat_lit 81)).scope, (nat_lit 3), [], .none, .none, .none, (.str (Str.ofString "chancore.method_sets") (nat_lit 948)), none, (.ref (nat_lit 541)), .none, (nat_lit 0)⟩), #[]⟩
.nil .nil) (.node ⟨(.type "tuple"), none, (.seq #[(.str (Str.ofString "self") (nat_lit 1389)), (.str (Str.ofString "found") (nat_lit 1390)), (.str (Str.ofString "name") (nat_lit 1391)), (.str (Str.ofString "row") (nat_lit 1392))] (nat_lit 0)), #[]⟩
.nil .nil)) (.node (gM P (nat_lit 414))
(.node ⟨(.type "tuple"), none, (.seq #[(.str (Str.ofString "self") (nat_lit 1197)), (.str (Str.ofString "e") (nat_lit 1198)), (.str (Str.ofString "name") (nat_lit 1199)), (.str (Str.ofString "spot") (nat_lit 1200)), (.str (Str.ofString "many") (nat_lit 1201)), (.str (Str.ofString "told") (nat_lit 1202)), (.str (Str.ofString "value") (nat_lit 1203))] (nat_lit 0)), #[]⟩
.nil .nil) .nil)) (.node (gM P (nat_lit 222))
(.node (gM P (nat_lit 350))
(.node ⟨.none, none, (.fields #[]), #[]⟩
.nil .nil) .nil) (.node ⟨.none, none, (.func ⟨(Str.ofString "const_shift"), (Str.ofString "const_shift"), (fdTop (nat_lit 71)).params, .stmts (fdTop (nat_lit 71)).body, (fdTop (nat_lit 71)).scope, (nat_lit 0), [], .none, .none, .none, .none, none, .none, .none, (nat_lit 0)⟩), #[]⟩
(.node ⟨.none, none, (.func ⟨(Str.ofString "__init__"), (Str.ofString "ScopeRow.__init__"), (fdIn (nat_lit 100) (nat_lit 0)).params, .stmts (fdIn (nat_lit 100) (nat_lit 0)).body, (fdIn (nat_lit 100) (nat_lit 0)).scope, (nat_lit 0), [], .none, .none, .none, .none, none, .none, .none, (nat_lit 0)⟩), #[]⟩
.nil .nil) .nil))) (.node (gM P (nat_lit 126))
(.node (gM P (nat_lit 190))
(.node (gM P (nat_lit 318))
(.node ⟨(.type "tuple"), none, (.seq #[] (nat_lit 0)), #[]⟩
.nil .nil) .nil) (.node ⟨.none, none, (.fields #[]), #[]⟩
(.node ⟨(.type "dict"), none, (.dict #[⟨PyData.keyHash P (Str.ofString "__module__"), (.str (Str.ofString "__module__") (nat_lit 1080)), (.str (Str.ofString "chancore.const_exprs") (nat_lit 1058))⟩, ⟨PyData.keyHash P (Str.ofString "__firstlineno__"), (.str (Str.ofString "__firstlineno__") (nat_lit 1084)), (.int (526) (nat_lit 1083))⟩, ⟨PyData.keyHash P (Str.ofString "__init__"), (.str (Str.ofString "__init__") (nat_lit 1095)), (.ref (nat_lit 611))⟩, ⟨PyData.keyHash P (Str.ofString "read"), (.str (Str.ofString "read") (nat_lit 1105)), (.ref (nat_lit 618))⟩, ⟨PyData.keyHash P (Str.ofString "named"), (.str (Str.ofString "named") (nat_lit 1115)), (.ref (nat_lit 625))⟩, ⟨PyData.keyHash P (Str.ofString "selected"), (.str (Str.ofString "selected") (nat_lit 1127)), (.ref (nat_lit 632))⟩, ⟨PyData.keyHash P (Str.ofString "kind_of"), (.str (Str.ofString "kind_of") (nat_lit 1136)), (.ref (nat_lit 639))⟩, ⟨PyData.keyHash P (Str.ofString "of_one"), (.str (Str.ofString "of_one") (nat_lit 1148)), (.ref (nat_lit 646))⟩, ⟨PyData.keyHash P (Str.ofString "of_two"), (.str (Str.ofString "of_two") (nat_lit 1165)), (.ref (nat_lit 653))⟩, ⟨PyData.keyHash P (Str.ofString "common"), (.str (Str.ofString "common") (nat_lit 1177)), (.ref (nat_lit 660))⟩, ⟨PyData.keyHash P (Str.ofString "called"), (.str (Str.ofString "called") (nat_lit 1193)), (.ref (nat_lit 667))⟩, ⟨PyData.keyHash P (Str.ofString "size"), (.str (Str.ofString "size") (nat_lit 1206)), (.ref (nat_lit 674))⟩, ⟨PyData.keyHash P (Str.ofString "array_size"), (.str (Str.ofString "array_size") (nat_lit 1217)), (.ref (nat_lit 681))⟩, ⟨PyData.keyHash P (Str.ofString "extreme"), (.str (Str.ofString "extreme") (nat_lit 1223)), (.ref (nat_lit 686))⟩, ⟨PyData.keyHash P (Str.ofString "wanted"), (.str (Str.ofString "wanted") (nat_lit 1231)), (.ref (nat_lit 693))⟩, ⟨PyData.keyHash P (Str.ofString "reckoned"), (.str (Str.ofString "reckoned") (nat_lit 1241)), (.ref (nat_lit 700))⟩, ⟨PyData.keyHash P (Str.ofString "__static_attributes__"), (.str (Str.ofString "__static_attributes__") (nat_lit 1246)), (.ref (nat_lit 701))⟩, ⟨PyData.keyHash P (Str.ofString "__dict__"), (.str (Str.ofString "__dict__") (nat_lit 1248)), (.ref (nat_lit 704))⟩, ⟨PyData.keyHash P (Str.ofString "__weakref__"), (.str (Str.ofString "__weakref__") (nat_lit 1250)), (.ref (nat_lit 705))⟩, ⟨PyData.keyHash P (Str.ofString "__doc__"), (.str (Str.ofString "__doc__") (nat_lit 1251)), .none⟩] (nat_lit 4)), #[]⟩
.nil .nil) .nil)) (.node (gM P (nat_lit 254))
(.node (gM P (nat_lit 382))
(.node ⟨(.type "code"), none, (.fields #[(.str (Str.ofString "kind_of") (nat_lit 1128)), (.str (Str.ofString "ConstReader.kind_of") (nat_lit 1129)), (.str (Str.ofString "/claim/cut.py") (nat_lit 1130)), (.int (570) (nat_lit 0)), (.int (2) (nat_lit 0)), (.int (0) (nat_lit 0)), (.int (0) (nat_lit 0)), (.int (3) (nat_lit 0)), (.ref (nat_lit 633)), (.bool true), (.int (181) (nat_lit 0)), (.ref (nat_lit 634)), .none, (.ref (nat_lit 635)), (.ref (nat_lit 636)), (.ref (nat_lit 637)), (.int (1134) (nat_lit 0)), (.int (570) (nat_lit 0)), (.str (Str.ofString "/claim/cut.py") (nat_lit 1135))]), #[]⟩
.nil .nil) .nil) (.node ⟨(.type "tuple"), none, (.seq #[] (nat_lit 0)), #[]⟩
(.node ⟨(.type "function"), none, (.func ⟨(Str.ofString "declare"), (Str.ofString "Scope.declare"), (fdIn (nat_lit 101) (nat_lit 1)).params, .stmts (fdIn (nat_lit 101) (nat_lit 1)).body, (fdIn (nat_lit 101) (nat_lit 1)).scope, (nat_lit 3), [], (.ref (nat_lit 759)), .none, .none, (.str (Str.ofString "chancore.scopes") (nat_lit 1279)), none, (.ref (nat_lit 765)), .none, (nat_lit 0)⟩), #[]⟩
.nil .nil) .nil)))))))))
noncomputable def TM (w : World) (os : OsState) : SharedT := ⟨treeM w.params, (nat_lit 423), {}, #[], {}, (nat_lit 813), os⟩
noncomputable def TN (w : World) (os : OsState) : SharedT := ⟨treeN w.params, (nat_lit 817), {}, #[], {}, (nat_lit 1414), os⟩
noncomputable abbrev posM : Pos := ⟨327, 0, 327, 4⟩
noncomputable abbrev posN : Pos := ⟨690, 0, 733, 16⟩
noncomputable def runA (w : World) (os : OsState) : Option (Flow × SharedT × Code × Pos) := segRunT treeTable pw w 11 ann0 1 3500 (TB w os) (piecesOf (bodyP.take 60) env0 codeP q0 [topFrame q0])
noncomputable def runB (w : World) (os : OsState) : Option (Flow × SharedT × Code × Pos) := segRunT treeTable pw w 11 ann0 1 2500 (TM w os) (piecesOf ((bodyP.drop 60).take 42) env0 codeP posM [topFrame q0])
noncomputable def runC (w : World) (os : OsState) : Option (Flow × SharedT × Code × Pos) := segRunT treeTable pw w 11 ann0 1 2000 (TN w os) (piecesOf ((bodyP.drop 60).drop 42) env0 codeP posN [topFrame q0])
/-- what the first part of the top leaves -/
noncomputable abbrev CompA (w : World) : Prop := ∀ os : OsState, runA w os = some (.next, TM w os, codeP, posM)
/-- what the second part leaves -/
noncomputable abbrev CompB (w : World) : Prop := ∀ os : OsState, runB w os = some (.next, TN w os, codeP, posN)
/-- what the third part shows -/
noncomputable abbrev CompC (Kf : Params → Frag) (w : World) : Prop := ∀ os : OsState, (runC w os).map (fun r => (r.1, r.2.2.1, r.2.2.2, okA w r.2.1.abs, lookB r.2.1.abs, r.2.1.n, (Kf w.params).map fun p => r.2.1.tree.get p.1)) =
  some (.next, codeP, posE, true, openGood qv loose0, 1077, (Kf w.params).map fun p => some p.2)

end
-- HB6
section
open PySem PySem.W PyProof.Rows PySem.Calls
theorem kT {tb : String → Option Builtin} {p : Program} {w : World} {N n : Nat} {a : Option Value} {s₀ s : Shared} (z : ((s₀.heap.isNs mainGlobals && s₀.gens.size == 0), s₀.heap.objs.size, s₀.heap.nsMap mainGlobals "__annotations__") = (true, n, a))
    (h : topRun tb p w n a N s₀ (topStub p) = some s) (hA : (staticsOk (importedModules p.main.body) s₀.heap s.heap && namesBound p s.heap && gensDone s && laidKept s₀.heap s.heap) = true)
    (e : fencedOpening tb p w N = some s₀) : openEnds tb p w N = some s := by
  obtain ⟨z1, z2, z3⟩ : _ ∧ _ ∧ _ := by simpa only [Prod.mk.injEq] using z
  unfold openEnds
  rw [e]
  show topFrom tb p w N s₀ = _
  unfold topFrom
  rw [z1, z2, z3, h]
  show (match _ with | true => some s | false => none) = _
  rw [hA]
theorem kB {tb : String → Option Builtin} {p : Program} {w : World} {N : Nat} {a : Heap} {b : Array GenState} {c : Drawn} {d : Nat} (e : Option.map (fun s => (s.heap, s.gens, s.drawn, s.toks)) (fencedOpening tb p w N) = some (a, b, c, d)) :
    ∃ os, fencedOpening tb p w N = some ⟨a, b, c, d, os⟩ := by
  obtain ⟨⟨h, gs, d', k, os⟩, e1, e'⟩ := Option.map_eq_some_iff.mp e
  simp only [Prod.mk.injEq] at e'
  obtain ⟨rfl, rfl, rfl, rfl⟩ := e'
  exact ⟨os, e1⟩
theorem kA (w : World) (os : OsState) {S : SharedT} (eA : runA w os = some (.next, TM w os, codeP, posM)) (eB : runB w os = some (.next, TN w os, codeP, posN)) (eC : runC w os = some (.next, S, codeP, posE)) : topRun treeTable pw w 11 ann0 8015 (S0 w os) (topStub pw) = some S.abs := by
  have t1 := piece_app (segRun_of eA) (piece_app (segRun_of eB) (piece_app (segRun_of eC) (piece_nil (env := env0) (fin0 w S.abs))))
  rw [List.append_nil, List.take_append_drop, List.take_append_drop] at t1
  exact go_top (pre w os) (piece_block (blk w os) t1)
theorem kO (w : World) (os : OsState) {s : Shared} (hA : okA w s = true) : (staticsOk (importedModules pw.main.body) (S0 w os).heap s.heap && namesBound pw s.heap && gensDone s && laidKept (S0 w os).heap s.heap) = true := by
  unfold okA at hA
  unfold S0
  exact hA
theorem kS (w : World) (os : OsState) : (((S0 w os).heap.isNs mainGlobals && (S0 w os).gens.size == 0), (S0 w os).heap.objs.size, (S0 w os).heap.nsMap mainGlobals "__annotations__") = (true, 11, ann0) := by
  unfold S0
  exact size0 w
theorem kC (w : World) (os : OsState) {S : SharedT} (eA : runA w os = some (.next, TM w os, codeP, posM)) (eB : runB w os = some (.next, TN w os, codeP, posN)) (eC : runC w os = some (.next, S, codeP, posE)) (hA : okA w S.abs = true) (e : fencedOpening treeTable pw w 8015 = some (S0 w os)) : openEnds treeTable pw w 8015 = some S.abs :=
  kT (kS w os) (kA w os eA eB eC) (kO w os hA) e
theorem gets2 {t : BT} {n : Nat} {life : Life} : ∀ {K : Frag}, (K.map fun p => t.get p.1) = (K.map fun p => some p.2) → (K.all fun p => Nat.blt p.1 n && !p.2.isFreed) = true → (K.map (·.1)).map (absHeap t n life).get? = K.map fun p => some p.2
  | [], _, _ => rfl
  | (b, x) :: K, h, hk => by
    simp only [List.map_cons, List.cons.injEq] at h ⊢
    simp only [List.all_cons, Bool.and_eq_true] at hk
    refine ⟨?_, gets2 h.2 hk.2⟩
    rw [abs_get (Nat.le_of_ble_eq_true hk.1.1) h.1]
    have hf : x.isFreed = false := by simpa using hk.1.2
    obtain ⟨_, _, d, _⟩ := x
    cases d <;> first | rfl | cases hf
theorem left1 (Kf : Params → Frag) (kAs : List Addr) (hAs : ∀ P, kAs = (Kf P).map (·.1)) (compA : ∀ w, CompA w) (compB : ∀ w, CompB w) (compC : ∀ w, CompC Kf w) (hk : ∀ P, ((Kf P).all fun p => Nat.blt p.1 1077 && !p.2.isFreed) = true) :
    LeftO pw qv loose0 xt0 (fun s => kAs.map s.heap.get?) (fun w => (Kf w.params).map fun p => some p.2) 8015 := fun w => by
  obtain ⟨os, e⟩ := kB (boot0 w)
  obtain ⟨⟨f, S, c, pos⟩, er, ee⟩ := Option.map_eq_some_iff.mp (compC w os)
  simp only [Prod.mk.injEq] at ee
  obtain ⟨rfl, rfl, rfl, hA, hB, hn, hK⟩ := ee
  rw [kC w os (compA w os) (compB w os) er hA e]
  refine congrArg some (Prod.ext hB ?_)
  have := gets2 (life := S.life) hK (hk w.params)
  rw [← hn, ← hAs] at this
  exact this
theorem hd (Kf : Params → Frag) (kAs : List Addr) (hAs : ∀ P, kAs = (Kf P).map (·.1)) (compA : ∀ w, CompA w) (compB : ∀ w, CompB w) (compC : ∀ w, CompC Kf w) (hk : ∀ P, ((Kf P).all fun p => Nat.blt p.1 1077 && !p.2.isFreed) = true) (ws : OpenLaw.wellSaid PySem.Challenge.rw_xm0190_01 = true)
    (call : WalkO qv loose0 (XL qv []) (fun w h => (Kf w.params).In h) rowL.toRowW dLaw [] (fun f vs => PySem.call f vs)) : PySem.Challenge.rw_xm0190_01.Holds :=
  holds_law ws fun said => holds_open (q := qv) (loose := loose0) (Xt := xt0) (XP := XL qv []) (left1 Kf kAs hAs compA compB compC hk)
    (fun w s e => Frag.in_of (hAs w.params) e) (fun w h h' x k => Frag.In.keeps x k) (fun s e => xl_of s (Bool.and_eq_true_iff.mp e).1) XL.keeps
    hdef0 hp0 hk0 (fun s e => recFacts_of (Bool.and_eq_true_iff.mp e).2) (by rfl) said ok0 hb0 hw0 call

end
-- CMP
section
open PySem PySem.W PyProof.Rows PySem.Calls
noncomputable def Kf (P : Params) : Frag := Kb P ++ [((nat_lit 717), tabObj #[]), ((nat_lit 1045), tabObj #[]), ((nat_lit 1052), tabObj #[]), ((nat_lit 1057), tabObj #[])]
theorem compA_f (w : World) : CompA (w.withFollow "special-get-raises" false) := by
  intro os
  unfold runA
  rw [PySem.W.Fast.te10110043849684766642, PySem.W.Fast.te14364793385576792824]
  kernel_rfl
theorem compA_t (w : World) : CompA (w.withFollow "special-get-raises" true) := by
  intro os
  unfold runA
  rw [PySem.W.Fast.te10110043849684766642, PySem.W.Fast.te14364793385576792824]
  kernel_rfl
theorem compA_all : ∀ w, CompA w := byRow2 "special-get-raises" compA_f compA_t
theorem compB_all (w : World) : CompB w := by
  intro os
  unfold runB
  rw [PySem.W.Fast.te10110043849684766642, PySem.W.Fast.te14364793385576792824]
  kernel_rfl
theorem compC_all (w : World) : CompC Kf w := by
  intro os
  unfold runC lookB openGood
  rw [PySem.W.Fast.te10110043849684766642, PySem.W.Fast.te14364793385576792824, PySem.W.Fast.te4187177175401517315]
  kernel_rfl
noncomputable def kAs0 : List Addr := [3, 27, 28, 34, 35, 43, 49, 50, 51, 52, 53, 54, 64, 65, 66, 76, 77, 78, 88, 89, 90, 132, 133, 202, 203, 209, 210, 222, 223, 236, 237, 243, 244, 248, 249, 255, 256, 262, 263, 269, 270, 276, 277, 281, 282, 283, 284, 285, 286, 287, 294, 296, 338, 339, 352, 353, 373, 374, 394, 395, 399, 400, 406, 407, 413, 414, 420, 421, 721, 722, 735, 736, 737, 738, 739, 740, 741, 751, 757, 758, 759, 765, 766, 772, 773, 779, 780, 781, 787, 788, 794, 795, 801, 802, 808, 809, 810, 811, 812, 813, 814, 825, 831, 832, 833, 839, 840, 841, 847, 848, 854, 855, 861, 862, 868, 869, 875, 876, 882, 883, 889, 890, 891, 897, 898, 899, 905, 906, 912, 913, 919, 920, 926, 927, 928, 929, 930, 931, 932, 935, 936, 937, 950, 951, 952, 953, 954, 955, 956, 964, 965, 973, 979, 980, 986, 987, 993, 994, 995, 996, 997, 998, 999, 1007, 1008, 1014, 1015, 1021, 1022, 1028, 1029, 1035, 1036, 1042, 1043, 1049, 1050, 1054, 1055, 1061, 1062, 1068, 1069, 1075, 1076, 717, 1045, 1052, 1057]
theorem hAs0 : ∀ P, kAs0 = (Kf P).map (·.1) := fun P => by kernel_rfl!
theorem hk0' : ∀ P, ((Kf P).all fun p => Nat.blt p.1 1077 && !p.2.isFreed) = true := fun P => by kernel_rfl!

end
-- WA
section
open PySem PySem.W PyProof.Rows PySem.Calls
noncomputable abbrev lst2 (a b : Int) (ta tb : Tok) (n : Nat) : Obj := W.listOf #[.int a ta, .int b tb] n
/-- a reel: two ints within bounds -/
noncomputable def Reel (o : Obj) : Prop := ∃ a b ta tb n, o = lst2 a b ta tb n ∧ 0 ≤ a ∧ 0 ≤ b ∧ b < 2147483647
/-- a contract of the def at f -/
noncomputable abbrev Ctr (prog : Program) (w : World) (p : Program) (loose : List Str) (mean : ExcName → Option Value) (mg mb : Str → Option Value) (f : Addr) (args : List Value) (news : List (Addr × Obj)) (k : Nat) (Post : Value → List (Addr × Obj) → Prop) : Prop :=
  ∀ (dp un : Nat) (gd : Option (List Code)) (cn : Str) (cs : PySem.Scope) (ad : Addr) (ccd : Value) (cl : List (Str × Addr)) (outer : List Env) (A₀ : Around) (base h₀ : Heap) (L : Addr) (m : Str → Option Value) (s : Shared) (Q E : Value → Shared → Prop),
    Below A₀ base outer h₀ → Fr h₀ L s.heap m → (Mine.Kb w.params).In h₀ → News h₀ L s.heap news → Top p loose mean mg mb h₀ → cs.kind = .function → dp + k < recursionLimit → un + 8 * k < cLine →
    (∀ v news' h' tk', Post v news' → Fr h₀ L h' m → News h₀ L h' news' → Q v { s with heap := h', toks := tk' }) →
    wpAny (model prog w) (ktrTop dp un gd cn cs L ad ccd cl outer) (call (.ref f) args) Q E s
abbrev pw' : Program := PySem.Challenge.pw_xm0190_01
section
variable {w : World} {p : Program} {loose : List Str} {mean : ExcName → Option Value} {mg mb : Str → Option Value}
theorem ctr_sub {f : Addr} {args : List Value} {news news2 : List (Addr × Obj)} {k : Nat} {Post : Value → List (Addr × Obj) → Prop} (C : Ctr pw' w p loose mean mg mb f args news k Post) (h : ∀ q ∈ news, q ∈ news2) : Ctr pw' w p loose mean mg mb f args news2 k Post :=
  fun dp un gd cn cs ad ccd cl outer A₀ base h₀ L m s Q E B F X N T hk hd hu hret => C dp un gd cn cs ad ccd cl outer A₀ base h₀ L m s Q E B F X (fun q hq => N q (h q hq)) T hk hd hu hret
theorem g0 {x y d : Int} : [x, y].getD (Int.toNat 0) d = x := rfl
theorem g1 {x y d : Int} : [x, y].getD (Int.toNat 1) d = y := rfl
theorem fm1 (x : Int) : x.fmod 2147483647 = x % 2147483647 := Int.fmod_eq_emod_of_nonneg _ (by decide)
theorem fm2 (x : Int) : x.fmod 2147483629 = x % 2147483629 := Int.fmod_eq_emod_of_nonneg _ (by decide)
theorem fd3 (x : Int) : x.fdiv 32 = x / 32 := Int.fdiv_eq_ediv_of_nonneg _ (by decide)
theorem mul_b {prog : Program} {w : World} {A : Around} {E : Value → Shared → Prop} {s : Shared} {a b : Int} {t u : Tok} {Q : Value → Shared → Prop} (h0 : 0 ≤ a) (h1 : a < 2147483648)
    (h : Q (Value.int (a * b) s.toks) { s with toks := s.toks + 1 }) : wpAny (model prog w) A (binaryOp Operator.Mult (Value.int a t) (Value.int b u)) Q E s :=
  PyProof.Rows.mul_int h (.of_left (intBits_le_64 (by omega) (by omega)))
section
theorem words_3 : True := by
  k_with_none
  k_with "k_all" => assumption
  k_with "binaryOp Mult int int" => (refine mul_b (by (simp only [g0, g1, fm1, fm2, fd3]; omega)) (by (simp only [g0, g1, fm1, fm2, fd3]; omega)) ?_)
  trivial
theorem wound_ok (many : Int) (hm : 0 < many) (hm2 : many < 1000) (tm : Tok) (rl : Addr) (o : Obj) (ho : Reel o) (rest : List (Addr × Obj)) (hr : ∀ q ∈ rest, q.1 ≠ rl) :
    Ctr pw' w p loose mean mg mb 1015 [.ref rl, .int many tm] ((rl, o) :: rest) 1 (fun v news' => ∃ d t o', v = .int d t ∧ 0 ≤ d ∧ d < many ∧ Reel o' ∧ news' = (rl, o') :: rest) := by
  intro dp un gd cn cs ad ccd cl outer A₀ base h₀ L m s Q E B F X N T hk hd hu hret
  obtain ⟨a, b, ta, tb, n, rfl, ha, hb, hb2⟩ := ho
  refine wpAny_call ?_
  k_dflt ktr_enter
  k_dflt (show wpAny _ _ (execs (List.cons _ _) _) _ _ _)
  k_steps
  all_goals (simp only [g0, g1, fm1, fm2, fd3, Int.fmod_eq_emod_of_nonneg _ (Int.le_of_lt hm), Int.fdiv_eq_ediv_of_nonneg _ (Int.le_of_lt hm)] at *)
  all_goals (refine hret _ _ _ _ ⟨_, _, _, rfl, Int.emod_nonneg _ (by omega), Int.emod_lt_of_pos _ hm, ⟨_, _, _, _, _, rfl, ?_, ?_, ?_⟩, rfl⟩ (by assumption) (by assumption))
  all_goals first | omega | exact Int.ediv_nonneg ha (by omega)
end
/-- the wound, used at a call -/
theorem wound_use (pre : List (Addr × Obj)) {post : List (Addr × Obj)} {many : Int} {tm : Tok} {rl : Addr} {o : Obj} {dp un : Nat} {gd : Option (List Code)} {cn : Str} {cs : PySem.Scope} {ad : Addr} {ccd : Value} {cl : List (Str × Addr)} {outer : List Env} {A₀ : Around} {base h₀ : Heap} {L : Addr} {m : Str → Option Value} {s : Shared} {Q E : Value → Shared → Prop}
    (B : Below A₀ base outer h₀) (F : Fr h₀ L s.heap m) (X : (Mine.Kb w.params).In h₀) (N : News h₀ L s.heap (pre ++ (rl, o) :: post)) (T : Top p loose mean mg mb h₀) (ho : Reel o) (hm : 0 < many) (hm2 : many < 1000) (h1 : ∀ q ∈ pre, q.1 ≠ rl) (h2 : ∀ q ∈ post, q.1 ≠ rl)
    (hk : cs.kind = .function) (hd : dp + 1 < recursionLimit) (hu : un + 8 * 1 < cLine)
    (hret : ∀ d t o' h' tk', 0 ≤ d → d < many → Reel o' → Fr h₀ L h' m → News h₀ L h' (pre ++ (rl, o') :: post) → Q (.int d t) { s with heap := h', toks := tk' }) :
    wpAny (model pw' w) (ktrTop dp un gd cn cs L ad ccd cl outer) (call (.ref 1015) [.ref rl, .int many tm]) Q E s := by
  refine wound_ok many hm hm2 tm rl o ho (pre ++ post) (fun q hq => (List.mem_append.mp hq).elim (h1 q) (h2 q)) dp un gd cn cs ad ccd cl outer A₀ base h₀ L m s Q E B F X (fun q hq => N q ?_) T hk hd hu ?_
  · rcases List.mem_cons.mp hq with rfl | hq
    · exact List.mem_append_right _ (.head _)
    · exact (List.mem_append.mp hq).elim (List.mem_append_left _) fun h => List.mem_append_right _ (.tail _ h)
  · rintro v news' h' tk' ⟨d, t, o', rfl, h0, h1', hR, rfl⟩ F' N'
    refine hret d t o' h' tk' h0 h1' hR F' fun q hq => N' q ?_
    rcases List.mem_append.mp hq with h | h
    · exact .tail _ (List.mem_append_left _ h)
    · rcases List.mem_cons.mp h with rfl | h
      · exact .head _
      · exact .tail _ (List.mem_append_right _ h)
end

end
-- EX1
section
open PySem PySem.W PySem.Calls
open Sem (wp)
section
variable {prog : Program} {w : World} {A : Around} {R : Result → Shared → Prop} {E : Value → Shared → Prop} {h : Heap} {g : Array GenState} {d : Drawn} {t : Nat} {os : OsState}
variable {nm q : Str} {C N A1 : Addr} {bs : List Value} {hdct : Bool} {sn : List Str} {sub : List Value} {ab : Bool} {col : Option Bool} {dd : Option Addr} {k0 k1 k2 k3 k5 : Option Value} {B newId initId : String} {bmB : List Value}
noncomputable abbrev tlOf (A1 : Addr) (bmB : List Value) : List Value := .ref A1 :: bmB
theorem tl_has {X : String} {b : Bool} (hb : bmB.contains (.type X) = b) : (Value.ref C :: tlOf A1 bmB).contains (.type X) = b := by
  rw [List.contains_cons, List.contains_cons, hb]; rfl
theorem check_new3 (F : ExcBaseFacts B newId initId bmB) {M : Model} {rest : List Value} {Q : Unit → Shared → Prop}
    (hC : h.get? C = some (excClassObj nm q C N bs (tlOf A1 bmB) hdct sn sub ab col dd k0 k1 k2 k3 k5 newId)) (hq : Q () ⟨h, g, d, t, os⟩) :
    wpAny M A (checkBuiltinCall newId ⟨.ref C :: rest, []⟩) Q E ⟨h, g, d, t, os⟩ := by
  have hcont := tl_has (C := C) (A1 := A1) F.hasB
  have hstar := F.noStar
  simp only [checkBuiltinCall, F.newKind, F.newSplit, F.newRow]
  repeat (first | refine wpAny_loadPart_at hC ?_ | (refine wpAny_isSubtype_exc hC ?_; rw [hcont]) | refine wpAny_staticBase_exc hC ?_ | refine wpAny_madeBy_exc hC ?_ | simp only [bne_self_eq_false, Bool.false_eq_true, if_false] | wp_step)
  exact hq
theorem exc_new3 (F : ExcBaseFacts B newId initId bmB) {rest : List Value} (hC : h.get? C = some (excClassObj nm q C N bs (tlOf A1 bmB) hdct sn sub ab col dd k0 k1 k2 k3 k5 newId))
    (hq : R (.ok (.ret (.ref (h.objs.size + 1)))) ⟨(h.push { cls := .type "tuple", data := .seq rest.toArray }).push { cls := .ref C, data := .fields #[.ref h.objs.size, .none, .none, .none, .bool false, .none] }, g, d, t, os⟩) (hrest : rest.length ≤ sizeLine) :
    codeAny (model prog w) A (.builtin newId ⟨.ref C :: rest, []⟩) R ⟨h, g, d, t, os⟩ := by
  have hends := F.ends
  have hcB := tl_has (C := C) (A1 := A1) F.hasB
  have hcA := tl_has (C := C) (A1 := A1) F.noAttr
  have hcN := tl_has (C := C) (A1 := A1) F.noName
  refine codeAny_builtinAt F.entry ?_
  unfold Builtin.«BaseException.__new__»
  refine wpAt_bind ?_
  show wpAt _ _ _ (stack >>= _) _ _ _
  refine wpAt_bind (wpAt_stack fun p below => wpAt_of_wpAny ?_)
  wp_walk
  refine wpAt_of_wpAny ?_
  rw [F.owner]
  repeat (first | with_reducible refine wpAny_madeHere_exc F.canon hC ?_ | with_reducible refine wpAny_loadPart_at hC ?_ | (with_reducible refine wpAny_isSubtype_exc hC ?_; first | rw [hcB] | rw [hcA] | rw [hcN]) | wp_step)
  show R _ _
  rw [Heap.size_push]
  exact hq
theorem type_call3 (F : ExcBaseFacts B newId initId bmB) {K : Frag} {rest : List Value} {fI : Addr} {oI : Obj} {Q : Fin → Shared → Prop}
    (hC : h.get? C = some (excClassObj nm q C N bs (tlOf A1 bmB) hdct sn sub ab col dd k0 k1 k2 k3 k5 newId)) (XK : K.In h) (hi : findIn K (.ref C) "__init__" = some (some (.ref fI)))
    (hfI : h.get? fI = some oI) (hfc : oI.cls = .type "function")
    (hq : ∀ h' e, Heap.MadeExcOf h h' e (.ref C) rest →
      wpAny (model prog w) A (call (.ref fI) (.ref e :: rest)) (fun r s' => r = .none ∧ Q (.done (.ret (.ref e))) s') E ⟨h', g, d, t, os⟩) (hrest : rest.length ≤ sizeLine := by size_fits) :
    wpAny (model prog w) A (Builtin.«type.__call__» ⟨.ref C :: rest, []⟩) Q E ⟨h, g, d, t, os⟩ := by
  repeat (first | with_reducible refine wpAny_loadPart_at hC ?_ | with_reducible refine wpAny_madeBy_exc hC ?_ | wp_step)
  refine codeAny_call_builtin_code (Code.quiet_builtin _ F.quiet) (check_new3 F hC ?_)
  refine exc_new3 F hC ?_ hrest
  show wpAny _ _ _ _ _ _
  have up : ∀ b o, h.get? b = some o → ((h.push { cls := .type "tuple", data := .seq rest.toArray }).push { cls := .ref C, data := .fields #[.ref h.objs.size, .none, .none, .none, .bool false, .none] }).get? b = some o :=
    fun b o e => Heap.get?_push_of_some _ (Heap.get?_push_of_some _ e)
  have hC₁ := up _ _ hC
  have hfI₁ := up _ _ hfI
  have hget : ((h.push { cls := .type "tuple", data := .seq rest.toArray }).push
      { cls := .ref C, data := .fields #[.ref h.objs.size, .none, .none, .none, .bool false, .none] }).get? (h.objs.size + 1) = some
      { cls := .ref C, data := .fields #[.ref h.objs.size, .none, .none, .none, .bool false, .none] } := by heap_get
  have hcC : (Value.ref C :: tlOf A1 bmB).contains (.ref C) = true := by simp
  unfold isInstance
  repeat (first | with_reducible refine wpAny_loadPart_at hget ?_ | (with_reducible refine wpAny_isSubtype_exc hC₁ ?_; rw [hcC]) | wp_step)
  show wpAny _ _ (typeLookup (.ref C) _) _ _ _
  refine (looks_findIn (XK.keeps up) hi).here ?_
  refine wpAny_holding (wpAny_bind ?_)
  unfold bindSpecial
  refine wpAny_bind (wpAny_typeOf (T := "function") ⟨_, hfI₁, hfc⟩ ?_)
  rw [if_pos (by decide)]
  refine wpAny_pure (wpAny_bind (wpAny_mono (hq _ (h.objs.size + 1) ⟨up, Heap.get?_none_of_le (Nat.le_succ _), h.objs.size, hget, Heap.get?_none_of_le (Nat.le_refl _), ?_⟩) (fun r s' hr => ?_) fun _ _ x => x))
  · exact Heap.get?_push_of_some _ (Heap.get?_push_at rfl rfl)
  · obtain ⟨rfl, hQ⟩ := hr
    wp_walk
    exact hQ
theorem call3 (F : ExcBaseFacts B newId initId bmB) {K : Frag} {rest : List Value} {fI : Addr} {oI : Obj} {Q : Value → Shared → Prop}
    (hC : h.get? C = some (excClassObj nm q C N bs (tlOf A1 bmB) hdct sn sub ab col dd k0 k1 k2 k3 k5 newId)) (XK : K.In h) (hi : findIn K (.ref C) "__init__" = some (some (.ref fI)))
    (hfI : h.get? fI = some oI) (hfc : oI.cls = .type "function")
    (hq : ∀ h' e, Heap.MadeExcOf h h' e (.ref C) rest →
      wpAny (model prog w) (A.under (.builtin "type.__call__" ⟨.ref C :: rest, []⟩)) (call (.ref fI) (.ref e :: rest)) (fun r s' => r = .none ∧ Q (.ref e) s') E ⟨h', g, d, t, os⟩) (hrest : rest.length ≤ sizeLine := by size_fits) :
    wpAny (model prog w) A (call (.ref C) rest) Q E ⟨h, g, d, t, os⟩ := by
  have f1 := tc_lookup
  have f2 := tc_bind (.ref C)
  have hT : (⟨h, g, d, t, os⟩ : Shared).TypeIs (.ref C) "type" := ⟨_, hC, rfl⟩
  refine wpAny_call (codeAny_of_tree ?_)
  show wpAny _ _ (callAny (.ref C) _) _ _ _
  repeat (any_goals (first | assumption | with_reducible refine wpAny_loadPart_at hC ?_ | wp_step))
  refine ⟨rfl, ?_⟩
  refine codeAny_call_builtin_at (Code.quiet_builtin _ (by decide +kernel)) entry_typeCall (wpAny_check_type_call_sub hC (type_call3 (hrest := hrest) F hC XK hi hfI hfc fun h' e hm => ?_))
  exact hq h' e hm
/-- `raise C(args)` of a class that inherits a Python __init__ -/
theorem raise3 {env : Env} {s : Shared} {x : Sem Value} {Q : Flow → Shared → Prop} {oe : Obj} (hB : bmB.contains (.type "BaseException") = true) (hh : A.handled = none)
    (h : wpAny (model prog w) A x (fun v s₁ => ∃ e oe t r, v = .ref e ∧ s₁.heap.get? C = some (excClassObj nm q C N bs (tlOf A1 bmB) hdct sn sub ab col dd k0 k1 k2 k3 k5 newId) ∧
      s₁.heap.get? e = some oe ∧ oe.cls = .ref C ∧ oe.data = .fields #[.ref t, .none, .none, .none, .bool false, r] ∧ E (.ref e) s₁) E s) :
    wpAny (model prog w) A (raiseStmt env (some x) none) Q E s := by
  have hcB := tl_has (C := C) (A1 := A1) hB
  unfold raiseStmt
  refine wpAny_bind (wpAny_mono h (fun v s₁ h₁ => ?_) fun _ _ x => x)
  obtain ⟨e, oe, t, r, rfl, hC, he, hc, hd, hE⟩ := h₁
  obtain ⟨hp, g, d, tk, os⟩ := s₁
  obtain ⟨c1, d1, dt1, sl1⟩ := oe
  dsimp only at hc hd
  subst hc hd
  repeat (first | with_reducible refine wpAny_loadPart_at he ?_ | with_reducible refine wpAny_loadPart_at hC ?_ | (with_reducible refine wpAny_isSubtype_exc hC ?_; rw [hcB]) | wp_step)
  exact wpAny_raiseNew_none hh hE
end

end
-- EX2
section
open PySem PySem.W PySem.Calls
open Sem (wp)
section
variable {M : Model} {A : Around} {E : Value → Shared → Prop} {s : Shared}
/-- a raised exception on its way: its class, its own dict, its arguments; behind base and the frames l; fl: the frame that its newest entry names -/
noncomputable def Fly (base : Heap) (l : List Env) (e : Addr) (C a0 : Value) (dd : Option Addr) (fl : Value) (h : Heap) : Prop :=
  base.StaysIn h ∧ base.get? e = none ∧ h.FunFrames base l ∧ ∃ oe vs T oT ts, h.get? e = some oe ∧ oe.cls = C ∧ oe.dict = dd ∧ oe.data = .fields vs ∧ vs[0]? = some a0 ∧ vs[1]? = some (.ref T) ∧
    base.get? T = none ∧ T ≠ e ∧ h.get? T = some oT ∧ oT.data = .fields ts ∧ ts[3]? = some fl
theorem dict_mapFields (o : Obj) (f : Array Value → Array Value) : (o.mapFields f).dict = o.dict := by
  obtain ⟨c, d, dt, sl⟩ := o
  cases dt <;> rfl
/-- what a change of a record spares -/
theorem rec_spares {h : Heap} {a : Addr} {o : Obj} {vs : Array Value} (f : Array Value → Array Value) (ha : h.get? a = some o) (hd : o.data = .fields vs) :
    (∀ b x, b ≠ a → h.get? b = some x → (h.update a (Obj.mapFields f)).get? b = some x) ∧ (∀ b x, h.get? b = some x → (∀ v, x.data ≠ .fields v) → (h.update a (Obj.mapFields f)).get? b = some x) ∧
    (h.update a (Obj.mapFields f)).get? a = some (o.mapFields f) := by
  have one : ∀ b x, b ≠ a → h.get? b = some x → (h.update a (Obj.mapFields f)).get? b = some x := fun b x n q => (Heap.get?_update_other _ _ (Ne.symm n)).trans q
  refine ⟨one, fun b x q n => one b x (fun z => ?_) q, Heap.get?_update_self _ ha (Obj.isFreed_of_fields (Obj.data_mapFields hd _))⟩
  rw [z, ha] at q
  cases q
  exact n _ hd
theorem entry_fly {base : Heap} {env : Env} {outer : List Env} {L e : Addr} {oe : Obj} {vs : Array Value} {head a0 : Value} {hadNext : Bool} {Q : Unit → Shared → Prop}
    (hfr : A.frames = some (env :: outer)) (hl : s.heap.FunFrames base (env :: outer)) (hf : env.frame = some L) (he : s.heap.get? e = some oe) (hkb : base.StaysIn s.heap) (hen : base.get? e = none)
    (hd : oe.data = .fields vs) (hsz : 1 < vs.size) (h0 : vs[0]? = some a0)
    (h : ∀ h', Fly base (env :: outer) e oe.cls a0 oe.dict (rawInt L) h' → s.heap.UpToSlots h' → Q () { s with heap := h' }) :
    wpAny M A (do let a ← frameOf env; let pl ← entryPlaceOf L hadNext; let b ← EntryCells.newEntry head a .none (rawInt L) .none pl; setField (.ref e) 1 b) Q E s := by
  have nfe : e ∉ (env :: outer).filterMap (·.frame) := fun hm => by
    obtain ⟨_, o, ho, hn⟩ := hl.mem hm
    rw [he] at ho
    cases ho
    exact hn vs hd
  refine wpAny_bind (wpAny_frameOf_fun hfr hl hf fun h₁ hs => ?_)
  refine wpAny_bind (wpAny_entryPlaceOf fun pl hpl => ?_)
  unfold EntryCells.newEntry newFields
  refine wpAny_bind (wpAny_newObj_type ?_ (hpl.sizeOk5 _ _ _ _ _))
  generalize hts : ([head, .ref L, .none, rawInt L, .none] ++ (if pl.isEmpty then List.replicate 6 Value.none else pl)).toArray = ts
  have h3 : ts[3]? = some (rawInt L) := by subst hts; rcases hpl with rfl | ⟨_, _, _, _, _, _, _, rfl⟩ <;> simp
  have e₁ : h₁.get? e = some oe := (hs.2.1 e nfe).trans he
  have st₁ : base.StaysIn h₁ := fun b o q => (hs.2.1 b fun hm => by rw [(hl.mem hm).1] at q; cases q).trans (hkb b o q)
  have nT : h₁.objs.size ≠ e := Nat.ne_of_gt (Heap.lt_size e₁)
  have e₂ := Heap.get?_push_of_some (h := h₁) { cls := .type "traceback", dict := none, data := .fields ts } e₁
  obtain ⟨k1, k2, k3⟩ := rec_spares (·.setIfInBounds 1 (Value.ref h₁.objs.size)) e₂ hd
  have all : ∀ b o, s.heap.get? b = some o → (∀ v, o.data ≠ .fields v) → ∃ sl, ((h₁.push { cls := .type "traceback", dict := none, data := .fields ts }).update e (Obj.mapFields (·.setIfInBounds 1 (Value.ref h₁.objs.size)))).get? b = some { o with slots := sl } := fun b o q n => by
    obtain ⟨sl, q₁⟩ := hs.2.2 b o q
    exact ⟨sl, k2 b _ (Heap.get?_push_of_some _ q₁) n⟩
  refine wpAny_setField e₂ hd hsz (h _ ⟨fun b o q => k1 b o (fun z => by rw [z, hen] at q; cases q) (Heap.get?_push_of_some _ (st₁ b o q)), hen, hl.of_keeps fun b o q n => ?_, ?_⟩ all)
  · obtain ⟨sl, q'⟩ := all b o q n
    exact ⟨_, q', rfl⟩
  · exact ⟨_, _, h₁.objs.size, _, ts, k3, Obj.cls_mapFields _ _, dict_mapFields _ _, Obj.data_mapFields hd _, by rw [Array.getElem?_setIfInBounds_ne (by decide)]; exact h0, by simp [hsz], st₁.fresh, nT,
      k1 _ _ nT (Heap.get?_push_size h₁ rfl), rfl, h3⟩
theorem note_first {base : Heap} {env : Env} {outer : List Env} {L e : Addr} {oe : Obj} {vs : Array Value} {a0 : Value} {Q : Unit → Shared → Prop}
    (hfr : A.frames = some (env :: outer)) (hl : s.heap.FunFrames base (env :: outer)) (hf : env.frame = some L) (he : s.heap.get? e = some oe) (hkb : base.StaysIn s.heap) (hen : base.get? e = none)
    (hd : oe.data = .fields vs) (h1 : vs[1]? = some .none) (h0 : vs[0]? = some a0)
    (h : ∀ h', Fly base (env :: outer) e oe.cls a0 oe.dict (rawInt L) h' → s.heap.UpToSlots h' → Q () { s with heap := h' }) : wpAny M A (noteFrame (.ref e) env) Q E s := by
  unfold noteFrame
  simp only [hf]
  refine wpAny_bind (wpAny_field he hd h1 ?_)
  rw [if_neg (by decide)]
  exact entry_fly hfr hl hf he hkb hen hd (Array.getElem?_eq_some_iff.mp h1).1 h0 h
theorem note_next {base : Heap} {env : Env} {outer : List Env} {L e : Addr} {C a0 : Value} {dd : Option Addr} {Q : Unit → Shared → Prop}
    (hfr : A.frames = some (env :: outer)) (hf : env.frame = some L) (F : Fly base (env :: outer) e C a0 dd .none s.heap)
    (h : ∀ h', Fly base (env :: outer) e C a0 dd (rawInt L) h' → s.heap.UpToSlots h' → Q () { s with heap := h' }) : wpAny M A (noteFrame (.ref e) env) Q E s := by
  obtain ⟨st, hen, hl, oe, vs, T, oT, ts, he, rfl, rfl, hd, h0, h1, nT, hTe, hT, hdT, h3⟩ := F
  unfold noteFrame
  simp only [hf]
  refine wpAny_bind (wpAny_field he hd h1 ?_)
  rw [if_pos (show (Value.ref T != Value.none) = true from by simp)]
  refine wpAny_bind (wpAny_field hT hdT h3 ?_)
  rw [if_neg (show ¬ ((Value.none == rawInt L) = true) from by simp [rawInt])]
  refine wpAny_bind (wpAny_setField hT hdT (Array.getElem?_eq_some_iff.mp h3).1 ?_)
  obtain ⟨k1, k2, _⟩ := rec_spares (·.setIfInBounds 3 Value.none) hT hdT
  refine entry_fly hfr (hl.of_keeps fun b o q n => ⟨o, k2 b o q n, rfl⟩) hf (k1 _ _ (Ne.symm hTe) he) (fun b o q => k1 b o (fun z => by rw [z, nT] at q; cases q) (st b o q)) hen hd (Array.getElem?_eq_some_iff.mp h1).1 h0
    fun h' x y => h h' x (Heap.UpToSlots.trans (fun b o q n => ⟨o.slots, k2 b o q n⟩) y)
theorem flight_fly {base : Heap} {l : List Env} {e : Addr} {C a0 fl : Value} {dd : Option Addr} {Q : Unit → Shared → Prop} (F : Fly base l e C a0 dd fl s.heap)
    (h : ∀ h', Fly base l e C a0 dd .none h' → s.heap.UpToSlots h' → Q () { s with heap := h' }) : wpAny M A (setFlight (.ref e) none) Q E s := by
  obtain ⟨st, hen, hl, oe, vs, T, oT, ts, he, hc, hdd, hd, h0, h1, nT, hTe, hT, hdT, h3⟩ := F
  have hsz := (Array.getElem?_eq_some_iff.mp h3).1
  unfold setFlight
  refine wpAny_bind (wpAny_field he hd h1 ?_)
  rw [if_pos (show (Value.ref T != Value.none) = true from by simp)]
  obtain ⟨k1, k2, k3⟩ := rec_spares (·.setIfInBounds 3 ((none : Option Addr).elim Value.none fun f => rawInt f)) hT hdT
  refine wpAny_setField hT hdT hsz (h _ ⟨fun b o q => k1 b o (fun z => by rw [z, nT] at q; cases q) (st b o q), hen, hl.of_keeps fun b o q n => ⟨o, k2 b o q n, rfl⟩, ?_⟩ fun b o q n => ⟨o.slots, k2 b o q n⟩)
  exact ⟨oe, vs, T, _, _, k1 _ _ (Ne.symm hTe) he, hc, hdd, hd, h0, h1, nT, hTe, k3, Obj.data_mapFields hdT _, by simp [hsz]⟩
theorem Fly.tail {base : Heap} {env : Env} {outer : List Env} {e : Addr} {C a0 fl : Value} {dd : Option Addr} {h : Heap} (F : Fly base (env :: outer) e C a0 dd fl h) : Fly base outer e C a0 dd fl h :=
  let ⟨st, hen, ⟨_, _, hl⟩, r⟩ := F; ⟨st, hen, hl, r⟩
theorem leave_first {base : Heap} {env : Env} {outer : List Env} {L e : Addr} {oe : Obj} {vs : Array Value} {a0 : Value} {Q : Unit → Shared → Prop}
    (hfr : A.frames = some (env :: outer)) (hl : s.heap.FunFrames base (env :: outer)) (hf : env.frame = some L) (he : s.heap.get? e = some oe) (hkb : base.StaysIn s.heap) (hen : base.get? e = none)
    (hd : oe.data = .fields vs) (h1 : vs[1]? = some .none) (h0 : vs[0]? = some a0)
    (h : ∀ h', Fly base outer e oe.cls a0 oe.dict .none h' → s.heap.UpToSlots h' → Q () { s with heap := h' }) : wpAny M A (leaving env (.ref e)) Q E s := by
  unfold leaving
  refine wpAny_bind (note_first hfr hl hf he hkb hen hd h1 h0 fun h' F u => flight_fly F fun h'' F' u' => h h'' F'.tail (u.trans u'))
theorem leave_next {base : Heap} {env : Env} {outer : List Env} {L e : Addr} {C a0 : Value} {dd : Option Addr} {Q : Unit → Shared → Prop}
    (hfr : A.frames = some (env :: outer)) (hf : env.frame = some L) (F : Fly base (env :: outer) e C a0 dd .none s.heap)
    (h : ∀ h', Fly base outer e C a0 dd .none h' → s.heap.UpToSlots h' → Q () { s with heap := h' }) : wpAny M A (leaving env (.ref e)) Q E s := by
  unfold leaving
  refine wpAny_bind (note_next hfr hf F fun h' F u => flight_fly F fun h'' F' u' => h h'' F'.tail (u.trans u'))
end

end
-- EX3
section
open PySem PySem.W PySem.Calls
open Sem (wp)
open Builtin Builtin.ObjectAttr
noncomputable abbrev bmE : List Value := [.type "Exception", .type "BaseException", .type "object"]
noncomputable def nmE : List Str := ["__getattribute__", "__getattr__", "__setattr__", "message", "spot"]
/-- an exception class C beneath the class A1 that has the Python __init__ fI -/
structure XC (h : Heap) (C A1 fI : Addr) : Prop where
  obj : ∃ nm q N bs sn sub ab col dd k0 k1 k2 k3 k5, h.get? C = some (excClassObj nm q C N bs (tlOf A1 bmE) true sn sub ab col dd k0 k1 k2 k3 k5 "Exception.__new__")
  own : ∃ K : Frag, K.In h ∧ findIn K (.ref C) "__init__" = some (some (.ref fI)) ∧ ∀ n ∈ nmE, findIn K (.ref C) n = fastLookup "Exception" n
  fn : ∃ oI, h.get? fI = some oI ∧ oI.cls = .type "function"
theorem XC.keeps {h h' : Heap} {C A1 fI : Addr} (X : XC h C A1 fI) (k : ∀ b o, h.get? b = some o → h'.get? b = some o) : XC h' C A1 fI := by
  obtain ⟨⟨nm, q, N, bs, sn, sub, ab, col, dd, k0, k1, k2, k3, k5, a⟩, ⟨K, b, c⟩, ⟨oI, i, j⟩⟩ := X
  exact ⟨⟨nm, q, N, bs, sn, sub, ab, col, dd, k0, k1, k2, k3, k5, k _ _ a⟩, ⟨K, b.keeps k, c⟩, ⟨oI, k _ _ i, j⟩⟩
section
variable {prog : Program} {w : World} {A : Around} {R : Result → Shared → Prop} {E : Value → Shared → Prop} {h : Heap} {g : Array GenState} {d : Drawn} {t : Nat} {os : OsState} {C A1 fI x : Addr} {ox : Obj} {name : Str} {v : Value}
theorem look3 {M : Model} (X : XC h C A1 fI) {n : Str} {y : Option Value} {Q : Option Value → Shared → Prop} (hn : n ∈ nmE) (hB : fastLookup "Exception" n = some y) (hq : Q y ⟨h, g, d, t, os⟩) :
    wpAny M A (typeLookup (.ref C) n) Q E ⟨h, g, d, t, os⟩ := by
  obtain ⟨K, XK, _, k⟩ := X.own
  exact (looks_findIn XK ((k n hn).trans hB)).here hq
theorem lk_ga : fastLookup "Exception" "__getattribute__" = some (some (.builtin "BaseException.__getattribute__")) := by kernel_rfl
theorem lk_gt : fastLookup "Exception" "__getattr__" = some none := by kernel_rfl
theorem lk_st : fastLookup "Exception" "__setattr__" = some (some (.builtin "object.__setattr__")) := by kernel_rfl
theorem lk_sp : fastLookup "Exception" "spot" = some none := by kernel_rfl
theorem lk_ms : fastLookup "Exception" "message" = some none := by kernel_rfl
theorem cont3 {X : String} {b : Bool} (hb : bmE.contains (.type X) = b) : (Value.ref C :: tlOf A1 bmE).contains (.type X) = b := tl_has hb
theorem check_sa3 {M : Model} {nameV : Value} {Q : Unit → Shared → Prop} (X : XC h C A1 fI) (hx : h.get? x = some ox) (hc : ox.cls = .ref C) (hq : Q () ⟨h, g, d, t, os⟩) :
    wpAny M A (checkBuiltinCall "object.__setattr__" ⟨[.ref x, nameV, v], []⟩) Q E ⟨h, g, d, t, os⟩ := by
  obtain ⟨⟨nm, q, N, bs, sn, sub, ab, col, dd, k0, k1, k2, k3, k5, hC⟩, _, _⟩ := X
  have SF := PySem.F.store_Exception
  have hcB : (Value.ref C :: tlOf A1 bmE).contains (.type "object") = true := cont3 (by decide)
  have ha := SF.args (.ref x) nameV v
  simp only [checkBuiltinCall, SF.kind, SF.split]
  refine wpAny_bind ?_
  unfold isInstance
  repeat (first | (with_reducible refine wpAny_loadPart_at hx ?_; rw [hc]) | (with_reducible refine wpAny_isSubtype_exc hC ?_; rw [hcB]) | wp_step)
  exact hq
/-- the first attribute of an exception: its dict is made -/
theorem sa_first {tk : Tok} {Q : Fin → Shared → Prop} (X : XC h C A1 fI) (hn : name ∈ nmE) (hB : fastLookup "Exception" name = some none) (hx : h.get? x = some ox) (hc : ox.cls = .ref C) {vs : Array Value} (hd : ox.data = .fields vs) (hdn : ox.dict = none)
    (hq : ∀ h' tk', (∀ b o, b ≠ x → h.get? b = some o → h'.get? b = some o) → h'.get? x = some { ox with dict := some h.objs.size } → h'.Ns1 h.objs.size (fun y => if y = name then some v else none) → Q (.done (.ret .none)) ⟨h', g, d, tk', os⟩) :
    wpAny (model prog w) A (Builtin.«object.__setattr__» ⟨[.ref x, .str name tk, v], []⟩) Q E ⟨h, g, d, t, os⟩ := by
  obtain ⟨nm, q, N, bs, sn, sub, ab, col, dd, k0, k1, k2, k3, k5, hC⟩ := X.obj
  have SF := PySem.F.store_Exception
  have hpass := SF.passes (.ref x)
  unfold Builtin.«object.__setattr__»
  repeat (first | rw [refuse_eq] | (rw [refuseLoop_ref, refuseLoop_ref, hpass]) | (with_reducible refine wpAny_loadPart_at hx ?_; rw [hc]) | with_reducible refine wpAny_mroOf_exc hC ?_ | (with_reducible refine look3 X hn hB ?_) | wp_step)
  rw [hdn, if_neg (by simp [typeHasDict])]
  rw [hd]
  dsimp only
  have hx₁ : (h.push { cls := .type "dict", data := .dict #[] }).get? x = some ox := Heap.get?_push_of_some _ hx
  have hxs : x ≠ h.objs.size := Nat.ne_of_lt (Heap.lt_size hx)
  refine wpAny_bind (wpAny_alloc' ?_)
  refine wpAny_bind (wpAny_update' hx₁ ?_)
  refine wpAny_pure ?_
  have hgd : ((h.push { cls := .type "dict", data := .dict #[] }).update x fun o => { cls := o.cls, dict := some h.objs.size, data := o.data, slots := o.slots }).get? h.objs.size = some { cls := .type "dict", data := .dict #[] } :=
    (Heap.get?_update_ne _ _ _ _ hxs.symm).trans (Heap.get?_push_at rfl rfl)
  have hnd : ((h.push { cls := .type "dict", data := .dict #[] }).update x fun o => { cls := o.cls, dict := some h.objs.size, data := o.data, slots := o.slots }).Ns h.objs.size (fun _ => none) :=
    ⟨_, #[], _, hgd, rfl, fun e he => absurd he (by simp), fun _ => rfl⟩
  show wpAny _ _ (storeInDict h.objs.size (.str name tk) name v) _ _ _
  unfold storeInDict newKeyGuard
  refine wpAny_bind (wpAny_pure (wpAny_bind (wpAny_nsSet1 (Heap.Ns1.of_empty hnd) fun h' hn' hs => ?_)))
  obtain ⟨oD, esD, epD, hoD, hdD, hcD⟩ := hn'.count (Within.cons name v Within.nil)
  refine wpAny_bind (wpAny_lookBehind hoD (by rw [hdD]; exact pastItsLine_dict (Nat.le_trans hcD (by rw [List.length_cons, List.length_nil, sizeLine_eq]; omega))) ?_)
  wp_walk
  refine hq h' _ (fun b o hbx hb => (hs.2 b (Nat.ne_of_lt (Heap.lt_size hb))).trans ((Heap.get?_update_ne _ _ _ _ hbx).trans (Heap.get?_push_of_some _ hb))) ?_ hn'
  refine (hs.2 x hxs).trans (Heap.get?_update_self _ hx₁ ?_)
  have hfr := (Heap.get?_some_iff.mp hx).2
  obtain ⟨oc, od, odt, osl⟩ := ox
  dsimp only at hd
  subst hd
  rfl
/-- a further attribute -/
theorem sa_next {tk : Tok} {Q : Fin → Shared → Prop} {dx : Addr} {mA : Str → Option Value} {ns : List Str} (X : XC h C A1 fI) (hn : name ∈ nmE) (hB : fastLookup "Exception" name = some none) (hx : h.get? x = some ox) (hc : ox.cls = .ref C) (hdx : ox.dict = some dx) (hns : h.Ns1 dx mA)
    (hw : Within mA ns) (hsz : ns.length ≤ 10)
    (hq : ∀ h' tk', (∀ b o, b ≠ dx → h.get? b = some o → h'.get? b = some o) → h'.Ns1 dx (fun y => if y = name then some v else mA y) → Q (.done (.ret .none)) ⟨h', g, d, tk', os⟩) :
    wpAny (model prog w) A (Builtin.«object.__setattr__» ⟨[.ref x, .str name tk, v], []⟩) Q E ⟨h, g, d, t, os⟩ := by
  obtain ⟨nm, q, N, bs, sn, sub, ab, col, dd, k0, k1, k2, k3, k5, hC⟩ := X.obj
  have SF := PySem.F.store_Exception
  have hpass := SF.passes (.ref x)
  unfold Builtin.«object.__setattr__»
  repeat (first | rw [refuse_eq] | (rw [refuseLoop_ref, refuseLoop_ref, hpass]) | (with_reducible refine wpAny_loadPart_at hx ?_; rw [hc]) | with_reducible refine wpAny_mroOf_exc hC ?_ | (with_reducible refine look3 X hn hB ?_) | wp_step)
  rw [hdx]
  refine wpAny_pure ?_
  show wpAny _ _ (storeInDict dx (.str name tk) name v) _ _ _
  unfold storeInDict newKeyGuard
  refine wpAny_bind (wpAny_pure (wpAny_bind (wpAny_nsSet1 hns fun h' hn' hs => ?_)))
  obtain ⟨oD, esD, epD, hoD, hdD, hcD⟩ := hn'.count (Within.cons name v hw)
  refine wpAny_bind (wpAny_lookBehind hoD (by rw [hdD]; exact pastItsLine_dict (Nat.le_trans hcD (by rw [List.length_cons, sizeLine_eq]; omega))) ?_)
  wp_walk
  exact hq h' _ (fun b o hb e => (hs.2 b hb).trans e) hn'
theorem set_first {Q : Unit → Shared → Prop} (X : XC h C A1 fI) (hn : name ∈ nmE) (hB : fastLookup "Exception" name = some none) (hx : h.get? x = some ox) (hc : ox.cls = .ref C) {vs : Array Value} (hd : ox.data = .fields vs) (hdn : ox.dict = none)
    (hq : ∀ h' tk', (∀ b o, b ≠ x → h.get? b = some o → h'.get? b = some o) → h'.get? x = some { ox with dict := some h.objs.size } → h'.Ns1 h.objs.size (fun y => if y = name then some v else none) → Q () ⟨h', g, d, tk', os⟩) :
    wpAny (model prog w) A (setAttr (.ref x) name v) Q E ⟨h, g, d, t, os⟩ := by
  have SF := PySem.F.store_Exception
  have f3 := SF.slot.bind (.ref x)
  unfold setAttr callSpecial? specialOf
  repeat (any_goals (first | assumption | (with_reducible refine wpAny_loadPart_at hx ?_; rw [hc]) | (with_reducible refine look3 X (by decide) lk_st ?_) | wp_step))
  refine codeAny_call_builtin SF.slot.plain SF.entry (check_sa3 X hx hc (sa_first X hn hB hx hc hd hdn fun h' tk' a b c => ?_))
  repeat (any_goals (first | assumption | wp_step))
  exact hq h' tk' a b c
theorem set_next {Q : Unit → Shared → Prop} {dx : Addr} {mA : Str → Option Value} {ns : List Str} (X : XC h C A1 fI) (hn : name ∈ nmE) (hB : fastLookup "Exception" name = some none) (hx : h.get? x = some ox) (hc : ox.cls = .ref C) (hdx : ox.dict = some dx) (hns : h.Ns1 dx mA)
    (hw : Within mA ns) (hsz : ns.length ≤ 10)
    (hq : ∀ h' tk', (∀ b o, b ≠ dx → h.get? b = some o → h'.get? b = some o) → h'.Ns1 dx (fun y => if y = name then some v else mA y) → Q () ⟨h', g, d, tk', os⟩) :
    wpAny (model prog w) A (setAttr (.ref x) name v) Q E ⟨h, g, d, t, os⟩ := by
  have SF := PySem.F.store_Exception
  have f3 := SF.slot.bind (.ref x)
  unfold setAttr callSpecial? specialOf
  repeat (any_goals (first | assumption | (with_reducible refine wpAny_loadPart_at hx ?_; rw [hc]) | (with_reducible refine look3 X (by decide) lk_st ?_) | wp_step))
  refine codeAny_call_builtin SF.slot.plain SF.entry (check_sa3 X hx hc (sa_next X hn hB hx hc hdx hns hw hsz fun h' tk' a b => ?_))
  repeat (any_goals (first | assumption | wp_step))
  exact hq h' tk' a b
/-- reading an own attribute of an exception -/
theorem check_ga3 {M : Model} {nameV : Value} {Q : Unit → Shared → Prop} (X : XC h C A1 fI) (hx : h.get? x = some ox) (hc : ox.cls = .ref C) (hq : Q () ⟨h, g, d, t, os⟩) :
    wpAny M A (checkBuiltinCall "BaseException.__getattribute__" ⟨[.ref x, nameV], []⟩) Q E ⟨h, g, d, t, os⟩ := by
  obtain ⟨⟨nm, q, N, bs, sn, sub, ab, col, dd, k0, k1, k2, k3, k5, hC⟩, _, _⟩ := X
  have hk : builtinKind "BaseException.__getattribute__" = some .slot := by decide +kernel
  have hsplit : splitId "BaseException.__getattribute__" = some ("BaseException", "__getattribute__") := by decide +kernel
  have hcB : (Value.ref C :: tlOf A1 bmE).contains (.type "BaseException") = true := cont3 (by decide)
  have ha := PySem.F.args_bexc_ga (.ref x) nameV
  simp only [checkBuiltinCall, hk, hsplit]
  refine wpAny_bind ?_
  unfold isInstance
  repeat (first | (with_reducible refine wpAny_loadPart_at hx ?_; rw [hc]) | (with_reducible refine wpAny_isSubtype_exc hC ?_; rw [hcB]) | wp_step)
  exact hq
theorem ga_entry3 {tk : Tok} {Q : Fin → Shared → Prop} {dx : Addr} {mA : Str → Option Value} {vs : Array Value} (X : XC h C A1 fI) (hn : name ∈ nmE) (hB : fastLookup "Exception" name = some none) (hx : h.get? x = some ox) (hc : ox.cls = .ref C) (hd : ox.data = .fields vs) (hdx : ox.dict = some dx) (hns : h.Ns dx mA) (hv : mA name = some v)
    (hq : Q (.done (.ret v)) ⟨h, g, d, t, os⟩) : wpAny (model prog w) A (Builtin.«object.__getattribute__» ⟨[.ref x, .str name tk], []⟩) Q E ⟨h, g, d, t, os⟩ := by
  obtain ⟨nm, q, N, bs, sn, sub, ab, col, dd, k0, k1, k2, k3, k5, hC⟩ := X.obj
  unfold Builtin.«object.__getattribute__»
  repeat (first | (with_reducible refine wpAny_loadPart_at hx ?_; rw [hc]) | (with_reducible refine look3 X hn hB ?_) | wp_step)
  rw [hd]
  dsimp only
  unfold instanceDict
  repeat (first | (with_reducible refine wpAny_loadPart_at hx ?_; rw [hc]) | with_reducible refine wpAny_loadPart_at hC ?_ | wp_step)
  rw [hdx]
  repeat (first | (with_reducible refine wpAny_nsGet hns ?_; rw [hv]) | wp_step)
  exact hq
theorem get3 {expr : Bool} {Q : Value → Shared → Prop} {dx : Addr} {mA : Str → Option Value} {vs : Array Value} (X : XC h C A1 fI) (hn : name ∈ nmE) (hB : fastLookup "Exception" name = some none) (hx : h.get? x = some ox) (hc : ox.cls = .ref C) (hd : ox.data = .fields vs) (hdx : ox.dict = some dx) (hns : h.Ns dx mA) (hv : mA name = some v)
    (hh : handedOut v = pure v) (hq : Q v ⟨h, g, d, t + 1, os⟩) : wpAny (model prog w) A (getAttr (.ref x) name expr) Q E ⟨h, g, d, t, os⟩ := by
  have FB := PySem.F.attrBase_Exception
  have f3 := FB.ga.bind (.ref x)
  have hx0 : (expr && onTheHeap (Value.builtin "BaseException.__getattribute__")) = false := by cases expr <;> rfl
  have hx2 : (Value.builtin "BaseException.__getattribute__" == Value.builtin "object.__getattribute__") = false := by decide +kernel
  have hx1 : (onTheHeap (Value.ref C) && Value.builtin "BaseException.__getattribute__" == Value.builtin "object.__getattribute__") = false := by rw [hx2]; rfl
  unfold getAttr
  repeat (any_goals (first | assumption | (with_reducible refine wpAny_loadPart_at hx ?_; rw [hc]) | (with_reducible refine look3 X (by decide) lk_ga ?_) | (with_reducible refine look3 X (by decide) lk_gt ?_) | wp_step))
  refine codeAny_call_builtin FB.ga.plain PySem.F.entry_bexc_ga (check_ga3 X hx hc (ga_entry3 X hn hB hx hc hd hdx hns hv ?_))
  repeat (any_goals (first | assumption | wp_step))
end

end
-- EX4
section
open PySem PySem.W PyProof.Rows PySem.Calls
theorem xc_66 {p : Params} {h : Heap} (X : (Kb p).In h) : XC h 66 53 50 where
  obj := ⟨_, _, _, _, _, _, _, _, _, _, _, _, _, _, X 66 _ rfl⟩
  own := ⟨_, X, by rfl, fun n hn => by
    unfold nmE at hn
    simp only [List.mem_cons, List.not_mem_nil, or_false] at hn
    rcases hn with rfl | rfl | rfl | rfl | rfl <;> kernel_rfl⟩
  fn := ⟨_, X 50 _ rfl, rfl⟩
theorem xc_78 {p : Params} {h : Heap} (X : (Kb p).In h) : XC h 78 53 50 where
  obj := ⟨_, _, _, _, _, _, _, _, _, _, _, _, _, _, X 78 _ rfl⟩
  own := ⟨_, X, by rfl, fun n hn => by
    unfold nmE at hn
    simp only [List.mem_cons, List.not_mem_nil, or_false] at hn
    rcases hn with rfl | rfl | rfl | rfl | rfl <;> kernel_rfl⟩
  fn := ⟨_, X 50 _ rfl, rfl⟩
theorem xc_90 {p : Params} {h : Heap} (X : (Kb p).In h) : XC h 90 53 50 where
  obj := ⟨_, _, _, _, _, _, _, _, _, _, _, _, _, _, X 90 _ rfl⟩
  own := ⟨_, X, by rfl, fun n hn => by
    unfold nmE at hn
    simp only [List.mem_cons, List.not_mem_nil, or_false] at hn
    rcases hn with rfl | rfl | rfl | rfl | rfl <;> kernel_rfl⟩
  fn := ⟨_, X 50 _ rfl, rfl⟩
section
variable {prog : Program} {w : World} {A : Around} {E : Value → Shared → Prop} {h : Heap} {g : Array GenState} {d : Drawn} {t : Nat} {os : OsState} {C A1 fI e : Addr} {oe : Obj}
theorem check_init3 {M : Model} {rest : List Value} {Q : Unit → Shared → Prop} (X : XC h C A1 fI) (he : h.get? e = some oe) (hcls : oe.cls = .ref C) (hq : Q () ⟨h, g, d, t, os⟩) :
    wpAny M A (checkBuiltinCall "Exception.__init__" ⟨.ref e :: rest, []⟩) Q E ⟨h, g, d, t, os⟩ := by
  obtain ⟨⟨nm, q, N, bs, sn, sub, ab, col, dd, k0, k1, k2, k3, k5, hC⟩, _, _⟩ := X
  have F := PySem.F.excBase_Exception
  have hcB : (Value.ref C :: tlOf A1 bmE).contains (.type "Exception") = true := cont3 (by decide)
  have hshort := F.noStar
  simp only [checkBuiltinCall, F.initKind, F.initSplit, F.initRow]
  repeat (first | (with_reducible refine wpAny_loadPart_at he ?_; rw [hcls]) | with_reducible refine wpAny_loadPart_at hC ?_ | (with_reducible refine wpAny_isSubtype_exc hC ?_; rw [hcB]) | wp_step)
  refine wpAny_onRaise ?_
  rw [show ∀ (a b : String) (n : Nat), Bind.check ⟨.positional, "*", "Exception", .self, [⟨"args", .varPos, false⟩]⟩ a b n (List.map (fun x => x.fst) ({ pos := Value.ref e :: rest } : Args).kw) = pure () from
    fun a b n => check_star_args _ _ _ _ _ _]
  exact wpAny_pure hq
theorem init3 {rest : List Value} {Q : Value → Shared → Prop} {t0 : Addr} (X : XC h C A1 fI) (he : h.get? e = some { cls := .ref C, data := .fields #[.ref t0, .none, .none, .none, .bool false, .none] }) (hz : rest.length ≤ sizeLine)
    (hq : ∀ h', (∀ b o, b ≠ e → h.get? b = some o → h'.get? b = some o) → h'.get? e = some { cls := .ref C, data := .fields #[.ref h.objs.size, .none, .none, .none, .bool false, .none] } → Q .none ⟨h', g, d, t, os⟩) :
    wpAny (model prog w) A (call (.builtin "Exception.__init__") (.ref e :: rest)) Q E ⟨h, g, d, t, os⟩ := by
  have F := PySem.F.excBase_Exception
  refine wpAny_call (codeAny_call_builtin F.init.plain F.initEntry (check_init3 X he rfl ?_))
  wp_walk
  refine hq _ (fun b o hb q => ?_) ?_
  · rw [Heap.get?_update_other _ _ (Ne.symm hb)]
    exact Heap.get?_push_of_some _ q
  · rw [Heap.get?_update_self _ (Heap.get?_push_of_some _ he) rfl]
    rfl
end

end
-- EX5
section
open PySem PySem.W PyProof.Rows PySem.Calls
theorem words_4 : True := by
  k_with_none
  k_with "k_steps" => repeat (first | (k_unfold; (try dsimp only)) | (k_end; wrow_close) | walk1 | (dsimp only; walk1) | (leave1; walk_say "STEP leave1"; try dsimp only))
  trivial
/-- an exception of the class C: without a dict, with one -/
noncomputable abbrev exc0 (C t : Addr) : Obj := { cls := .ref C, data := .fields #[.ref t, .none, .none, .none, .bool false, .none] }
noncomputable abbrev exc1 (C t D : Addr) : Obj := { cls := .ref C, dict := some D, data := .fields #[.ref t, .none, .none, .none, .bool false, .none] }
noncomputable def Holds1 (o : Obj) (m : Str → Option Value) : Prop := ∀ (h : Heap) (a : Addr), h.get? a = some o → h.Ns1 a m
section
variable {w : World} {p : Program} {loose : List Str} {mean : ExcName → Option Value} {mg mb : Str → Option Value}
theorem words_5 : True := by
  k_with "ktr_enter" => (refine' code_def ?u88k1 ?u88k2 ?u88k3 ?u88k4 ?u88k5 ?u88kA ?u88kF ?u88kK ?u88k6 ?u88k7 ?u88k8 ?u88k9 ?u88kB ?_ ?u88c2 ?u88c3 ?u88c4 ?u88c5; (case u88kA => exact rfl); (case u88kF => exact rfl); (case u88kK => assumption); (case u88k1 => k_asm); (case u88k2 => k_asm); (case u88k3 => k_asm); (case u88k4 => k_asm); (case u88k5 => k_asm); (case u88k6 => k_is); (case u88k7 => k_is); (case u88k8 => ktr_room); (case u88k9 => first | exact BindsTo.of_eq rfl | exact binds_K (by k_in) rfl (by k_is) rfl rfl rfl); (case u88c5 => decide); (case u88kB => exact locs rfl); (case u88c2 => exact rfl); (case u88c3 => exact rfl); (case u88c4 => exact rfl); k_whole; intro qqg' qqL' qqh' qqFG' qqF' qqN' qqB' qqX' qqT'; (try dsimp only); (try k_fold))
  trivial
theorem upd_head {g h h' : Heap} {L e : Addr} {m : Str → Option Value} {o o' : Obj} {news : List (Addr × Obj)} (F : Fr g L h m) (N : News g L h ((e, o) :: news)) (hap : ∀ q ∈ news, q.1 ≠ e)
    (k1 : ∀ b x, b ≠ e → h.get? b = some x → h'.get? b = some x) (k2 : h'.get? e = some o') : Fr g L h' m ∧ News g L h' ((e, o') :: news) := by
  have z := N _ (.head _)
  refine ⟨⟨?_, fun b x q => k1 b x (fun y => by rw [y, z.2.2] at q; cases q) (F.keep b x q), F.above⟩, ?_⟩
  · obtain ⟨o, es, ep, a, r⟩ := F.ns
    exact ⟨o, es, ep, k1 _ _ (Ne.symm z.2.1) a, r⟩
  · intro q hq
    rcases List.mem_cons.mp hq with rfl | hq
    · exact ⟨k2, z.2⟩
    · exact ⟨k1 _ _ (hap q hq) (N q (.tail _ hq)).1, (N q (.tail _ hq)).2⟩
theorem fresh_size {g h : Heap} {L : Addr} {m : Str → Option Value} (F : Fr g L h m) : g.get? h.objs.size = none := by
  cases q : g.get? h.objs.size with
  | none => rfl
  | some o => exact absurd (Heap.lt_size (F.keep _ _ q)) (Nat.lt_irrefl _)
theorem add_new {g h h' : Heap} {L : Addr} {m : Str → Option Value} {o : Obj} {news : List (Addr × Obj)} (F : Fr g L h m) (N : News g L h' news) (q1 : h'.get? h.objs.size = some o) : News g L h' ((h.objs.size, o) :: news) := by
  intro q hq
  rcases List.mem_cons.mp hq with rfl | hq
  · refine ⟨q1, ?_, fresh_size F⟩
    obtain ⟨o, es, ep, z, r⟩ := F.ns
    exact Ne.symm (Nat.ne_of_lt (Heap.lt_size z))
  · exact N q hq
theorem meta_E : typeOf (.type "Exception") = pure (.type "type") := by kernel_rfl
theorem words_6 : True := by
  k_with "getMethod type:Exception" => (k_here; refine' method_type ?u89F ?u89X ?u89m (by decide +kernel) ?u89e ?u89h ?_; (case u89F => k_asm); (case u89X => k_asm); (case u89m => exact meta_E); (case u89e => k_dflt k_is); (case u89h => k_handed))
  trivial
theorem newX (C : Addr) (msg : Str) (sp : Int) (tm ts : Tok) (news : List (Addr × Obj)) {dp un : Nat} {gd : Option (List Code)} {cn : Str} {cs : PySem.Scope} {ad : Addr} {ccd : Value} {cl : List (Str × Addr)} {outer : List Env} {A₀ : Around} {base h₀ : Heap} {L : Addr} {m : Str → Option Value} {s : Shared} {Q E : Value → Shared → Prop}
    (B : Below A₀ base outer h₀) (F : Fr h₀ L s.heap m) (X : (Mine.Kb w.params).In h₀) (N : News h₀ L s.heap news) (T : Top p loose mean mg mb h₀) (XX : XC h₀ C 53 50) (hi : findIn (Mine.Kb w.params) (.ref C) "__init__" = some (some (.ref 50)))
    (hk : cs.kind = .function) (hd : dp + 3 < recursionLimit) (hu : un + 24 < cLine)
    (h : ∀ e D t oD h' tk', Fr h₀ L h' m → News h₀ L h' ((e, exc1 C t D) :: (D, oD) :: news) → e ≠ D → (∀ q ∈ news, q.1 ≠ e) → Holds1 oD (fun y => if y = "spot" then some (.int sp ts) else if y = "message" then some (.str msg tm) else none) → Q (.ref e) { s with heap := h', toks := tk' }) :
    wpAny (model pw' w) (ktrTop dp un gd cn cs L ad ccd cl outer) (call (.ref C) [.str msg tm, .int sp ts]) Q E s := by
  obtain ⟨hh, g, d, tk, os⟩ := s
  obtain ⟨nm, q, NN, bs, sn, sub, ab, col, dd, k0, k1, k2, k3, k5, hC⟩ := XX.obj
  obtain ⟨oI, hI, hIc⟩ := XX.fn
  refine call3 PySem.F.excBase_Exception (F.keep _ _ hC) (X.keeps F.keep) hi (F.keep _ _ hI) hIc fun h' e Mk => ?_
  obtain ⟨t, he, htn, ht⟩ := Mk.there
  have hte : t ≠ e := by
    rintro rfl
    rw [he] at ht
    cases ht
  have nn : ∀ b, hh.get? b = none → h₀.get? b = none := fun b q => by
    cases z : h₀.get? b with
    | none => rfl
    | some o => rw [F.keep _ _ z] at q; cases q
  have hL : ∀ b, hh.get? b = none → b ≠ L := by
    rintro b q rfl
    obtain ⟨o, _, _, z, _⟩ := F.ns
    rw [z] at q
    cases q
  have F1 : Fr h₀ L h' m := ⟨F.ns.keeps Mk.keeps, fun b o z => Mk.keeps _ _ (F.keep _ _ z), F.above⟩
  have N1 : News h₀ L h' ((e, exc0 C t) :: news) := by
    intro q hq
    rcases List.mem_cons.mp hq with rfl | hq
    · exact ⟨he, hL _ Mk.new, nn _ Mk.new⟩
    · exact ⟨Mk.keeps _ _ (N q hq).1, (N q hq).2⟩
  have N0 := N
  clear N F
  refine wpAny_call ?_
  k_dflt ktr_enter
  k_dflt (show wpAny _ _ (execs (List.cons _ _) _) _ _ _)
  have hap : ∀ q ∈ news, q.1 ≠ e := fun q hq z => by
    have := (N0 q hq).1
    rw [z, Mk.new] at this
    cases this
  k_steps
  rename Fr _ _ _ _ => F2
  rename News _ _ _ _ => N2
  refine init3 (XX.keeps ?kk) (N2 _ (.head _)).1 (by simp [sizeLine_eq]) (fun h3 k1 k2 => ?_)
  case kk => exact fun b o q => F2.keep b o ((by assumption : Fr h₀ L _ m).keep b o q)
  obtain ⟨F3, N3⟩ := upd_head F2 N2 hap k1 k2
  have N3 : ∃ t3, News _ _ h3 ((e, exc0 C t3) :: news) := ⟨_, N3⟩
  obtain ⟨t3, N3⟩ := N3
  clear N2 F2
  (try dsimp only)
  k_steps
  refine set_first (XX.keeps ?kk) (by decide) lk_ms (N3 _ (.head _)).1 rfl rfl rfl (fun h4 tk4 k1 k2 k3 => ?_)
  case kk => exact fun b o q => F3.keep b o ((by assumption : Fr h₀ L _ m).keep b o q)
  obtain ⟨F4, N4⟩ := upd_head F3 N3 hap k1 k2
  obtain ⟨oD, es1, ep1, q1, q2, q3, q4, q5⟩ := k3
  have hfD : ∀ q ∈ news, q.1 ≠ h3.objs.size := fun q hq => Nat.ne_of_lt (Heap.lt_size (N3 q (.tail _ hq)).1)
  have heD : e ≠ h3.objs.size := Nat.ne_of_lt (Heap.lt_size (N3 _ (.head _)).1)
  have N5 := add_new (news := (e, exc1 C t3 h3.objs.size) :: news) F3 N4 q1
  clear N4
  (try dsimp only)
  k_steps
  refine set_next (mA := fun y => if y = "message" then some (.str msg tm) else none) (XX.keeps ?kk) (by decide) lk_sp (N5 _ (.tail _ (.head _))).1 rfl rfl ⟨oD, es1, ep1, q1, q2, q3, q4, q5⟩ (Within.cons "message" _ Within.nil) (by simp) (fun h6 tk6 r1 r2 => ?_)
  case kk => exact fun b o q => F4.keep b o ((by assumption : Fr h₀ L _ m).keep b o q)
  obtain ⟨oE, es2, ep2, p1, p2⟩ := r2
  obtain ⟨F6, N6⟩ := upd_head F4 N5 (fun q hq => by
    rcases List.mem_cons.mp hq with rfl | hq
    · exact heD
    · exact hfD q hq) r1 p1
  clear N5 F4 N3 F3
  (try dsimp only)
  k_steps
  refine h e h3.objs.size t3 oE h6 tk6 (by assumption) (fun q hq => ?_) heD hap (fun hh a ha => ⟨oE, es2, ep2, ha, p2⟩)
  refine (by assumption : News h₀ L h6 _) q ?_
  simp only [List.mem_cons] at hq ⊢
  rcases hq with z | z | z
  · exact .inr (.inl z)
  · exact .inl z
  · exact .inr (.inr z)
end

end
-- EX6
section
open PySem PySem.W PyProof.Rows PySem.Calls
/-- an exception of class C with a spot, on its way to the frame L (first of l) with the ground h₀ -/
noncomputable def Rz (h₀ : Heap) (L : Addr) (m : Str → Option Value) (l : List Env) (news : List (Addr × Obj)) (e C : Addr) (sp : Int) (h : Heap) : Prop :=
  ∃ Bs D oD ms a0 ts, (∀ b o, h₀.get? b = some o → b ∉ l.filterMap (·.frame) → Bs.get? b = some o) ∧ (∀ q ∈ news, Bs.get? q.1 = some q.2 ∧ q.1 ≠ L ∧ h₀.get? q.1 = none) ∧ Bs.get? D = some oD ∧ h₀.get? D = none ∧ h₀.get? e = none ∧ Holds1 oD ms ∧ ms "spot" = some (.int sp ts) ∧
    Fly Bs l e (.ref C) a0 (some D) .none h ∧ h.Ns L m ∧ h₀.UpToSlots h
section
variable {M : Model} {A : Around} {E : Value → Shared → Prop} {s : Shared} {Q : Unit → Shared → Prop}
theorem rz_raise {A₁ : Around} {base g h₀ : Heap} {env0 : Env} {outer : List Env} {L L' a e C t D : Addr} {m m' ms : Str → Option Value} {name : Str} {scope : PySem.Scope} {cd : Value} {oD : Obj} {news : List (Addr × Obj)} {sp : Int} {ts : Tok}
    (B : Below A₁ base (env0 :: outer) g) (FG : Fr h₀ L g m) (F : Fr g L' s.heap m') (N : News g L' s.heap ((e, exc1 C t D) :: (D, oD) :: news)) (hD : e ≠ D) (hap : ∀ q ∈ news, q.1 ≠ e) (H : Holds1 oD ms) (hms : ms "spot" = some (.int sp ts))
    (hnl : ∀ q ∈ news, q.1 ≠ L) (hQ : ∀ h', Rz h₀ L m (env0 :: outer) news e C sp h' → Q () { s with heap := h' }) (hk : scope.kind = .function) :
    wpAny M (A₁.deeper (envOf name scope L' a cd)) (leaving (envOf name scope L' a cd) (.ref e)) Q E s := by
  have K' := B.push (name := name) (a := a) (cd := cd) F hk
  have gn : ∀ b, b ∈ (env0 :: outer).filterMap (·.frame) → ∃ o, g.get? b = some o := fun b hb => let ⟨_, o, ho, _⟩ := B.frames.mem hb; ⟨o, ho⟩
  have ne : g.get? e = none := (N _ (.head _)).2.2
  have apart : ∀ b, g.get? b = none → b ≠ L' → b ≠ e → b ∉ e :: (envOf name scope L' a cd :: outer).filterMap (·.frame) ∧ b ∉ e :: (envOf name scope L' a cd :: env0 :: outer).filterMap (·.frame) := fun b hb hL he => by
    constructor <;> intro z <;> rcases List.mem_cons.mp z with z | z
    · exact he z
    · rcases kts_mem z with z | z
      · exact hL z
      · obtain ⟨env, z1, z2⟩ := List.mem_filterMap.mp z
        obtain ⟨o, ho⟩ := gn b (List.mem_filterMap.mpr ⟨env, .tail _ z1, z2⟩)
        rw [hb] at ho
        cases ho
    · exact he z
    · rcases kts_mem z with z | z
      · exact hL z
      · obtain ⟨o, ho⟩ := gn b z
        rw [hb] at ho
        cases ho
  refine leave_first (base := hideAll s.heap (e :: (envOf name scope L' a cd :: env0 :: outer).filterMap (·.frame))) (L := L') (a0 := .ref t) K'.stack (funFrames_hide K'.frames fun env he b hb => .tail _ (List.mem_filterMap.mpr ⟨env, he, hb⟩)) rfl (N _ (.head _)).1 (fun b o q => of_hideAll _ q) (hideAll_none _ (.head _)) rfl rfl rfl fun h' Fl u => ?_
  refine hQ h' ⟨_, D, oD, ms, _, ts, fun b o q nm => ?_, fun q hq => ⟨?_, hnl q hq, kts_none FG.keep (N q (.tail _ (.tail _ hq))).2.2⟩, ?_, kts_none FG.keep (N _ (.tail _ (.head _))).2.2, kts_none FG.keep ne, H, hms, Fl, ?_, ?_⟩
  · have qg := FG.keep b o q
    refine hideAll_get _ (F.keep b o qg) fun z => ?_
    rcases List.mem_cons.mp z with z | z
    · rw [z, ne] at qg; cases qg
    · rcases kts_mem z with z | z
      · rw [z, kts_self F] at qg; cases qg
      · exact nm z
  · have z := N q (.tail _ (.tail _ hq))
    exact hideAll_get _ z.1 (apart q.1 z.2.2 z.2.1 (hap q hq)).2
  · have z := N _ (.tail _ (.head _))
    exact hideAll_get _ z.1 (apart D z.2.2 z.2.1 (Ne.symm hD)).2
  · exact u.ns (FG.ns.keeps F.keep)
  · exact (Heap.UpToSlots.of_keeps fun b o q => F.keep b o (FG.keep b o q)).trans u
theorem rz_next {A₁ : Around} {base gl h₀ hl : Heap} {env0 le : Env} {outer : List Env} {L Ll e C : Addr} {m ml : Str → Option Value} {news : List (Addr × Obj)} {sp : Int}
    (hfr : A.frames = some (le :: env0 :: outer)) (hf : le.frame = some Ll) (FG : Fr h₀ L gl m) (F : Fr gl Ll hl ml) (hnl : ∀ q ∈ news, q.1 ≠ L) (R : Rz gl Ll ml (le :: env0 :: outer) news e C sp s.heap)
    (hQ : ∀ h', Rz h₀ L m (env0 :: outer) news e C sp h' → Q () { s with heap := h' }) : wpAny M A (leaving le (.ref e)) Q E s := by
  obtain ⟨Bs, D, oD, ms, a0, ts, r1, r2, r3, r4, r5, r6, r7, r8, r9, r10⟩ := R
  refine leave_next hfr hf r8 fun h' Fl u => hQ h' ⟨Bs, D, oD, ms, a0, ts, fun b o q nm => r1 b o (FG.keep b o q) fun z => ?_, fun q hq => ⟨(r2 q hq).1, hnl q hq, kts_none FG.keep (r2 q hq).2.2⟩, r3, kts_none FG.keep r4, kts_none FG.keep r5, r6, r7, Fl, u.ns (r10.ns FG.ns), (Heap.UpToSlots.of_keeps FG.keep).trans (r10.trans u)⟩
  rw [List.filterMap_cons, hf] at z
  rcases List.mem_cons.mp z with z | z
  · have qg := FG.keep b o q
    rw [z, kts_self F] at qg
    cases qg
  · exact nm z
end

end
-- EX7
section
open PySem PySem.W PyProof.Rows PySem.Calls
theorem words_7 : True := by
  k_with_none
  k_with "k_steps" => repeat (first | (k_unfold; (try dsimp only)) | (k_end; wrow_close) | walk1 | (dsimp only; walk1) | (leave1; walk_say "STEP leave1"; try dsimp only))
  trivial
noncomputable abbrev tup (vs : List Value) : Obj := { cls := .type "tuple", data := .seq vs.toArray }
noncomputable abbrev CtrR (prog : Program) (w : World) (p : Program) (loose : List Str) (mean : ExcName → Option Value) (mg mb : Str → Option Value) (f : Addr) (args : List Value) (news : List (Addr × Obj)) (k : Nat) (Post : Value → List (Addr × Obj) → Prop) (PostE : Addr → Int → Prop) : Prop :=
  ∀ (dp un : Nat) (gd : Option (List Code)) (cn : Str) (cs : PySem.Scope) (ad : Addr) (ccd : Value) (cl : List (Str × Addr)) (outer : List Env) (A₀ : Around) (base h₀ : Heap) (L : Addr) (m : Str → Option Value) (s : Shared) (Q E : Value → Shared → Prop),
    Below A₀ base outer h₀ → Fr h₀ L s.heap m → (Mine.Kb w.params).In h₀ → News h₀ L s.heap news → Top p loose mean mg mb h₀ → cs.kind = .function → dp + k < recursionLimit → un + 8 * k < cLine →
    (∀ v news' h' tk', Post v news' → Fr h₀ L h' m → News h₀ L h' news' → Q v { s with heap := h', toks := tk' }) →
    (∀ e C sp h' tk', PostE C sp → Rz h₀ L m (envX cn cs L ad ccd cl :: outer) news e C sp h' → E (.ref e) { s with heap := h', toks := tk' }) →
    wpAny (model prog w) (ktrTop dp un gd cn cs L ad ccd cl outer) (call (.ref f) args) Q E s
noncomputable def RaisedAt (C : Addr) (E : Value → Shared → Prop) (v : Value) (s₁ : Shared) : Prop := ∃ e oe t r, v = .ref e ∧ XC s₁.heap C 53 50 ∧ s₁.heap.get? e = some oe ∧ oe.cls = .ref C ∧ oe.data = .fields #[.ref t, .none, .none, .none, .bool false, r] ∧ E (.ref e) s₁
section
variable {prog : Program} {w : World} {A : Around} {E : Value → Shared → Prop} {s : Shared} {env : Env}
theorem raiseX {Q : Flow → Shared → Prop} {x : Sem Value} {C : Addr} (hh : A.handled = none)
    (h : wpAny (model prog w) A x (fun v s₁ => ∃ e oe t r, v = .ref e ∧ XC s₁.heap C 53 50 ∧ s₁.heap.get? e = some oe ∧ oe.cls = .ref C ∧ oe.data = .fields #[.ref t, .none, .none, .none, .bool false, r] ∧ E (.ref e) s₁) E s) :
    wpAny (model prog w) A (raiseStmt env (some x) none) Q E s := by
  have hcB := cont3 (C := C) (A1 := 53) (b := true) (X := "BaseException") (by decide)
  unfold raiseStmt
  refine wpAny_bind (wpAny_mono h (fun v s₁ h₁ => ?_) fun _ _ x => x)
  obtain ⟨e, oe, t, r, rfl, XX, he, hc, hd, hE⟩ := h₁
  obtain ⟨nm, q, NN, bs, sn, sub, ab, col, dd, k0, k1, k2, k3, k5, hC⟩ := XX.obj
  obtain ⟨hp, g, d, tk, os⟩ := s₁
  obtain ⟨c1, d1, dt1, sl1⟩ := oe
  dsimp only at hc hd
  subst hc hd
  repeat (first | with_reducible refine wpAny_loadPart_at he ?_ | with_reducible refine wpAny_loadPart_at hC ?_ | (with_reducible refine wpAny_isSubtype_exc hC ?_; rw [hcB]) | wp_step)
  exact wpAny_raiseNew_none hh hE
theorem raiseK {Q : Flow → Shared → Prop} {x : Expr} {pos : Pos} (C : Addr) (hh : A.handled = none)
    (h : wpAny (model prog w) A (eval x env) (fun v s₁ => ∃ e oe t r, v = .ref e ∧ XC s₁.heap C 53 50 ∧ s₁.heap.get? e = some oe ∧ oe.cls = .ref C ∧ oe.data = .fields #[.ref t, .none, .none, .none, .bool false, r] ∧ E (.ref e) s₁) E s) :
    wpAny (model prog w) A (exec (.Raise (some x) none pos) env) Q E s := by
  rw [arm_exec_Raise]
  refine wpAny_bind (wpAny_standAt ?_)
  show wpAny _ _ (raiseStmt env (some (do let v ← eval x env; standAt pos; pure v)) none) _ _ _
  refine raiseX hh (wpAny_bind (wpAny_mono h (fun v s₁ h₁ => wpAny_bind (wpAny_standAt (wpAny_pure h₁))) fun _ _ y => y))
theorem raiseT {Q : Flow → Shared → Prop} {np cp pos : Pos} {as : List Expr} {ks : List Keyword} (hh : A.handled = none)
    (h : wpAny (model prog w) A (eval (.Call (.Name "TypeFault" np) as ks cp) env) (RaisedAt 78 E) E s) :
    wpAny (model prog w) A (exec (.Raise (some (.Call (.Name "TypeFault" np) as ks cp)) none pos) env) Q E s := raiseK 78 hh h
theorem raiseN {Q : Flow → Shared → Prop} {np cp pos : Pos} {as : List Expr} {ks : List Keyword} (hh : A.handled = none)
    (h : wpAny (model prog w) A (eval (.Call (.Name "NameFault" np) as ks cp) env) (RaisedAt 66 E) E s) :
    wpAny (model prog w) A (exec (.Raise (some (.Call (.Name "NameFault" np) as ks cp)) none pos) env) Q E s := raiseK 66 hh h
theorem raiseC {Q : Flow → Shared → Prop} {np cp pos : Pos} {as : List Expr} {ks : List Keyword} (hh : A.handled = none)
    (h : wpAny (model prog w) A (eval (.Call (.Name "ConstFault" np) as ks cp) env) (RaisedAt 90 E) E s) :
    wpAny (model prog w) A (exec (.Raise (some (.Call (.Name "ConstFault" np) as ks cp)) none pos) env) Q E s := raiseK 90 hh h
end
section
variable {w : World} {p : Program} {loose : List Str} {mean : ExcName → Option Value} {mg mb : Str → Option Value}
theorem words_8 : True := by
  k_with "exec Raise some none" => (first | refine raiseT rfl ?_ | refine raiseN rfl ?_ | refine raiseC rfl ?_)
  k_with "call ref cons nil" => ((with_unfolding_all refine' newX _ _ _ _ _ _ ?u92kB ?u92kF ?u92kX ?u92kN ?u92kT ?u92XX ?u92hi ?u92hk ?u92hd ?u92hu ?_); (case u92kB => assumption); (case u92kF => assumption); (case u92kX => assumption); (case u92kN => assumption); (case u92kT => assumption); (case u92XX => first | exact xc_78 (by assumption) | exact xc_66 (by assumption) | exact xc_90 (by assumption)); (case u92hi => rfl); (case u92hk => rfl); (case u92hd => ktr_room); (case u92hu => ktr_units); intro qqe1 qqD1 qqt1 qqoD1 qqh1 qqtk1 qqF1 qqN1 qqhne1 qqhap1 qqHD1)
  trivial
theorem told_none (ck nd a2 : Addr) (c0 w3 : Value) (sp : Int) (ts : Tok) (rest : List (Addr × Obj)) :
    CtrR pw' w p loose mean mg mb 395 [.ref ck, .ref nd, .none] ((nd, tup [c0, .int sp ts, .none, w3]) :: rest) 4 (fun _ _ => False) (fun C s => C = 78 ∧ s = sp) := by
  intro dp un gd cn cs ad ccd cl outer A₀ base h₀ L m s Q E B F X N T hk hd hu hret hexc
  refine wpAny_call ?_
  k_dflt ktr_enter
  k_dflt (show wpAny _ _ (execs (List.cons _ _) _) _ _ _)
  k_steps
  rename News _ _ _ _ => N9
  rename Holds1 _ _ => H9
  rename Fr _ _ _ _ => F9
  refine ⟨_, _, _, _, rfl, (xc_78 ((by assumption : Frag.In _ _).keeps F9.keep)), (N9 _ (.head _)).1, rfl, rfl, ?_⟩
  refine rz_raise (by assumption) (by assumption) F9 N9 (by assumption) (by assumption) H9 rfl (fun q hq => (N q hq).2.1) (fun h' R => ?_) rfl
  exact hexc _ _ _ _ _ ⟨rfl, rfl⟩ R
end

end
-- EX8
section
open PySem PySem.W PyProof.Rows PySem.Calls
/-- leaving a def whose ground g has turned in the frames fs -/
noncomputable def LeaveT (A₀ : Around) (base : Heap) (env : Env) (outer : List Env) (h₀ : Heap) (L : Addr) (m : Str → Option Value) (g : Heap) (R : Result → Shared → Prop) (v : Value) (s' : Shared) : Prop :=
  ∃ g' L' m' news', KtsTurn ((env :: outer).filterMap (·.frame)) g g' ∧ Fr g' L' s'.heap m' ∧ News g' L' s'.heap news' ∧
    (∀ h₀', KtsTurn (outer.filterMap (·.frame)) h₀ h₀' → Fr h₀' L s'.heap m → News h₀' L s'.heap news' → Below A₀ base outer h₀' → R (.ok (.ret v)) s')
theorem leaveT_use {A₀ : Around} {base h₀ g : Heap} {env : Env} {outer : List Env} {L : Addr} {m : Str → Option Value} {R : Result → Shared → Prop} {v : Value} {s' : Shared}
    (B : Below A₀ base outer h₀) (nL : h₀.get? L = none) (FG : Fr h₀ L g m) (hf : env.frame = some L) (l : LeaveT A₀ base env outer h₀ L m g R v s') : R (.ok (.ret v)) s' := by
  obtain ⟨g', L', m', news', T, F', N', k⟩ := l
  have fsE : (env :: outer).filterMap (·.frame) = L :: outer.filterMap (·.frame) := by rw [List.filterMap_cons, hf]
  have up : ∀ b o, h₀.get? b = some o → ∃ sl, s'.heap.get? b = some { o with slots := sl } := fun b o q => by
    obtain ⟨sl, hs⟩ := T.up (FG.keep b o q)
    exact ⟨sl, F'.keep _ _ hs⟩
  obtain ⟨T0, S0⟩ := kts_turn_at (h := s'.heap) (fs := outer.filterMap (·.frame)) (g := h₀)
    (fun b hb => let ⟨_, o, ho, _⟩ := B.frames.mem hb; ⟨o, ho⟩)
    (fun b o q nm => F'.keep b o (T.other b o (FG.keep b o q) (fun z => by
      rw [fsE] at z
      rcases List.mem_cons.mp z with z | z
      · rw [z, nL] at q; cases q
      · exact nm z)))
    (fun b o q _ => up b o q)
  obtain ⟨oL, es, ep, hL, hd, r⟩ := FG.ns
  obtain ⟨sl, hs⟩ := T.up hL
  refine k _ T0 ⟨⟨_, es, ep, F'.keep _ _ hs, hd, r⟩, S0, by rw [T0.size]; exact FG.above⟩ (fun p hp => ⟨(N' p hp).1, fun z => ?_, T0.none_ _ ?_⟩) ⟨B.stack, fun b o q => T0.other b o (B.stays b o q) fun hm => ?_, B.frames.of_keeps fun b o q _ => ?_⟩
  · have := (N' p hp).2.2
    rw [z, hs] at this
    cases this
  · cases q : h₀.get? p.1 with
    | none => rfl
    | some o =>
      obtain ⟨sl', hs'⟩ := T.up (FG.keep _ _ q)
      have := (N' p hp).2.2
      rw [hs'] at this
      cases this
  · rw [(B.frames.mem hm).1] at q
    cases q
  · obtain ⟨sl, hs⟩ := T0.up q
    exact ⟨_, hs, rfl⟩
section
variable {prog : Program} {w : World} {A A₀ : Around} {s : Shared} {K : Frag} {L : Addr} {h₀ base : Heap} {m mg mb : Str → Option Value} {news : List (Addr × Obj)} {p : Program} {loose : List Str} {mean : ExcName → Option Value}
theorem code_defT {env : Env} {outer : List Env} {R : Result → Shared → Prop} {name qual : Str} {params : Arguments} {body : List Stmt} {scope : PySem.Scope} {dV kV doc pm cdv ct oc : Value} {an od : Option Addr} {osl : Array (Option Value)} {f : Addr} {args : Args} {binds : List (Str × Value)}
    (B : Below A₀ base outer h₀) (F : Fr h₀ L s.heap m) (X₀ : K.In h₀) (N : News h₀ L s.heap news) (T : Top p loose mean mg mb h₀) (hA : A.frames = some (env :: outer)) (hf : env.frame = some L) (hke : env.scope.kind = .function)
    (ho : K.lookup f = some ⟨oc, od, .func (fnOf name qual params body scope dV kV doc pm an cdv ct), osl⟩) (hcd : codeIn K cdv qual = true) (hroom : A.depth < recursionLimit)
    (hbind : BindsTo s (fnOf name qual params body scope dV kV doc pm an cdv ct) args binds) (hloc : ∀ y ∈ binds, scope.names.lookup y.1 = some .local)
    (h : ∀ g L' h₁, Fr h₀ L g m → Fr g L' h₁ (fun y => binds.reverse.lookup y) → News g L' h₁ news → Below A base (env :: outer) g → K.In g → Top p loose mean mg mb g →
      wpAny (model prog w) (A.deeper (envOf qual scope L' f cdv)) (execs body (envOf qual scope L' f cdv))
        (fun fl s' => LeaveT A₀ base env outer h₀ L m g R (match fl with | .ret v => v | _ => .none) s')
        (fun e s' => wpAny (model prog w) (A.deeper (envOf qual scope L' f cdv)) (leaving (envOf qual scope L' f cdv) e) (fun _ s'' => R (.error e) s'') (fun e' s'' => R (.error e') s'') s')
        { s with heap := h₁, toks := s.toks + binds.length })
    (hco : scope.isCoroutine = false) (hgen : scope.isGenerator = false) (hk : scope.kind = .function)
    (hcell : ∀ x ∈ scope.names, x.2 ≠ .cell) : codeAny (model prog w) A (.call (.ref f) args) R s := by
  obtain ⟨FG, BG, st, _⟩ := groundX (R := R) B F N hA hf hke
  have X := X₀.keeps F.keep
  refine codeAny_call_def (fd := fnOf name qual params body scope dV kV doc pm an cdv ct) (body := body) (binds := binds) hroom (X _ _ ho) rfl (T.nolimit.keeps F.keep) (codeRec_of X hcd) rfl hbind hcell hloc (fun h₁ hns hk₁ => ?_) hco hgen hk
  exact wpAny_mono (h _ s.heap.objs.size h₁ FG ⟨hns, fun b o e => hk₁ b o (of_hideAll _ e), Nat.le_of_eq (hideAll_size _ _)⟩
    (fun p hp => ⟨hk₁ _ _ (N p hp).1, Nat.ne_of_lt (Heap.lt_size (N p hp).1), hideAll_none _ (List.mem_map_of_mem hp)⟩) BG (X₀.keeps st) (T.keeps st)) (fun fl s' hl => leaveT_use B (kts_self F) FG hf hl) fun _ _ y => y
end
/-- the ground beneath a caught exception -/
theorem rz_ground {A₀ : Around} {base g h : Heap} {env : Env} {outer : List Env} {L e C : Addr} {m : Str → Option Value} {news : List (Addr × Obj)} {sp : Int} (K : Below A₀ base outer g) (hf : env.frame = some L) (nL : g.get? L = none) (above : g.objs.size ≤ L)
    (R : Rz g L m (env :: outer) news e C sp h) : ∃ g', KtsTurn (outer.filterMap (·.frame)) g g' ∧ Fr g' L h m ∧ Below A₀ base outer g' ∧ News g' L h news := by
  obtain ⟨Bs, D, oD, ms, a0, ts, r1, r2, r3, r4, r5, r6, r7, r8, r9, r10⟩ := R
  obtain ⟨T, S⟩ := kts_turn_at (h := h) (fs := outer.filterMap (·.frame)) (g := g)
    (fun b hb => let ⟨_, o, ho, _⟩ := K.frames.mem hb; ⟨o, ho⟩)
    (fun b o q nm => r8.1 b o (r1 b o q fun z => by
      rw [List.filterMap_cons, hf] at z
      rcases List.mem_cons.mp z with z | z
      · rw [z, nL] at q; cases q
      · exact nm z))
    (fun b o q hm => by
      obtain ⟨_, o', ho', hd⟩ := K.frames.mem hm
      rw [q] at ho'
      cases ho'
      exact r10 b o q hd)
  refine ⟨_, T, ⟨r9, S, by rw [T.size]; exact above⟩, ⟨K.stack, fun b o q => T.other b o (K.stays b o q) (fun hm => ?_), K.frames.of_keeps fun b o q _ => ?_⟩, fun q hq => ⟨r8.1 _ _ (r2 q hq).1, (r2 q hq).2.1, T.none_ _ (r2 q hq).2.2⟩⟩
  · rw [(K.frames.mem hm).1] at q
    cases q
  · obtain ⟨sl, hs⟩ := T.up q
    exact ⟨_, hs, rfl⟩

end
-- EX9
section
open PySem PySem.W PyProof.Rows PySem.Calls
section
variable {M : Model} {A : Around} {E : Value → Shared → Prop} {h : Heap} {g : Array GenState} {d : Drawn} {t : Nat} {os : OsState} {C C' e : Addr} {oe : Obj}
theorem excYes {Q : Bool → Shared → Prop} (X : XC h C 53 50) (he : h.get? e = some oe) (hcls : oe.cls = .ref C) (hq : Q true ⟨h, g, d, t, os⟩) : wpAny M A (excMatches (.ref e) (.ref C)) Q E ⟨h, g, d, t, os⟩ := by
  obtain ⟨nm, q, NN, bs, sn, sub, ab, col, dd, k0, k1, k2, k3, k5, hC⟩ := X.obj
  exact wpAny_excMatches_sub_self hC he hcls (by decide) hq
theorem excNo {Q : Bool → Shared → Prop} (X : XC h C 53 50) (X' : XC h C' 53 50) (hne : C ≠ C') (h53 : C' ≠ 53) (he : h.get? e = some oe) (hcls : oe.cls = .ref C) (hq : Q false ⟨h, g, d, t, os⟩) :
    wpAny M A (excMatches (.ref e) (.ref C')) Q E ⟨h, g, d, t, os⟩ := by
  obtain ⟨nm, q, NN, bs, sn, sub, ab, col, dd, k0, k1, k2, k3, k5, hC⟩ := X.obj
  obtain ⟨nm', q', NN', bs', sn', sub', ab', col', dd', k0', k1', k2', k3', k5', hC'⟩ := X'.obj
  have hcB : (Value.ref C' :: tlOf 53 bmE).contains (.type "BaseException") = true := cont3 (by decide)
  have hcC : (Value.ref C :: tlOf 53 bmE).contains (.ref C') = false := by
    have z1 : (Value.ref C' == Value.ref C) = false := by simpa using Ne.symm hne
    have z2 : (Value.ref C' == Value.ref 53) = false := by simpa using h53
    rw [List.contains_cons, List.contains_cons, z1, z2]
    rfl
  have f := tc_notTuple
  unfold excMatches
  repeat (first | (with_reducible refine wpAny_loadPart_at he ?_; rw [hcls]) | with_reducible refine wpAny_loadPart_at hC' ?_ | (with_reducible refine wpAny_isSubtype_exc hC ?_; rw [hcC]) | (with_reducible refine wpAny_isSubtype_exc hC' ?_; rw [hcB]) | wp_step)
  exact hq
end
section
variable {A : Around} {E : Value → Shared → Prop} {s : Shared} {A₀ : Around} {base g : Heap} {outer : List Env} {L a e C : Addr} {m mg mb : Str → Option Value} {news : List (Addr × Obj)} {sp : Int} {name : Str} {scope : PySem.Scope} {cd : Value}
  {K : Frag} {p : Program} {loose : List Str} {mean : ExcName → Option Value} {w : World} {prog : Program}
theorem Rz.fly {l : List Env} {h h' : Heap} (R : Rz g L m l news e C sp h) (k : ∀ Bs a0 D, Fly Bs l e (.ref C) a0 (some D) .none h → Fly Bs l e (.ref C) a0 (some D) .none h') (u : h.UpToSlots h') : Rz g L m l news e C sp h' := by
  obtain ⟨Bs, D, oD, ms, a0, ts, r1, r2, r3, r4, r5, r6, r7, r8, r9, r10⟩ := R
  exact ⟨Bs, D, oD, ms, a0, ts, r1, r2, r3, r4, r5, r6, r7, k _ _ _ r8, u.ns r9, r10.trans u⟩
theorem Rz.obj {l : List Env} {h : Heap} (R : Rz g L m l news e C sp h) : ∃ oe, h.get? e = some oe ∧ oe.cls = .ref C := by
  obtain ⟨Bs, D, oD, ms, a0, ts, _, _, _, _, _, _, _, ⟨_, _, _, oe, _, _, _, _, he, hc, _⟩, _⟩ := R
  exact ⟨oe, he, hc⟩
theorem catch_note {M : Model} {env : Env} {Q : Unit → Shared → Prop} (hfr : A.frames = some (env :: outer)) (hf : env.frame = some L) (R : Rz g L m (env :: outer) news e C sp s.heap)
    (h : ∀ h', Rz g L m (env :: outer) news e C sp h' → Q () { s with heap := h' }) :
    wpAny M A (noteFrame (.ref e) env) (fun _ s₂ => wpAny M A (setFlight (.ref e) none) Q E s₂) E s := by
  obtain ⟨Bs, D, oD, ms, a0, ts, r1, r2, r3, r4, r5, r6, r7, r8, r9, r10⟩ := R
  refine note_next hfr hf r8 fun h₁ f1 u1 => flight_fly f1 fun h₂ f2 u2 => h h₂ ⟨Bs, D, oD, ms, a0, ts, r1, r2, r3, r4, r5, r6, r7, f2, (u1.trans u2).ns r9, r10.trans (u1.trans u2)⟩
theorem catch_no {C' : Addr} {x : Str} {np pos : Pos} {nm : Option Str} {body : List Stmt} {rest : List ExceptHandler} {Q : Flow → Shared → Prop} (B : Below A₀ base outer g) (nL : g.get? L = none) (above : g.objs.size ≤ L)
    (XB : K.In base) (TB : Top p loose mean mg mb base) (XX : XC base C 53 50) (XX' : XC base C' 53 50) (hne : C ≠ C') (h53 : C' ≠ 53) (ex : nsIn K mainGlobals x = some (some (.ref C')))
    (R : Rz g L m (envOf name scope L a cd :: outer) news e C sp s.heap) (h : wpAny (model prog w) A (handleBy (.ref e) (envOf name scope L a cd) rest) Q E s)
    (hk : scope.kind = .function := by rfl) (hx : (envOf name scope L a cd).kindOf x = some .globalImplicit := by rfl) (hd : (x == ("__debug__" : Str)) = false := by decide) :
    wpAny (model prog w) A (handleBy (.ref e) (envOf name scope L a cd) (.ExceptHandler (some (.Name x np)) nm body pos :: rest)) Q E s := by
  obtain ⟨g', T, F', B', N'⟩ := rz_ground B rfl nL above R
  obtain ⟨oe, he, hc⟩ := R.obj
  obtain ⟨hh, gg, d, t, os⟩ := s
  have up : ∀ b o, base.get? b = some o → hh.get? b = some o := fun b o q => F'.keep b o (B'.stays b o q)
  refine wpAny_handleBy_cons (codeAny_handlers_test (name_K F' (XB.keeps B'.stays) (topRead_of (TB.keeps B'.stays)) ex ?_ hk hx hd)) (by intro q; cases q)
  refine excNo (XX.keeps up) (XX'.keeps up) hne h53 he hc ?_
  exact h
/-- the caught exception, with its spot -/
noncomputable def ExcAt (h : Heap) (e C : Addr) (sp : Int) : Prop := ∃ oe D vs ts ms, h.get? e = some oe ∧ oe.cls = .ref C ∧ oe.data = .fields vs ∧ oe.dict = some D ∧ h.Ns D ms ∧ ms "spot" = some (.int sp ts)
theorem catch_yes {x n : Str} {np pos : Pos} {b₀ : Stmt} {suite : List Stmt} {rest : List ExceptHandler} {Q : Flow → Shared → Prop} (B : Below A₀ base outer g) (nL : g.get? L = none) (above : g.objs.size ≤ L)
    (XB : K.In base) (TB : Top p loose mean mg mb base) (XX : XC base C 53 50) (ex : nsIn K mainGlobals x = some (some (.ref C)))
    (R : Rz g L m (envOf name scope L a cd :: outer) news e C sp s.heap)
    (h : ∀ E₂ h' g' tk, KtsTurn (outer.filterMap (·.frame)) g g' → Fr g' L h' (fun y => if y = n then some (.ref e) else m y) → News g' L h' news → Below A₀ base outer g' → ExcAt h' e C sp →
      wpAny (model prog w) (A.mark (some (.ref e))) (execs (b₀ :: suite) (envOf name scope L a cd)) (fun f s₄ => wpAny (model prog w) A (do bindName (envOf name scope L a cd) n .none; unbindBehindTheSuite (envOf name scope L a cd) n pos) (fun _ s₅ => Q f s₅) E s₄) E₂ { s with heap := h', toks := tk })
    (hk : scope.kind = .function := by rfl) (hx : (envOf name scope L a cd).kindOf x = some .globalImplicit := by rfl) (hn : (envOf name scope L a cd).kindOf n = some .local := by rfl) (hd : (x == ("__debug__" : Str)) = false := by decide) :
    wpAny (model prog w) A (handleBy (.ref e) (envOf name scope L a cd) (.ExceptHandler (some (.Name x np)) (some n) (b₀ :: suite) pos :: rest)) Q E s := by
  obtain ⟨g', T, F', B', N'⟩ := rz_ground B rfl nL above R
  obtain ⟨oe, he, hc⟩ := R.obj
  obtain ⟨hh, gg, d, t, os⟩ := s
  have up : ∀ b o, base.get? b = some o → hh.get? b = some o := fun b o q => F'.keep b o (B'.stays b o q)
  refine wpAny_handleBy_cons (codeAny_handlers_test (name_K F' (XB.keeps B'.stays) (topRead_of (TB.keeps B'.stays)) ex ?_ hk hx hd)) (by intro q; cases q)
  refine excYes (XX.keeps up) he hc ?_
  refine codeAny_handlers_suite_as ?_
  obtain ⟨Bs, D, oD, ms, a0, ts, r1, r2, r3, r4, r5, r6, r7, r8, r9, r10⟩ := R
  refine flight_fly r8 fun h₂ f2 u2 => ?_
  have R₂ : Rz g L m (envOf name scope L a cd :: outer) news e C sp h₂ := ⟨Bs, D, oD, ms, a0, ts, r1, r2, r3, r4, r5, r6, r7, f2, u2.ns r9, r10.trans u2⟩
  obtain ⟨g₂, T₂, F₂, B₂, N₂⟩ := rz_ground B rfl nL above R₂
  obtain ⟨st, hen, hfun, o2, vs, TT, oT, tts, he2, hc2, hdd2, hd2, _⟩ := f2
  obtain ⟨hL1, o1, ho1, hr1⟩ := hfun.mem (b := L) (List.mem_filterMap.mpr ⟨_, .head _, rfl⟩)
  have eL : e ≠ L := by
    rintro rfl
    rw [he2] at ho1
    cases ho1
    exact hr1 _ hd2
  have DL : D ≠ L := by
    rintro rfl
    rw [hL1] at r3
    cases r3
  refine wpAny_storeName_local hn F₂.ns (fun h₃ n3 s3 => ?_) (by show (scope.kind == .class || (scope.kind == .module && L != mainGlobals)) = false; rw [hk]; rfl)
  refine h _ h₃ g₂ _ T₂ (F₂.set n3 s3) (N₂.set s3) B₂ ⟨o2, D, vs, ts, ms, (s3.2 e eL).trans he2, hc2, hd2, hdd2, (r6 _ _ ((s3.2 D DL).trans (st _ _ r3))).ns, r7⟩
end

end
-- EX10
section
open PySem PySem.W PyProof.Rows PySem.Calls
theorem words_9 : True := by
  k_with_none
  k_with "k_steps" => repeat (first | (k_unfold; (try dsimp only)) | (k_end; wrow_close) | walk1 | (dsimp only; walk1) | (leave1; walk_say "STEP leave1"; try dsimp only))
  trivial
/-- a contract of a def that may turn its ground -/
noncomputable abbrev CtrT (prog : Program) (w : World) (p : Program) (loose : List Str) (mean : ExcName → Option Value) (mg mb : Str → Option Value) (f : Addr) (args : List Value) (news : List (Addr × Obj)) (k : Nat) (Post : Value → List (Addr × Obj) → Prop) : Prop :=
  ∀ (dp un : Nat) (gd : Option (List Code)) (cn : Str) (cs : PySem.Scope) (ad : Addr) (ccd : Value) (cl : List (Str × Addr)) (outer : List Env) (A₀ : Around) (base h₀ : Heap) (L : Addr) (m : Str → Option Value) (s : Shared) (Q E : Value → Shared → Prop),
    Below A₀ base outer h₀ → Fr h₀ L s.heap m → (Mine.Kb w.params).In base → Top p loose mean mg mb base → News h₀ L s.heap news → (Mine.Kb w.params).In h₀ → Top p loose mean mg mb h₀ → cs.kind = .function → dp + k < recursionLimit → un + 8 * k < cLine →
    (∀ v news' h' tk' h₀', KtsTurn (outer.filterMap (·.frame)) h₀ h₀' → Post v news' → Fr h₀' L h' m → News h₀' L h' news' → Below A₀ base outer h₀' → Q v { s with heap := h', toks := tk' }) →
    wpAny (model prog w) (ktrTop dp un gd cn cs L ad ccd cl outer) (call (.ref f) args) Q E s
noncomputable def wordOf (C : Addr) : Str := if C = 66 then "name fault" else if C = 90 then "const fault" else "type fault"
section
variable {w : World} {p : Program} {loose : List Str} {mean : ExcName → Option Value} {mg mb : Str → Option Value}
theorem getSpot {prog : Program} {A : Around} {E : Value → Shared → Prop} {s : Shared} {e C : Addr} {sp : Int} {expr : Bool} {Q : Value → Shared → Prop} (EA : ExcAt s.heap e C sp) (XX : XC s.heap C 53 50) (h : ∀ ts, Q (.int sp ts) { s with toks := s.toks + 1 }) :
    wpAny (model prog w) A (getAttr (.ref e) "spot" expr) Q E s := by
  obtain ⟨oe, D, vs, ts, ms, he, hc, hd, hdd, hns, hms⟩ := EA
  obtain ⟨hh, g, d, t, os⟩ := s
  exact get3 XX (by decide) lk_sp he hc hd hdd hns hms rfl (h ts)
theorem words_10 : True := by
  k_with "ktr_enter" => (refine' code_defT ?u94k1 ?u94k2 ?u94k3 ?u94k4 ?u94k5 ?u94kA ?u94kF ?u94kK ?u94k6 ?u94k7 ?u94k8 ?u94k9 ?u94kB ?_ ?u94c2 ?u94c3 ?u94c4 ?u94c5; (case u94kA => exact rfl); (case u94kF => exact rfl); (case u94kK => assumption); (case u94k1 => k_asm); (case u94k2 => k_asm); (case u94k3 => k_asm); (case u94k4 => k_asm); (case u94k5 => k_asm); (case u94k6 => k_is); (case u94k7 => k_is); (case u94k8 => ktr_room); (case u94k9 => first | exact BindsTo.of_eq rfl | exact binds_K (by k_in) rfl (by k_is) rfl rfl rfl); (case u94c5 => decide); (case u94kB => exact locs rfl); (case u94c2 => exact rfl); (case u94c3 => exact rfl); (case u94c4 => exact rfl); k_whole; intro qqg' qqL' qqh' qqFG' qqF' qqN' qqB' qqX' qqT'; (try dsimp only); (try k_fold))
  k_with "callWith ref nil nil" => (refine' callWith_F0 ?u95k1 ?_; (case u95k1 => exact FnAt.of (by k_asm) (by assumption)); k_whole; try dsimp only [List.nil_append, List.cons_append])
  k_with "getAttr ref" => ((rename ExcAt _ _ _ _ => qqEA); refine getSpot qqEA (by first | exact xc_66 (by k_in) | exact xc_78 (by k_in) | exact xc_90 (by k_in)) ?_; intro qqts9)
  trivial
theorem tried_ok (fl : Addr) (oc : Value) (od : Option Addr) (fd : FuncData) (osl : Array (Option Value)) (news : List (Addr × Obj)) (hfl : (fl, (⟨oc, od, .func fd, osl⟩ : Obj)) ∈ news) (k : Nat) (Post : Value → List (Addr × Obj) → Prop) (PostE : Addr → Int → Prop) (hcall : CtrR pw' w p loose mean mg mb fl [] news k Post PostE) (hP : ∀ C sp, PostE C sp → C = 66 ∨ C = 78 ∨ C = 90) :
    CtrT pw' w p loose mean mg mb 1029 [.ref fl] news (k + 2) (fun v news' => Post v news' ∨ ∃ C sp t tw ts, PostE C sp ∧ v = .ref t ∧ (∀ q ∈ news, q.1 < t) ∧ news' = (t, tup [.str (wordOf C) tw, .int sp ts]) :: news) := by
  intro dp un gd cn cs ad ccd cl outer A₀ base h₀ L m s Q E B F XB TB N X T hk hd hu hret
  refine wpAny_call ?_
  k_dflt ktr_enter
  k_dflt (show wpAny _ _ (execs (List.cons _ _) _) _ _ _)
  k_steps
  rename Below _ _ (_ :: _) _ => B1
  rename Fr _ _ s.heap m => F0
  with_unfolding_all refine' hcall _ _ _ _ _ _ _ _ _ _ _ _ _ _ _ _ _ B1 (by assumption) (by assumption) (by assumption) (by assumption) rfl ?hd ?hu ?ret ?exc
  case hd => ktr_room
  case hu => ktr_units
  case ret =>
    intro v news' h' tk' hv F9 N9
    exact ⟨_, _, _, _, KtsTurn.refl, F9, N9, fun h₀' T0 F0' N0' B0' => hret _ _ _ _ _ T0 (.inl hv) F0' N0' B0'⟩
  case exc =>
    intro e C sp h' tk' hC R
    dsimp only
    refine catch_note rfl rfl R (fun h2 R2 => ?_)
    rename Fr _ _ _ (fun y => List.lookup y _) => FL
    have fin : ∀ (gg g3 h5 : Heap) (L5 t5 : Addr) (m5 : Str → Option Value) (tw ts : Tok) (tk5 : Nat), KtsTurn (List.filterMap (fun x => x.frame) (envX cn cs L ad ccd cl :: outer)) gg g3 → Fr g3 L5 h5 m5 → News g3 L5 h5 ((t5, tup [.str (wordOf C) tw, .int sp ts]) :: news) → (∀ q ∈ news, q.1 < t5) →
        LeaveT A₀ base (envX cn cs L ad ccd cl) outer h₀ L m gg (fun r s' => match r with | .ok (.ret v) => Q v s' | .ok _ => False | .error e => E e s') (.ref t5) { heap := h5, gens := s.gens, drawn := s.drawn, toks := tk5, os := s.os } :=
      fun gg g3 h5 L5 t5 m5 tw ts tk5 T5 F5 N5 l5 => ⟨g3, _, _, _, T5, F5, N5, fun h₀' T0 F0' N0' B0' => hret _ _ _ _ _ T0 (.inr ⟨_, _, _, _, _, hC, rfl, l5, rfl⟩) F0' N0' B0'⟩
    rcases hP C sp hC with rfl | rfl | rfl
    · refine catch_yes B1 (kts_self FL) FL.above XB TB (xc_66 XB) rfl R2 (fun E₂ h3 g3 tk3 T3 F3 N3 B3 EA => ?_)
      have X3 := XB.keeps B3.stays
      have TT3 := TB.keeps B3.stays
      clear FL R2 R
      k_steps
      exact fin _ _ _ _ _ _ _ _ _ T3 (by assumption) (by assumption) (by assumption)
    · refine catch_no B1 (kts_self FL) FL.above XB TB (xc_78 XB) (xc_66 XB) (by decide) (by decide) rfl R2 ?_
      refine catch_no B1 (kts_self FL) FL.above XB TB (xc_78 XB) (xc_90 XB) (by decide) (by decide) rfl R2 ?_
      refine catch_yes B1 (kts_self FL) FL.above XB TB (xc_78 XB) rfl R2 (fun E₂ h3 g3 tk3 T3 F3 N3 B3 EA => ?_)
      have X3 := XB.keeps B3.stays
      have TT3 := TB.keeps B3.stays
      clear FL R2 R
      k_steps
      exact fin _ _ _ _ _ _ _ _ _ T3 (by assumption) (by assumption) (by assumption)
    · refine catch_no B1 (kts_self FL) FL.above XB TB (xc_90 XB) (xc_66 XB) (by decide) (by decide) rfl R2 ?_
      refine catch_yes B1 (kts_self FL) FL.above XB TB (xc_90 XB) rfl R2 (fun E₂ h3 g3 tk3 T3 F3 N3 B3 EA => ?_)
      have X3 := XB.keeps B3.stays
      have TT3 := TB.keeps B3.stays
      clear FL R2 R
      k_steps
      exact fin _ _ _ _ _ _ _ _ _ T3 (by assumption) (by assumption) (by assumption)
end

end
-- WB
section
open PySem PySem.W PyProof.Rows PySem.Calls
variable {w : World} {p : Program} {loose : List Str} {mean : ExcName → Option Value} {mg mb : Str → Option Value}
theorem isList_of_news {h₀ h : Heap} {L l : Addr} {news : List (Addr × Obj)} {items : Array Value} {n : Nat} (N : News h₀ L h news) (hm : (l, W.listOf items n) ∈ news) : h.IsList l items := ⟨_, (N _ hm).1, rfl, n, rfl⟩
theorem words_11 : True := by
  k_with_none
  k_with "k_all" => assumption
  trivial
theorem one_ok (vs : List Value) (n1 : Nat) (hl0 : 0 < vs.length) (hl1 : vs.length < 1000) (sm : Addr) (rl : Addr) (o : Obj) (ho : Reel o) (rest : List (Addr × Obj)) (hne : sm ≠ rl) (hr : ∀ q ∈ rest, q.1 ≠ rl) :
    Ctr pw' w p loose mean mg mb 1022 [.ref rl, .ref sm] ((rl, o) :: (sm, W.listOf vs.toArray n1) :: rest) 2 (fun v news' => ∃ o', v ∈ vs ∧ Reel o' ∧ news' = (rl, o') :: (sm, W.listOf vs.toArray n1) :: rest) := by
  intro dp un gd cn cs ad ccd cl outer A₀ base h₀ L m s Q E B F X N T hk hd hu hret
  refine wpAny_call ?_
  k_dflt ktr_enter
  k_dflt (show wpAny _ _ (execs (List.cons _ _) _) _ _ _)
  k_steps
  rename News _ _ _ _ => N1
  have hI := isList_of_news N1 (.tail _ (.head _))
  refine PyProof.Rows.len_list hI (by rw [List.size_toArray]; omega) ?_
  k_steps
  refine wound_use [] (by assumption) (by assumption) (by assumption) (by assumption) (by assumption) ho (by rw [List.size_toArray]; omega) (by rw [List.size_toArray]; omega) (fun _ h => nomatch h) (List.forall_mem_cons.mpr ⟨hne, hr⟩) (by first | rfl | assumption) (by ktr_room) (by ktr_units) ?_
  intro d t o' h' tk' hd0 hd1 hR F2 N2
  rw [List.nil_append] at N2
  rw [List.size_toArray] at hd1
  have hx : vs[d.toNat]? = some vs[d.toNat] := List.getElem?_eq_getElem (by omega)
  refine PyProof.Rows.item_listL (isList_of_news N2 (.tail _ (.head _))) hd0 (by omega) hx ?_
  k_steps
  exact hret _ _ _ _ ⟨o', List.getElem_mem _, hR, rfl⟩ (by assumption) (by assumption)
theorem one_use (pre : List (Addr × Obj)) {post : List (Addr × Obj)} {vs : List Value} {n1 : Nat} {sm : Addr} {rl : Addr} {o : Obj} {dp un : Nat} {gd : Option (List Code)} {cn : Str} {cs : PySem.Scope} {ad : Addr} {ccd : Value} {cl : List (Str × Addr)} {outer : List Env} {A₀ : Around} {base h₀ : Heap} {L : Addr} {m : Str → Option Value} {s : Shared} {Q E : Value → Shared → Prop}
    (B : Below A₀ base outer h₀) (F : Fr h₀ L s.heap m) (X : (Mine.Kb w.params).In h₀) (N : News h₀ L s.heap (pre ++ (rl, o) :: post)) (T : Top p loose mean mg mb h₀) (ho : Reel o) (hsm : (sm, W.listOf vs.toArray n1) ∈ pre ++ post) (hl0 : 0 < vs.length) (hl1 : vs.length < 1000) (h1 : ∀ q ∈ pre, q.1 ≠ rl) (h2 : ∀ q ∈ post, q.1 ≠ rl)
    (hk : cs.kind = .function) (hd : dp + 2 < recursionLimit) (hu : un + 8 * 2 < cLine)
    (hret : ∀ v ∈ vs, ∀ o' h' tk', Reel o' → Fr h₀ L h' m → News h₀ L h' (pre ++ (rl, o') :: post) → Q v { s with heap := h', toks := tk' }) :
    wpAny (model pw' w) (ktrTop dp un gd cn cs L ad ccd cl outer) (call (.ref 1022) [.ref rl, .ref sm]) Q E s := by
  have hr : ∀ q ∈ pre ++ post, q.1 ≠ rl := fun q hq => (List.mem_append.mp hq).elim (h1 q) (h2 q)
  refine one_ok vs n1 hl0 hl1 sm rl o ho (pre ++ post) (hr _ hsm) hr dp un gd cn cs ad ccd cl outer A₀ base h₀ L m s Q E B F X (fun q hq => N q ?_) T hk hd hu ?_
  · rcases List.mem_cons.mp hq with rfl | hq
    · exact List.mem_append_right _ (.head _)
    · rcases List.mem_cons.mp hq with rfl | hq
      · exact (List.mem_append.mp hsm).elim (List.mem_append_left _) fun h => List.mem_append_right _ (.tail _ h)
      · exact (List.mem_append.mp hq).elim (List.mem_append_left _) fun h => List.mem_append_right _ (.tail _ h)
  · rintro v news' h' tk' ⟨o', hv, hR, rfl⟩ F' N'
    refine hret v hv o' h' tk' hR F' fun q hq => N' q ?_
    rcases List.mem_append.mp hq with h | h
    · exact .tail _ (.tail _ (List.mem_append_left _ h))
    · rcases List.mem_cons.mp h with rfl | h
      · exact .head _
      · exact .tail _ (.tail _ (List.mem_append_right _ h))
theorem upd_news {rl : Addr} {o : Obj} {news pre post : List (Addr × Obj)} {f : Obj → List (Addr × Obj)} (hU : ∀ o', Upd rl o o' news (f o')) (e : news = pre ++ (rl, o) :: post) {h₀ h' : Heap} {L : Addr} {o' : Obj}
    (N : News h₀ L h' (pre ++ (rl, o') :: post)) : News h₀ L h' (f o') := by
  obtain ⟨pre', post', e1, e2, n1, n2⟩ := (hU o').split
  have key : ∀ q ∈ news, q.1 ≠ rl → News h₀ L h' [q] := fun q hq hn => by
    rw [e] at hq
    refine fun x hx => N x ?_
    rw [List.mem_singleton.mp hx]
    rcases List.mem_append.mp hq with h | h
    · exact List.mem_append_left _ h
    · rcases List.mem_cons.mp h with rfl | h
      · exact absurd rfl hn
      · exact List.mem_append_right _ (.tail _ h)
  rw [e2]
  intro q hq
  rcases List.mem_append.mp hq with h | h
  · exact key q (by rw [e1]; exact List.mem_append_left _ h) (n1 q h) q (.head _)
  · rcases List.mem_cons.mp h with rfl | h
    · exact N _ (List.mem_append_right _ (.head _))
    · exact key q (by rw [e1]; exact List.mem_append_right _ (.tail _ h)) (n2 q h) q (.head _)
theorem one_at {news : List (Addr × Obj)} {f : Obj → List (Addr × Obj)} {vs : List Value} {n1 : Nat} {sm : Addr} {rl : Addr} {o : Obj} {dp un : Nat} {gd : Option (List Code)} {cn : Str} {cs : PySem.Scope} {ad : Addr} {ccd : Value} {cl : List (Str × Addr)} {outer : List Env} {A₀ : Around} {base h₀ : Heap} {L : Addr} {m : Str → Option Value} {s : Shared} {Q E : Value → Shared → Prop}
    (B : Below A₀ base outer h₀) (F : Fr h₀ L s.heap m) (X : (Mine.Kb w.params).In h₀) (N : News h₀ L s.heap news) (T : Top p loose mean mg mb h₀) (ho : Reel o) (hU : ∀ o', Upd rl o o' news (f o')) (hsm : (sm, W.listOf vs.toArray n1) ∈ news) (hl0 : 0 < vs.length) (hl1 : vs.length < 1000) (hne : sm ≠ rl)
    (hk : cs.kind = .function) (hd : dp + 2 < recursionLimit) (hu : un + 8 * 2 < cLine)
    (hret : ∀ v ∈ vs, ∀ o' h' tk', Reel o' → Fr h₀ L h' m → News h₀ L h' (f o') → Q v { s with heap := h', toks := tk' }) :
    wpAny (model pw' w) (ktrTop dp un gd cn cs L ad ccd cl outer) (call (.ref 1022) [.ref rl, .ref sm]) Q E s := by
  obtain ⟨pre, post, e1, e2, n1', n2'⟩ := (hU o).split
  have hs : (sm, W.listOf vs.toArray n1) ∈ pre ++ post := by
    rw [e1] at hsm
    rcases List.mem_append.mp hsm with h | h
    · exact List.mem_append_left _ h
    · rcases List.mem_cons.mp h with h | h
      · exact absurd (congrArg Prod.fst h) hne
      · exact List.mem_append_right _ h
  exact one_use pre B F X (e1 ▸ N) T ho hs hl0 hl1 n1' n2' hk hd hu fun v hv o' h' tk' hR F' N' => hret v hv o' h' tk' hR F' (upd_news hU e1 N')
theorem wound_at {news : List (Addr × Obj)} {f : Obj → List (Addr × Obj)} {many : Int} {tm : Tok} {rl : Addr} {o : Obj} {dp un : Nat} {gd : Option (List Code)} {cn : Str} {cs : PySem.Scope} {ad : Addr} {ccd : Value} {cl : List (Str × Addr)} {outer : List Env} {A₀ : Around} {base h₀ : Heap} {L : Addr} {m : Str → Option Value} {s : Shared} {Q E : Value → Shared → Prop}
    (B : Below A₀ base outer h₀) (F : Fr h₀ L s.heap m) (X : (Mine.Kb w.params).In h₀) (N : News h₀ L s.heap news) (T : Top p loose mean mg mb h₀) (ho : Reel o) (hU : ∀ o', Upd rl o o' news (f o')) (hm : 0 < many) (hm2 : many < 1000)
    (hk : cs.kind = .function) (hd : dp + 1 < recursionLimit) (hu : un + 8 * 1 < cLine)
    (hret : ∀ d t o' h' tk', 0 ≤ d → d < many → Reel o' → Fr h₀ L h' m → News h₀ L h' (f o') → Q (.int d t) { s with heap := h', toks := tk' }) :
    wpAny (model pw' w) (ktrTop dp un gd cn cs L ad ccd cl outer) (call (.ref 1015) [.ref rl, .int many tm]) Q E s := by
  obtain ⟨pre, post, e1, e2, n1', n2'⟩ := (hU o).split
  exact wound_use pre B F X (e1 ▸ N) T ho hm hm2 n1' n2' hk hd hu fun d t o' h' tk' h0 h1 hR F' N' => hret d t o' h' tk' h0 h1 hR F' (upd_news hU e1 N')

end
-- AB
section
open PySem PySem.W PyProof.Rows PySem.Calls
/-- a str-keyed dict -/
noncomputable abbrev SD (w : World) (o : Obj) (l : List (Str × Value)) : Prop := o.IsDictOf (PySem.strKind (PySem.Challenge.pw_xm0190_01) w) l
theorem units_under_make (A : Around) (C : Addr) (vals : List Value) : (A.under (.builtin "type.__call__" ⟨.ref C :: vals, []⟩)).units = A.units + 1 := rfl
theorem ne_of_pre {d : Addr} {l news : List (Addr × Obj)} (h : ∀ q ∈ l, q.1 < d) (s : ∀ q ∈ news, q ∈ l) : ∀ q ∈ news, q.1 ≠ d := fun q hq => Nat.ne_of_lt (h q (s q hq))
theorem lt_up {d e : Addr} {news : List (Addr × Obj)} (h : ∀ q ∈ news, q.1 < d) (k : d < e) : ∀ q ∈ news, q.1 < e := fun q hq => Nat.lt_trans (h q hq) k
theorem lt_of_pre {d : Addr} {l news : List (Addr × Obj)} (h : ∀ q ∈ l, q.1 < d) (s : ∀ q ∈ news, q ∈ l) : ∀ q ∈ news, q.1 < d := fun q hq => h q (s q hq)
theorem News.tl {g h : Heap} {L : Addr} {q : Addr × Obj} {news : List (Addr × Obj)} (N : News g L h (q :: news)) : News g L h news := fun x hx => N x (.tail _ hx)
/-- what an object's dict shows under a name -/
noncomputable def Attr (o : Obj) (name : Str) (r : Option Value) : Prop := ∃ es n, o = dictOf es n ∧ getL name es = some r
section
variable {prog : Program} {w : World} {A : Around} {E : Value → Shared → Prop} {s : Shared} {K : Frag} {h₀ : Heap} {L x C dx : Addr} {m : Str → Option Value} {news : List (Addr × Obj)} {od : Obj} {name : Str} {v : Value}
theorem attr_own {expr : Bool} {Q : Value → Shared → Prop} {attr : Option Value} (F : Fr h₀ L s.heap m) (X₀ : K.In h₀) (N : News h₀ L s.heap news) (h1 : (x, instObj C dx) ∈ news) (h2 : (dx, od) ∈ news) (hA : Attr od name (some v)) (hg : plainGet K C name = true) (hh : hasDictIn K C = true)
    (ha : findIn K (.ref C) name = some attr) (hn : noGet K attr = true) (hv : handedIn v = true) (h : ∀ tk, Q v ⟨s.heap, s.gens, s.drawn, tk, s.os⟩) :
    wpAny (model prog w) A (getAttr (.ref x) name expr) Q E s := by
  obtain ⟨es, n, rfl, hl⟩ := hA
  exact get_own F X₀ (InstAt.of_news N h1 h2) hg hh ha hn hl hv (h _)
theorem attr_meth {pl : Sem Bool} {Q : Value × List Value → Shared → Prop} {f : Addr} (F : Fr h₀ L s.heap m) (X₀ : K.In h₀) (N : News h₀ L s.heap news) (h1 : (x, instObj C dx) ∈ news) (h2 : (dx, od) ∈ news) (hA : Attr od name none) (hg : plainGet K C name = true)
    (hf : findIn K (.ref C) name = some (some (.ref f))) (ht : isFn K (.ref f) = true) (h : Q (.ref f, [.ref x]) s) : wpAny (model prog w) A (getMethod (.ref x) name pl) Q E s := by
  obtain ⟨es, n, rfl, hl⟩ := hA
  exact method_inst F X₀ (InstAt.of_news N h1 h2) hg hf ht hl h
end
theorem tok_gen {M : Model} {A : Around} {x : Sem α} {Q : α → Shared → Prop} {E : Value → Shared → Prop} {h : Heap} {g : Array GenState} {d : Drawn} {a b : Nat} {os : OsState} (k : ∀ t, wpAny M A x Q E ⟨h, g, d, t, os⟩) : wpAny M A x Q E ⟨h, g, d, a + b, os⟩ := k _
theorem constS {M : Model} {A : Around} {E : Value → Shared → Prop} {s : Shared} {env : Env} {x : Str} {k : Nat} {pos : Pos} {Q : Value → Shared → Prop} (h : ∀ t tk, Q (.str x t) ⟨s.heap, s.gens, s.drawn, tk, s.os⟩) : wpAny M A (eval (.Constant (.str x) k pos) env) Q E s := Constant_str (h _ _)
theorem constI {M : Model} {A : Around} {E : Value → Shared → Prop} {s : Shared} {env : Env} {x : Int} {k : Nat} {pos : Pos} {Q : Value → Shared → Prop} (h : ∀ t tk, Q (.int x t) ⟨s.heap, s.gens, s.drawn, tk, s.os⟩) : wpAny M A (eval (.Constant (.int x) k pos) env) Q E s := wpAny_Constant_int (h _ _)
theorem setA {prog : Program} {w : World} {A : Around} {E : Value → Shared → Prop} {s : Shared} {K : Frag} {h₀ : Heap} {L x C dx : Addr} {m : Str → Option Value} {news : List (Addr × Obj)} {news' : Tok → List (Addr × Obj)} {ox : Obj} {es : List DictEntry} {es' : Tok → List DictEntry} {n n' : Nat} {name : Str} {v : Value} {Q : Unit → Shared → Prop} (F : Fr h₀ L s.heap m) (X₀ : K.In h₀) (N : News h₀ L s.heap news) (I : InstAt s.heap x ox C (some (dictOf es n))) (hd : ox.dict = some dx)
    (hs : findIn K (.ref C) "__setattr__" = some (some (.builtin "object.__setattr__"))) (hp : plainOver K C = true) (ht : takerIn K C name = some none) (hh : hasDictIn K C = true) (hl : (getL name es).isSome = true)
    (e : ∀ t, (putL name (PyData.keyHash w.params name) (.str name t) v es, putN name es n) = (es' t, n')) (U : ∀ t, Upd dx (dictOf es n) (dictOf (es' t) n') news (news' t)) (hz : ∀ t, (es' t).length ≤ 1000)
    (h : ∀ h' t tk, Fr h₀ L h' m → News h₀ L h' (news' t) → Q () ⟨h', s.gens, s.drawn, tk, s.os⟩) :
    wpAny (model prog w) A (setAttr (.ref x) name v) Q E s := set_dict F X₀ N I hd hs hp ht hh hl (e _) (U _) (hz _) fun h' F' N' => h h' _ _ F' N'
section
variable {w : World} {p : Program} {loose : List Str} {mean : ExcName → Option Value} {mg mb : Str → Option Value}
/-- a contract, used at a call -/
theorem use_c {f f' : Addr} {args args' : List Value} {news : List (Addr × Obj)} {k : Nat} {Post : Value → List (Addr × Obj) → Prop} {dp un : Nat} {gd : Option (List Code)} {cn : Str} {cs : PySem.Scope} {ad : Addr} {ccd : Value} {cl : List (Str × Addr)} {outer : List Env} {A₀ : Around} {base h₀ : Heap} {L : Addr} {m : Str → Option Value} {s : Shared} {Q E : Value → Shared → Prop}
    (C : Ctr pw' w p loose mean mg mb f args news k Post) (e : f' = f) (ea : args' = args) (B : Below A₀ base outer h₀) (F : Fr h₀ L s.heap m) (X : (Mine.Kb w.params).In h₀) (N : News h₀ L s.heap news) (T : Top p loose mean mg mb h₀) (hk : cs.kind = .function) (hd : dp + k < recursionLimit) (hu : un + 8 * k < cLine)
    (hret : ∀ v news' h' tk', Post v news' → Fr h₀ L h' m → News h₀ L h' news' → Q v { s with heap := h', toks := tk' }) :
    wpAny (model pw' w) (ktrTop dp un gd cn cs L ad ccd cl outer) (call (.ref f') args') Q E s := by
  subst e
  subst ea
  exact C dp un gd cn cs ad ccd cl outer A₀ base h₀ L m s Q E B F X N T hk hd hu hret
end

end
-- AC
section
open PySem PySem.W PyProof.Rows PySem.Calls PyProof.Rows.LCg
section
variable {prog : Program} {w : World} {A : Around} {E : Value → Shared → Prop} {s : Shared} {h₀ : Heap} {L : Addr} {m : Str → Option Value} {env : Env}
noncomputable def TupSrc (prog : Program) (w : World) (A : Around) (h₀ : Heap) (L : Addr) (m : Str → Option Value) (env : Env) (elt : Expr) (x : Str) (scope : PySem.Scope) (cl : List (Str × Addr)) (Fin : Shared → List Value → List (Addr × Obj) → Prop) (xv : Value) (s₁ : Shared) : Prop :=
  ∃ ax o its n news, xv = .ref ax ∧ A.handled = none ∧ Fr h₀ L s₁.heap m ∧ News h₀ L s₁.heap news ∧ (ax, o) ∈ news ∧ o.cls = .type "tuple" ∧ o.data = .seq its n ∧ its.size ≤ sizeLine ∧
    ∀ s₂ : Shared, (∃ h, s₂ = { s₁ with heap := h }) → CompRest prog w A h₀ L m env elt x scope cl s₂ (fun nw => (ax, o) ∈ nw) (fun i v => its[i]? = some v) (Fin s₂) its.size 0 [] news
theorem TupSrc.at_ {elt : Expr} {x : Str} {scope : PySem.Scope} {cl : List (Str × Addr)} {Fin : Shared → List Value → List (Addr × Obj) → Prop} {ax : Addr} {its : Array Value} {k : Nat} {news : List (Addr × Obj)} {s₁ : Shared}
    (hh : A.handled = none) (F : Fr h₀ L s₁.heap m) (N : News h₀ L s₁.heap news) (hm : (ax, ({ cls := .type "tuple", data := .seq its k } : Obj)) ∈ news) (hsz : its.size ≤ sizeLine)
    (h : ∀ g, CompRest prog w A h₀ L m env elt x scope cl ⟨g, s₁.gens, s₁.drawn, s₁.toks, s₁.os⟩ (fun nw => (ax, ({ cls := .type "tuple", data := .seq its k } : Obj)) ∈ nw) (fun i v => its[i]? = some v) (Fin ⟨g, s₁.gens, s₁.drawn, s₁.toks, s₁.os⟩) its.size 0 [] news) :
    TupSrc prog w A h₀ L m env elt x scope cl Fin (.ref ax) s₁ := ⟨ax, _, its, k, news, rfl, hh, F, N, hm, rfl, rfl, hsz, fun _ ⟨g, e⟩ => e ▸ h g⟩
theorem compT {elt iter : Expr} {x : Str} {px : Pos} {scope : PySem.Scope} {cl : List (Str × Addr)} {pos : Pos} {Q : Value → Shared → Prop} (_F₀ : Fr h₀ L s.heap m)
    (hclos : closureFor scope env = pure cl) (hcell : ∀ y ∈ scope.names, y.2 ≠ .cell) (hkind : scope.kind = .function)
    (hnames : ∀ y ∈ scope.names, y.2 = .local → scope.names.lookup y.1 = some .local) (hx : scope.names.lookup x = some .local)
    (h : wpAny (model prog w) A (eval iter env) (TupSrc prog w A h₀ L m env elt x scope cl (fun s₂ => FinE h₀ L m s₂ Q)) E s)
    (hs : ∀ x, foldedSetIterable iter env x = pure x := by intro _; rfl) :
    wpAny (model prog w) A (eval (.ListComp elt [⟨.Name x px, iter, [], 0⟩] scope pos) env) Q E s := by
  rw [eval_ListComp]
  refine wpAny_comprehension_free (use := none) rfl hs hclos hkind hnames (wpAny_mono h (fun xv s₁ h₁ => ?_) fun _ _ e => e)
  obtain ⟨ax, o, its, n, news, rfl, hh, F, N, hm, hc, hd, hsz, R⟩ := h₁
  have hl : s₁.heap.IsTuple ax its := ⟨o, (N _ hm).1, hc, n, hd⟩
  have hlt : ax < s₁.heap.objs.size := Heap.lt_size (N _ hm).1
  have hne : ax ≠ s₁.heap.objs.size := Nat.ne_of_lt hlt
  refine wpAny_pyIter_tuple hl ?_
  have up : ∀ b x, s₁.heap.get? b = some x → (s₁.heap.push { cls := .type "tuple_iterator", data := .fields #[.ref ax, .int 0 0] }).get? b = some x := fun b x e => Heap.get?_push_of_some _ e
  refine block_U (Walks.tuple hh s₁.heap.objs.size ax hne its) hsz (fun i h st => let ⟨x, e, _⟩ := st.1; ⟨x, e⟩) ?st hcell hkind hx ⟨⟨_, Heap.get?_push_size _ rfl, rfl, rfl⟩, hl.push _⟩ (fun b hb => ?_)
    (F.keeps up) (N.grown up) (Nat.ne_of_lt F.ns.lt) (next_is_new F) (fun p hp => Nat.ne_of_lt (Heap.lt_size (N p hp).1)) hm (R _ ⟨_, rfl⟩) ?_
  case st =>
    intro i h h' x nw st e e' _ Nn hS
    obtain ⟨x', q, r⟩ := st.1
    rw [e] at q
    cases q
    exact ⟨⟨x, e', r⟩, ⟨o, (Nn _ hS).1, hc, n, hd⟩⟩
  · show b < (s₁.heap.push _).objs.size
    rw [Heap.size_push]
    rcases List.mem_cons.mp hb with rfl | hb
    · exact Nat.lt_succ_self _
    · rw [List.mem_singleton.mp hb]; exact Nat.lt_succ_of_lt hlt
  · intro D C h tk m' ys news' F' N' o1 hn hC₀ hD₀ hCL hDL hCD offC fin
    refine ⟨m', hn, fun h'' hs'' => fin D h'' tk (F'.change hs'' hCL hC₀) (fun p hp => ⟨hs''.extBut _ _ ?_ (N' p hp).1, (N' p hp).2⟩) o1⟩
    rcases List.mem_cons.mp hp with rfl | hp
    · exact Ne.symm hCD
    · exact offC p hp
theorem compEnd0 {I C D : Addr} {s₁ : Shared} {oI oC oD : Obj} {S : List (Addr × Obj) → Prop} {rest : Value → List (Addr × Obj) → Prop} {y : Value} {h' : Heap} {tk : Nat} {news : List (Addr × Obj)}
    (F : Fr h₀ L h' m) (N : News h₀ L h' ((I, oI) :: (C, oC) :: (D, oD) :: news)) (off : Off3 I C D news) (hS : S news) (r : rest y news) :
    CompEnd h₀ L m s₁ I oI C oC D oD S rest y ⟨h', s₁.gens, s₁.drawn, tk, s₁.os⟩ := ⟨h', tk, news, rfl, F, N, off, hS, r⟩
theorem compEnd1 {I C D T : Addr} {s₁ : Shared} {oI oC oD oT : Obj} {S : List (Addr × Obj) → Prop} {rest : Value → List (Addr × Obj) → Prop} {y : Value} {h' : Heap} {tk : Nat} {news : List (Addr × Obj)}
    (F : Fr h₀ L h' m) (N : News h₀ L h' ((T, oT) :: (I, oI) :: (C, oC) :: (D, oD) :: news)) (l : ∀ q ∈ (I, oI) :: (C, oC) :: (D, oD) :: news, q.1 < T) (off : Off3 I C D news) (hS : S ((T, oT) :: news)) (r : rest y ((T, oT) :: news)) :
    CompEnd h₀ L m s₁ I oI C oC D oD S rest y ⟨h', s₁.gens, s₁.drawn, tk, s₁.os⟩ := by
  have a := l (I, oI) (.head _)
  have b := l (C, oC) (.tail _ (.head _))
  have c := l (D, oD) (.tail _ (.tail _ (.head _)))
  refine ⟨h', tk, (T, oT) :: news, rfl, F, fun q hq => N q ?_, ⟨⟨Nat.ne_of_gt a, Nat.ne_of_gt b, Nat.ne_of_gt c⟩, off⟩, hS, r⟩
  simp only [List.mem_cons] at hq ⊢
  rcases hq with z | z | z | z | z
  · exact .inr (.inl z)
  · exact .inr (.inr (.inl z))
  · exact .inr (.inr (.inr (.inl z)))
  · exact .inl z
  · exact .inr (.inr (.inr (.inr z)))
theorem ne_len {a b : Addr} {xs ys : Array Value} {i j : Nat} {news : List (Addr × Obj)} {Q : Value → Shared → Prop} (N : News h₀ L s.heap news) (h1 : (a, W.listOf xs i) ∈ news) (h2 : (b, W.listOf ys j) ∈ news) (hsz : (xs.size != ys.size) = true) (hu : A.units < cLine) (h : Q (.bool true) s) :
    wpAny (model prog w) A (compareOp .NotEq (.ref a) (.ref b)) Q E s := cmp_ofNotEq (PySem.SeqAt.RcNeAt.lists_lengths ⟨_, (N _ h1).1, rfl, i, rfl⟩ ⟨_, (N _ h2).1, rfl, j, rfl⟩ hsz hu _ _ _ _ h)
end

end
-- EX11
section
open PySem PySem.W PyProof.Rows PySem.Calls
section
variable {prog : Program} {w : World} {A A₀ : Around} {s : Shared} {K : Frag} {L : Addr} {h₀ base : Heap} {m mg mb : Str → Option Value} {news : List (Addr × Obj)} {p : Program} {loose : List Str} {mean : ExcName → Option Value}
/-- entering a def with cells whose ground may turn -/
theorem code_defCT {env : Env} {outer : List Env} {R : Result → Shared → Prop} {name qual : Str} {params : Arguments} {body : List Stmt} {scope : PySem.Scope} {dV kV doc pm cdv ct oc : Value} {an od : Option Addr} {osl : Array (Option Value)} {f : Addr} {args : Args} {binds : List (Str × Value)}
    (B : Below A₀ base outer h₀) (F : Fr h₀ L s.heap m) (X₀ : K.In h₀) (N : News h₀ L s.heap news) (T : Top p loose mean mg mb h₀) (hA : A.frames = some (env :: outer)) (hf : env.frame = some L) (hke : env.scope.kind = .function)
    (ho : K.lookup f = some ⟨oc, od, .func (fnOf name qual params body scope dV kV doc pm an cdv ct), osl⟩) (hcd : codeIn K cdv qual = true) (hroom : A.depth < recursionLimit)
    (hbind : BindsTo s (fnOf name qual params body scope dV kV doc pm an cdv ct) args binds) (hkind : (binds.all fun y => scope.names.lookup y.1 == some .local || scope.names.lookup y.1 == some .cell) = true)
    (hnd : ((cellsFrom 0 scope.names []).map (·.1)).Nodup)
    (h : ∀ g L' h₁ tk cells, Fr h₀ L g m → Fr g L' h₁ (bindL (envOfC qual scope L' f cdv).kindOf binds fun _ => none) → News g L' h₁ (cells ++ news) →
      CellsAre (bindC (envOfC qual scope L' f cdv).kindOf binds fun _ => none) (cellsFrom (L' + 1) scope.names []) cells → Below A base (env :: outer) g → K.In g → Top p loose mean mg mb g → (∀ p ∈ news, p.1 < L') →
      wpAny (model prog w) (A.deeper (envOfC qual scope L' f cdv)) (execs body (envOfC qual scope L' f cdv))
        (fun fl s' => LeaveT A₀ base env outer h₀ L m g R (match fl with | .ret v => v | _ => .none) s')
        (fun e s' => wpAny (model prog w) (A.deeper (envOfC qual scope L' f cdv)) (leaving (envOfC qual scope L' f cdv) e) (fun _ s'' => R (.error e) s'') (fun e' s'' => R (.error e') s'') s')
        { s with heap := h₁, toks := tk })
    (hco : scope.isCoroutine = false) (hgen : scope.isGenerator = false) (hk : scope.kind = .function) : codeAny (model prog w) A (.call (.ref f) args) R s := by
  obtain ⟨FG, BG, st, _⟩ := groundX (R := R) B F N hA hf hke
  have X := X₀.keeps F.keep
  refine codeAny_call_function hroom (X _ _ ho) rfl hco hgen rfl (codeRec_of X hcd) (hbind _ _ _ _ ?_)
  refine wpAny_newFunctionEnv_cells hk (kindsX hkind _) fun env' he s' x => ?_
  subst he
  refine ⟨(T.nolimit.keeps F.keep).keeps x.toInCall.keep, codeAny_func ?_⟩
  obtain ⟨h₁, tk, rfl, _⟩ := x.done
  have hk₁ := x.toInCall.keep
  obtain ⟨cells, NC, Y⟩ := Cl.news (h₀ := s.heap) (Nat.le_refl _) fun n c hm => ⟨x.cell n c (lookup_of_mem_nodup (cellsFrom_names scope.names 0 (s.heap.objs.size + 1) [] [] rfl ▸ hnd) hm), x.above n c hm⟩
  refine wpAny_mono (h _ s.heap.objs.size h₁ tk cells FG ⟨x.toInCall.ns, fun b o e => hk₁ b o (of_hideAll _ e), Nat.le_of_eq (hideAll_size _ _)⟩ (fun q hq => ?_) Y BG (X₀.keeps st) (T.keeps st) (fun q hq => Heap.lt_size (N q hq).1)) (fun fl s' hl => leaveT_use B (kts_self F) FG hf hl) fun _ _ y => y
  rcases List.mem_append.mp hq with hq | hq
  · refine ⟨(NC q hq).1, (NC q hq).2.1, ?_⟩
    cases z : (hideAll s.heap (news.map (·.1))).get? q.1 with
    | none => rfl
    | some o => have := of_hideAll _ z; rw [(NC q hq).2.2] at this; cases this
  · exact ⟨hk₁ _ _ (N q hq).1, Nat.ne_of_lt (Heap.lt_size (N q hq).1), hideAll_none _ (List.mem_map_of_mem hq)⟩
end

end
-- AT
section
open PySem PySem.W PyProof.Rows PySem.Calls
section
variable {w : World} {p : Program} {loose : List Str} {mean : ExcName → Option Value} {mg mb : Str → Option Value}
/-- a contract whose ground may turn, used at a call -/
theorem use_t {f f' : Addr} {args args' : List Value} {news : List (Addr × Obj)} {k : Nat} {Post : Value → List (Addr × Obj) → Prop} {dp un : Nat} {gd : Option (List Code)} {cn : Str} {cs : PySem.Scope} {ad : Addr} {ccd : Value} {cl : List (Str × Addr)} {outer : List Env} {A₀ : Around} {base h₀ : Heap} {L : Addr} {m : Str → Option Value} {s : Shared} {Q E : Value → Shared → Prop}
    (C : CtrT pw' w p loose mean mg mb f args news k Post) (e : f' = f) (ea : args' = args) (B : Below A₀ base outer h₀) (F : Fr h₀ L s.heap m) (XB : (Mine.Kb w.params).In base) (TB : Top p loose mean mg mb base) (N : News h₀ L s.heap news) (X : (Mine.Kb w.params).In h₀) (T : Top p loose mean mg mb h₀) (hk : cs.kind = .function) (hd : dp + k < recursionLimit) (hu : un + 8 * k < cLine)
    (hret : ∀ v news' h' tk' h₀', KtsTurn (outer.filterMap (·.frame)) h₀ h₀' → Post v news' → Fr h₀' L h' m → News h₀' L h' news' → Below A₀ base outer h₀' → (Mine.Kb w.params).In h₀' → Top p loose mean mg mb h₀' → Q v ⟨h', s.gens, s.drawn, tk', s.os⟩) :
    wpAny (model pw' w) (ktrTop dp un gd cn cs L ad ccd cl outer) (call (.ref f') args') Q E s := by
  subst e
  subst ea
  exact C dp un gd cn cs ad ccd cl outer A₀ base h₀ L m s Q E B F XB TB N X T hk hd hu fun v n h' tk' g' t P F' N' B' => hret v n h' tk' g' t P F' N' B' (XB.keeps B'.stays) (TB.keeps B'.stays)
end

end
-- AX
section
open PySem PySem.W PyProof.Rows PySem.Calls
theorem lim0 {R d k a : Nat} (h : d + k < R) (l : Nat.ble a k = true) : d + a < R := Nat.lt_of_le_of_lt (Nat.add_le_add_left (Nat.le_of_ble_eq_true l) d) h
theorem limz {R d k : Nat} (h : d + k < R) : d < R := Nat.lt_of_le_of_lt (Nat.le_add_right d k) h
theorem lim1 {R d k x a : Nat} (h : d + k < R) (l : Nat.ble (x + a) k = true) : d + x + a < R := by rw [Nat.add_assoc]; exact lim0 h l
theorem lim2 {R d k x y a : Nat} (h : d + k < R) (l : Nat.ble (x + y + a) k = true) : d + x + y + a < R := by rw [Nat.add_assoc d x y]; exact lim1 h l
theorem lim3 {R d k x y z a : Nat} (h : d + k < R) (l : Nat.ble (x + y + z + a) k = true) : d + x + y + z + a < R := by rw [Nat.add_assoc d x y]; exact lim2 h l
theorem lim4 {R d k x y z u a : Nat} (h : d + k < R) (l : Nat.ble (x + y + z + u + a) k = true) : d + x + y + z + u + a < R := by rw [Nat.add_assoc d x y]; exact lim3 h l
theorem lim5 {R d k x y z u v a : Nat} (h : d + k < R) (l : Nat.ble (x + y + z + u + v + a) k = true) : d + x + y + z + u + v + a < R := by rw [Nat.add_assoc d x y]; exact lim4 h l
theorem lt_mem {a b : Addr} {o : Obj} {l : List (Addr × Obj)} (h : ∀ q ∈ l, q.1 < b) (m : (a, o) ∈ l) : @LT.lt Nat _ a b := h _ m
theorem ne_mem {a b : Addr} {o : Obj} {l : List (Addr × Obj)} (h : ∀ q ∈ l, q.1 ≠ b) (m : (a, o) ∈ l) : @Ne Nat a b := h _ m
theorem off1_ne {D : Addr} {l : List (Addr × Obj)} (h : LCg.Off1 D l) : ∀ q ∈ l, q.1 ≠ D := by
  induction l with
  | nil => intro q hq; cases hq
  | cons p r ih =>
    intro q hq
    have h' : (@Ne Nat p.1 D) ∧ LCg.Off1 D r := h
    rcases List.mem_cons.mp hq with e | hq
    · exact e ▸ h'.1
    · exact ih h'.2 q hq
theorem ne_of_sub {d : Addr} {l news : List (Addr × Obj)} (h : ∀ q ∈ l, q.1 ≠ d) (s : ∀ q ∈ news, q ∈ l) : ∀ q ∈ news, q.1 ≠ d := fun q hq => h q (s q hq)

end
-- AY
section
open PySem PySem.W PyProof.Rows PySem.Calls
theorem lt_two {a b c : Addr} {o : Obj} {l : List (Addr × Obj)} (k : @LT.lt Nat _ c b) (h : ∀ q ∈ l, q.1 < c) (m : (a, o) ∈ l) : @LT.lt Nat _ a b := Nat.lt_trans (h _ m) k
theorem srcAt_mem {h₀ : Heap} {ax : Addr} {its : Array Value} {n : Nat} {news : List (Addr × Obj)} (m : (ax, W.listOf its n) ∈ news) : LCg.SrcAt h₀ ax its news := .inr ⟨_, m, rfl, n, rfl⟩
/-- where a walk is to stop -/
noncomputable def Stop (P : Prop) : Prop := P
theorem stop_ {P : Prop} (h : Stop P) : P := h
theorem go_on {P : Prop} (h : P) : Stop P := h
theorem far1 {a : Nat} (h : 1058 ≤ a) : a ≠ 1045 := by omega
theorem far2 {a : Nat} (h : 1058 ≤ a) : a ≠ 717 := by omega
theorem farL {a L : Nat} (h : 1058 ≤ a) (k : a < L) : 1058 ≤ L + 1 + 1 := by omega
theorem far3 {a L : Nat} (k : a < L) : a ≠ L + 1 + 1 := by omega
/-- a ledger without some places -/
noncomputable def sansA (as : List Addr) (news : List (Addr × Obj)) : List (Addr × Obj) := news.filter fun q => !as.contains q.1
theorem mem_sansA {as : List Addr} {q : Addr × Obj} {news : List (Addr × Obj)} (h : q ∈ news) (n : ∀ a ∈ as, q.1 ≠ a) : q ∈ sansA as news := List.mem_filter.mpr ⟨h, by
  rw [Bool.not_eq_true']
  cases z : as.contains q.1 with
  | false => rfl
  | true => exact absurd rfl (n _ (List.contains_iff_mem.mp z))⟩
theorem sansA_ne {as : List Addr} {a : Addr} {news : List (Addr × Obj)} (h : a ∈ as) : ∀ q ∈ sansA as news, q.1 ≠ a := fun q hq e => by
  have := (List.mem_filter.mp hq).2
  rw [Bool.not_eq_true', e] at this
  rw [List.contains_iff_mem.mpr h] at this
  cases this
theorem sansA_sub {as : List Addr} {news : List (Addr × Obj)} : ∀ q ∈ sansA as news, q ∈ news := fun _ hq => (List.mem_filter.mp hq).1

end
-- LI
section
open PySem PySem.W PyProof.Rows PySem.Calls
/-- what a display without effects yields -/
inductive Sh where
  | val (v : Value) | str (x : Str) | int (i : Int) | none | bool (b : Bool) | nil | cons (a l : Sh) | tup (l : Sh)
mutual
noncomputable def shOf : Nat → (Str → Option Value) → (Str → Option NameKind) → Expr → Option Sh
  | _ + 1, _, _, .Constant (.str x) _ _ => some (.str x)
  | _ + 1, _, _, .Constant (.int i) _ _ => some (.int i)
  | _ + 1, _, _, .Constant .none _ _ => some .none
  | _ + 1, _, _, .Constant (.bool b) _ _ => some (.bool b)
  | _ + 1, m, kd, .Name x _ => if kd x = some .local then (if (x == ("__debug__" : Str)) = false then (m x).map .val else .none) else .none
  | n + 1, m, kd, .Tuple es _ _ => if es.length ≤ 100 then (shsOf n m kd es).map .tup else .none
  | _, _, _, _ => .none
noncomputable def shsOf : Nat → (Str → Option Value) → (Str → Option NameKind) → List Expr → Option Sh
  | _ + 1, _, _, [] => some .nil
  | n + 1, m, kd, e :: r => (shOf n m kd e).bind fun a => (shsOf n m kd r).map (.cons a)
  | 0, _, _, _ => .none
end
mutual
noncomputable def Bears (own : List (Addr × Obj)) : Sh → Value → Prop
  | .val u, v => v = u
  | .str x, v => ∃ t, v = .str x t
  | .int i, v => ∃ t, v = .int i t
  | .none, v => v = .none
  | .bool b, v => v = .bool b
  | .tup l, v => ∃ a vs, v = .ref a ∧ (a, Mine.tup vs) ∈ own ∧ BearsL own l vs
  | _, _ => False
noncomputable def BearsL (own : List (Addr × Obj)) : Sh → List Value → Prop
  | .nil, vs => vs = []
  | .cons a l, vs => ∃ v r, vs = v :: r ∧ Bears own a v ∧ BearsL own l r
  | _, _ => False
end
mutual
theorem Bears.mono {own own' : List (Addr × Obj)} (s : ∀ q ∈ own, q ∈ own') : ∀ (sh : Sh) {v : Value}, Bears own sh v → Bears own' sh v
  | .val _, _, h => h
  | .str _, _, h => h
  | .int _, _, h => h
  | .none, _, h => h
  | .bool _, _, h => h
  | .tup l, _, ⟨a, vs, e, m, b⟩ => ⟨a, vs, e, s _ m, BearsL.mono s l b⟩
  | .nil, _, h => h.elim
  | .cons _ _, _, h => h.elim
theorem BearsL.mono {own own' : List (Addr × Obj)} (s : ∀ q ∈ own, q ∈ own') : ∀ (sh : Sh) {vs : List Value}, BearsL own sh vs → BearsL own' sh vs
  | .nil, _, h => h
  | .cons a l, _, ⟨v, r, e, h1, h2⟩ => ⟨v, r, e, Bears.mono s a h1, BearsL.mono s l h2⟩
  | .val _, _, h => h.elim
  | .str _, _, h => h.elim
  | .int _, _, h => h.elim
  | .none, _, h => h.elim
  | .bool _, _, h => h.elim
  | .tup _, _, h => h.elim
end
theorem BearsL.short {own : List (Addr × Obj)} {n : Nat} {m : Str → Option Value} {kd : Str → Option NameKind} : ∀ {es : List Expr} {sh : Sh} {vs : List Value}, shsOf n m kd es = some sh → BearsL own sh vs → vs.length = es.length := by
  intro es
  induction es generalizing n with
  | nil =>
    intro sh vs h b
    cases n with
    | zero => cases h
    | succ n => cases h; cases b; rfl
  | cons e r ih =>
    intro sh vs h b
    cases n with
    | zero => cases h
    | succ n =>
      obtain ⟨a, h1, h⟩ := Option.bind_eq_some_iff.mp (show (shOf n m kd e).bind (fun a' => (shsOf n m kd r).map (.cons a')) = some sh from h)
      obtain ⟨l, h2, h⟩ := Option.map_eq_some_iff.mp h
      subst h
      obtain ⟨v, r', rfl, _, b2⟩ := b
      exact congrArg Nat.succ (ih h2 b2)
theorem no_sh {P : Prop} {sh : Sh} (h : (Option.none : Option Sh) = some sh) : P := nomatch h
theorem shOf_cases {P : Prop} {n : Nat} {m : Str → Option Value} {kd : Str → Option NameKind} {e : Expr} {sh : Sh} (h : shOf (n + 1) m kd e = some sh)
    (k1 : ∀ x k q, e = .Constant (.str x) k q → sh = .str x → P) (k2 : ∀ i k q, e = .Constant (.int i) k q → sh = .int i → P) (k3 : ∀ k q, e = .Constant .none k q → sh = .none → P) (k4 : ∀ b k q, e = .Constant (.bool b) k q → sh = .bool b → P)
    (k5 : ∀ x q v, e = .Name x q → kd x = some .local → (x == ("__debug__" : Str)) = false → m x = some v → sh = .val v → P) (k6 : ∀ es k q l, e = .Tuple es k q → es.length ≤ 100 → shsOf n m kd es = some l → sh = .tup l → P) : P := by
  cases e with
  | Constant c k q =>
    cases c with
    | str x => exact k1 x k q rfl (Option.some.inj h).symm
    | int x => exact k2 x k q rfl (Option.some.inj h).symm
    | none => exact k3 k q rfl (Option.some.inj h).symm
    | bool x => exact k4 x k q rfl (Option.some.inj h).symm
    | _ => exact no_sh h
  | Name x q =>
    change (if kd x = some .local then (if (x == ("__debug__" : Str)) = false then (m x).map Sh.val else .none) else .none) = some sh at h
    by_cases h1 : kd x = some .local
    · rw [if_pos h1] at h
      by_cases h2 : (x == ("__debug__" : Str)) = false
      · rw [if_pos h2] at h
        obtain ⟨v, h3, h⟩ := Option.map_eq_some_iff.mp h
        exact k5 x q v rfl h1 h2 h3 h.symm
      · rw [if_neg h2] at h; cases h
    · rw [if_neg h1] at h; cases h
  | Tuple es k q =>
    change (if es.length ≤ 100 then (shsOf n m kd es).map Sh.tup else .none) = some sh at h
    by_cases hz : es.length ≤ 100
    · rw [if_pos hz] at h
      obtain ⟨l, hl, h⟩ := Option.map_eq_some_iff.mp h
      exact k6 es k q l rfl hz hl h.symm
    · rw [if_neg hz] at h; cases h
  | _ => exact no_sh h
section
variable {M : Model} {A : Around} {E : Value → Shared → Prop} {h₀ : Heap} {L a : Addr} {m : Str → Option Value} {cn : Str} {cs : PySem.Scope} {ccd : Value} {cl : List (Str × Addr)}
theorem lit_both (hk : cs.kind = .function) : ∀ n,
    (∀ (e : Expr) (sh : Sh), shOf n m (envX cn cs L a ccd cl).kindOf e = some sh → (∀ r : List Expr, starEach (e :: r) (envX cn cs L a ccd cl) = (false, eval e (envX cn cs L a ccd cl)) :: starEach r (envX cn cs L a ccd cl)) ∧ ∀ (s : Shared) (news : List (Addr × Obj)) (Q : Value → Shared → Prop), Fr h₀ L s.heap m → News h₀ L s.heap news →
      (∀ v own h' tk, Fr h₀ L h' m → News h₀ L h' (own ++ news) → (∀ q ∈ news, ∀ p ∈ own, q.1 < p.1) → Bears own sh v → Q v ⟨h', s.gens, s.drawn, tk, s.os⟩) → wpAny M A (eval e (envX cn cs L a ccd cl)) Q E s) ∧
    (∀ (es : List Expr) (sh : Sh), shsOf n m (envX cn cs L a ccd cl).kindOf es = some sh → ∀ (s : Shared) (news : List (Addr × Obj)) (pos : Pos) (Q : List Value → Shared → Prop), Fr h₀ L s.heap m → News h₀ L s.heap news →
      (∀ vs own h' tk, Fr h₀ L h' m → News h₀ L h' (own ++ news) → (∀ q ∈ news, ∀ p ∈ own, q.1 < p.1) → BearsL own sh vs → Q vs ⟨h', s.gens, s.drawn, tk, s.os⟩) → wpAny M A (spliced (backTo pos (starEach es (envX cn cs L a ccd cl)))) Q E s) := by
  intro n
  induction n with
  | zero =>
    refine ⟨fun e sh h => ?_, fun es sh h => ?_⟩
    · change Option.none = _ at h; cases h
    · change Option.none = _ at h; cases h
  | succ n ih =>
    have zero : ∀ news : List (Addr × Obj), ∀ q ∈ news, ∀ p ∈ ([] : List (Addr × Obj)), q.1 < p.1 := fun _ _ _ _ h => nomatch h
    refine ⟨fun e sh h => ?_, fun es sh h => ?_⟩
    · refine shOf_cases h ?_ ?_ ?_ ?_ ?_ ?_
      · rintro x k q rfl rfl; exact ⟨fun _ => rfl, fun s news Q F N k => constS fun t tk => k _ [] _ tk F N (zero _) ⟨t, rfl⟩⟩
      · rintro i k q rfl rfl; exact ⟨fun _ => rfl, fun s news Q F N k => constI fun t tk => k _ [] _ tk F N (zero _) ⟨t, rfl⟩⟩
      · rintro k q rfl rfl; exact ⟨fun _ => rfl, fun s news Q F N k => wpAny_Constant_none (k _ [] _ _ F N (zero _) rfl)⟩
      · rintro b k q rfl rfl; exact ⟨fun _ => rfl, fun s news Q F N k => wpAny_Constant_bool (k _ [] _ _ F N (zero _) rfl)⟩
      · rintro x q v rfl h1 h2 h3 rfl
        exact ⟨fun _ => rfl, fun s news Q F N k => nameX_L F h3 (k _ [] _ _ F N (zero _) rfl) hk h1 h2⟩
      · rintro es k pos l rfl hz hl rfl
        refine ⟨fun _ => rfl, fun s news Q F N k => Tuple_ ((ih.2 es l hl) s news pos _ F N fun vs own h' tk F' N' fr b => ?_)⟩
        refine kup_newTuple F' N' (fun D h2 F2 N2 l2 => ?_) ?_
        · refine k _ ((D, Mine.tup vs) :: own) h2 tk F2 N2 (fun q hq p hp => ?_) ⟨D, vs, rfl, .head _, BearsL.mono (fun _ hq => .tail _ hq) l b⟩
          rcases List.mem_cons.mp hp with rfl | hp
          · exact l2 q (List.mem_append_right _ hq)
          · exact fr q hq p hp
        · rw [BearsL.short hl b, sizeLine_eq]
          omega
    · cases es with
      | nil =>
        cases h
        exact fun s news pos Q F N k => args_nil (k _ [] _ s.toks F N (zero _) rfl)
      | cons e r =>
        obtain ⟨sa, h1, h⟩ := Option.bind_eq_some_iff.mp (show (shOf n m (envX cn cs L a ccd cl).kindOf e).bind (fun a' => (shsOf n m (envX cn cs L a ccd cl).kindOf r).map (.cons a')) = some sh from h)
        obtain ⟨l, h2, h⟩ := Option.map_eq_some_iff.mp h
        subst h
        intro s news pos Q F N k
        refine args_cons (((ih.1 e sa h1).2) s news _ F N fun v own h' tk F' N' fr b => (ih.2 r l h2) _ _ pos _ F' N' fun vs own2 h3 tk3 F3 N3 fr3 b3 => ?_) ((ih.1 e sa h1).1 r)
        refine k (v :: vs) (own2 ++ own) h3 tk3 F3 (by rw [List.append_assoc]; exact N3) (fun q hq p hp => ?_) ⟨v, vs, rfl, Bears.mono (fun _ hq => List.mem_append_right _ hq) sa b, BearsL.mono (fun _ hq => List.mem_append_left _ hq) l b3⟩
        rcases List.mem_append.mp hp with hp | hp
        · exact fr3 q (List.mem_append_right _ hq) p hp
        · exact fr q hq p hp
end
mutual
noncomputable def All (own : List (Addr × Obj)) : Sh → (Value → Prop) → Prop
  | .val u, k => k u
  | .str x, k => ∀ t, k (.str x t)
  | .int i, k => ∀ t, k (.int i t)
  | .none, k => k .none
  | .bool b, k => k (.bool b)
  | .tup l, k => AllL own l fun vs => ∀ a, (a, Mine.tup vs) ∈ own → k (.ref a)
  | _, _ => True
noncomputable def AllL (own : List (Addr × Obj)) : Sh → (List Value → Prop) → Prop
  | .nil, k => k []
  | .cons a l, k => All own a fun v => AllL own l fun vs => k (v :: vs)
  | _, _ => True
end
mutual
theorem All.use {own : List (Addr × Obj)} : ∀ (sh : Sh) {v : Value} {k : Value → Prop}, Bears own sh v → All own sh k → k v
  | .val _, _, _, h, a => by cases h; exact a
  | .str _, _, _, ⟨t, h⟩, a => by cases h; exact a t
  | .int _, _, _, ⟨t, h⟩, a => by cases h; exact a t
  | .none, _, _, h, a => by cases h; exact a
  | .bool _, _, _, h, a => by cases h; exact a
  | .tup l, _, _, ⟨x, vs, e, m, b⟩, a => by cases e; exact AllL.use (k := fun vs => ∀ a, (a, Mine.tup vs) ∈ own → _) l b a x m
  | .nil, _, _, h, _ => h.elim
  | .cons _ _, _, _, h, _ => h.elim
theorem AllL.use {own : List (Addr × Obj)} : ∀ (sh : Sh) {vs : List Value} {k : List Value → Prop}, BearsL own sh vs → AllL own sh k → k vs
  | .nil, _, _, h, a => by cases h; exact a
  | .cons x l, _, k, ⟨v, r, e, h1, h2⟩, a => by cases e; exact AllL.use (k := fun vs => k (v :: vs)) l h2 (All.use (k := fun v => AllL own l fun vs => k (v :: vs)) x h1 a)
  | .val _, _, _, h, _ => h.elim
  | .str _, _, _, h, _ => h.elim
  | .int _, _, _, h, _ => h.elim
  | .none, _, _, h, _ => h.elim
  | .bool _, _, _, h, _ => h.elim
  | .tup _, _, _, h, _ => h.elim
end
section
variable {M : Model} {A : Around} {E : Value → Shared → Prop} {h₀ : Heap} {L a : Addr} {m : Str → Option Value} {cn : Str} {cs : PySem.Scope} {ccd : Value} {cl : List (Str × Addr)} {s : Shared} {news : List (Addr × Obj)}
/-- a display without effects, in one step -/
theorem lit_eval {e : Expr} {sh : Sh} {Q : Value → Shared → Prop} (hk : cs.kind = .function) (he : shOf 20 m (envX cn cs L a ccd cl).kindOf e = some sh) (F : Fr h₀ L s.heap m) (N : News h₀ L s.heap news)
    (h : ∀ own h' tk, Fr h₀ L h' m → News h₀ L h' (own ++ news) → (∀ q ∈ news, ∀ p ∈ own, q.1 < p.1) → All own sh fun v => Q v ⟨h', s.gens, s.drawn, tk, s.os⟩) : wpAny M A (eval e (envX cn cs L a ccd cl)) Q E s :=
  (((lit_both hk 20).1 e sh he).2) s news Q F N fun _ own h' tk F' N' fr b => All.use (k := fun v => Q v ⟨h', s.gens, s.drawn, tk, s.os⟩) sh b (h own h' tk F' N' fr)
end
theorem own_ne {own news : List (Addr × Obj)} {d : Addr} {o : Obj} (fr : ∀ q ∈ news, ∀ p ∈ own, q.1 < p.1) (m : (d, o) ∈ news) : ∀ p ∈ own, p.1 ≠ d := fun p hp => Nat.ne_of_gt (fr _ m p hp)
theorem own_lt {own news : List (Addr × Obj)} {d x : Addr} {o o' : Obj} (fr : ∀ q ∈ news, ∀ p ∈ own, q.1 < p.1) (m : (d, o) ∈ news) (h : (x, o') ∈ own) : @LT.lt Nat _ d x := fr _ m _ h
theorem all_app {d : Addr} {own news : List (Addr × Obj)} (a : ∀ p ∈ own, p.1 ≠ d) (b : ∀ p ∈ news, p.1 ≠ d) : ∀ p ∈ own ++ news, p.1 ≠ d := fun p hp => (List.mem_append.mp hp).elim (a p) (b p)
theorem upd_app {d : Addr} {o o' : Obj} {r r' : List (Addr × Obj)} (U : Upd d o o' r r') : ∀ {own : List (Addr × Obj)}, (∀ p ∈ own, p.1 ≠ d) → Upd d o o' (own ++ r) (own ++ r')
  | [], _ => U
  | q :: l, a => .tail (a q (.head _)) (upd_app U fun p hp => a p (.tail _ hp))
theorem updF_app {d : Addr} {o : Obj} {r : List (Addr × Obj)} {g : Obj → List (Addr × Obj)} (U : UpdF d o r g) : ∀ {own : List (Addr × Obj)}, (∀ p ∈ own, p.1 ≠ d) → UpdF d o (own ++ r) (fun o' => own ++ g o')
  | [], _ => U
  | q :: l, a => .tail (a q (.head _)) (updF_app U fun p hp => a p (.tail _ hp))

end
section
open PySem PySem.W PyProof.Rows PySem.Calls
local macro_rules | `(tactic| k_lt $h:ident) => `(tactic| skip)
local macro_rules | `(tactic| k_lt2 $h:ident) => `(tactic| skip)
local macro_rules | `(tactic| k_enter) => `(tactic| ktr_enter)
local macro_rules | `(tactic| ke_room) => `(tactic| ktr_units)
theorem words_1 : True := by
  k_with_none
  k_with "ktr_enter" => (refine' code_defC ?u1k1 ?u1k2 ?u1k3 ?u1k4 ?u1k5 ?u1kA ?u1kF ?u1kK ?u1k6 ?u1k7 ?u1k8 ?u1k9 ?u1kB ?u1kD ?_ ?u1c2 ?u1c3 ?u1c4; (case u1kA => exact rfl); (case u1kF => exact rfl); (case u1kK => first | exact rfl | assumption); (case u1k1 => k_asm); (case u1k2 => k_asm); (case u1k3 => k_asm); (case u1k4 => k_asm); (case u1k5 => k_asm); (case u1k6 => k_is); (case u1k7 => k_is); (case u1k8 => ktr_room); (case u1k9 => first | (refine' binds_K ?u1z1 ?u1z2 ?u1z3 ?u1z4 ?u1z5 ?u1z6; (case u1z2 => exact rfl); (case u1z1 => k_in); (case u1z3 => k_is); (case u1z4 => exact rfl); (case u1z5 => exact rfl); (case u1z6 => exact rfl)) | exact BindsTo.of_eq rfl); (case u1kB => exact rfl); (case u1kD => decide +kernel); (case u1c2 => exact rfl); (case u1c3 => exact rfl); (case u1c4 => exact rfl); k_whole; intro qqg' qqL' qqh' qqtk' qqcells' qqFG' qqF' qqN' qqY' qqB' qqX' qqT' qql1; (have qqlc1 := lt_up qql1 (Nat.lt_succ_self _)); (have qqlc2 := lt_up qqlc1 (Nat.lt_succ_self _)); (have qqlc3 := lt_up qqlc2 (Nat.lt_succ_self _)); (try k_lt qql1); k_cells qqY'; (try simp only [List.cons_append, List.nil_append] at qqN'); (try dsimp only); (k_dflt (show wpAny _ _ (execs (List.cons _ _) _) _ _ _)); (try k_fold))
  k_with "ktr_enter" => (refine' code_def ?u2k1 ?u2k2 ?u2k3 ?u2k4 ?u2k5 ?u2kA ?u2kF ?u2kK ?u2k6 ?u2k7 ?u2k8 ?u2k9 ?u2kB ?_ ?u2c2 ?u2c3 ?u2c4 ?u2c5; (case u2kA => exact rfl); (case u2kF => exact rfl); (case u2kK => first | exact rfl | assumption); (case u2k1 => k_asm); (case u2k2 => k_asm); (case u2k3 => k_asm); (case u2k4 => k_asm); (case u2k5 => k_asm); (case u2k6 => k_is); (case u2c5 => decide); (case u2k7 => k_is); (case u2k8 => ktr_room); (case u2k9 => first | (refine' binds_K ?u2z1 ?u2z2 ?u2z3 ?u2z4 ?u2z5 ?u2z6; (case u2z2 => exact rfl); (case u2z1 => k_in); (case u2z3 => k_is); (case u2z4 => exact rfl); (case u2z5 => exact rfl); (case u2z6 => exact rfl)) | exact BindsTo.of_eq rfl); (case u2kB => exact locs rfl); (case u2c2 => exact rfl); (case u2c3 => exact rfl); (case u2c4 => exact rfl); k_whole; intro qqg' qqL' qqh' qqFG' qqF' qqN' qqB' qqX' qqT'; (try dsimp only); (k_dflt (show wpAny _ _ (execs (List.cons _ _) _) _ _ _)); (try k_fold))
  k_with "eval Dict cons cons" => (k_dflt (refine' kdn_str ?u3q ?u3F ?u3N ?u3b ?u3a ?u3l ?u3e ?u3n ?_; (case u3q => rfl); (case u3F => k_asm); (case u3N => first | k_asm | exact News.nil); (case u3b => exact Top.nolimit (by k_asm)); (case u3a => rfl); (case u3l => rfl); (case u3e => exact List.cons_ne_nil _ _); (case u3n => exact Nat.le_of_ble_eq_true rfl)); intro qqd' qqh' qqo' qqF' qqN' qql1 qqlo' qqhd'; (try k_lt qql1))
  k_with "k_mem" => first | exact List.Mem.head _ | with_reducible assumption | (refine' List.mem_cons_of_mem _ ?_; k_extra "k_mem")
  k_with "ltf" => first | with_reducible assumption | (refine' lt_mem ?u5zh ?u5zm; (case u5zh => with_reducible assumption); (case u5zm => k_extra "k_mem"))
  k_with "nef" => first | with_reducible assumption | (refine' ne_mem ?u6zh ?u6zm; (case u6zh => with_reducible assumption); (case u6zm => k_extra "k_mem"))
  k_with "k_ne" => (refine neN ?_; (try dsimp only); first | (refine Nat.ne_of_lt ?_; k_extra "ltf") | (refine Nat.ne_of_gt ?_; k_extra "ltf") | k_extra "nef" | (refine Ne.symm ?_; k_extra "nef") | omega)
  k_with "lim" => first | (refine' limz ?u8h; (case u8h => assumption)) | (refine' lim0 ?u8h ?u8l; (case u8h => assumption); (case u8l => rfl)) | (refine' lim1 ?u8h ?u8l; (case u8h => assumption); (case u8l => rfl)) | (refine' lim2 ?u8h ?u8l; (case u8h => assumption); (case u8l => rfl)) | (refine' lim3 ?u8h ?u8l; (case u8h => assumption); (case u8l => rfl)) | (refine' lim4 ?u8h ?u8l; (case u8h => assumption); (case u8l => rfl)) | (refine' lim5 ?u8h ?u8l; (case u8h => assumption); (case u8l => rfl))
  k_with "ktr_units" => first | ((try simp only [units_in1, units_deeper, Around.mark_units, units_caller, units_under_make]); (try dsimp only [ktrTop]); k_extra "lim") | (have qqhcL9 := cLine_is; (try simp only [units_in1, units_deeper, Around.mark_units, units_caller, units_under_make]); (try dsimp only [ktrTop]); omega) | (have qqhcL9 := cLine_is; (try simp only [units_in1, units_deeper, Around.mark_units, units_caller, units_under_make] at *); (try dsimp only [ktrTop] at *); omega)
  k_with "ktr_room" => first | ((try simp only [depth_under_make, depth_under_kw, depth_in1, depth_deeper, depth_caller]); (try dsimp only [ktrTop]); k_extra "lim") | ((try simp only [depth_under_make, depth_under_kw, depth_in1, depth_deeper, depth_caller]); (try dsimp only [ktrTop]); omega) | ((try simp only [depth_under_make, depth_under_kw, depth_in1, depth_deeper, depth_caller] at *); (try dsimp only [ktrTop] at *); (simp only [recursionLimit] at *); omega)
  k_with "sub" => (intro qqq qqhq; (repeat (first | with_reducible exact qqhq | apply List.mem_cons_of_mem)); done)
  k_with "k_all" => first | exact List.forall_mem_nil _ | with_reducible assumption | (refine' ne_of_pre ?u12zh ?u12zs; (case u12zh => with_reducible assumption); (case u12zs => k_extra "sub")) | (refine' ne_of_sub ?u12zh ?u12zs; (case u12zh => with_reducible assumption); (case u12zs => k_extra "sub")) | (refine' List.forall_mem_cons.mpr ⟨?u12a, ?u12b⟩; (case u12a => k_ne); (case u12b => k_all))
  k_with "call ref cons nil" => (refine wpAny_call ?_; k_dflt ktr_enter)
  k_with "call ref nil" => (refine wpAny_call ?_; k_dflt ktr_enter)
  k_with "eval Constant str" => (refine constS ?_; intro qqt' qqtk'; (try dsimp only))
  k_with "eval Constant int" => (refine constI ?_; intro qqt' qqtk'; (try dsimp only))
  k_with "getAttr ref" => (k_here; k_dflt (refine' attr_own ?u17k1 ?u17k2 ?u17k3 ?u17m1 ?u17m2 ?u17kA ?u17k5 ?u17k6 ?u17k7 ?u17k8 ?u17k9 ?_; (case u17k1 => k_asm); (case u17k2 => k_asm); (case u17k3 => k_asm); (case u17m1 => k_mem); (case u17m2 => k_mem); (case u17kA => first | assumption | exact ⟨_, _, rfl, by k_get⟩); (case u17k5 => k_is); (case u17k6 => k_is); (case u17k7 => k_is); (case u17k8 => k_is); (case u17k9 => k_handed); k_whole); intro qqtk'; (try dsimp only))
  k_with "getMethod ref" => (k_here; k_dflt (refine' attr_meth ?u18k1 ?u18k2 ?u18k3 ?u18m1 ?u18m2 ?u18kA ?u18k5 ?u18k6 ?u18k7 ?_; (case u18k1 => k_asm); (case u18k2 => k_asm); (case u18k3 => k_asm); (case u18m1 => k_mem); (case u18m2 => k_mem); (case u18kA => first | assumption | exact ⟨_, _, rfl, by k_get⟩); (case u18k5 => k_is); (case u18k6 => k_is); (case u18k7 => k_is); k_whole))
  k_with "getMethod ref" => (k_here; k_dflt (first | ((with_reducible show wpAny _ _ (getMethod (Value.ref _) (PySem.Str.ofString "pop") _) _ _ _); refine' kl_method ?u19N ?u19m PySem.F.slot_list_pop PySem.F.type_list_pop ?_; (case u19N => k_asm); (case u19m => k_mem)) | ((with_reducible show wpAny _ _ (getMethod (Value.ref _) (PySem.Str.ofString "extend") _) _ _ _); refine' kl_method ?u19N ?u19m PySem.F.slot_list_extend PySem.F.type_list_extend ?_; (case u19N => k_asm); (case u19m => k_mem)) | ((with_reducible show wpAny _ _ (getMethod (Value.ref _) (PySem.Str.ofString "append") _) _ _ _); refine' kl_method ?u19N ?u19m PySem.F.slot_list_append PySem.F.type_list_append ?_; (case u19N => k_asm); (case u19m => k_mem)) | ((with_reducible show wpAny _ _ (getMethod (Value.ref _) (PySem.Str.ofString "index") _) _ _ _); refine' kl_method ?u19N ?u19m PySem.F.slot_list_index PySem.F.type_list_index ?_; (case u19N => k_asm); (case u19m => k_mem))))
  k_with "compareOp NotEq ref ref" => (k_here; k_dflt ((refine ne_dataH (by ked_read) (by ked_read) (by ked_shaped) (by ked_shaped) (by ke_room) ?_); ked_norm; ke_norm))
  k_with "compareOp Eq ref ref" => (k_here; k_dflt ((refine eq_dataH (by ked_read) (by ked_read) (by ked_shaped) (by ked_shaped) (by ke_room) ?_); ked_norm; ke_norm))
  k_with "call builtin:list.extend cons nil" => (k_here; (with_reducible show wpAny _ _ (call (Value.builtin _) [Value.ref _, Value.ref _]) _ _ _); k_dflt (refine' kl_extend ?u22F ?u22N ?u22b ?u22e ?u22ne ?u22U ?u22d ?u22z ?u22y ?_; (case u22F => k_asm); (case u22N => k_asm); (case u22b => k_mem); (case u22U => k_upd); (case u22e => kl_lit); (case u22ne => kl_some); (case u22d => kl_no); (case u22z => kl_room); (case u22y => kl_room)); kl_rest)
  k_with "compareOp NotEq ref ref" => (k_here; k_dflt (refine' ne_len ?u23N ?u23a ?u23b ?u23z ?u23u ?_; (case u23N => k_asm); (case u23a => k_mem); (case u23b => k_mem); (case u23z => rfl); (case u23u => ktr_units)))
  k_with "callWith ref cons nil" => (k_here; k_dflt (first | (refine' callWith_K ?u24k1 ?u24k2 ?_; (case u24k1 => k_asm); (case u24k2 => k_is); k_whole) | (refine' callWith_K0 ?u24k1 ?u24k2 ?_; (case u24k1 => k_in); (case u24k2 => k_is); k_whole; (try dsimp only [List.nil_append, List.cons_append]))))
  k_with "callWith ref nil nil" => (k_here; k_dflt (first | (refine' callWith_K ?u25k1 ?u25k2 ?_; (case u25k1 => k_asm); (case u25k2 => k_is); k_whole) | (refine' callWith_K0 ?u25k1 ?u25k2 ?_; (case u25k1 => k_in); (case u25k2 => k_is); k_whole; (try dsimp only [List.nil_append, List.cons_append]))))
  k_with "exec While Compare cons nil" => (k_here; k_dflt (refine whl_start 100 ?_))
  k_with "subscriptTail Name Constant ref int" => (k_here; k_dflt (refine' item_tupleT ?u27t ?u27a ?u27b ?u27c ?u27d ?_; (case u27t => exact News.isTup (by k_asm) (by k_mem)); (case u27a => decide); (case u27b => decide); (case u27c => rfl); (case u27d => rfl); k_whole))
  k_with "eval ListComp" => (k_here; (with_reducible show wpAny _ _ (eval (Expr.ListComp _ [⟨_, Expr.Name _ _, _, _⟩] _ _) _) _ _ _); k_dflt (refine' compT ?u28z0 ?u28z1 ?u28z2 ?u28z3 ?u28z4 ?u28z5 ?_; (case u28z0 => k_asm); (case u28z1 => with_unfolding_all rfl); (case u28z2 => decide); (case u28z3 => rfl); (case u28z4 => decide); (case u28z5 => rfl)))
  k_with "TupSrc" => (k_dflt (refine' TupSrc.at_ ?u29z1 ?u29z2 ?u29z3 ?u29z4 ?u29z5 ?_; (case u29z1 => rfl); (case u29z2 => k_asm); (case u29z3 => k_asm); (case u29z4 => k_mem); (case u29z5 => exact Nat.le_of_ble_eq_true rfl)); intro qqg'; lcg_lit)
  k_with "CompRest" => (with_unfolding_all first | (refine LCg.CompRest.succ ?_; intro qqv' qqI' qqoI' qqC' qqoC' qqD' qqm' qqh' qqtk' qqE' qqhv' qqhC' qqhx' qqF' qqN' qqoff' qqne'; lcg_open qqhv') | refine LCg.CompRest.zero ?_)
  k_with "CompEnd" => (k_dflt (first | (refine' compEnd0 ?u31F ?u31N ?u31o ?u31s ?_; (case u31F => k_asm); (case u31N => k_asm); (case u31o => k_asm); (case u31s => k_mem)) | (refine' compEnd1 ?u31F ?u31N ?u31l ?u31o ?u31s ?_; (case u31F => k_asm); (case u31N => k_asm); (case u31l => k_asm); (case u31o => k_asm); (case u31s => k_mem))))
  k_with "FinE" => ((unfold LCg.FinE); intro qqD' qqh' qqtk' qqF' qqN' qqo1'; (replace qqo1' := off1_ne qqo1'); (try simp only [List.nil_append, List.cons_append] at qqN'); (try dsimp only))
  k_with "setAttr ref" => (k_here; k_dflt (refine' setA ?u33k1 ?u33k2 ?u33k3 ?u33k4 ?u33k5 ?u33k6 ?u33k7 ?u33k8 ?u33k9 ?u33k10 ?u33k11 ?u33k12 ?u33k13 ?_; (case u33k1 => k_asm); (case u33k2 => k_asm); (case u33k3 => k_asm); (case u33k4 => k_inst); (case u33k5 => exact rfl); (case u33k6 => k_is); (case u33k7 => k_is); (case u33k8 => k_is); (case u33k9 => k_is); (case u33k10 => k_get); (case u33k11 => (intro qqt; k_put)); (case u33k12 => (intro qqt; k_upd)); (case u33k13 => (intro qqt; exact Nat.le_of_ble_eq_true rfl)); k_whole; intro qqh' qqt' qqtk' qqF' qqN'; (try k_sweep); (try dsimp only)))
  k_with "setItem ref str ref" => (k_here; k_dflt (refine' kda_set (knd := PySem.strKind _ _) ?u34F ?u34N ?u34U ?u34d (strKind_is _ _ _ _) ?u34z ?_; (case u34F => k_asm); (case u34N => k_asm); (case u34U => k_updF); (case u34d => k_asm); (case u34z => kob_size)); intro qqh' qqo' qqF' qqN' qqhd'; (try kob_lit); (try dsimp only at qqN'))
  k_with "subscriptTail" => (k_here; (with_reducible show wpAny _ _ (subscriptTail _ _ (Value.ref _) (Value.str _ _)) _ _ _); k_dflt (refine kda_item (knd := PySem.strKind _ _) (by k_asm) (by k_mem) (by k_asm) (strKind_is _ _ _ _) (by rfl) ?_))
  k_with "compareOp In str ref" => (k_here; k_dflt (first | refine kda_in (knd := PySem.strKind _ _) (by k_asm) (by k_mem) (by k_asm) (by k_asm) (strKind_is _ _ _ _) true (by rfl) ?_ | refine kda_in (knd := PySem.strKind _ _) (by k_asm) (by k_mem) (by k_asm) (by k_asm) (strKind_is _ _ _ _) false (by rfl) ?_))
  k_with "k_upd" => first | (refine' Upd.head ?u37a; (case u37a => k_all)) | (refine' Upd.tail ?u37a ?u37b; (case u37a => first | (refine neN ?_; (try dsimp only); refine Nat.ne_of_gt ?_; k_extra "ltf") | k_ne); (case u37b => k_upd))
  k_with "k_updF" => first | (refine' UpdF.head ?u38a; (case u38a => k_all)) | (refine' UpdF.tail ?u38a ?u38b; (case u38a => first | (refine neN ?_; (try dsimp only); refine Nat.ne_of_gt ?_; k_extra "ltf") | k_ne); (case u38b => k_updF))
  k_with "k_steps" => repeat (first | (with_reducible refine tok_gen ?_; intro qqtk) | (k_unfold; (try dsimp only)) | (k_end; wrow_close) | walk1 | (dsimp only; walk1) | (leave1; walk_say "STEP leave1"; try dsimp only))
  trivial
-- CK2a
section
theorem StCK2a.z : True := by
  w_top off
  trivial
variable {w : World} {p : Program} {loose : List Str} {mean : ExcName → Option Value} {mg mb : Str → Option Value}
/-- an entry of an object's dict -/
noncomputable abbrev ent (w : World) (k : Str) (t : Tok) (v : Value) : DictEntry := ⟨PyData.keyHash w.params k, .str k t, v⟩
noncomputable def NamedD (w : World) (a b c d : Value) (o : Obj) : Prop := ∃ t1 t2 t3 t4, o = dictOf [ent w "path" t1 a, ent w "package" t2 b, ent w "underlying" t3 c, ent w "methods" t4 d] 4
theorem named_ok (a b c d : Value) (news : List (Addr × Obj)) : Ctr pw' w p loose mean mg mb 954 [a, b, c, d] news 3 (fun v news' => ∃ x dx o, v = .ref x ∧ news' = (x, instObj 954 dx) :: (dx, o) :: news ∧ (∀ q ∈ news, q.1 < dx) ∧ dx < x ∧ NamedD w a b c d o) := by
  intro dp un gd cn cs ad ccd cl outer A₀ base h₀ L m s Q E B F X N T hk hd hu hret
  k_steps
  exact hret _ _ _ _ ⟨_, _, _, rfl, rfl, by assumption, by assumption, _, _, _, _, rfl⟩ (by assumption) (by assumption)
theorem scope_ok (news : List (Addr × Obj)) : Ctr pw' w p loose mean mg mb 812 [.none] news 3 (fun v news' => ∃ x dx d o t1 t2 t3, v = .ref x ∧ news' = (d, o) :: (x, instObj 812 dx) :: (dx, dictOf [ent w "outer" t1 .none, ent w "owner" t2 .none, ent w "rows" t3 (.ref d)] 3) :: news ∧ (∀ q ∈ news, q.1 < dx) ∧ dx < x ∧ x < d ∧ (d == sysModules) = false ∧ SD w o []) := by
  intro dp un gd cn cs ad ccd cl outer A₀ base h₀ L m s Q E B F X N T hk hd hu hret
  k_steps
  refine' hret _ _ _ _ ?zp ?zF ?zn
  case zn => assumption
  case zF => assumption
  exact ⟨_, _, _, _, _, _, _, rfl, rfl, by assumption, by assumption, ltN (by k_extra "ltf"), by assumption, by assumption⟩
noncomputable def RowD (w : World) (a b c d e : Value) (o : Obj) : Prop := ∃ t1 t2 t3 t4 t5 t6, o = dictOf [ent w "name" t1 a, ent w "entry" t2 b, ent w "spot" t3 c, ent w "owner" t4 d, ent w "is_checked" t5 e, ent w "is_used" t6 (.bool false)] 6
theorem srow_ok (a b c d e : Value) (news : List (Addr × Obj)) : Ctr pw' w p loose mean mg mb 739 [a, b, c, d, e] news 3 (fun v news' => ∃ x dx o, v = .ref x ∧ news' = (x, instObj 739 dx) :: (dx, o) :: news ∧ (∀ q ∈ news, q.1 < dx) ∧ dx < x ∧ RowD w a b c d e o) := by
  intro dp un gd cn cs ad ccd cl outer A₀ base h₀ L m s Q E B F X N T hk hd hu hret
  k_steps
  exact hret _ _ _ _ ⟨_, _, _, rfl, rfl, by assumption, by assumption, _, _, _, _, _, _, rfl⟩ (by assumption) (by assumption)

end
theorem FinCK2a.z : True := trivial
-- CK1
section
theorem StCK1.z : True := by
  w_top off
  trivial
variable {w : World} {p : Program} {loose : List Str} {mean : ExcName → Option Value} {mg mb : Str → Option Value}
theorem words_12 : True := by
  k_with "call ref cons nil" => (fail_if_success (open Mine.FinCK1 in skip)); (k_dflt ((with_unfolding_all refine' use_c (named_ok _ _ _ _ _) ?u98ke ?u98ka ?u98kB ?u98kF ?u98kX ?u98kN ?u98kT ?u98hk ?u98hd ?u98hu ?_); (case u98ke => exact rfl); (case u98ka => exact rfl); (case u98kB => assumption); (case u98kF => assumption); (case u98kX => k_in); (case u98kN => assumption); (case u98kT => assumption); (case u98hk => first | rfl | assumption); (case u98hd => ktr_room); (case u98hu => ktr_units); (intro qqv9 qqn9 qqh9 qqtk9 qqp9 qqF9 qqN9; obtain ⟨qqx9, qqd9, qqo9, qqe1, qqe2, qql1, qql2, qqhd9⟩ := qqp9; subst qqe1; subst qqe2; have qql4 := lt_up qql1 qql2; (try k_lt qql1); (try k_lt qql4); (try k_lt2 qql2); (try k_sweep); (try dsimp only))))
  k_with "newTuple" => (fail_if_success (open Mine.FinCK1 in skip)); ((k_here; k_dflt (refine' kup_newTuple ?u99F ?u99N ?_ ?u99z; (case u99F => k_asm); (case u99N => k_asm); (case u99z => kmk_size)); intro qqD' qqh' qqF' qqN' qql1; clear qql1; replace qqN' := News.tl qqN'; (try k_sweep)))
  k_with "eval Dict nil nil" => (fail_if_success (open Mine.FinCK1 in skip)); ((k_here; k_dflt (refine' newDict_K ?u100k1 ?u100k2 (TopRead.nolimit (by k_asm)) ?_; (case u100k1 => k_asm); (case u100k2 => k_asm); k_whole); intro qqd' qqh' qqo' qqF' qqN' qql1 qqlo' qqhs' qqfs' qqhi' qqfi'; clear qql1 qqlo' qqhs' qqfs' qqhi' qqfi'; replace qqN' := News.tl qqN'; (try k_sweep)))
  trivial
theorem rows_ok (rest : List (Addr × Obj)) : Ctr pw' w p loose mean mg mb 965 [] rest 5 (fun v news' => ∃ nd o a b c d, v = .ref nd ∧ news' = (nd, o) :: rest ∧ (∀ q ∈ rest, q.1 < nd) ∧ (nd == sysModules) = false ∧ SD w o [("error", .ref a), ("runtime.Error", .ref b), ("sync.Mutex", .ref c), ("sync.WaitGroup", .ref d)]) := by
  intro dp un gd cn cs ad ccd cl outer A₀ base h₀ L m s Q E B F X N T hk hd hu hret
  refine wpAny_call ?_
  k_dflt ktr_enter
  k_steps
  rename Obj.IsDictOf _ _ _ => HD
  rename News h₀ L _ _ => N9
  refine hret _ ((_, _) :: rest) _ _ ⟨_, _, _, _, _, _, rfl, rfl, lt_of_pre (by assumption) (by (intro q hq; repeat (first | exact hq | apply List.mem_cons_of_mem | apply List.mem_append_right))), by assumption, HD⟩ (by assumption) ?n
  case n =>
    intro q hq
    rcases List.mem_cons.mp hq with rfl | hq
    · exact N9 _ (by k_mem)
    · refine N9 q ?_
      repeat (first | exact hq | apply List.mem_cons_of_mem | apply List.mem_append_right)

end
theorem FinCK1.z : True := trivial
-- CK2b
section
theorem StCK2b.z : True := by
  w_top off
  trivial
variable {w : World} {p : Program} {loose : List Str} {mean : ExcName → Option Value} {mg mb : Str → Option Value}
theorem words_13 : True := by
  k_with "call ref nil" => (fail_if_success (open Mine.FinCK2b in skip)); (k_dflt ((with_unfolding_all refine' use_c (rows_ok _) ?u101ke ?u101ka ?u101kB ?u101kF ?u101kX ?u101kN ?u101kT ?u101hk ?u101hd ?u101hu ?_); (case u101ke => exact rfl); (case u101ka => exact rfl); (case u101kB => assumption); (case u101kF => assumption); (case u101kX => k_in); (case u101kN => assumption); (case u101kT => assumption); (case u101hk => first | rfl | assumption); (case u101hd => ktr_room); (case u101hu => ktr_units); (intro qqv9 qqn9 qqh9 qqtk9 qqp9 qqF9 qqN9; obtain ⟨qqnd9, qqo9, qqa9, qqb9, qqc9, qqd9, qqe1, qqe2, qql1, qqlo9, qqhd9⟩ := qqp9; subst qqe1; subst qqe2; (try k_lt qql1); (try k_sweep); (try dsimp only))))
  k_with "eval Dict nil nil" => (fail_if_success (open Mine.FinCK2b in skip)); ((k_here; k_dflt (refine' newDict_K ?u102k1 ?u102k2 (TopRead.nolimit (by k_asm)) ?_; (case u102k1 => k_asm); (case u102k2 => k_asm); k_whole); intro qqd' qqh' qqo' qqF' qqN' qql1 qqlo' qqhs' qqfs' qqhi' qqfi'; clear qql1 qqlo' qqhs' qqfs' qqhi' qqfi'; replace qqN' := News.tl qqN'; (try k_sweep)))
  k_with "newList" => (fail_if_success (open Mine.FinCK2b in skip)); ((k_here; k_dflt (refine' newList_K ?u103k1 ?u103k2 ?_; (case u103k1 => k_asm); (case u103k2 => k_asm); k_whole); intro qql' qqh' qqF' qqN' qql1; clear qql1; replace qqN' := News.tl qqN'; (try k_sweep)))
  trivial
/-- World() -/
noncomputable abbrev worldEs (w : World) (nd : Addr) (t1 t2 t3 t4 t5 t6 t7 t8 t9 t10 t11 t12 t13 t14 t15 t16 t17 t18 t19 t20 : Tok) (a1 a2 a3 a4 a5 a6 a7 a8 a9 a10 a11 a12 a13 a14 a15 : Addr) : List DictEntry :=
  [ent w "packages" t1 .none, ent w "named" t2 (.ref nd), ent w "globals" t3 (.ref a1), ent w "consts" t4 (.ref a2), ent w "funcs" t5 (.ref a3), ent w "bodies" t6 (.ref a4), ent w "files" t7 (.ref a5), ent w "scopes" t8 (.ref a6), ent w "order" t9 (.ref a7), ent w "starts" t10 (.ref a8), ent w "settle" t11 .none, ent w "want" t12 .none, ent w "mentions" t13 (.ref a9), ent w "measured" t14 (.ref a10), ent w "values" t15 (.ref a11), ent w "inits" t16 (.ref a12), ent w "late_keys" t17 (.ref a13), ent w "late_parts" t18 (.ref a14), ent w "late_sizes" t19 (.ref a15), ent w "is_whole" t20 (.bool true)]
noncomputable def WorldD (w : World) (nd : Addr) (o : Obj) : Prop := ∃ t1 t2 t3 t4 t5 t6 t7 t8 t9 t10 t11 t12 t13 t14 t15 t16 t17 t18 t19 t20 a1 a2 a3 a4 a5 a6 a7 a8 a9 a10 a11 a12 a13 a14 a15, o = dictOf (worldEs w nd t1 t2 t3 t4 t5 t6 t7 t8 t9 t10 t11 t12 t13 t14 t15 t16 t17 t18 t19 t20 a1 a2 a3 a4 a5 a6 a7 a8 a9 a10 a11 a12 a13 a14 a15) 20
theorem world_ok (news : List (Addr × Obj)) : Ctr pw' w p loose mean mg mb 997 [] news 9 (fun v news' => ∃ x dx ow nd o a b c d, v = .ref x ∧ news' = (nd, o) :: (x, instObj 997 dx) :: (dx, ow) :: news ∧ (∀ q ∈ news, q.1 < dx) ∧ dx < x ∧ x < nd ∧ (nd == sysModules) = false ∧ SD w o [("error", .ref a), ("runtime.Error", .ref b), ("sync.Mutex", .ref c), ("sync.WaitGroup", .ref d)] ∧ WorldD w nd ow) := by
  intro dp un gd cn cs ad ccd cl outer A₀ base h₀ L m s Q E B F X N T hk hd hu hret
  k_steps
  rename News h₀ L _ _ => N9
  refine' hret _ _ _ _ ⟨_, _, _, _, _, _, _, _, _, rfl, rfl, ?za, ?zb, ?zc, ?ze, ?zd, ?zw⟩ ?zF ?zn
  case zF => assumption
  case za => assumption
  case zb => assumption
  case zd => assumption
  case zn =>
    intro q hq
    rcases List.mem_cons.mp hq with rfl | hq
    · exact N9 _ (by k_mem)
    · rcases List.mem_cons.mp hq with rfl | hq
      · exact N9 _ (by k_mem)
      · rcases List.mem_cons.mp hq with rfl | hq
        · exact N9 _ (by k_mem)
        · exact N9 q (by repeat (first | exact hq | apply List.mem_cons_of_mem | apply List.mem_append_right))
  case zc => exact ltN (by k_extra "ltf")
  case ze => assumption
  case zw => exact ⟨_, _, _, _, _, _, _, _, _, _, _, _, _, _, _, _, _, _, _, _, _, _, _, _, _, _, _, _, _, _, _, _, _, _, _, rfl⟩
theorem WorldD.named {nd : Addr} {o : Obj} (h : WorldD w nd o) : Attr o "named" (some (.ref nd)) := by
  obtain ⟨t0, t1, t2, t3, t4, t5, t6, t7, t8, t9, t10, t11, t12, t13, t14, t15, t16, t17, t18, t19, t20, t21, t22, t23, t24, t25, t26, t27, t28, t29, t30, t31, t32, t33, t34, rfl⟩ := h
  refine ⟨_, _, rfl, ?_⟩
  k_get

end
theorem FinCK2b.z : True := trivial
-- CK2c
section
theorem StCK2c.z : True := by
  w_top off
  trivial
variable {w : World} {p : Program} {loose : List Str} {mean : ExcName → Option Value} {mg mb : Str → Option Value}
theorem words_14 : True := by
  k_with "eval Dict nil nil" => (fail_if_success (open Mine.FinCK2c in skip)); ((k_here; k_dflt (refine' newDict_K ?u104k1 ?u104k2 (TopRead.nolimit (by k_asm)) ?_; (case u104k1 => k_asm); (case u104k2 => k_asm); k_whole); intro qqd' qqh' qqo' qqF' qqN' qql1 qqlo' qqhs' qqfs' qqhi' qqfi'; clear qql1 qqlo' qqhs' qqfs' qqhi' qqfi'; replace qqN' := News.tl qqN'; (try k_sweep)))
  k_with "newList" => (fail_if_success (open Mine.FinCK2c in skip)); ((k_here; k_dflt (refine' newList_K ?u105k1 ?u105k2 ?_; (case u105k1 => k_asm); (case u105k2 => k_asm); k_whole); intro qql' qqh' qqF' qqN' qql1; clear qql1; replace qqN' := News.tl qqN'; (try k_sweep)))
  k_with "newTuple" => (fail_if_success (open Mine.FinCK2c in skip)); ((k_here; k_dflt (refine' kup_newTuple ?u106F ?u106N ?_ ?u106z; (case u106F => k_asm); (case u106N => k_asm); (case u106z => kmk_size)); intro qqD' qqh' qqF' qqN' qql1; clear qql1; replace qqN' := News.tl qqN'; (try k_sweep)))
  trivial
/-- Checker(a, b, c, d, e, f) -/
noncomputable abbrev chkEs (w : World) (a b c d e f : Value) (t1 t2 t3 t4 t5 t6 t7 t8 t9 t10 t11 t12 t13 t14 t15 t16 t17 : Tok) (a1 a2 a3 a4 a5 a6 a7 a8 a9 : Addr) : List DictEntry := [ent w "world" t1 a, ent w "package" t2 b, ent w "scope" t3 c, ent w "key" t4 d, ent w "readers" t5 e, ent w "run_body" t6 f, ent w "outer" t7 .none, ent w "locals" t8 (.ref a1), ent w "params" t9 (.ref a2), ent w "results" t10 (.ref a3), ent w "result_locals" t11 (.ref a4), ent w "has_result_names" t12 (.bool false), ent w "captured" t13 (.ref a5), ent w "literals" t14 (.ref a6), ent w "loops" t15 (.ref a7), ent w "other_panics" t16 (.ref a8), ent w "mentions" t17 (.ref a9)]
noncomputable def ChkD (w : World) (a b c d e f : Value) (o : Obj) : Prop := ∃ t1 t2 t3 t4 t5 t6 t7 t8 t9 t10 t11 t12 t13 t14 t15 t16 t17 a1 a2 a3 a4 a5 a6 a7 a8 a9, o = dictOf (chkEs w a b c d e f t1 t2 t3 t4 t5 t6 t7 t8 t9 t10 t11 t12 t13 t14 t15 t16 t17 a1 a2 a3 a4 a5 a6 a7 a8 a9) 17
theorem chk_ok (a b c d e f : Value) (news : List (Addr × Obj)) : Ctr pw' w p loose mean mg mb 930 [a, b, c, d, e, f] news 4 (fun v news' => ∃ x dx o, v = .ref x ∧ news' = (x, instObj 930 dx) :: (dx, o) :: news ∧ (∀ q ∈ news, q.1 < dx) ∧ dx < x ∧ ChkD w a b c d e f o) := by
  intro dp un gd cn cs ad ccd cl outer A₀ base h₀ L m s Q E B F X N T hk hd hu hret
  k_steps
  rename News h₀ L _ _ => N9
  refine' hret _ _ _ _ ⟨_, _, _, rfl, rfl, ?za, ?zb, ?zw⟩ ?zF ?zn
  case zF => assumption
  case za => assumption
  case zb => assumption
  case zn =>
    intro q hq
    rcases List.mem_cons.mp hq with rfl | hq
    · exact N9 _ (by k_mem)
    · rcases List.mem_cons.mp hq with rfl | hq
      · exact N9 _ (by k_mem)
      · exact N9 q (by repeat (first | exact hq | apply List.mem_cons_of_mem | apply List.mem_append_right))
  case zw => exact ⟨_, _, _, _, _, _, _, _, _, _, _, _, _, _, _, _, _, _, _, _, _, _, _, _, _, _, rfl⟩

end
theorem FinCK2c.z : True := trivial
-- CK2d
section
theorem StCK2d.z : True := by
  w_top off
  trivial
variable {w : World} {p : Program} {loose : List Str} {mean : ExcName → Option Value} {mg mb : Str → Option Value}
theorem words_15 : True := by
  k_with "call ref cons nil" => (fail_if_success (open Mine.FinCK2d in skip)); (k_dflt ((with_unfolding_all refine' use_c (named_ok _ _ _ _ _) ?u107ke ?u107ka ?u107kB ?u107kF ?u107kX ?u107kN ?u107kT ?u107hk ?u107hd ?u107hu ?_); (case u107ke => exact rfl); (case u107ka => exact rfl); (case u107kB => assumption); (case u107kF => assumption); (case u107kX => k_in); (case u107kN => assumption); (case u107kT => assumption); (case u107hk => first | rfl | assumption); (case u107hd => ktr_room); (case u107hu => ktr_units); (intro qqv9 qqn9 qqh9 qqtk9 qqp9 qqF9 qqN9; obtain ⟨qqx9, qqd9, qqo9, qqe1, qqe2, qql1, qql2, qqhd9⟩ := qqp9; subst qqe1; subst qqe2; have qql4 := lt_up qql1 qql2; (try k_lt qql1); (try k_lt qql4); (try k_lt2 qql2); (try k_sweep); (try dsimp only))))
  k_with "call ref cons nil" => (fail_if_success (open Mine.FinCK2d in skip)); (k_dflt ((with_unfolding_all refine' use_c (scope_ok _) ?u108ke ?u108ka ?u108kB ?u108kF ?u108kX ?u108kN ?u108kT ?u108hk ?u108hd ?u108hu ?_); (case u108ke => exact rfl); (case u108ka => exact rfl); (case u108kB => assumption); (case u108kF => assumption); (case u108kX => k_in); (case u108kN => assumption); (case u108kT => assumption); (case u108hk => first | rfl | assumption); (case u108hd => ktr_room); (case u108hu => ktr_units); (intro qqv9 qqn9 qqh9 qqtk9 qqp9 qqF9 qqN9; obtain ⟨qqx9, qqd9, qqr9, qqo9, qqt1, qqt2, qqt3, qqe1, qqe2, qql1, qql2, qql3, qqlo9, qqhd9⟩ := qqp9; subst qqe1; subst qqe2; have qql4 := lt_up qql1 qql2; have qql5 := lt_up qql4 qql3; have qql6 := Nat.lt_trans qql2 qql3; (try k_lt qql1); (try k_lt qql4); (try k_lt qql5); (try k_lt2 qql2); (try k_lt2 qql3); (try k_sweep); (try dsimp only))))
  k_with "call ref cons nil" => (fail_if_success (open Mine.FinCK2d in skip)); (k_dflt ((with_unfolding_all refine' use_c (srow_ok _ _ _ _ _ _) ?u109ke ?u109ka ?u109kB ?u109kF ?u109kX ?u109kN ?u109kT ?u109hk ?u109hd ?u109hu ?_); (case u109ke => exact rfl); (case u109ka => exact rfl); (case u109kB => assumption); (case u109kF => assumption); (case u109kX => k_in); (case u109kN => assumption); (case u109kT => assumption); (case u109hk => first | rfl | assumption); (case u109hd => ktr_room); (case u109hu => ktr_units); (intro qqv9 qqn9 qqh9 qqtk9 qqp9 qqF9 qqN9; obtain ⟨qqx9, qqd9, qqo9, qqe1, qqe2, qql1, qql2, qqhd9⟩ := qqp9; subst qqe1; subst qqe2; have qql4 := lt_up qql1 qql2; (try k_lt qql1); (try k_lt qql4); (try k_lt2 qql2); (try k_sweep); (try dsimp only))))
  k_with "call ref nil" => (fail_if_success (open Mine.FinCK2d in skip)); (k_dflt ((with_unfolding_all refine' use_c (world_ok _) ?u110ke ?u110ka ?u110kB ?u110kF ?u110kX ?u110kN ?u110kT ?u110hk ?u110hd ?u110hu ?_); (case u110ke => exact rfl); (case u110ka => exact rfl); (case u110kB => assumption); (case u110kF => assumption); (case u110kX => k_in); (case u110kN => assumption); (case u110kT => assumption); (case u110hk => first | rfl | assumption); (case u110hd => ktr_room); (case u110hu => ktr_units); (intro qqv9 qqn9 qqh9 qqtk9 qqp9 qqF9 qqN9; obtain ⟨qqx9, qqd9, qqow9, qqnd9, qqo9, qqa9, qqb9, qqc9, qqdd9, qqe1, qqe2, qql1, qql2, qql3, qqlo9, qqhd9, qqhw9⟩ := qqp9; subst qqe1; subst qqe2; have qqhA9 := WorldD.named qqhw9; have qql4 := lt_up qql1 qql2; have qql5 := lt_up qql4 qql3; have qql6 := Nat.lt_trans qql2 qql3; (try k_lt qql1); (try k_lt qql4); (try k_lt qql5); (try k_lt2 qql2); (try k_lt2 qql3); (try k_sweep); (try dsimp only))))
  k_with "call ref cons nil" => (fail_if_success (open Mine.FinCK2d in skip)); (k_dflt ((with_unfolding_all refine' use_c (chk_ok _ _ _ _ _ _ _) ?u111ke ?u111ka ?u111kB ?u111kF ?u111kX ?u111kN ?u111kT ?u111hk ?u111hd ?u111hu ?_); (case u111ke => exact rfl); (case u111ka => exact rfl); (case u111kB => assumption); (case u111kF => assumption); (case u111kX => k_in); (case u111kN => assumption); (case u111kT => assumption); (case u111hk => first | rfl | assumption); (case u111hd => ktr_room); (case u111hu => ktr_units); (intro qqv9 qqn9 qqh9 qqtk9 qqp9 qqF9 qqN9; obtain ⟨qqx9, qqd9, qqo9, qqe1, qqe2, qql1, qql2, qqhd9⟩ := qqp9; subst qqe1; subst qqe2; have qql4 := lt_up qql1 qql2; (try k_lt qql1); (try k_lt qql4); (try k_lt2 qql2); (try k_sweep); (try dsimp only))))
  trivial
/-- what the ledger shows of the law's checker -/
noncomputable def HasObj (news : List (Addr × Obj)) (C x : Addr) (P : Obj → Prop) : Prop := ∃ dx o, (x, instObj C dx) ∈ news ∧ (dx, o) ∈ news ∧ P o
noncomputable def ScopeD (w : World) (r : Addr) (o : Obj) : Prop := ∃ t1 t2 t3, o = dictOf [ent w "outer" t1 .none, ent w "owner" t2 .none, ent w "rows" t3 (.ref r)] 3
noncomputable def HasDict (w : World) (news : List (Addr × Obj)) (d : Addr) (l : List (Str × Value)) : Prop := ∃ o, (d, o) ∈ news ∧ (d == sysModules) = false ∧ SD w o l
noncomputable def Chk (w : World) (news : List (Addr × Obj)) (ck : Addr) : Prop := ∃ wd nd sc rw sr rT rS en eT uT uS eS mT mS rd t1 t2, HasObj news 930 ck (ChkD w (.ref wd) (.str "main" t1) (.ref sc) (.str "main.f" t2) (.ref rd) .none) ∧ HasObj news 997 wd (WorldD w nd) ∧
  (∃ a b c d, HasDict w news nd [("error", .ref a), ("runtime.Error", .ref b), ("sync.Mutex", .ref c), ("sync.WaitGroup", .ref d), ("main.T", .ref rT), ("main.S", .ref rS)]) ∧
  (∃ t1 t2, HasObj news 954 rT (NamedD w (.str "main.T" t1) (.str "main" t2) (.ref uT) mT)) ∧ (∃ t1 t2, (uT, tup [.str "int" t1, .str "int8" t2]) ∈ news) ∧
  (∃ t1 t2, HasObj news 954 rS (NamedD w (.str "main.S" t1) (.str "main" t2) (.ref uS) mS)) ∧ (∃ t1, (uS, tup [.str "struct" t1, eS]) ∈ news) ∧
  HasObj news 812 sc (ScopeD w rw) ∧ HasDict w news rw [("T", .ref sr)] ∧ (∃ a c d e, HasObj news 739 sr (RowD w a (.ref en) c d e)) ∧ (∃ t1, (en, tup [.str "type" t1, .ref eT]) ∈ news) ∧ (∃ t1 t2, (eT, tup [.str "named" t1, .str "main.T" t2]) ∈ news) ∧
  HasDict w news rd [("told", .ref 1036)]
theorem lchk_ok (news : List (Addr × Obj)) : Ctr pw' w p loose mean mg mb 1043 [] news 12 (fun v news' => ∃ ck, v = .ref ck ∧ Chk w news' ck ∧ ∀ q ∈ news, q ∈ news') := by
  intro dp un gd cn cs ad ccd cl outer A₀ base h₀ L m s Q E B F X N T hk hd hu hret
  refine wpAny_call ?_
  k_dflt ktr_enter
  k_steps
  rename Obj.IsDictOf _ _ (strPairs _) => H9
  refine' hret _ _ _ _ ?zp ?zF ?zn
  case zn => assumption
  case zF => assumption
  refine' ⟨_, rfl, ⟨_, _, _, _, _, _, _, _, _, _, _, _, _, _, _, _, _, ⟨_, _, by k_mem, by k_mem, by assumption⟩, ⟨_, _, by k_mem, by k_mem, by assumption⟩, ⟨_, _, _, _, ⟨_, by k_mem, by assumption, by assumption⟩⟩, ⟨_, _, ⟨_, _, by k_mem, by k_mem, by assumption⟩⟩, ⟨_, _, ?u1⟩, ⟨_, _, ⟨_, _, by k_mem, by k_mem, by assumption⟩⟩, ⟨_, ?u2⟩, ⟨_, _, by k_mem, by k_mem, ⟨_, _, _, rfl⟩⟩, ⟨_, by k_mem, by assumption, by assumption⟩, ⟨_, _, _, _, ⟨_, _, by k_mem, by k_mem, by assumption⟩⟩, ⟨_, ?u3⟩, ⟨_, _, ?u4⟩, ⟨_, by k_mem, by assumption, H9⟩⟩, ?zz⟩
  case zz => exact fun q hq => by repeat (first | exact hq | apply List.mem_cons_of_mem | apply List.mem_append_right)
  case u1 => k_mem
  case u2 => k_mem
  case u3 => k_mem
  case u4 => k_mem

end
theorem FinCK2d.z : True := trivial
-- TA
section
theorem StTA.z : True := by
  w_top off
  trivial
variable {w : World} {p : Program} {loose : List Str} {mean : ExcName → Option Value} {mg mb : Str → Option Value}
/-- what a type's name reads -/
noncomputable def TypeCtx (w : World) (news : List (Addr × Obj)) (wd sc eT : Addr) : Prop := ∃ rw sr en t1, HasObj news 997 wd (fun o => Attr o "settled" none) ∧ HasObj news 812 sc (fun o => Attr o "find" none ∧ Attr o "row" none ∧ Attr o "rows" (some (.ref rw))) ∧
  HasDict w news rw [("T", .ref sr)] ∧ HasObj news 739 sr (fun o => Attr o "entry" (some (.ref en))) ∧ (en, tup [.str "type" t1, .ref eT]) ∈ news
theorem entry_ok (wd sc eT : Addr) (t1 t2 : Tok) (news : List (Addr × Obj)) (H : TypeCtx w news wd sc eT) : Ctr pw' w p loose mean mg mb 210 [.ref wd, .ref sc, .none, .str "T" t1, .int 3 t2] news 6 (fun v news' => v = .ref eT ∧ news' = news) := by
  intro dp un gd cn cs ad ccd cl outer A₀ base h₀ L m s Q E B F X N T hk hd hu hret
  obtain ⟨rw, sr, en, t3, ⟨d1, o1, i1, j1, a1⟩, ⟨d2, o2, i2, j2, a2, a3, a4⟩, ⟨o3, i3, lo3, sd3⟩, ⟨d4, o4, i4, j4, a5⟩, i5⟩ := H
  refine wpAny_call ?_
  first | (k_dflt ktr_enter) | fail "no way in"
  k_steps
  rename News h₀ L _ _ => N9
  exact hret _ _ _ _ ⟨rfl, rfl⟩ (by assumption) (fun q hq => N9 q (by repeat (first | exact hq | apply List.mem_cons_of_mem | apply List.mem_append_right)))
theorem wfp_ok (eT : Addr) (t1 t2 t3 : Tok) (news : List (Addr × Obj)) (H : (eT, tup [.str "named" t1, .str "main.T" t2]) ∈ news) : Ctr pw' w p loose mean mg mb 223 [.ref eT, .int 3 t3] news 20 (fun v news' => v = .none ∧ news' = news) := by
  intro dp un gd cn cs ad ccd cl outer A₀ base h₀ L m s Q E B F X N T hk hd hu hret
  refine wpAny_call ?_
  first | (k_dflt ktr_enter) | fail "no way in"
  k_steps
  rename News h₀ L _ _ => N9
  exact hret _ _ _ _ ⟨rfl, rfl⟩ (by assumption) (fun q hq => N9 q (by repeat (first | exact hq | apply List.mem_cons_of_mem | apply List.mem_append_right)))
theorem wfp_slice (sl eT : Addr) (t0 t1 t2 t3 : Tok) (news : List (Addr × Obj)) (H : (eT, tup [.str "named" t1, .str "main.T" t2]) ∈ news) (H2 : (sl, tup [.str "slice" t0, .ref eT]) ∈ news) : Ctr pw' w p loose mean mg mb 223 [.ref sl, .int 3 t3] news 20 (fun v news' => v = .none ∧ news' = news) := by
  intro dp un gd cn cs ad ccd cl outer A₀ base h₀ L m s Q E B F X N T hk hd hu hret
  refine wpAny_call ?_
  first | (k_dflt ktr_enter) | fail "no way in"
  k_steps
  rename News h₀ L _ _ => N9
  exact hret _ _ _ _ ⟨rfl, rfl⟩ (by assumption) (fun q hq => N9 q (by repeat (first | exact hq | apply List.mem_cons_of_mem | apply List.mem_append_right)))

end
theorem FinTA.z : True := trivial
-- TC
section
theorem StTC.z : True := by
  w_top off
  trivial
variable {w : World} {p : Program} {loose : List Str} {mean : ExcName → Option Value} {mg mb : Str → Option Value}
theorem HasObj.mono {news l : List (Addr × Obj)} {C x : Addr} {P : Obj → Prop} (s : ∀ q ∈ news, q ∈ l) (H : HasObj news C x P) : HasObj l C x P :=
  let ⟨dx, o, a, b, c⟩ := H; ⟨dx, o, s _ a, s _ b, c⟩
theorem HasDict.mono {news l : List (Addr × Obj)} {d : Addr} {kv : List (Str × Value)} (s : ∀ q ∈ news, q ∈ l) (H : HasDict w news d kv) : HasDict w l d kv :=
  let ⟨o, a, b⟩ := H; ⟨o, s _ a, b⟩
theorem TypeCtx.mono {news l : List (Addr × Obj)} {wd sc eT : Addr} (s : ∀ q ∈ news, q ∈ l) (H : TypeCtx w news wd sc eT) : TypeCtx w l wd sc eT :=
  H.imp fun _ => .imp fun _ => .imp fun _ => .imp fun _ h => ⟨h.1.mono s, h.2.1.mono s, h.2.2.1.mono s, h.2.2.2.1.mono s, s _ h.2.2.2.2⟩
theorem hd721 {P : Params} {h : Heap} (X : (Kb P).In h) : CodeHd h 721 717 := ⟨_, _, _, _, _, _, _, _, _, X 721 _ rfl, rfl, rfl, rfl, rfl, rfl, rfl, rfl, rfl, by decide⟩
theorem words_16 : True := by
  k_with "kn_code" => (fail_if_success (open Mine.FinTC in skip)); (first | exact hd721 (by assumption))
  k_with "call ref cons nil" => (fail_if_success (open Mine.FinTC in skip)); (k_dflt ((with_unfolding_all refine' use_c (entry_ok _ _ _ _ _ _ ?u113kH) ?u113ke ?u113ka ?u113kB ?u113kF ?u113kX ?u113kN ?u113kT ?u113hk ?u113hd ?u113hu ?_); (case u113ke => exact rfl); (case u113ka => exact rfl); (case u113kB => assumption); (case u113kF => assumption); (case u113kX => k_in); (case u113kN => assumption); (case u113kT => assumption); (case u113kH => (refine' TypeCtx.mono ?u113zs ?u113zh; (case u113zh => assumption); (case u113zs => (intro qqq qqhq; (repeat (first | exact qqhq | apply List.mem_cons_of_mem | apply List.mem_append_right)); done)))); (case u113hk => first | rfl | assumption); (case u113hd => ktr_room); (case u113hu => ktr_units); (intro qqv9 qqn9 qqh9 qqtk9 qqp9 qqF9 qqN9; obtain ⟨qqe1, qqe2⟩ := qqp9; subst qqe1; subst qqe2; (try k_sweep); (try dsimp only))))
  k_with "call ref cons nil" => (fail_if_success (open Mine.FinTC in skip)); (k_dflt ((with_unfolding_all refine' use_c (wfp_ok _ _ _ _ _ ?u114kH) ?u114ke ?u114ka ?u114kB ?u114kF ?u114kX ?u114kN ?u114kT ?u114hk ?u114hd ?u114hu ?_); (case u114ke => exact rfl); (case u114ka => exact rfl); (case u114kB => assumption); (case u114kF => assumption); (case u114kX => k_in); (case u114kN => assumption); (case u114kT => assumption); (case u114kH => k_mem); (case u114hk => first | rfl | assumption); (case u114hd => ktr_room); (case u114hu => ktr_units); (intro qqv9 qqn9 qqh9 qqtk9 qqp9 qqF9 qqN9; obtain ⟨qqe1, qqe2⟩ := qqp9; subst qqe1; subst qqe2; (try k_sweep); (try dsimp only))))
  trivial
theorem typeof_name (wd sc eT nm : Addr) (t1 t2 t3 t4 t5 t6 : Tok) (news : List (Addr × Obj)) (hP : ∀ q ∈ news, q.1 ≠ 717) (H : TypeCtx w news wd sc eT) (H2 : (eT, tup [.str "named" t1, .str "main.T" t2]) ∈ news) (H3 : (nm, tup [.str "name" t3, .int 3 t4, .none, .str "T" t5]) ∈ news) :
    Ctr pw' w p loose mean mg mb 722 [.ref wd, .str "main" t6, .ref sc, .ref nm] ((717, tabObj #[]) :: news) 30 (fun v news' => v = .ref eT ∧ ∃ ps, news' = (717, tabObj ps) :: news) := by
  intro dp un gd cn cs ad ccd cl outer A₀ base h₀ L m s Q E B F X N T hk hd hu hret
  have hc0 := hd721 X
  refine wpAny_call ?_
  first | (k_dflt ktr_enter) | fail "no way in"
  k_steps
  rename News h₀ L _ _ => N9
  refine' hret _ _ _ _ ⟨rfl, _, rfl⟩ ?zF ?zn
  case zF => assumption
  case zn =>
    intro q hq
    rcases List.mem_cons.mp hq with rfl | hq
    · exact N9 _ (by k_mem)
    · exact N9 q (by repeat (first | exact hq | apply List.mem_cons_of_mem | apply List.mem_append_right))
theorem words_17 : True := by
  k_with "call ref cons nil" => (fail_if_success (open Mine.FinTC in skip)); (k_dflt ((with_unfolding_all refine' use_c (wfp_slice _ _ _ _ _ _ _ ?u115kH ?u115kG) ?u115ke ?u115ka ?u115kB ?u115kF ?u115kX ?u115kN ?u115kT ?u115hk ?u115hd ?u115hu ?_); (case u115ke => exact rfl); (case u115ka => exact rfl); (case u115kB => assumption); (case u115kF => assumption); (case u115kX => k_in); (case u115kN => assumption); (case u115kT => assumption); (case u115kG => k_mem); (case u115kH => k_mem); (case u115hk => first | rfl | assumption); (case u115hd => ktr_room); (case u115hu => ktr_units); (intro qqv9 qqn9 qqh9 qqtk9 qqp9 qqF9 qqN9; obtain ⟨qqe1, qqe2⟩ := qqp9; subst qqe1; subst qqe2; (try k_sweep); (try dsimp only))))
  trivial
theorem typeof_slice (wd sc eT nm sl : Addr) (t1 t2 t3 t4 t5 t6 t7 t8 : Tok) (news : List (Addr × Obj)) (hP : ∀ q ∈ news, q.1 ≠ 717) (H : TypeCtx w news wd sc eT) (H2 : (eT, tup [.str "named" t1, .str "main.T" t2]) ∈ news) (H3 : (nm, tup [.str "name" t3, .int 3 t4, .none, .str "T" t5]) ∈ news) (H4 : (sl, tup [.str "slice" t7, .int 3 t8, .ref nm]) ∈ news) :
    Ctr pw' w p loose mean mg mb 722 [.ref wd, .str "main" t6, .ref sc, .ref sl] ((717, tabObj #[]) :: news) 30 (fun v news' => ∃ t tk ps, v = .ref t ∧ news' = (t, tup [.str "slice" tk, .ref eT]) :: (717, tabObj ps) :: news ∧ ∀ q ∈ news, q.1 < t) := by
  intro dp un gd cn cs ad ccd cl outer A₀ base h₀ L m s Q E B F X N T hk hd hu hret
  have hc0 := hd721 X
  refine wpAny_call ?_
  first | (k_dflt ktr_enter) | fail "no way in"
  k_steps
  rename News h₀ L _ _ => N9
  refine' hret _ _ _ _ ⟨_, _, _, rfl, rfl, ?zl⟩ ?zF ?zn
  case zF => assumption
  case zl => first | assumption | (refine' lt_of_pre ?zh ?zs; (case zh => assumption); (case zs => (intro q hq; (repeat (first | exact hq | apply List.mem_cons_of_mem | apply List.mem_append_right)); done)))
  case zn =>
    intro q hq
    rcases List.mem_cons.mp hq with rfl | hq
    · exact N9 _ (by k_mem)
    · rcases List.mem_cons.mp hq with rfl | hq
      · exact N9 _ (by k_mem)
      · exact N9 q (by repeat (first | exact hq | apply List.mem_cons_of_mem | apply List.mem_append_right))

end
theorem FinTC.z : True := trivial
-- TD
section
theorem StTD.z : True := by
  w_top off
  trivial
variable {w : World} {p : Program} {loose : List Str} {mean : ExcName → Option Value} {mg mb : Str → Option Value}
/-- what the checker shows of types -/
noncomputable def TCtx (w : World) (news : List (Addr × Obj)) (ck eT : Addr) : Prop := ∃ wd sc t1 t2 t3, HasObj news 930 ck (fun o => Attr o "world" (some (.ref wd)) ∧ Attr o "package" (some (.str "main" t1)) ∧ Attr o "scope" (some (.ref sc)) ∧ Attr o "typex" none) ∧ TypeCtx w news wd sc eT ∧ (eT, tup [.str "named" t2, .str "main.T" t3]) ∈ news
theorem TCtx.mono {news l : List (Addr × Obj)} {ck eT : Addr} (s : ∀ q ∈ news, q ∈ l) (H : TCtx w news ck eT) : TCtx w l ck eT :=
  H.imp fun _ => .imp fun _ => .imp fun _ => .imp fun _ => .imp fun _ h => ⟨h.1.mono s, h.2.1.mono s, s _ h.2.2⟩
theorem words_18 : True := by
  k_with "call ref cons nil" => (fail_if_success (open Mine.FinTD in skip)); (k_dflt ((with_unfolding_all refine' use_c (typeof_name _ _ _ _ _ _ _ _ _ _ _ ?u116hP ?u116kH ?u116kG ?u116kI) ?u116ke ?u116ka ?u116kB ?u116kF ?u116kX ?u116kN ?u116kT ?u116hk ?u116hd ?u116hu ?_); (case u116ke => exact rfl); (case u116ka => exact rfl); (case u116kB => assumption); (case u116kF => assumption); (case u116kX => k_in); (case u116kN => assumption); (case u116kT => assumption); (case u116hP => assumption); (case u116kI => k_mem); (case u116kH => (refine' TypeCtx.mono ?u116zs ?u116zh; (case u116zh => assumption); (case u116zs => (intro qqq qqhq; (repeat (first | exact qqhq | apply List.mem_cons_of_mem | apply List.mem_append_right)); done)))); (case u116kG => k_mem); (case u116hk => first | rfl | assumption); (case u116hd => ktr_room); (case u116hu => ktr_units); (intro qqv9 qqn9 qqh9 qqtk9 qqp9 qqF9 qqN9; obtain ⟨qqe1, qqps9, qqe2⟩ := qqp9; subst qqe1; subst qqe2; (try k_sweep); (try dsimp only))))
  trivial
theorem told_name (ck nd nm eT : Addr) (t3 t4 t5 t6 t7 : Tok) (x wv : Value) (news : List (Addr × Obj)) (hP : ∀ q ∈ news, q.1 ≠ 717) (H : TCtx w news ck eT) (H3 : (nm, tup [.str "name" t3, .int 3 t4, .none, .str "T" t5]) ∈ news) (H5 : (nd, tup [.str "lit" t6, .int 4 t7, .ref nm, x]) ∈ news) :
    Ctr pw' w p loose mean mg mb 395 [.ref ck, .ref nd, wv] ((717, tabObj #[]) :: news) 36 (fun v news' => v = .ref eT ∧ ∃ ps, news' = (717, tabObj ps) :: news) := by
  intro dp un gd cn cs ad ccd cl outer A₀ base h₀ L m s Q E B F X N T hk hd hu hret
  obtain ⟨wd, sc, t8, t9, t10, ⟨dck, ock, i1, j1, a1, a2, a3, a4⟩, c1, c2⟩ := H
  refine wpAny_call ?_
  first | (k_dflt ktr_enter) | fail "no way in"
  k_steps
  exact hret _ _ _ _ ⟨rfl, _, rfl⟩ (by assumption) (by assumption)
theorem words_19 : True := by
  k_with "call ref cons nil" => (fail_if_success (open Mine.FinTD in skip)); (k_dflt ((with_unfolding_all refine' use_c (typeof_slice _ _ _ _ _ _ _ _ _ _ _ _ _ _ ?u117hP ?u117kH ?u117kG ?u117kI ?u117kJ) ?u117ke ?u117ka ?u117kB ?u117kF ?u117kX ?u117kN ?u117kT ?u117hk ?u117hd ?u117hu ?_); (case u117ke => exact rfl); (case u117ka => exact rfl); (case u117kB => assumption); (case u117kF => assumption); (case u117kX => k_in); (case u117kN => assumption); (case u117kT => assumption); (case u117hP => assumption); (case u117kJ => k_mem); (case u117kI => k_mem); (case u117kH => (refine' TypeCtx.mono ?u117zs ?u117zh; (case u117zh => assumption); (case u117zs => (intro qqq qqhq; (repeat (first | exact qqhq | apply List.mem_cons_of_mem | apply List.mem_append_right)); done)))); (case u117kG => k_mem); (case u117hk => first | rfl | assumption); (case u117hd => ktr_room); (case u117hu => ktr_units); (intro qqv9 qqn9 qqh9 qqtk9 qqp9 qqF9 qqN9; obtain ⟨qqt9, qqtk8, qqps9, qqe1, qqe2, qql1⟩ := qqp9; subst qqe1; subst qqe2; (try k_sweep); (try dsimp only))))
  trivial
theorem told_slice (ck nd nm sl eT : Addr) (t3 t4 t5 t6 t7 t8 t9 : Tok) (x wv : Value) (news : List (Addr × Obj)) (hP : ∀ q ∈ news, q.1 ≠ 717) (H : TCtx w news ck eT) (H3 : (nm, tup [.str "name" t3, .int 3 t4, .none, .str "T" t5]) ∈ news) (H4 : (sl, tup [.str "slice" t8, .int 3 t9, .ref nm]) ∈ news) (H5 : (nd, tup [.str "lit" t6, .int 4 t7, .ref sl, x]) ∈ news) :
    Ctr pw' w p loose mean mg mb 395 [.ref ck, .ref nd, wv] ((717, tabObj #[]) :: news) 36 (fun v news' => ∃ t tk ps, v = .ref t ∧ news' = (t, tup [.str "slice" tk, .ref eT]) :: (717, tabObj ps) :: news ∧ ∀ q ∈ news, q.1 < t) := by
  intro dp un gd cn cs ad ccd cl outer A₀ base h₀ L m s Q E B F X N T hk hd hu hret
  obtain ⟨wd, sc, t8, t9, t10, ⟨dck, ock, i1, j1, a1, a2, a3, a4⟩, c1, c2⟩ := H
  refine wpAny_call ?_
  first | (k_dflt ktr_enter) | fail "no way in"
  k_steps
  exact hret _ _ _ _ ⟨_, _, _, rfl, rfl, by assumption⟩ (by assumption) (by assumption)
theorem told_wanted (ck nd wt : Addr) (t6 t7 : Tok) (x : Value) (news : List (Addr × Obj)) (H5 : (nd, tup [.str "lit" t6, .int 4 t7, .none, x]) ∈ news) :
    Ctr pw' w p loose mean mg mb 395 [.ref ck, .ref nd, .ref wt] news 6 (fun v news' => v = .ref wt ∧ news' = news) := by
  intro dp un gd cn cs ad ccd cl outer A₀ base h₀ L m s Q E B F X N T hk hd hu hret
  refine wpAny_call ?_
  first | (k_dflt ktr_enter) | fail "no way in"
  k_steps
  exact hret _ _ _ _ ⟨rfl, rfl⟩ (by assumption) (by assumption)

end
theorem FinTD.z : True := trivial
theorem words_2 : True := by
  k_with_none
  k_with "ktr_enter" => (refine' code_defC ?u40k1 ?u40k2 ?u40k3 ?u40k4 ?u40k5 ?u40kA ?u40kF ?u40kK ?u40k6 ?u40k7 ?u40k8 ?u40k9 ?u40kB ?u40kD ?_ ?u40c2 ?u40c3 ?u40c4; (case u40kA => exact rfl); (case u40kF => exact rfl); (case u40kK => first | exact rfl | assumption); (case u40k1 => k_asm); (case u40k2 => k_asm); (case u40k3 => k_asm); (case u40k4 => k_asm); (case u40k5 => k_asm); (case u40k6 => k_is); (case u40k7 => k_is); (case u40k8 => ktr_room); (case u40k9 => first | (refine' binds_K ?u40z1 ?u40z2 ?u40z3 ?u40z4 ?u40z5 ?u40z6; (case u40z2 => exact rfl); (case u40z1 => k_in); (case u40z3 => k_is); (case u40z4 => exact rfl); (case u40z5 => exact rfl); (case u40z6 => exact rfl)) | exact BindsTo.of_eq rfl); (case u40kB => exact rfl); (case u40kD => decide +kernel); (case u40c2 => exact rfl); (case u40c3 => exact rfl); (case u40c4 => exact rfl); k_whole; intro qqg' qqL' qqh' qqtk' qqcells' qqFG' qqF' qqN' qqY' qqB' qqX' qqT' qql1; (have qqlc1 := lt_up qql1 (Nat.lt_succ_self _)); (have qqlc2 := lt_up qqlc1 (Nat.lt_succ_self _)); (have qqlc3 := lt_up qqlc2 (Nat.lt_succ_self _)); (try k_lt qql1); k_cells qqY'; (try simp only [List.cons_append, List.nil_append] at qqN'); (try dsimp only); (k_dflt (show wpAny _ _ (execs (List.cons _ _) _) _ _ _)); (try k_fold))
  k_with "ktr_enter" => (refine' code_def ?u41k1 ?u41k2 ?u41k3 ?u41k4 ?u41k5 ?u41kA ?u41kF ?u41kK ?u41k6 ?u41k7 ?u41k8 ?u41k9 ?u41kB ?_ ?u41c2 ?u41c3 ?u41c4 ?u41c5; (case u41kA => exact rfl); (case u41kF => exact rfl); (case u41kK => first | exact rfl | assumption); (case u41k1 => k_asm); (case u41k2 => k_asm); (case u41k3 => k_asm); (case u41k4 => k_asm); (case u41k5 => k_asm); (case u41k6 => k_is); (case u41c5 => decide); (case u41k7 => k_is); (case u41k8 => ktr_room); (case u41k9 => first | (refine' binds_K ?u41z1 ?u41z2 ?u41z3 ?u41z4 ?u41z5 ?u41z6; (case u41z2 => exact rfl); (case u41z1 => k_in); (case u41z3 => k_is); (case u41z4 => exact rfl); (case u41z5 => exact rfl); (case u41z6 => exact rfl)) | exact BindsTo.of_eq rfl); (case u41kB => exact locs rfl); (case u41c2 => exact rfl); (case u41c3 => exact rfl); (case u41c4 => exact rfl); k_whole; intro qqg' qqL' qqh' qqFG' qqF' qqN' qqB' qqX' qqT'; (try dsimp only); (k_dflt (show wpAny _ _ (execs (List.cons _ _) _) _ _ _)); (try k_fold))
  k_with "kla_enter" => (refine' kla_code ?u42k1 ?u42k2 ?u42k3 ?u42k4 ?u42k5 ?u42kA ?u42kF ?u42kK ?u42k6 ?u42k7 ?u42k8 ?u42k9 ?u42kB ?_ ?u42c2 ?u42c3 ?u42c4 ?u42c5; (case u42kA => exact rfl); (case u42kF => exact rfl); (case u42kK => first | exact rfl | assumption); (case u42k1 => k_asm); (case u42k2 => k_asm); (case u42k3 => k_asm); (case u42k4 => k_asm); (case u42k5 => k_asm); (case u42k6 => k_mem); (case u42k7 => exact codeRec_news (by k_asm) (by k_mem) (by assumption) (by assumption)); (case u42k8 => ktr_room); (case u42k9 => exact rfl); (case u42c5 => decide); (case u42kB => exact locs rfl); (case u42c2 => exact rfl); (case u42c3 => exact rfl); (case u42c4 => exact rfl); k_whole; intro qqg' qqL' qqh' qqFG' qqF' qqN' qqB' qqX' qqT'; (try dsimp only); (try k_fold))
  k_with "eval Dict cons cons" => (k_dflt (refine' kdn_str ?u43q ?u43F ?u43N ?u43b ?u43a ?u43l ?u43e ?u43n ?_; (case u43q => rfl); (case u43F => k_asm); (case u43N => first | k_asm | exact News.nil); (case u43b => exact Top.nolimit (by k_asm)); (case u43a => rfl); (case u43l => rfl); (case u43e => exact List.cons_ne_nil _ _); (case u43n => exact Nat.le_of_ble_eq_true rfl)); intro qqd' qqh' qqo' qqF' qqN' qql1 qqlo' qqhd'; (try k_lt qql1))
  k_with "k_mem" => first | exact List.Mem.head _ | with_reducible assumption | (refine' List.mem_cons_of_mem _ ?_; k_extra "k_mem") | (refine' List.mem_append_left _ ?_; with_reducible assumption) | (refine' List.mem_append_right _ ?_; k_extra "k_mem")
  k_with "ltf" => first | with_reducible assumption | (refine' lt_mem ?u45zh ?u45zm; (case u45zh => with_reducible assumption); (case u45zm => k_extra "k_mem")) | (refine' lt_two ?u45zb ?u45zh ?u45zm; (case u45zb => with_reducible assumption); (case u45zh => with_reducible assumption); (case u45zm => k_extra "k_mem")) | (refine' own_lt ?u45zf ?u45zm ?u45zx; (case u45zx => with_reducible assumption); (case u45zf => with_reducible assumption); (case u45zm => k_extra "k_mem"))
  k_with "nef" => first | with_reducible assumption | (refine' ne_mem ?u46zh ?u46zm; (case u46zh => with_reducible assumption); (case u46zm => k_extra "k_mem"))
  k_with "k_ne" => (refine neN ?_; (try dsimp only); first | (refine Nat.ne_of_lt ?_; k_extra "ltf") | (refine Nat.ne_of_gt ?_; k_extra "ltf") | k_extra "nef" | (refine Ne.symm ?_; k_extra "nef") | omega)
  k_with "lim" => first | (refine' limz ?u48h; (case u48h => assumption)) | (refine' lim0 ?u48h ?u48l; (case u48h => assumption); (case u48l => rfl)) | (refine' lim1 ?u48h ?u48l; (case u48h => assumption); (case u48l => rfl)) | (refine' lim2 ?u48h ?u48l; (case u48h => assumption); (case u48l => rfl)) | (refine' lim3 ?u48h ?u48l; (case u48h => assumption); (case u48l => rfl)) | (refine' lim4 ?u48h ?u48l; (case u48h => assumption); (case u48l => rfl)) | (refine' lim5 ?u48h ?u48l; (case u48h => assumption); (case u48l => rfl))
  k_with "ktr_units" => first | ((try simp only [units_in1, units_deeper, Around.mark_units, units_caller, units_under_make]); (try dsimp only [ktrTop]); k_extra "lim") | (have qqhcL9 := cLine_is; (try simp only [units_in1, units_deeper, Around.mark_units, units_caller, units_under_make]); (try dsimp only [ktrTop]); omega) | (have qqhcL9 := cLine_is; (try simp only [units_in1, units_deeper, Around.mark_units, units_caller, units_under_make] at *); (try dsimp only [ktrTop] at *); omega)
  k_with "ktr_room" => first | ((try simp only [depth_under_make, depth_under_kw, depth_in1, depth_deeper, depth_caller]); (try dsimp only [ktrTop]); k_extra "lim") | ((try simp only [depth_under_make, depth_under_kw, depth_in1, depth_deeper, depth_caller]); (try dsimp only [ktrTop]); omega) | ((try simp only [depth_under_make, depth_under_kw, depth_in1, depth_deeper, depth_caller] at *); (try dsimp only [ktrTop] at *); (simp only [recursionLimit] at *); omega)
  k_with "mm" => repeat (first | with_reducible assumption | apply List.mem_cons_of_mem | apply List.mem_append_right)
  k_with "src" => (refine' srcAt_mem ?u52zm; (case u52zm => k_extra "k_mem"))
  k_with "sub" => (intro qqq qqhq; (repeat (first | with_reducible exact qqhq | apply List.mem_cons_of_mem | apply List.mem_append_right)); done)
  k_with "k_all" => first | exact List.forall_mem_nil _ | with_reducible assumption | (refine' ne_of_pre ?u54zh ?u54zs; (case u54zh => with_reducible assumption); (case u54zs => k_extra "sub")) | (refine' ne_of_sub ?u54zh ?u54zs; (case u54zh => with_reducible assumption); (case u54zs => k_extra "sub")) | (refine' List.forall_mem_cons.mpr ⟨?u54a, ?u54b⟩; (case u54a => k_ne); (case u54b => k_all)) | (refine' all_app ?u54a ?u54b; (case u54a => k_extra "oof"); (case u54b => k_all))
  k_with "oof" => (refine' own_ne ?u55zf ?u55zm; (case u55zf => with_reducible assumption); (case u55zm => k_extra "k_mem"))
  k_with "k_upd" => first | (refine' Upd.head ?u56a; (case u56a => k_all)) | (refine' Upd.tail ?u56a ?u56b; (case u56a => first | (refine neN ?_; (try dsimp only); refine Nat.ne_of_gt ?_; k_extra "ltf") | k_ne); (case u56b => k_upd)) | (refine' upd_app ?u56b ?u56a; (case u56a => k_extra "oof"); (case u56b => k_upd))
  k_with "k_updF" => first | (refine' UpdF.head ?u57a; (case u57a => k_all)) | (refine' UpdF.tail ?u57a ?u57b; (case u57a => first | (refine neN ?_; (try dsimp only); refine Nat.ne_of_gt ?_; k_extra "ltf") | k_ne); (case u57b => k_updF)) | (refine' updF_app ?u57b ?u57a; (case u57a => k_extra "oof"); (case u57b => k_updF))
  k_with "call ref cons nil" => (refine wpAny_call ?_; k_dflt ktr_enter)
  k_with "call ref nil" => (refine wpAny_call ?_; k_dflt ktr_enter)
  k_with "eval Constant str" => (refine constS ?_; intro qqt' qqtk'; (try dsimp only))
  k_with "eval Constant int" => (refine constI ?_; intro qqt' qqtk'; (try dsimp only))
  k_with "eval Name" => (k_here; k_dflt (first | (refine' nameX_L ?u62F ?u62v ?_ ?u62a ?u62b; (case u62a => first | rfl | assumption); (case u62b => rfl); (case u62F => k_asm); (case u62v => first | rfl | assumption); k_whole) | (refine' nameX_K ?u62F ?u62X ?u62T ?u62e ?_ ?u62a ?u62b; (case u62a => first | rfl | assumption); (case u62b => rfl); (case u62F => k_asm); (case u62X => k_asm); (case u62T => k_asm); (case u62e => k_is); k_whole) | (refine' nameX_C ?u62N ?u62c ?u62m ?u62d ?_ ?u62a ?u62b; (case u62a => first | rfl | assumption); (case u62b => rfl); (case u62N => k_asm); (case u62c => rfl); (case u62m => k_mem); (case u62d => k_asm); k_whole)))
  k_with "eval Tuple" => (k_here; k_dflt (refine' lit_eval ?u63hk ?u63he ?u63F ?u63N ?_; (case u63hk => first | rfl | assumption); (case u63F => k_asm); (case u63he => exact rfl); (case u63N => k_asm)); intro qqown' qqh' qqtk' qqF' qqN' qqfr'; dsimp only [All, AllL]; intros; (try k_sweep); (try dsimp only))
  k_with "getAttr ref" => (k_here; k_dflt (refine' attr_own ?u64k1 ?u64k2 ?u64k3 ?u64m1 ?u64m2 ?u64kA ?u64k5 ?u64k6 ?u64k7 ?u64k8 ?u64k9 ?_; (case u64k1 => k_asm); (case u64k2 => k_asm); (case u64k3 => k_asm); (case u64m1 => k_mem); (case u64m2 => k_mem); (case u64kA => first | assumption | exact ⟨_, _, rfl, by k_get⟩); (case u64k5 => k_is); (case u64k6 => k_is); (case u64k7 => k_is); (case u64k8 => k_is); (case u64k9 => k_handed); k_whole); intro qqtk'; (try dsimp only))
  k_with "getMethod ref" => (k_here; k_dflt (refine' attr_meth ?u65k1 ?u65k2 ?u65k3 ?u65m1 ?u65m2 ?u65kA ?u65k5 ?u65k6 ?u65k7 ?_; (case u65k1 => k_asm); (case u65k2 => k_asm); (case u65k3 => k_asm); (case u65m1 => k_mem); (case u65m2 => k_mem); (case u65kA => first | assumption | exact ⟨_, _, rfl, by k_get⟩); (case u65k5 => k_is); (case u65k6 => k_is); (case u65k7 => k_is); k_whole))
  k_with "getMethod ref" => (k_here; k_dflt (first | ((with_reducible show wpAny _ _ (getMethod (Value.ref _) (PySem.Str.ofString "pop") _) _ _ _); refine' kl_method ?u66N ?u66m PySem.F.slot_list_pop PySem.F.type_list_pop ?_; (case u66N => k_asm); (case u66m => k_mem)) | ((with_reducible show wpAny _ _ (getMethod (Value.ref _) (PySem.Str.ofString "extend") _) _ _ _); refine' kl_method ?u66N ?u66m PySem.F.slot_list_extend PySem.F.type_list_extend ?_; (case u66N => k_asm); (case u66m => k_mem)) | ((with_reducible show wpAny _ _ (getMethod (Value.ref _) (PySem.Str.ofString "append") _) _ _ _); refine' kl_method ?u66N ?u66m PySem.F.slot_list_append PySem.F.type_list_append ?_; (case u66N => k_asm); (case u66m => k_mem)) | ((with_reducible show wpAny _ _ (getMethod (Value.ref _) (PySem.Str.ofString "index") _) _ _ _); refine' kl_method ?u66N ?u66m PySem.F.slot_list_index PySem.F.type_list_index ?_; (case u66N => k_asm); (case u66m => k_mem))))
  k_with "compareOp NotEq ref ref" => (k_here; k_dflt ((refine ne_dataH (by ked_read) (by ked_read) (by ked_shaped) (by ked_shaped) (by ke_room) ?_); ked_norm; ke_norm))
  k_with "compareOp Eq ref ref" => (k_here; k_dflt ((refine eq_dataH (by ked_read) (by ked_read) (by ked_shaped) (by ked_shaped) (by ke_room) ?_); ked_norm; ke_norm))
  k_with "call builtin:list.extend cons nil" => (k_here; (with_reducible show wpAny _ _ (call (Value.builtin _) [Value.ref _, Value.ref _]) _ _ _); k_dflt (refine' kl_extend ?u69F ?u69N ?u69b ?u69e ?u69ne ?u69U ?u69d ?u69z ?u69y ?_; (case u69F => k_asm); (case u69N => k_asm); (case u69b => k_mem); (case u69U => k_upd); (case u69e => kl_lit); (case u69ne => kl_some); (case u69d => kl_no); (case u69z => kl_room); (case u69y => kl_room)); kl_rest)
  k_with "compareOp NotEq ref ref" => (k_here; k_dflt (refine' ne_len ?u70N ?u70a ?u70b ?u70z ?u70u ?_; (case u70N => k_asm); (case u70a => k_mem); (case u70b => k_mem); (case u70z => rfl); (case u70u => ktr_units)))
  k_with "callWith ref cons nil" => (k_here; k_dflt (first | (refine' callWith_K ?u71k1 ?u71k2 ?_; (case u71k1 => k_asm); (case u71k2 => k_is); k_whole) | (refine' callWith_K0 ?u71k1 ?u71k2 ?_; (case u71k1 => k_in); (case u71k2 => k_is); k_whole; (try dsimp only [List.nil_append, List.cons_append]))))
  k_with "callWith ref nil nil" => (k_here; k_dflt (first | (refine' callWith_K ?u72k1 ?u72k2 ?_; (case u72k1 => k_asm); (case u72k2 => k_is); k_whole) | (refine' callWith_K0 ?u72k1 ?u72k2 ?_; (case u72k1 => k_in); (case u72k2 => k_is); k_whole; (try dsimp only [List.nil_append, List.cons_append]))))
  k_with "exec While Compare cons nil" => (k_here; k_dflt (refine whl_start 100 ?_))
  k_with "subscriptTail Name Constant ref int" => (k_here; k_dflt (refine' item_tupleT ?u74t ?u74a ?u74b ?u74c ?u74d ?_; (case u74t => exact News.isTup (by k_asm) (by k_mem)); (case u74a => decide); (case u74b => decide); (case u74c => rfl); (case u74d => rfl); k_whole))
  k_with "eval ListComp" => (k_here; (with_reducible show wpAny _ _ (eval (Expr.ListComp _ [⟨_, Expr.Name _ _, _, _⟩] _ _) _) _ _ _); k_dflt (refine' compT ?u75z0 ?u75z1 ?u75z2 ?u75z3 ?u75z4 ?u75z5 ?_; (case u75z0 => k_asm); (case u75z1 => with_unfolding_all rfl); (case u75z2 => decide); (case u75z3 => rfl); (case u75z4 => decide); (case u75z5 => rfl)))
  k_with "TupSrc" => (k_dflt (refine' TupSrc.at_ ?u76z1 ?u76z2 ?u76z3 ?u76z4 ?u76z5 ?_; (case u76z1 => rfl); (case u76z2 => k_asm); (case u76z3 => k_asm); (case u76z4 => k_mem); (case u76z5 => exact Nat.le_of_ble_eq_true rfl)); intro qqg'; lcg_lit)
  k_with "CompRest" => (with_unfolding_all first | (refine LCg.CompRest.succ ?_; intro qqv' qqI' qqoI' qqC' qqoC' qqD' qqm' qqh' qqtk' qqE' qqhv' qqhC' qqhx' qqF' qqN' qqoff' qqne'; lcg_open qqhv') | refine LCg.CompRest.zero ?_)
  k_with "CompEnd" => (k_dflt (first | (refine' compEnd0 ?u78F ?u78N ?u78o ?u78s ?_; (case u78F => k_asm); (case u78N => k_asm); (case u78o => k_asm); (case u78s => first | k_mem | k_extra "src")) | (refine' compEnd1 ?u78F ?u78N ?u78l ?u78o ?u78s ?_; (case u78F => k_asm); (case u78N => k_asm); (case u78l => k_asm); (case u78o => k_asm); (case u78s => first | k_mem | k_extra "src"))))
  k_with "FinE" => ((unfold LCg.FinE); intro qqD' qqh' qqtk' qqF' qqN' qqo1'; (replace qqo1' := off1_ne qqo1'); (try simp only [List.nil_append, List.cons_append] at qqN'); (try dsimp only))
  k_with "setAttr ref" => (k_here; k_dflt (refine' setA ?u80k1 ?u80k2 ?u80k3 ?u80k4 ?u80k5 ?u80k6 ?u80k7 ?u80k8 ?u80k9 ?u80k10 ?u80k11 ?u80k12 ?u80k13 ?_; (case u80k1 => k_asm); (case u80k2 => k_asm); (case u80k3 => k_asm); (case u80k4 => k_inst); (case u80k5 => exact rfl); (case u80k6 => k_is); (case u80k7 => k_is); (case u80k8 => k_is); (case u80k9 => k_is); (case u80k10 => k_get); (case u80k11 => (intro qqt; k_put)); (case u80k12 => (intro qqt; k_upd)); (case u80k13 => (intro qqt; exact Nat.le_of_ble_eq_true rfl)); k_whole; intro qqh' qqt' qqtk' qqF' qqN'; (try k_sweep); (try dsimp only)))
  k_with "setItem ref str ref" => (k_here; k_dflt (refine' kda_set (knd := PySem.strKind _ _) ?u81F ?u81N ?u81U ?u81d (strKind_is _ _ _ _) ?u81z ?_; (case u81F => k_asm); (case u81N => k_asm); (case u81U => k_updF); (case u81d => k_asm); (case u81z => kob_size)); intro qqh' qqo' qqF' qqN' qqhd'; (try kob_lit); (try dsimp only at qqN'))
  k_with "subscriptTail" => (k_here; (with_reducible show wpAny _ _ (subscriptTail _ _ (Value.ref _) (Value.str _ _)) _ _ _); k_dflt (refine kda_item (knd := PySem.strKind _ _) (by k_asm) (by k_mem) (by k_asm) (strKind_is _ _ _ _) (by rfl) ?_))
  k_with "compareOp In str ref" => (k_here; k_dflt (first | refine kda_in (knd := PySem.strKind _ _) (by k_asm) (by k_mem) (by k_asm) (by k_asm) (strKind_is _ _ _ _) true (by rfl) ?_ | refine kda_in (knd := PySem.strKind _ _) (by k_asm) (by k_mem) (by k_asm) (by k_asm) (strKind_is _ _ _ _) false (by rfl) ?_))
  k_with "k_steps" => repeat (first | (with_reducible refine tok_gen ?_; intro qqtk) | (k_unfold; (try dsimp only)) | (k_end; wrow_close) | walk1 | (dsimp only; walk1) | (leave1; walk_say "STEP leave1"; try dsimp only))
  trivial
-- TU
section
theorem StTU.z : True := by
  w_top off
  trivial
variable {w : World} {p : Program} {loose : List Str} {mean : ExcName → Option Value} {mg mb : Str → Option Value}
theorem news_rest {h₀ h : Heap} {L P : Addr} {o : Obj} {pre post : List (Addr × Obj)} (N : News h₀ L h (pre ++ (P, o) :: post)) : News h₀ L h ((P, o) :: (pre ++ post)) := fun q hq => N q (by
  rcases List.mem_cons.mp hq with rfl | hq
  · exact List.mem_append_right _ (.head _)
  · exact (List.mem_append.mp hq).elim (List.mem_append_left _) fun h => List.mem_append_right _ (.tail _ h))
theorem news_back {h₀ h : Heap} {L P : Addr} {o : Obj} {own pre post : List (Addr × Obj)} (N : News h₀ L h (own ++ (P, o) :: (pre ++ post))) : News h₀ L h (own ++ (pre ++ (P, o) :: post)) := fun q hq => N q (by
  rcases List.mem_append.mp hq with hq | hq
  · exact List.mem_append_left _ hq
  · refine List.mem_append_right _ ?_
    rcases List.mem_append.mp hq with hq | hq
    · exact .tail _ (List.mem_append_left _ hq)
    · rcases List.mem_cons.mp hq with rfl | hq
      · exact .head _
      · exact .tail _ (List.mem_append_right _ hq))
/-- a contract whose ledger begins with what it changes, at any place -/
theorem ctr_atF {f : Addr} {args : List Value} {k : Nat} {P : Addr} {o : Obj} {news : List (Addr × Obj)} {G : Obj → List (Addr × Obj)} {PV : Value → List (Addr × Obj) → Prop} (U : UpdF P o news G)
    (C : ∀ rest, (∀ q ∈ rest, q.1 ≠ P) → (∀ q ∈ news, q.1 ≠ P → q ∈ rest) → Ctr pw' w p loose mean mg mb f args ((P, o) :: rest) k (fun v n' => ∃ own ps, PV v own ∧ n' = own ++ (P, tabObj ps) :: rest)) :
    Ctr pw' w p loose mean mg mb f args news k (fun v n' => ∃ own ps, PV v own ∧ n' = own ++ G (tabObj ps)) := by
  obtain ⟨pre, post, rfl, hG, h1, h2⟩ := U.split
  intro dp un gd cn cs ad ccd cl outer A₀ base h₀ L m s Q E B F X N T hk hd hu hret
  refine C (pre ++ post) (fun q hq => (List.mem_append.mp hq).elim (h1 q) (h2 q)) (fun q hq hn => ?_) dp un gd cn cs ad ccd cl outer A₀ base h₀ L m s Q E B F X (news_rest N) T hk hd hu ?_
  · rcases List.mem_append.mp hq with hq | hq
    · exact List.mem_append_left _ hq
    · rcases List.mem_cons.mp hq with rfl | hq
      · exact absurd rfl hn
      · exact List.mem_append_right _ hq
  · rintro v n' h' tk' ⟨own, ps, hP, rfl⟩ F' N'
    exact hret v _ h' tk' ⟨own, ps, hP, rfl⟩ F' (by rw [hG]; exact news_back N')
theorem ctr_post {f : Addr} {args : List Value} {k : Nat} {news : List (Addr × Obj)} {P P' : Value → List (Addr × Obj) → Prop} (C : Ctr pw' w p loose mean mg mb f args news k P) (h : ∀ v n, P v n → P' v n) : Ctr pw' w p loose mean mg mb f args news k P' :=
  fun dp un gd cn cs ad ccd cl outer A₀ base h₀ L m s Q E B F X N T hk hd hu hret => C dp un gd cn cs ad ccd cl outer A₀ base h₀ L m s Q E B F X N T hk hd hu fun v n' h' tk' hP => hret v n' h' tk' (h v n' hP)
section
variable {news Y : List (Addr × Obj)} {G : Obj → List (Addr × Obj)}
theorem told_nameU (ck nd nm eT : Addr) (t3 t4 t5 t6 t7 : Tok) (x wv : Value) (U : UpdF 717 (tabObj #[]) news G) (hs : ∀ q ∈ Y, q ∈ news) (hY : ∀ q ∈ Y, q.1 ≠ 717) (H : TCtx w Y ck eT) (H3 : (nm, tup [.str "name" t3, .int 3 t4, .none, .str "T" t5]) ∈ Y)
    (H5 : (nd, tup [.str "lit" t6, .int 4 t7, .ref nm, x]) ∈ news) (hnd : @Ne Nat nd 717) : Ctr pw' w p loose mean mg mb 395 [.ref ck, .ref nd, wv] news 36 (fun v n' => ∃ own ps, (v = .ref eT ∧ own = []) ∧ n' = own ++ G (tabObj ps)) :=
  ctr_atF U fun rest h1 h2 => ctr_post (told_name ck nd nm eT t3 t4 t5 t6 t7 x wv rest h1 (H.mono fun q hq => h2 q (hs q hq) (hY q hq)) (h2 _ (hs _ H3) (hY _ H3)) (h2 _ H5 hnd)) fun v n ⟨e, ps, e'⟩ => ⟨[], ps, ⟨e, rfl⟩, e'⟩
theorem told_sliceU (ck nd nm sl eT : Addr) (t3 t4 t5 t6 t7 t8 t9 : Tok) (x wv : Value) (U : UpdF 717 (tabObj #[]) news G) (hs : ∀ q ∈ Y, q ∈ news) (hY : ∀ q ∈ Y, q.1 ≠ 717) (H : TCtx w Y ck eT) (H3 : (nm, tup [.str "name" t3, .int 3 t4, .none, .str "T" t5]) ∈ Y)
    (H4 : (sl, tup [.str "slice" t8, .int 3 t9, .ref nm]) ∈ Y) (H5 : (nd, tup [.str "lit" t6, .int 4 t7, .ref sl, x]) ∈ news) (hnd : @Ne Nat nd 717) : Ctr pw' w p loose mean mg mb 395 [.ref ck, .ref nd, wv] news 36 (fun v n' => ∃ own ps, (∃ t tk, v = .ref t ∧ own = [(t, tup [.str "slice" tk, .ref eT])]) ∧ n' = own ++ G (tabObj ps)) :=
  ctr_atF U fun rest h1 h2 => ctr_post (told_slice ck nd nm sl eT t3 t4 t5 t6 t7 t8 t9 x wv rest h1 (H.mono fun q hq => h2 q (hs q hq) (hY q hq)) (h2 _ (hs _ H3) (hY _ H3)) (h2 _ (hs _ H4) (hY _ H4)) (h2 _ H5 hnd)) fun v n ⟨t, tk, ps, e, e', _⟩ => ⟨[(t, tup [.str "slice" tk, .ref eT])], ps, ⟨t, tk, e, rfl⟩, e'⟩
end
/-- _law_tried, used at a call -/
theorem use_tried {fl : Addr} {oc : Value} {od : Option Addr} {fd : FuncData} {osl : Array (Option Value)} {news : List (Addr × Obj)} {G : Obj → List (Addr × Obj)} {P : Addr} {o : Obj} {k : Nat} {f' : Addr} {args' : List Value} (PV : Value → List (Addr × Obj) → Prop) (PE : Addr → Int → Prop)
    {dp un : Nat} {gd : Option (List Code)} {cn : Str} {cs : PySem.Scope} {ad : Addr} {ccd : Value} {cl : List (Str × Addr)} {outer : List Env} {A₀ : Around} {base h₀ : Heap} {L : Addr} {m : Str → Option Value} {s : Shared} {Q E : Value → Shared → Prop}
    (U : UpdF P o news G) (e : f' = 1029) (ea : args' = [.ref fl]) (B : Below A₀ base outer h₀) (F : Fr h₀ L s.heap m) (XB : (Mine.Kb w.params).In base) (TB : Top p loose mean mg mb base) (N : News h₀ L s.heap news) (X : (Mine.Kb w.params).In h₀) (T : Top p loose mean mg mb h₀) (hk : cs.kind = .function) (hd : dp + (k + 2) < recursionLimit) (hu : un + 8 * (k + 2) < cLine)
    (hfl : (fl, (⟨oc, od, .func fd, osl⟩ : Obj)) ∈ news) (hcall : CtrR pw' w p loose mean mg mb fl [] news k (fun v n' => ∃ own ps, PV v own ∧ n' = own ++ G (tabObj ps)) PE) (hP : ∀ C sp, PE C sp → C = 66 ∨ C = 78 ∨ C = 90)
    (hret : ∀ v own ps h' tk' h₀', KtsTurn (outer.filterMap (·.frame)) h₀ h₀' → PV v own → Fr h₀' L h' m → News h₀' L h' (own ++ G (tabObj ps)) → Below A₀ base outer h₀' → (Mine.Kb w.params).In h₀' → Top p loose mean mg mb h₀' → Q v ⟨h', s.gens, s.drawn, tk', s.os⟩)
    (hexc : ∀ C sp t tw ts h' tk' h₀', KtsTurn (outer.filterMap (·.frame)) h₀ h₀' → PE C sp → (∀ q ∈ news, q.1 < t) → Fr h₀' L h' m → News h₀' L h' ((t, tup [.str (wordOf C) tw, .int sp ts]) :: news) → Below A₀ base outer h₀' → (Mine.Kb w.params).In h₀' → Top p loose mean mg mb h₀' → Q (.ref t) ⟨h', s.gens, s.drawn, tk', s.os⟩) :
    wpAny (model pw' w) (ktrTop dp un gd cn cs L ad ccd cl outer) (call (.ref f') args') Q E s := by
  refine use_t (tried_ok fl oc od fd osl news hfl k _ PE hcall hP) e ea B F XB TB N X T hk hd hu ?_
  rintro v n' h' tk' g' t (⟨own, ps, hv, rfl⟩ | ⟨C, sp, tt, tw, ts, hE, rfl, hl, rfl⟩) F' N' B' X' T'
  · exact hret v own ps h' tk' g' t hv F' N' B' X' T'
  · exact hexc C sp tt tw ts h' tk' g' t hE hl F' N' B' X' T'
theorem one_atE {f' : Addr} {args' : List Value} {news : List (Addr × Obj)} {f : Obj → List (Addr × Obj)} {vs : List Value} {n1 : Nat} {sm : Addr} {rl : Addr} {o : Obj} {dp un : Nat} {gd : Option (List Code)} {cn : Str} {cs : PySem.Scope} {ad : Addr} {ccd : Value} {cl : List (Str × Addr)} {outer : List Env} {A₀ : Around} {base h₀ : Heap} {L : Addr} {m : Str → Option Value} {s : Shared} {Q E : Value → Shared → Prop}
    (e : f' = 1022) (ea : args' = [.ref rl, .ref sm]) (B : Below A₀ base outer h₀) (F : Fr h₀ L s.heap m) (X : (Mine.Kb w.params).In h₀) (N : News h₀ L s.heap news) (T : Top p loose mean mg mb h₀) (ho : Reel o) (hU : ∀ o', Upd rl o o' news (f o')) (hsm : (sm, W.listOf vs.toArray n1) ∈ news) (hl0 : 0 < vs.length) (hl1 : vs.length < 1000) (hne : sm ≠ rl)
    (hk : cs.kind = .function) (hd : dp + 2 < recursionLimit) (hu : un + 8 * 2 < cLine)
    (hret : ∀ v ∈ vs, ∀ o' h' tk', Reel o' → Fr h₀ L h' m → News h₀ L h' (f o') → Q v { s with heap := h', toks := tk' }) :
    wpAny (model pw' w) (ktrTop dp un gd cn cs L ad ccd cl outer) (call (.ref f') args') Q E s := by
  subst e
  subst ea
  exact one_at B F X N T ho hU hsm hl0 hl1 hne hk hd hu hret

end
theorem FinTU.z : True := trivial
-- TF
section
theorem StTF.z : True := by
  w_top off
  trivial
variable {w : World} {p : Program} {loose : List Str} {mean : ExcName → Option Value} {mg mb : Str → Option Value}
theorem Rz.sub {h₀ h : Heap} {L : Addr} {m : Str → Option Value} {l : List Env} {news news' : List (Addr × Obj)} {e C : Addr} {sp : Int} (R : Rz h₀ L m l news e C sp h) (s : ∀ q ∈ news', q ∈ news) : Rz h₀ L m l news' e C sp h :=
  R.imp fun _ => .imp fun _ => .imp fun _ => .imp fun _ => .imp fun _ => .imp fun _ h => ⟨h.1, fun q hq => h.2.1 q (s q hq), h.2.2⟩
theorem news_ne {h₀ gl hl : Heap} {L Ll : Addr} {m : Str → Option Value} {news : List (Addr × Obj)} (FG : Fr h₀ L gl m) (N : News gl Ll hl news) : ∀ q ∈ news, q.1 ≠ L := fun q hq z => by
  have := (N q hq).2.2
  obtain ⟨o, es, ep, h, _⟩ := FG.ns
  rw [z, h] at this
  cases this
theorem TCtx.tup {X : List (Addr × Obj)} {ck eT : Addr} (H : TCtx w X ck eT) : ∃ t2 t3, (eT, tup [.str "named" t2, .str "main.T" t3]) ∈ X := H.elim fun _ h => h.elim fun _ h => h.elim fun _ h => h.imp fun _ => .imp fun _ h => h.2.2
/-- what the rest of a def's body does, the ground may turn -/
noncomputable abbrev BodyT (w : World) (p : Program) (loose : List Str) (mean : ExcName → Option Value) (mg mb : Str → Option Value) (q : Str) (d : DefRec) (f : Addr) (cd : Value) (i : Nat) (L : Addr) (m : Str → Option Value) (news : List (Addr × Obj)) (k : Nat) (Post : Value → List (Addr × Obj) → Prop) : Prop :=
  ∀ (dp un : Nat) (gd : Option (List Code)) (outer : List Env) (A₀ : Around) (base g : Heap) (s : Shared) (Q : Flow → Shared → Prop) (E : Value → Shared → Prop),
    Below A₀ base outer g → Fr g L s.heap m → (Mine.Kb w.params).In base → Top p loose mean mg mb base → News g L s.heap news → (Mine.Kb w.params).In g → Top p loose mean mg mb g → d.scope.kind = .function → dp + k < recursionLimit → un + 8 * k < cLine →
    (∀ v news' h' tk' g' m', KtsTurn (outer.filterMap (·.frame)) g g' → Post v news' → Fr g' L h' m' → News g' L h' news' → Below A₀ base outer g' → Q (.ret v) ⟨h', s.gens, s.drawn, tk', s.os⟩) →
    wpAny (model pw' w) (ktrTop dp un gd q d.scope L f cd (cellsFrom (L + 1) d.scope.names []) outer) (execs (d.body.drop i) (envX q d.scope L f cd (cellsFrom (L + 1) d.scope.names []))) Q E s
noncomputable abbrev BT117 (w : World) (p : Program) (loose : List Str) (mean : ExcName → Option Value) (mg mb : Str → Option Value) := BodyT w p loose mean mg mb "_law_type_right" (fdTop 117) 1050 (.ref 1049)
theorem hd1049 {P : Params} {h : Heap} (X : (Kb P).In h) : CodeHd h 1049 1045 := ⟨_, _, _, _, _, _, _, _, _, X 1049 _ rfl, rfl, rfl, rfl, rfl, rfl, rfl, rfl, rfl, by decide⟩
theorem words_20 : True := by
  k_with "kn_code" => (fail_if_success (open Mine.FinTF in skip)); (first | exact hd1049 (by assumption))
  k_with "call ref cons nil" => (fail_if_success (open Mine.FinTF in skip)); (((with_reducible show wpAny _ _ (call (Value.ref 1029) _) _ _ _); refine stop_ ?_))
  k_with "call ref cons nil" => (fail_if_success (open Mine.FinTF in skip)); (((with_reducible show wpAny _ _ (call (Value.ref 395) _) _ _ _); refine stop_ ?_))
  trivial
theorem typeC_ok (ck : Addr) (wv rv dv : Value) (PV : Value → List (Addr × Obj) → Prop) (oC oW oR : Obj) (X : List (Addr × Obj)) (L : Addr) (m : Str → Option Value) (h1 : ∀ q ∈ X, q.1 ≠ 1045) (h2 : ∀ q ∈ X, q.1 ≠ 717)
    (c1 : (L + 1, oC) ∈ X) (d1 : oC.data = .cell (some (.ref ck))) (c2 : (L + 1 + 1, oW) ∈ X) (d2 : oW.data = .cell (some wv)) (c3 : (L + 1 + 1 + 1, oR) ∈ X) (d3 : oR.data = .cell (some rv)) (hm : m "due" = some dv)
    (hC : ∀ (nd : Addr) (t6 t7 : Tok) (x : Value) (news : List (Addr × Obj)) (G : Obj → List (Addr × Obj)), UpdF 717 (tabObj #[]) news G → (∀ q ∈ X, q ∈ news) → (nd, tup [.str "lit" t6, .int 4 t7, rv, x]) ∈ news → @Ne Nat nd 717 →
      Ctr pw' w p loose mean mg mb 395 [.ref ck, .ref nd, wv] news 36 (fun v n' => ∃ own ps, PV v own ∧ n' = own ++ G (tabObj ps)))
    (hEq : ∀ v own g L h, PV v own → News g L h (own ++ X) → ∃ d d' as bs, Reads h v d as ∧ Reads h dv d' bs ∧ PySem.SeqAt.shaped d = true ∧ PySem.SeqAt.shaped d' = true ∧ PyData.eqv d d' = true) :
    BT117 w p loose mean mg mb 5 L m ((1045, tabObj #[]) :: (717, tabObj #[]) :: X) 55 (fun v n' => v = .bool true ∧ ∃ ps ps', n' = (1045, tabObj ps) :: (717, tabObj ps') :: X) := by
  intro dp un gd outer A₀ base g s Q E B F XB TB N XG T hk hd hu hret
  have hc0 := hd1049 XG
  k_dflt (show wpAny _ _ (execs (List.cons _ _) _) _ _ _)
  k_steps
  refine go_on ?_
  with_unfolding_all refine' use_tried PV (fun _ _ => False) ?U ?ke ?ka ?kB ?kF ?kXB ?kTB ?kN ?kX ?kT ?hk ?hd ?hu ?hfl ?hcall ?hP ?hret ?hexc (k := 44) (P := 717) (o := tabObj #[])
  case ke => exact rfl
  case ka => exact rfl
  case kB => assumption
  case kF => assumption
  case kXB => assumption
  case kTB => assumption
  case kN => assumption
  case kX => k_in
  case kT => assumption
  case U => k_dflt k_updF
  case hk => rfl
  case hd => ktr_room
  case hu => ktr_units
  case hfl => k_dflt k_mem
  case hP => exact fun _ _ h => h.elim
  case hexc => exact fun _ _ _ _ _ _ _ _ _ h => h.elim
  case hcall =>
    intro dp un gd cn cs ad ccd cl outer A₀ base h₀ L m s Q E B F X N T hk hd hu hret hexc
    refine wpAny_call ?_
    k_dflt kla_enter
    k_steps
    refine go_on ?_
    with_unfolding_all refine' use_c (hC _ _ _ _ _ _ ?hU ?hS ?h5 ?hn) ?ke ?ka ?kB ?kF ?kX ?kN ?kT ?hk ?hd ?hu ?_
    case ke => exact rfl
    case ka => exact rfl
    case kB => assumption
    case kF => assumption
    case kX => k_in
    case kN => assumption
    case kT => assumption
    case hU => k_dflt k_updF
    case hS => k_extra "sub"
    case h5 => k_dflt k_mem
    case hn => k_dflt k_ne
    case hk => first | rfl | assumption
    case hd => ktr_room
    case hu => ktr_units
    rintro v9 n9 h9 tk9 ⟨own9, o9, hv9, rfl⟩ F9 N9
    k_sweep
    try dsimp only
    k_steps
    rename News h₀ L _ _ => N5
    refine' hret _ _ _ _ ⟨own9, _, hv9, rfl⟩ ?zF ?zn
    case zF => assumption
    case zn =>
      intro q hq
      refine N5 q ?_
      rcases List.mem_append.mp hq with h | h
      · exact List.mem_append_left _ h
      · exact List.mem_append_right _ (by k_extra "mm")
  case hret =>
    rintro v own o' h' tk' g' T1 hv F1 N1 B1 X1 TT1
    k_steps
    obtain ⟨d, d', as, bs, r1, r2, s1, s2, e⟩ := hEq v own g' L h' hv (fun q hq => N1 q ((List.mem_append.mp hq).elim (List.mem_append_left _) fun h => List.mem_append_right _ (by k_extra "mm")))
    refine eq_dataH r1 r2 s1 s2 (by ktr_units) ?_
    rw [e]
    replace N1 : News g' L h' _ := fun q hq => N1 q (List.mem_append_right _ hq)
    k_steps
    refine' hret _ ((1045, _) :: (717, _) :: X) _ _ _ _ T1 ⟨rfl, _, _, rfl⟩ F1 ?zn B1
    case zn =>
      intro q hq
      rcases List.mem_cons.mp hq with rfl | hq
      · exact N1 _ (by k_dflt k_mem)
      · rcases List.mem_cons.mp hq with rfl | hq
        · exact N1 _ (by k_dflt k_mem)
        · exact N1 q (by k_extra "mm")

theorem typeC_exc (ck dt : Addr) (tw td : Tok) (oC oW oR : Obj) (X : List (Addr × Obj)) (L : Addr) (m : Str → Option Value) (h1 : ∀ q ∈ X, q.1 ≠ 1045) (h2 : ∀ q ∈ X, q.1 ≠ 717)
    (c1 : (L + 1, oC) ∈ X) (d1 : oC.data = .cell (some (.ref ck))) (c2 : (L + 1 + 1, oW) ∈ X) (d2 : oW.data = .cell (some .none)) (c3 : (L + 1 + 1 + 1, oR) ∈ X) (d3 : oR.data = .cell (some .none)) (hm : m "due" = some (.ref dt)) (hdt : (dt, tup [.str "type fault" tw, .int 4 td]) ∈ X) :
    BT117 w p loose mean mg mb 5 L m ((1045, tabObj #[]) :: (717, tabObj #[]) :: X) 55 (fun v n' => v = .bool true ∧ ∃ ps ps', n' = (1045, tabObj ps) :: (717, tabObj ps') :: X) := by
  intro dp un gd outer A₀ base g s Q E B F XB TB N XG T hk hd hu hret
  have hc0 := hd1049 XG
  k_dflt (show wpAny _ _ (execs (List.cons _ _) _) _ _ _)
  k_steps
  refine go_on ?_
  with_unfolding_all refine' use_tried (fun _ _ => False) (fun C sp => C = 78 ∧ sp = 4) ?U ?ke ?ka ?kB ?kF ?kXB ?kTB ?kN ?kX ?kT ?hk ?hd ?hu ?hfl ?hcall ?hP ?hret ?hexc (k := 44) (P := 717) (o := tabObj #[])
  case ke => exact rfl
  case ka => exact rfl
  case kB => assumption
  case kF => assumption
  case kXB => assumption
  case kTB => assumption
  case kN => assumption
  case kX => k_in
  case kT => assumption
  case U => k_dflt k_updF
  case hk => rfl
  case hd => ktr_room
  case hu => ktr_units
  case hfl => k_dflt k_mem
  case hP => exact fun _ _ h => .inr (.inl h.1)
  case hret => exact fun _ _ _ _ _ _ _ h => h.elim
  case hcall =>
    intro dp un gd cn cs ad ccd cl outer A₀ base h₀ L m s Q E B F X N T hk hd hu hret hexc
    refine wpAny_call ?_
    k_dflt kla_enter
    k_steps
    refine go_on ?_
    rename News _ _ _ _ => N9
    rename Fr _ _ _ (fun y => List.lookup y _) => F9
    with_unfolding_all refine' told_none _ _ 0 _ _ _ _ _ _ _ _ _ _ _ _ _ _ _ _ _ _ _ _ _ _ ?kB F9 ?kX (fun q hq => (List.mem_cons.mp hq).elim (fun e => e ▸ N9 _ ?m9) (N9 q)) ?kT ?hk ?hd ?hu ?hretT ?hexcT
    case kB => assumption
    case kX => k_in
    case kT => assumption
    case hk => first | rfl | assumption
    case hd => ktr_room
    case hu => ktr_units
    case hretT => exact fun _ _ _ _ h => h.elim
    case m9 => k_dflt k_mem
    case hexcT =>
      rintro e C sp h' tk' ⟨rfl, rfl⟩ R
      k_unfold
      refine rz_next (A₁ := A₀) (base := base) rfl rfl (by assumption) F9 (news_ne (by assumption) (fun q hq => (List.mem_cons.mp hq).elim (fun e => e ▸ N9 _ (by k_dflt k_mem)) (N9 q))) R (fun h2 R2 => ?_)
      exact hexc _ _ _ _ _ ⟨rfl, rfl⟩ (R2.sub (by k_extra "sub"))
  case hexc =>
    rintro C sp t tw ts h' tk' g' T1 ⟨rfl, rfl⟩ hl F1 N1 B1 X1 TT1
    rw [show wordOf 78 = "type fault" from rfl] at N1
    k_steps
    refine' hret _ ((1045, _) :: (717, _) :: X) _ _ _ _ T1 ⟨rfl, _, _, rfl⟩ F1 ?zn B1
    case zn =>
      intro q hq
      rcases List.mem_cons.mp hq with rfl | hq
      · exact N1 _ (by k_dflt k_mem)
      · rcases List.mem_cons.mp hq with rfl | hq
        · exact N1 _ (by k_dflt k_mem)
        · exact N1 q (by k_extra "mm")

end
theorem FinTF.z : True := trivial
-- TG
section
theorem StTG.z : True := by
  w_top off
  trivial
variable {w : World} {p : Program} {loose : List Str} {mean : ExcName → Option Value} {mg mb : Str → Option Value}
noncomputable def sans (news : List (Addr × Obj)) : List (Addr × Obj) := news.filter fun q => q.1 != 1045 && q.1 != 717
theorem mem_sans {q : Addr × Obj} {news : List (Addr × Obj)} (h : q ∈ news) (n1 : q.1 ≠ 1045) (n2 : q.1 ≠ 717) : q ∈ sans news := List.mem_filter.mpr ⟨h, by simp [n1, n2]⟩
theorem sans_1 {news : List (Addr × Obj)} : ∀ q ∈ sans news, q.1 ≠ 1045 := fun q hq => by have := (List.mem_filter.mp hq).2; simp at this; exact this.1
theorem sans_2 {news : List (Addr × Obj)} : ∀ q ∈ sans news, q.1 ≠ 717 := fun q hq => by have := (List.mem_filter.mp hq).2; simp at this; exact this.2
theorem sans_sub {news : List (Addr × Obj)} : ∀ q ∈ sans news, q ∈ news := fun _ hq => (List.mem_filter.mp hq).1
theorem bt_sans {i : Nat} {L : Addr} {m : Str → Option Value} {news : List (Addr × Obj)} {k : Nat} (m1 : (1045, tabObj #[]) ∈ news) (m2 : (717, tabObj #[]) ∈ news)
    (h : BT117 w p loose mean mg mb i L m ((1045, tabObj #[]) :: (717, tabObj #[]) :: sans news) k (fun v n' => v = .bool true ∧ ∃ ps ps', n' = (1045, tabObj ps) :: (717, tabObj ps') :: sans news)) : BT117 w p loose mean mg mb i L m news k (fun v n' => v = .bool true ∧ ∃ ps ps', n' = (1045, tabObj ps) :: (717, tabObj ps') :: sans news) := by
  intro dp un gd outer A₀ base g s Q E B F XB TB N XG T hk hd hu hret
  refine h dp un gd outer A₀ base g s Q E B F XB TB (fun q hq => ?_) XG T hk hd hu ?_
  · rcases List.mem_cons.mp hq with rfl | hq
    · exact N _ m1
    · rcases List.mem_cons.mp hq with rfl | hq
      · exact N _ m2
      · exact N q (sans_sub q hq)
  · rintro v n' h' tk' g' m' T1 ⟨rfl, o, o', rfl⟩ F1 N1 B1
    exact hret _ _ h' tk' g' m' T1 ⟨rfl, o, o', rfl⟩ F1 N1 B1
/-- what is written, and what is its own type -/
noncomputable def Kind117 (X : List (Addr × Obj)) (T : Addr) (rv ov : Value) : Prop :=
  (∃ nm t1 t2 t3, rv = .ref nm ∧ ov = .ref T ∧ (nm, tup [.str "name" t1, .int 3 t2, .none, .str "T" t3]) ∈ X) ∨
  (∃ nm sl sT t1 t2 t3 t4 t5 t6, rv = .ref sl ∧ ov = .ref sT ∧ (nm, tup [.str "name" t1, .int 3 t2, .none, .str "T" t3]) ∈ X ∧ (sl, tup [.str "slice" t4, .int 3 t5, .ref nm]) ∈ X ∧ (sT, tup [.str "slice" t6, .ref T]) ∈ X) ∨
  (rv = .none ∧ ov = .none)
noncomputable abbrev EqFor (dv : Value) (Y : List (Addr × Obj)) (PV : Value → List (Addr × Obj) → Prop) : Prop := ∀ v own g L h, PV v own → News g L h (own ++ Y) → ∃ d d' as bs, Reads h v d as ∧ Reads h dv d' bs ∧ PySem.SeqAt.shaped d = true ∧ PySem.SeqAt.shaped d' = true ∧ PyData.eqv d d' = true
theorem reads2 {h : Heap} {a : Addr} {x y : Str} {t1 t2 : Tok} (hh : h.get? a = some (tup [.str x t1, .str y t2])) : Reads h (.ref a) (.tuple [.str x, .str y]) ([] ++ ([] ++ [])) := Reads.tuple hh rfl rfl (.cons (.str _ _) (.cons (.str _ _) .nil))
theorem reads_sl {h : Heap} {a b : Addr} {x y z : Str} {t1 t2 t3 : Tok} (hh : h.get? a = some (tup [.str x t1, .ref b])) (hb : h.get? b = some (tup [.str y t2, .str z t3])) : Reads h (.ref a) (.tuple [.str x, .tuple [.str y, .str z]]) ([] ++ (([] ++ ([] ++ [])) ++ [])) := Reads.tuple hh rfl rfl (.cons (.str _ _) (.cons (reads2 hb) .nil))
theorem eq_name {Y : List (Addr × Obj)} {eT T : Addr} {t1 t2 t3 t4 : Tok} (a : (eT, tup [.str "named" t1, .str "main.T" t2]) ∈ Y) (b : (T, tup [.str "named" t3, .str "main.T" t4]) ∈ Y) : EqFor (.ref T) Y (fun v own => v = .ref eT ∧ own = []) := by
  rintro v own g L h ⟨rfl, rfl⟩ N
  exact ⟨_, _, _, _, reads2 (N _ a).1, reads2 (N _ b).1, by decide +kernel, by decide +kernel, by decide +kernel⟩
theorem eq_slice {Y : List (Addr × Obj)} {eT T sT : Addr} {t1 t2 t3 t4 t5 : Tok} (a : (eT, tup [.str "named" t1, .str "main.T" t2]) ∈ Y) (b : (T, tup [.str "named" t3, .str "main.T" t4]) ∈ Y) (c : (sT, tup [.str "slice" t5, .ref T]) ∈ Y) : EqFor (.ref sT) Y (fun v own => ∃ t tk, v = .ref t ∧ own = [(t, tup [.str "slice" tk, .ref eT])]) := by
  rintro v own g L h ⟨t, tk, rfl, rfl⟩ N
  exact ⟨_, _, _, _, reads_sl (N _ (.head _)).1 (N _ (.tail _ a)).1, reads_sl (N _ (.tail _ c)).1 (N _ (.tail _ b)).1, by decide +kernel, by decide +kernel, by decide +kernel⟩
theorem eq_map {Y : List (Addr × Obj)} {wt wh T : Addr} {t0 t1 t2 t3 t4 : Tok} (a : (wt, tup [.str "map" t0, .ref wh, .ref T]) ∈ Y) (b : (wh, tup [.str "int" t1, .str "int" t2]) ∈ Y) (c : (T, tup [.str "named" t3, .str "main.T" t4]) ∈ Y) : EqFor (.ref wt) Y (fun v own => v = .ref wt ∧ own = []) := by
  rintro v own g L h ⟨rfl, rfl⟩ N
  have r : Reads h (.ref wt) _ _ := Reads.tuple (N _ a).1 rfl rfl (.cons (.str _ _) (.cons (reads2 (N _ b).1) (.cons (reads2 (N _ c).1) .nil)))
  exact ⟨_, _, _, _, r, r, by decide +kernel, by decide +kernel, by decide +kernel⟩
theorem told_wantedU (ck nd wt : Addr) (t6 t7 : Tok) (x : Value) {news : List (Addr × Obj)} {G : Obj → List (Addr × Obj)} (U : UpdF 717 (tabObj #[]) news G) (H5 : (nd, tup [.str "lit" t6, .int 4 t7, .none, x]) ∈ news) :
    Ctr pw' w p loose mean mg mb 395 [.ref ck, .ref nd, .ref wt] news 36 (fun v n' => ∃ own ps, (v = .ref wt ∧ own = []) ∧ n' = own ++ G (tabObj ps)) := by
  intro dp un gd cn cs ad ccd cl outer A₀ base h₀ L m s Q E B F X N T hk hd hu hret
  refine told_wanted ck nd wt t6 t7 x news H5 dp un gd cn cs ad ccd cl outer A₀ base h₀ L m s Q E B F X N T hk (by omega) (by omega) ?_
  rintro v n' h' tk' ⟨rfl, rfl⟩ F' N'
  obtain ⟨pre, post, rfl, hG, -, -⟩ := U.split
  exact hret _ _ h' tk' ⟨[], #[], ⟨rfl, rfl⟩, by rw [hG]; rfl⟩ F' N'
theorem typeC_map (ck wt wh T : Addr) (t0 t1 t2 t3 t4 : Tok) (oC oW oR : Obj) (X : List (Addr × Obj)) (L : Addr) (m : Str → Option Value) (h1 : ∀ q ∈ X, q.1 ≠ 1045) (h2 : ∀ q ∈ X, q.1 ≠ 717)
    (c1 : (L + 1, oC) ∈ X) (d1 : oC.data = .cell (some (.ref ck))) (c2 : (L + 1 + 1, oW) ∈ X) (d2 : oW.data = .cell (some (.ref wt))) (c3 : (L + 1 + 1 + 1, oR) ∈ X) (d3 : oR.data = .cell (some .none)) (hm : m "due" = some (.ref wt))
    (a : (wt, tup [.str "map" t0, .ref wh, .ref T]) ∈ X) (b : (wh, tup [.str "int" t1, .str "int" t2]) ∈ X) (c : (T, tup [.str "named" t3, .str "main.T" t4]) ∈ X) :
    BT117 w p loose mean mg mb 5 L m ((1045, tabObj #[]) :: (717, tabObj #[]) :: X) 55 (fun v n' => v = .bool true ∧ ∃ ps ps', n' = (1045, tabObj ps) :: (717, tabObj ps') :: X) :=
  typeC_ok ck (.ref wt) .none (.ref wt) (fun v own => v = .ref wt ∧ own = []) oC oW oR X L m h1 h2 c1 d1 c2 d2 c3 d3 hm (fun nd t6 t7 x _ _ U _ h5 _ => told_wantedU ck nd wt t6 t7 x U h5) (eq_map a b c)
theorem words_21 : True := by
  k_with "call ref cons nil" => (fail_if_success (open Mine.FinTG in skip)); (focus k_dflt ((with_unfolding_all refine' one_atE ?u121ke ?u121ka ?u121kB ?u121kF ?u121kX ?u121kN ?u121kT ?u121kR ?u121kU ?u121hsm ?u121hl0 ?u121hl1 ?u121hne ?u121hk ?u121hd ?u121hu ?_); (case u121ke => exact rfl); (case u121ka => exact rfl); (case u121kB => assumption); (case u121kF => assumption); (case u121kX => k_in); (case u121kN => assumption); (case u121kT => assumption); (case u121kU => (intro qqo'; k_upd)); (case u121kR => assumption); (case u121hsm => k_mem); (case u121hl0 => simp); (case u121hl1 => simp); (case u121hne => k_ne); (case u121hk => first | rfl | assumption); (case u121hd => ktr_room); (case u121hu => ktr_units); (repeat' (first | exact List.forall_mem_nil _ | refine List.forall_mem_cons.mpr ⟨?_, ?_⟩)); all_goals (intro qqo1 qqh1 qqtk1 qqhR1 qqF1 qqN1; (try dsimp only at qqN1); (try k_sweep); (try dsimp only))))
  k_with "execs cons" => (fail_if_success (open Mine.FinTG in skip)); (((with_reducible show wpAny _ _ (execs (Stmt.Assign _ (Expr.IfExp _ _ _ _) _ :: _) _) _ _ _); refine stop_ ?_))
  k_with "execs cons" => (fail_if_success (open Mine.FinTG in skip)); (((with_reducible show wpAny _ _ (execs (Stmt.Return _ _ :: _) _) _ _ _); refine stop_ ?_))
  k_with "hn" => (fail_if_success (open Mine.FinTG in skip)); (first | (exact sans_1) | (exact sans_2) | (refine' mem_sans ?u124a ?u124b ?u124c; (case u124a => k_dflt k_mem); (case u124b => k_dflt k_ne); (case u124c => k_dflt k_ne)) | assumption)
  trivial
theorem ends117 {rl L : Addr} {o : Obj} {m : Str → Option Value} {X news : List (Addr × Obj)} {k : Nat} (ho : Reel o) (m0 : (rl, o) ∈ news) (hs : ∀ q ∈ X, q ∈ news) (n1 : @Ne Nat rl 1045) (n2 : @Ne Nat rl 717) (h1 : ∀ q ∈ X, q.1 ≠ 1045) (h2 : ∀ q ∈ X, q.1 ≠ 717) (m1 : (1045, tabObj #[]) ∈ news) (m2 : (717, tabObj #[]) ∈ news)
    (h : BT117 w p loose mean mg mb 5 L m ((1045, tabObj #[]) :: (717, tabObj #[]) :: sans news) k (fun v n' => v = .bool true ∧ ∃ ps ps', n' = (1045, tabObj ps) :: (717, tabObj ps') :: sans news)) : BT117 w p loose mean mg mb 5 L m news k (fun v n' => v = .bool true ∧ ∃ o' ps ps', Reel o' ∧ n' = (rl, o') :: (1045, tabObj ps) :: (717, tabObj ps') :: X) := by
  intro dp un gd outer A₀ base g s Q E B F XB TB N XG T hk hd hu hret
  refine bt_sans m1 m2 h dp un gd outer A₀ base g s Q E B F XB TB N XG T hk hd hu ?_
  rintro v n' h' tk' g' m' T1 ⟨rfl, ps, ps', rfl⟩ F1 N1 B1
  refine hret _ _ h' tk' g' m' T1 ⟨rfl, o, ps, ps', ho, rfl⟩ F1 (fun q hq => N1 q ?_) B1
  rcases List.mem_cons.mp hq with rfl | hq
  · exact .tail _ (.tail _ (mem_sans m0 n1 n2))
  · rcases List.mem_cons.mp hq with rfl | hq
    · exact .head _
    · rcases List.mem_cons.mp hq with rfl | hq
      · exact .tail _ (.head _)
      · exact .tail _ (.tail _ (mem_sans (hs q hq) (h1 q hq) (h2 q hq)))
theorem typeA2 (rl ck eT wh T : Addr) (rv ov : Value) (t1 t2 t3 t4 : Tok) (o oC oW oR : Obj) (w0 : Option Value) (X : List (Addr × Obj)) (L : Addr) (m : Str → Option Value) (ho : Reel o) (hr : ∀ q ∈ X, q.1 ≠ rl) (h1 : ∀ q ∈ X, q.1 ≠ 1045) (h2 : ∀ q ∈ X, q.1 ≠ 717) (hW : ∀ q ∈ X, q.1 ≠ L + 1 + 1)
    (hrl : @LE.le Nat _ 1058 rl) (hrL : @LT.lt Nat _ rl L) (H : TCtx w X ck eT) (c1 : (L + 1, oC) ∈ X) (d1 : oC.data = .cell (some (.ref ck))) (d2 : oW.data = .cell w0) (c3 : (L + 1 + 1 + 1, oR) ∈ X) (d3 : oR.data = .cell (some rv))
    (m1 : m "reel" = some (.ref rl)) (m2 : m "whole" = some (.ref wh)) (m3 : m "T" = some (.ref T)) (m4 : m "own" = some ov) (i1 : (wh, tup [.str "int" t1, .str "int" t2]) ∈ X) (i2 : (T, tup [.str "named" t3, .str "main.T" t4]) ∈ X) (hK : Kind117 X T rv ov) :
    BT117 w p loose mean mg mb 3 L m ((rl, o) :: (1045, tabObj #[]) :: (717, tabObj #[]) :: (L + 1 + 1, oW) :: X) 58 (fun v n' => v = .bool true ∧ ∃ o' ps ps', Reel o' ∧ n' = (rl, o') :: (1045, tabObj ps) :: (717, tabObj ps') :: X) := by
  intro dp un gd outer A₀ base g s Q E B F XB TB N XG T hk hd hu hret
  have z1 := far1 hrl
  have z2 := far2 hrl
  have z3 := far3 hrL
  have z4 := farL hrl hrL
  have z5 := far1 z4
  have z6 := far2 z4
  clear z4
  k_dflt (show wpAny _ _ (execs (List.cons _ _) _) _ _ _)
  k_steps
  rotate_left
  k_steps
  rotate_left
  all_goals refine go_on ?_
  all_goals obtain ⟨tE1, tE2, hE⟩ := H.tup
  all_goals rcases hK with ⟨nm, t5, t6, t7, rfl, rfl, k1⟩ | ⟨nm, sl, sT, t5, t6, t7, t8, t9, t10, rfl, rfl, k1, k2, k3⟩ | ⟨rfl, rfl⟩
  all_goals (refine wpAny_execs_cons ?_; k_steps; refine go_on ?_)
  · rename Fr g L _ _ => F9
    rename News g L _ _ => N9
    with_unfolding_all refine' ends117 (rl := rl) (X := X) (k := 55) ?kR ?k0 ?kS ?n1 ?n2 h1 h2 ?m1 ?m2 (typeC_ok ck _ _ _ (fun v own => v = .ref eT ∧ own = []) _ _ _ (sans _) L _ sans_1 sans_2 ?c1 ?e1 ?c2 ?e2 ?c3 ?e3 ?hm ?hC ?hE) dp un gd outer A₀ base g { heap := _, gens := s.gens, drawn := s.drawn, toks := _, os := s.os } Q E B F9 XB TB N9 XG T rfl ?hd ?hu hret
    case kR => assumption
    case k0 => k_dflt k_mem
    case kS => k_extra "sub"
    case n1 => k_dflt k_ne
    case n2 => k_dflt k_ne
    case m1 => k_dflt k_mem
    case m2 => k_dflt k_mem
    case hd => ktr_room
    case hu => ktr_units
    case c1 => walk_at "hn"
    case c2 => walk_at "hn"
    case c3 => walk_at "hn"
    case e1 => assumption
    case e2 => first | assumption | exact d2
    case e3 => assumption
    case hm => rfl
    case hC => exact fun nd t6 t7 x news G U hs h5 hn => told_nameU (Y := X) ck nd nm eT _ _ _ t6 t7 x _ U (fun q hq => hs q (mem_sans (by revert q; k_extra "sub") (h1 q hq) (h2 q hq))) h2 H k1 h5 hn
    case hE => exact eq_name (mem_sans (by k_dflt k_mem) (h1 _ hE) (h2 _ hE)) (mem_sans (by k_dflt k_mem) (h1 _ i2) (h2 _ i2))
  · rename Fr g L _ _ => F9
    rename News g L _ _ => N9
    with_unfolding_all refine' ends117 (rl := rl) (X := X) (k := 55) ?kR ?k0 ?kS ?n1 ?n2 h1 h2 ?m1 ?m2 (typeC_ok ck _ _ _ (fun v own => ∃ t tk, v = .ref t ∧ own = [(t, tup [.str "slice" tk, .ref eT])]) _ _ _ (sans _) L _ sans_1 sans_2 ?c1 ?e1 ?c2 ?e2 ?c3 ?e3 ?hm ?hC ?hE) dp un gd outer A₀ base g { heap := _, gens := s.gens, drawn := s.drawn, toks := _, os := s.os } Q E B F9 XB TB N9 XG T rfl ?hd ?hu hret
    case kR => assumption
    case k0 => k_dflt k_mem
    case kS => k_extra "sub"
    case n1 => k_dflt k_ne
    case n2 => k_dflt k_ne
    case m1 => k_dflt k_mem
    case m2 => k_dflt k_mem
    case hd => ktr_room
    case hu => ktr_units
    case c1 => walk_at "hn"
    case c2 => walk_at "hn"
    case c3 => walk_at "hn"
    case e1 => assumption
    case e2 => first | assumption | exact d2
    case e3 => assumption
    case hm => rfl
    case hC => exact fun nd t6 t7 x news G U hs h5 hn => told_sliceU (Y := X) ck nd nm sl eT _ _ _ t6 t7 _ _ x _ U (fun q hq => hs q (mem_sans (by revert q; k_extra "sub") (h1 q hq) (h2 q hq))) h2 H k1 k2 h5 hn
    case hE => exact eq_slice (mem_sans (by k_dflt k_mem) (h1 _ hE) (h2 _ hE)) (mem_sans (by k_dflt k_mem) (h1 _ i2) (h2 _ i2)) (mem_sans (by k_dflt k_mem) (h1 _ k3) (h2 _ k3))
  · rename Fr g L _ _ => F9
    rename News g L _ _ => N9
    with_unfolding_all refine' ends117 (rl := rl) (X := X) (k := 55) ?kR ?k0 ?kS ?n1 ?n2 h1 h2 ?m1 ?m2 (typeC_exc ck _ _ _ _ _ _ (sans _) L _ sans_1 sans_2 ?c1 ?e1 ?c2 ?e2 ?c3 ?e3 ?hm ?hdt) dp un gd outer A₀ base g { heap := _, gens := s.gens, drawn := s.drawn, toks := _, os := s.os } Q E B F9 XB TB N9 XG T rfl ?hd ?hu hret
    case kR => assumption
    case k0 => k_dflt k_mem
    case kS => k_extra "sub"
    case n1 => k_dflt k_ne
    case n2 => k_dflt k_ne
    case m1 => k_dflt k_mem
    case m2 => k_dflt k_mem
    case hd => ktr_room
    case hu => ktr_units
    case c1 => walk_at "hn"
    case c2 => walk_at "hn"
    case c3 => walk_at "hn"
    case e1 => assumption
    case e2 => first | assumption | exact d2
    case e3 => assumption
    case hm => rfl
    case hdt => walk_at "hn"
  · rename Fr g L _ _ => F9
    rename News g L _ _ => N9
    with_unfolding_all refine' ends117 (rl := rl) (X := X) (k := 55) ?kR ?k0 ?kS ?n1 ?n2 h1 h2 ?m1 ?m2 (typeC_ok ck _ _ _ (fun v own => v = .ref eT ∧ own = []) _ _ _ (sans _) L _ sans_1 sans_2 ?c1 ?e1 ?c2 ?e2 ?c3 ?e3 ?hm ?hC ?hE) dp un gd outer A₀ base g { heap := _, gens := s.gens, drawn := s.drawn, toks := _, os := s.os } Q E B F9 XB TB N9 XG T rfl ?hd ?hu hret
    case kR => assumption
    case k0 => k_dflt k_mem
    case kS => k_extra "sub"
    case n1 => k_dflt k_ne
    case n2 => k_dflt k_ne
    case m1 => k_dflt k_mem
    case m2 => k_dflt k_mem
    case hd => ktr_room
    case hu => ktr_units
    case c1 => walk_at "hn"
    case c2 => walk_at "hn"
    case c3 => walk_at "hn"
    case e1 => assumption
    case e2 => first | assumption | exact d2
    case e3 => assumption
    case hm => rfl
    case hC => exact fun nd t6 t7 x news G U hs h5 hn => told_nameU (Y := X) ck nd nm eT _ _ _ t6 t7 x _ U (fun q hq => hs q (mem_sans (by revert q; k_extra "sub") (h1 q hq) (h2 q hq))) h2 H k1 h5 hn
    case hE => exact eq_name (mem_sans (by k_dflt k_mem) (h1 _ hE) (h2 _ hE)) (mem_sans (by k_dflt k_mem) (h1 _ i2) (h2 _ i2))
  · rename Fr g L _ _ => F9
    rename News g L _ _ => N9
    with_unfolding_all refine' ends117 (rl := rl) (X := X) (k := 55) ?kR ?k0 ?kS ?n1 ?n2 h1 h2 ?m1 ?m2 (typeC_ok ck _ _ _ (fun v own => ∃ t tk, v = .ref t ∧ own = [(t, tup [.str "slice" tk, .ref eT])]) _ _ _ (sans _) L _ sans_1 sans_2 ?c1 ?e1 ?c2 ?e2 ?c3 ?e3 ?hm ?hC ?hE) dp un gd outer A₀ base g { heap := _, gens := s.gens, drawn := s.drawn, toks := _, os := s.os } Q E B F9 XB TB N9 XG T rfl ?hd ?hu hret
    case kR => assumption
    case k0 => k_dflt k_mem
    case kS => k_extra "sub"
    case n1 => k_dflt k_ne
    case n2 => k_dflt k_ne
    case m1 => k_dflt k_mem
    case m2 => k_dflt k_mem
    case hd => ktr_room
    case hu => ktr_units
    case c1 => walk_at "hn"
    case c2 => walk_at "hn"
    case c3 => walk_at "hn"
    case e1 => assumption
    case e2 => first | assumption | exact d2
    case e3 => assumption
    case hm => rfl
    case hC => exact fun nd t6 t7 x news G U hs h5 hn => told_sliceU (Y := X) ck nd nm sl eT _ _ _ t6 t7 _ _ x _ U (fun q hq => hs q (mem_sans (by revert q; k_extra "sub") (h1 q hq) (h2 q hq))) h2 H k1 k2 h5 hn
    case hE => exact eq_slice (mem_sans (by k_dflt k_mem) (h1 _ hE) (h2 _ hE)) (mem_sans (by k_dflt k_mem) (h1 _ i2) (h2 _ i2)) (mem_sans (by k_dflt k_mem) (h1 _ k3) (h2 _ k3))
  · rename Fr g L _ _ => F9
    rename News g L _ _ => N9
    with_unfolding_all refine' ends117 (rl := rl) (X := X) (k := 55) ?kR ?k0 ?kS ?n1 ?n2 h1 h2 ?m1 ?m2 (typeC_map ck _ wh _ _ _ _ _ _ _ _ _ (sans _) L _ sans_1 sans_2 ?c1 ?e1 ?c2 ?e2 ?c3 ?e3 ?hm ?a1 ?a2 ?a3) dp un gd outer A₀ base g { heap := _, gens := s.gens, drawn := s.drawn, toks := _, os := s.os } Q E B F9 XB TB N9 XG T rfl ?hd ?hu hret
    case kR => assumption
    case k0 => k_dflt k_mem
    case kS => k_extra "sub"
    case n1 => k_dflt k_ne
    case n2 => k_dflt k_ne
    case m1 => k_dflt k_mem
    case m2 => k_dflt k_mem
    case hd => ktr_room
    case hu => ktr_units
    case c1 => walk_at "hn"
    case c2 => walk_at "hn"
    case c3 => walk_at "hn"
    case e1 => assumption
    case e2 => first | assumption | exact d2
    case e3 => assumption
    case hm => rfl
    case a1 => walk_at "hn"
    case a3 => exact mem_sans (by k_dflt k_mem) (h1 _ i2) (h2 _ i2)
    case a2 => exact mem_sans (by k_dflt k_mem) (h1 _ i1) (h2 _ i1)

end
theorem FinTG.z : True := trivial
-- TH
section
theorem StTH.z : True := by
  w_top off
  trivial
variable {w : World} {p : Program} {loose : List Str} {mean : ExcName → Option Value} {mg mb : Str → Option Value}
theorem bt_mono {i : Nat} {L : Addr} {m : Str → Option Value} {n1 n2 : List (Addr × Obj)} {k : Nat} {P : Value → List (Addr × Obj) → Prop} (s : ∀ q ∈ n1, q ∈ n2) (h : BT117 w p loose mean mg mb i L m n1 k P) : BT117 w p loose mean mg mb i L m n2 k P :=
  fun dp un gd outer A₀ base g s' Q E B F XB TB N XG T hk hd hu hret => h dp un gd outer A₀ base g s' Q E B F XB TB (fun q hq => N q (s q hq)) XG T hk hd hu hret
theorem words_22 : True := by
  k_with "call ref cons nil" => (fail_if_success (open Mine.FinTH in skip)); (focus k_dflt ((with_unfolding_all refine' one_atE ?u125ke ?u125ka ?u125kB ?u125kF ?u125kX ?u125kN ?u125kT ?u125kR ?u125kU ?u125hsm ?u125hl0 ?u125hl1 ?u125hne ?u125hk ?u125hd ?u125hu ?_); (case u125ke => exact rfl); (case u125ka => exact rfl); (case u125kB => assumption); (case u125kF => assumption); (case u125kX => k_in); (case u125kN => assumption); (case u125kT => assumption); (case u125kU => (intro qqo'; k_upd)); (case u125kR => assumption); (case u125hsm => k_mem); (case u125hl0 => simp); (case u125hl1 => simp); (case u125hne => k_ne); (case u125hk => first | rfl | assumption); (case u125hd => ktr_room); (case u125hu => ktr_units); (repeat' (first | exact List.forall_mem_nil _ | refine List.forall_mem_cons.mpr ⟨?_, ?_⟩)); all_goals (intro qqo1 qqh1 qqtk1 qqhR1 qqF1 qqN1; (try dsimp only at qqN1); (try k_sweep); (try dsimp only))))
  k_with "execs cons" => (fail_if_success (open Mine.FinTH in skip)); (((with_reducible show wpAny _ _ (execs (Stmt.Assign [Expr.Name (PySem.Str.ofString "wanted") _] _ _ :: _) _) _ _ _); refine stop_ ?_))
  k_with "ktr_enter" => (fail_if_success (open Mine.FinTH in skip)); ((refine' code_defCT ?u127k1 ?u127k2 ?u127k3 ?u127k4 ?u127k5 ?u127kA ?u127kF ?u127kK ?u127k6 ?u127k7 ?u127k8 ?u127k9 ?u127kB ?u127kD ?_ ?u127c2 ?u127c3 ?u127c4; (case u127kA => exact rfl); (case u127kF => exact rfl); (case u127kK => first | exact rfl | assumption); (case u127k1 => k_asm); (case u127k2 => k_asm); (case u127k3 => k_asm); (case u127k4 => k_asm); (case u127k5 => k_asm); (case u127k6 => k_is); (case u127k7 => k_is); (case u127k8 => ktr_room); (case u127k9 => exact BindsTo.of_eq rfl); (case u127kB => exact rfl); (case u127kD => decide +kernel); (case u127c2 => exact rfl); (case u127c3 => exact rfl); (case u127c4 => exact rfl); k_whole; intro qqg' qqL' qqh' qqtk' qqcells' qqFG' qqF' qqN' qqY' qqB' qqX' qqT' qql1; (have qqlc1 := lt_up qql1 (Nat.lt_succ_self _)); (have qqlc2 := lt_up qqlc1 (Nat.lt_succ_self _)); (have qqlc3 := lt_up qqlc2 (Nat.lt_succ_self _)); (have qqlcW := qqlc2); k_cells qqY'; (try simp only [List.cons_append, List.nil_append] at qqN'); (try dsimp only); (k_dflt (show wpAny _ _ (execs (List.cons _ _) _) _ _ _)); (try k_fold)))
  k_with "hA" => (fail_if_success (open Mine.FinTH in skip)); ((refine' mem_sansA ?u128a ?u128b; (case u128a => k_dflt k_mem); (case u128b => (repeat' (first | exact List.forall_mem_nil _ | (refine' List.forall_mem_cons.mpr ⟨?_, ?_⟩))); all_goals k_dflt k_ne)))
  k_with "hs" => (fail_if_success (open Mine.FinTH in skip)); ((repeat' (first | exact sansA_sub | (refine' List.forall_mem_cons.mpr ⟨?_, ?_⟩))); all_goals k_dflt k_mem)
  trivial
theorem mem3 {q a b c : Addr × Obj} {l : List (Addr × Obj)} (h : q ∈ a :: b :: c :: l) : q = a ∨ q = b ∨ q = c ∨ q ∈ l := by
  simpa only [List.mem_cons] using h
theorem type_right (rl ck eT : Addr) (o : Obj) (ho : Reel o) (news : List (Addr × Obj)) (h1 : ∀ q ∈ news, q.1 ≠ rl) (h2 : ∀ q ∈ news, q.1 ≠ 1045) (h3 : ∀ q ∈ news, q.1 ≠ 717) (hr : @LE.le Nat _ 1058 rl) (H : TCtx w news ck eT) :
    CtrT pw' w p loose mean mg mb 1050 [.ref rl, .ref ck] ((rl, o) :: (1045, tabObj #[]) :: (717, tabObj #[]) :: news) 60 (fun v n' => v = .bool true ∧ ∃ o' ps ps', Reel o' ∧ n' = (rl, o') :: (1045, tabObj ps) :: (717, tabObj ps') :: news) := by
  intro dp un gd cn cs ad ccd cl outer A₀ base h₀ L m s Q E B F XB TB N X T hk hd hu hret
  have z1 := far1 hr
  have z2 := far2 hr
  refine wpAny_call ?_
  k_dflt ktr_enter
  k_steps
  rotate_left
  k_steps
  rotate_left
  k_steps
  rotate_left
  all_goals refine go_on ?_
  · rename Fr _ _ _ _ => F9
    rename News _ _ _ _ => N9
    rename Below _ _ (_ :: _) _ => B9
    rename (∀ q ∈ (_ :: _ :: _ :: news), q.1 < Nat.succ (Nat.succ _)) => lA
    with_unfolding_all refine' bt_mono ?hs (typeA2 rl ck eT _ _ _ _ _ _ _ _ _ _ _ _ _ (sansA [rl, 1045, 717, _] _) _ _ ?ho (sansA_ne (.head _)) (sansA_ne (.tail _ (.head _))) (sansA_ne (.tail _ (.tail _ (.head _)))) (sansA_ne (.tail _ (.tail _ (.tail _ (.head _))))) hr ?hrL ?H ?c1 ?e1 ?e2 ?c3 ?e3 ?m1 ?m2 ?m3 ?m4 ?i1 ?i2 ?hK) _ _ _ _ _ _ _ { heap := _, gens := s.gens, drawn := s.drawn, toks := _, os := s.os } _ _ B9 F9 XB TB N9 ?X ?T rfl ?hd ?hu ?hret
    case ho => assumption
    case m1 => rfl
    case m2 => rfl
    case m3 => rfl
    case m4 => rfl
    case hd => ktr_room
    case hu => ktr_units
    case X => k_in
    case T => assumption
    case hrL => k_dflt (k_extra "ltf")
    case hs => walk_at "hs"
    case c1 => walk_at "hA"
    case c3 => walk_at "hA"
    case e1 => first | assumption | rfl
    case e2 => first | assumption | rfl
    case e3 => first | assumption | rfl
    case i1 => walk_at "hA"
    case i2 => walk_at "hA"
    case H => exact H.mono fun q hq => mem_sansA (by revert q; k_extra "sub") (List.forall_mem_cons.mpr ⟨h1 q hq, List.forall_mem_cons.mpr ⟨h2 q hq, List.forall_mem_cons.mpr ⟨h3 q hq, List.forall_mem_cons.mpr ⟨Nat.ne_of_lt (lA q (.tail _ (.tail _ (.tail _ hq)))), List.forall_mem_nil _⟩⟩⟩⟩)
    case hK => exact .inr (.inl ⟨_, _, _, _, _, _, _, _, _, rfl, rfl, by walk_at "hA", by walk_at "hA", by walk_at "hA"⟩)
    case hret =>
      rintro v n' h' tk' g' m' T1 ⟨rfl, o', ps, ps', hR, rfl⟩ F1 N1 B1
      refine ⟨g', _, m', (rl, o') :: (1045, tabObj ps) :: (717, tabObj ps') :: news, T1, F1, fun q hq => N1 q ?_, fun h₀' T0 F0' N0' B0' => hret _ _ _ _ _ T0 ⟨rfl, o', ps, ps', hR, rfl⟩ F0' N0' B0'⟩
      rcases mem3 hq with rfl | rfl | rfl | hq
      · exact .head _
      · exact .tail _ (.head _)
      · exact .tail _ (.tail _ (.head _))
      · exact .tail _ (.tail _ (.tail _ (mem_sansA (by k_extra "mm") (List.forall_mem_cons.mpr ⟨h1 q hq, List.forall_mem_cons.mpr ⟨h2 q hq, List.forall_mem_cons.mpr ⟨h3 q hq, List.forall_mem_cons.mpr ⟨Nat.ne_of_lt (lA q (.tail _ (.tail _ (.tail _ hq)))), List.forall_mem_nil _⟩⟩⟩⟩))))
  · rename Fr _ _ _ _ => F9
    rename News _ _ _ _ => N9
    rename Below _ _ (_ :: _) _ => B9
    rename (∀ q ∈ (_ :: _ :: _ :: news), q.1 < Nat.succ (Nat.succ _)) => lA
    with_unfolding_all refine' bt_mono ?hs (typeA2 rl ck eT _ _ _ _ _ _ _ _ _ _ _ _ _ (sansA [rl, 1045, 717, _] _) _ _ ?ho (sansA_ne (.head _)) (sansA_ne (.tail _ (.head _))) (sansA_ne (.tail _ (.tail _ (.head _)))) (sansA_ne (.tail _ (.tail _ (.tail _ (.head _))))) hr ?hrL ?H ?c1 ?e1 ?e2 ?c3 ?e3 ?m1 ?m2 ?m3 ?m4 ?i1 ?i2 ?hK) _ _ _ _ _ _ _ { heap := _, gens := s.gens, drawn := s.drawn, toks := _, os := s.os } _ _ B9 F9 XB TB N9 ?X ?T rfl ?hd ?hu ?hret
    case ho => assumption
    case m1 => rfl
    case m2 => rfl
    case m3 => rfl
    case m4 => rfl
    case hd => ktr_room
    case hu => ktr_units
    case X => k_in
    case T => assumption
    case hrL => k_dflt (k_extra "ltf")
    case hs => walk_at "hs"
    case c1 => walk_at "hA"
    case c3 => walk_at "hA"
    case e1 => first | assumption | rfl
    case e2 => first | assumption | rfl
    case e3 => first | assumption | rfl
    case i1 => walk_at "hA"
    case i2 => walk_at "hA"
    case H => exact H.mono fun q hq => mem_sansA (by revert q; k_extra "sub") (List.forall_mem_cons.mpr ⟨h1 q hq, List.forall_mem_cons.mpr ⟨h2 q hq, List.forall_mem_cons.mpr ⟨h3 q hq, List.forall_mem_cons.mpr ⟨Nat.ne_of_lt (lA q (.tail _ (.tail _ (.tail _ hq)))), List.forall_mem_nil _⟩⟩⟩⟩)
    case hK => exact .inl ⟨_, _, _, _, rfl, rfl, by walk_at "hA"⟩
    case hret =>
      rintro v n' h' tk' g' m' T1 ⟨rfl, o', ps, ps', hR, rfl⟩ F1 N1 B1
      refine ⟨g', _, m', (rl, o') :: (1045, tabObj ps) :: (717, tabObj ps') :: news, T1, F1, fun q hq => N1 q ?_, fun h₀' T0 F0' N0' B0' => hret _ _ _ _ _ T0 ⟨rfl, o', ps, ps', hR, rfl⟩ F0' N0' B0'⟩
      rcases mem3 hq with rfl | rfl | rfl | hq
      · exact .head _
      · exact .tail _ (.head _)
      · exact .tail _ (.tail _ (.head _))
      · exact .tail _ (.tail _ (.tail _ (mem_sansA (by k_extra "mm") (List.forall_mem_cons.mpr ⟨h1 q hq, List.forall_mem_cons.mpr ⟨h2 q hq, List.forall_mem_cons.mpr ⟨h3 q hq, List.forall_mem_cons.mpr ⟨Nat.ne_of_lt (lA q (.tail _ (.tail _ (.tail _ hq)))), List.forall_mem_nil _⟩⟩⟩⟩))))
  · rename Fr _ _ _ _ => F9
    rename News _ _ _ _ => N9
    rename Below _ _ (_ :: _) _ => B9
    rename (∀ q ∈ (_ :: _ :: _ :: news), q.1 < Nat.succ (Nat.succ _)) => lA
    with_unfolding_all refine' bt_mono ?hs (typeA2 rl ck eT _ _ _ _ _ _ _ _ _ _ _ _ _ (sansA [rl, 1045, 717, _] _) _ _ ?ho (sansA_ne (.head _)) (sansA_ne (.tail _ (.head _))) (sansA_ne (.tail _ (.tail _ (.head _)))) (sansA_ne (.tail _ (.tail _ (.tail _ (.head _))))) hr ?hrL ?H ?c1 ?e1 ?e2 ?c3 ?e3 ?m1 ?m2 ?m3 ?m4 ?i1 ?i2 ?hK) _ _ _ _ _ _ _ { heap := _, gens := s.gens, drawn := s.drawn, toks := _, os := s.os } _ _ B9 F9 XB TB N9 ?X ?T rfl ?hd ?hu ?hret
    case ho => assumption
    case m1 => rfl
    case m2 => rfl
    case m3 => rfl
    case m4 => rfl
    case hd => ktr_room
    case hu => ktr_units
    case X => k_in
    case T => assumption
    case hrL => k_dflt (k_extra "ltf")
    case hs => walk_at "hs"
    case c1 => walk_at "hA"
    case c3 => walk_at "hA"
    case e1 => first | assumption | rfl
    case e2 => first | assumption | rfl
    case e3 => first | assumption | rfl
    case i1 => walk_at "hA"
    case i2 => walk_at "hA"
    case H => exact H.mono fun q hq => mem_sansA (by revert q; k_extra "sub") (List.forall_mem_cons.mpr ⟨h1 q hq, List.forall_mem_cons.mpr ⟨h2 q hq, List.forall_mem_cons.mpr ⟨h3 q hq, List.forall_mem_cons.mpr ⟨Nat.ne_of_lt (lA q (.tail _ (.tail _ (.tail _ hq)))), List.forall_mem_nil _⟩⟩⟩⟩)
    case hK => exact .inr (.inr ⟨rfl, rfl⟩)
    case hret =>
      rintro v n' h' tk' g' m' T1 ⟨rfl, o', ps, ps', hR, rfl⟩ F1 N1 B1
      refine ⟨g', _, m', (rl, o') :: (1045, tabObj ps) :: (717, tabObj ps') :: news, T1, F1, fun q hq => N1 q ?_, fun h₀' T0 F0' N0' B0' => hret _ _ _ _ _ T0 ⟨rfl, o', ps, ps', hR, rfl⟩ F0' N0' B0'⟩
      rcases mem3 hq with rfl | rfl | rfl | hq
      · exact .head _
      · exact .tail _ (.head _)
      · exact .tail _ (.tail _ (.head _))
      · exact .tail _ (.tail _ (.tail _ (mem_sansA (by k_extra "mm") (List.forall_mem_cons.mpr ⟨h1 q hq, List.forall_mem_cons.mpr ⟨h2 q hq, List.forall_mem_cons.mpr ⟨h3 q hq, List.forall_mem_cons.mpr ⟨Nat.ne_of_lt (lA q (.tail _ (.tail _ (.tail _ hq)))), List.forall_mem_nil _⟩⟩⟩⟩))))

end
theorem FinTH.z : True := trivial
-- TI
section
theorem StTI.z : True := by
  w_top off
  trivial
variable {w : World} {p : Program} {loose : List Str} {mean : ExcName → Option Value} {mg mb : Str → Option Value}
noncomputable def up (x : Str) : Bool := Txt.isupper (Txt.slice x none (some 1))
theorem own_ok (wd : Addr) (w0 : Str) (t1 t2 : Tok) (news : List (Addr × Obj)) (hw : w0.length ≤ 10) : Ctr pw' w p loose mean mg mb 133 [.ref wd, .str "main" t1, .str w0 t2] news 6 (fun v news' => v = .str w0 t2 ∧ news' = news) := by
  intro dp un gd cn cs ad ccd cl outer A₀ base h₀ L m s Q E B F X N T hk hd hu hret
  refine wpAny_call ?_
  first | (k_dflt ktr_enter) | fail "no way in"
  k_steps
  · exact hret _ _ _ _ ⟨rfl, rfl⟩ (by assumption) (by assumption)
  k_steps
  exact hret _ _ _ _ ⟨rfl, rfl⟩ (by assumption) (by assumption)
theorem exp_ok (w0 : Str) (t2 : Tok) (news : List (Addr × Obj)) (hw : w0.length ≤ 10) : Ctr pw' w p loose mean mg mb 28 [.str w0 t2] news 6 (fun v news' => v = .bool (up w0) ∧ news' = news) := by
  intro dp un gd cn cs ad ccd cl outer A₀ base h₀ L m s Q E B F X N T hk hd hu hret
  refine wpAny_call ?_
  first | (k_dflt ktr_enter) | fail "no way in"
  k_steps
  exact hret _ _ _ _ ⟨rfl, rfl⟩ (by assumption) (by assumption)
/-- what is_hidden reads -/
noncomputable def HCtx (w : World) (news : List (Addr × Obj)) (ck : Addr) : Prop := ∃ wd nd rS t1 t2, HasObj news 930 ck (fun o => Attr o "world" (some (.ref wd)) ∧ Attr o "package" (some (.str "main" t1)) ∧ Attr o "expr" none) ∧ HasObj news 997 wd (fun o => Attr o "named" (some (.ref nd))) ∧
  (∃ a b c d e, HasDict w news nd [("error", .ref a), ("runtime.Error", .ref b), ("sync.Mutex", .ref c), ("sync.WaitGroup", .ref d), ("main.T", .ref e), ("main.S", .ref rS)]) ∧ HasObj news 954 rS (fun o => Attr o "package" (some (.str "main" t2)))
theorem HCtx.mono {news l : List (Addr × Obj)} {ck : Addr} (s : ∀ q ∈ news, q ∈ l) (H : HCtx w news ck) : HCtx w l ck :=
  H.imp fun _ => .imp fun _ => .imp fun _ => .imp fun _ => .imp fun _ h => ⟨h.1.mono s, h.2.1.mono s, h.2.2.1.imp fun _ => .imp fun _ => .imp fun _ => .imp fun _ => .imp fun _ d => d.mono s, h.2.2.2.mono s⟩
theorem words_23 : True := by
  k_with "call ref cons nil" => (fail_if_success (open Mine.FinTI in skip)); (k_dflt ((with_unfolding_all refine' use_c (exp_ok _ _ _ ?u130hw) ?u130ke ?u130ka ?u130kB ?u130kF ?u130kX ?u130kN ?u130kT ?u130hk ?u130hd ?u130hu ?_); (case u130ke => exact rfl); (case u130ka => exact rfl); (case u130kB => assumption); (case u130kF => assumption); (case u130kX => k_in); (case u130kN => assumption); (case u130kT => assumption); (case u130hw => assumption); (case u130hk => first | rfl | assumption); (case u130hd => ktr_room); (case u130hu => ktr_units); (intro qqv9 qqn9 qqh9 qqtk9 qqp9 qqF9 qqN9; obtain ⟨qqe1, qqe2⟩ := qqp9; subst qqe1; subst qqe2; (try k_sweep); (try dsimp only))))
  trivial
theorem hidden_ok (ck tS : Addr) (w0 : Str) (t2 t3 t4 : Tok) (news : List (Addr × Obj)) (hw : w0.length ≤ 10) (hdot : (Builtin.Str.occurrences w0 "." 0 w0.length 1).isEmpty = true) (H : HCtx w news ck) (H2 : (tS, tup [.str "named" t3, .str "main.S" t4]) ∈ news) : Ctr pw' w p loose mean mg mb 35 [.ref ck, .ref tS, .str w0 t2] news 12 (fun v news' => v = .bool false ∧ news' = news) := by
  intro dp un gd cn cs ad ccd cl outer A₀ base h₀ L m s Q E B F X N T hk hd hu hret
  obtain ⟨wd, nd, rS, t5, t6, ⟨d1, o1, i1, j1, a1, a2, a3⟩, ⟨d2, o2, i2, j2, a4⟩, ⟨x1, x2, x3, x4, x5, ⟨o3, i3, lo3, sd3⟩⟩, ⟨d4, o4, i4, j4, a5⟩⟩ := H
  refine wpAny_call ?_
  first | (k_dflt ktr_enter) | fail "no way in"
  k_steps
  · exact hret _ _ _ _ ⟨rfl, rfl⟩ (by assumption) (by assumption)
  · k_steps
    rename News h₀ L _ _ => N9
    exact hret _ _ _ _ ⟨congrArg Value.bool (by decide), rfl⟩ (by assumption) (fun q hq => N9 q (by k_extra "mm"))

end
theorem FinTI.z : True := trivial
-- TJ
section
theorem StTJ.z : True := by
  w_top off
  trivial
variable {w : World} {p : Program} {loose : List Str} {mean : ExcName → Option Value} {mg mb : Str → Option Value}
noncomputable abbrev st54 : Stmt := ((fdTop 54).body.drop 1).headD (.Pass ⟨0,0,0,0⟩)
/-- a key: none, a number's, a name's -/
inductive Kd where
  | non | num | nm (x : Str)
noncomputable def KeyIs (X : List (Addr × Obj)) (sp : Int) (c : Kd) (kv : Value) : Prop := match c with
  | .non => kv = .none
  | .num => ∃ a t1 t2 t3, kv = .ref a ∧ (a, tup [.str "int" t1, .int sp t2, .int 2 t3]) ∈ X
  | .nm x => ∃ a t1 t2 t3, kv = .ref a ∧ (a, tup [.str "name" t1, .int sp t2, .str x t3]) ∈ X
/-- an exception in its frame, not yet on its way -/
noncomputable def Raised (g : Heap) (L : Addr) (h' : Heap) (news : List (Addr × Obj)) (e C : Addr) (sp : Int) : Prop :=
  ∃ m' t D oD ms ts, Fr g L h' m' ∧ News g L h' ((e, exc1 C t D) :: (D, oD) :: news) ∧ e ≠ D ∧ (∀ q ∈ news, q.1 ≠ e) ∧ Holds1 oD ms ∧ ms "spot" = some (.int sp ts)
theorem Raised.sub {g h' : Heap} {L e C : Addr} {sp : Int} {news news' : List (Addr × Obj)} (R : Raised g L h' news e C sp) (s : ∀ q ∈ news', q ∈ news) : Raised g L h' news' e C sp :=
  R.imp fun _ => .imp fun _ => .imp fun _ => .imp fun _ => .imp fun _ => .imp fun _ h => ⟨h.1, fun q hq => h.2.1 q ((List.mem_cons.mp hq).elim (fun e => e ▸ .head _) fun hq => (List.mem_cons.mp hq).elim (fun e => e ▸ .tail _ (.head _)) fun hq => .tail _ (.tail _ (s q hq))), h.2.2.1, fun q hq => h.2.2.2.1 q (s q hq), h.2.2.2.2⟩
/-- what a turn of field_places leaves as it was -/
noncomputable def M54 (m : Str → Option Value) (ck tS nl fl : Addr) (t9 : Tok) : Prop := m "checker" = some (.ref ck) ∧ m "T" = some (.ref tS) ∧ m "names" = some (.ref nl) ∧ m "found" = some (.ref fl) ∧ m "spot" = some (.int 9 t9)
theorem words_24 : True := by
  k_with "exec Raise some none" => (fail_if_success (open Mine.FinTJ in skip)); ((first | refine raiseT rfl ?_ | refine raiseN rfl ?_ | refine raiseC rfl ?_))
  k_with "call ref cons nil" => (fail_if_success (open Mine.FinTJ in skip)); (((with_unfolding_all refine' newX _ _ _ _ _ _ ?u132kB ?u132kF ?u132kX ?u132kN ?u132kT ?u132XX ?u132hi ?u132hk ?u132hd ?u132hu ?_); (case u132kB => assumption); (case u132kF => assumption); (case u132kX => assumption); (case u132kN => assumption); (case u132kT => assumption); (case u132XX => first | exact xc_78 (by assumption) | exact xc_66 (by assumption) | exact xc_90 (by assumption)); (case u132hi => rfl); (case u132hk => rfl); (case u132hd => ktr_room); (case u132hu => ktr_units); intro qqe1 qqD1 qqt1 qqoD1 qqh1 qqtk1 qqF1 qqN1 qqhne1 qqhap1 qqHD1))
  trivial
noncomputable abbrev Turn54 (w : World) (p : Program) (loose : List Str) (mean : ExcName → Option Value) (mg mb : Str → Option Value) (L : Addr) (m : Str → Option Value) (news : List (Addr × Obj)) (v : Value) (k : Nat) (Post : (Str → Option Value) → List (Addr × Obj) → Prop) (PE : Addr → Int → Prop) : Prop :=
  ∀ (dp un : Nat) (gd : Option (List Code)) (outer : List Env) (A₀ : Around) (base g : Heap) (s : Shared) (Q : Flow → Shared → Prop) (E : Value → Shared → Prop),
    Below A₀ base outer g → Fr g L s.heap m → (Mine.Kb w.params).In g → News g L s.heap news → Top p loose mean mg mb g → dp + k < recursionLimit → un + 8 * k < cLine →
    (∀ m' news' h' tk', Post m' news' → Fr g L h' m' → News g L h' news' → Q .next { s with heap := h', toks := tk' }) →
    (∀ e C sp h' tk', PE C sp → Raised g L h' news e C sp → E (.ref e) { s with heap := h', toks := tk' }) →
    wpAny (model pw' w) (ktrTop dp un gd "field_places" (fdTop 54).scope L 400 (.ref 399) [] outer) (assign (forT st54) (envX "field_places" (fdTop 54).scope L 400 (.ref 399) []) v)
      (fun _ s₂ => wpAny (model pw' w) (ktrTop dp un gd "field_places" (fdTop 54).scope L 400 (.ref 399) [] outer) (execs (forB st54) (envX "field_places" (fdTop 54).scope L 400 (.ref 399) [])) Q E s₂) E s
theorem fp_none (r ck tS nl fl : Addr) (ev : Value) (t9 : Tok) (L : Addr) (m : Str → Option Value) (news : List (Addr × Obj)) (hm : M54 m ck tS nl fl t9) (hr : (r, tup [.none, ev]) ∈ news) :
    Turn54 w p loose mean mg mb L m news (.ref r) 20 (fun _ _ => False) (fun C sp => C = 78 ∧ sp = 9) := by
  intro dp un gd outer A₀ base g s Q E B F XG N T hd hu hret hexc
  obtain ⟨m1, m2, m3, m4, m5⟩ := hm
  k_dflt (show wpAny _ _ (assign (Expr.Tuple _ _ _) _ _) _ _ _)
  k_steps
  rename News _ _ _ _ => N9
  rename Fr _ _ _ _ => F9
  rename Holds1 _ _ => H9
  refine ⟨_, _, _, _, rfl, xc_78 (XG.keeps F9.keep), (N9 _ (.head _)).1, rfl, rfl, ?_⟩
  exact hexc _ _ _ _ _ ⟨rfl, rfl⟩ (Raised.sub ⟨_, _, _, _, _, _, F9, N9, by assumption, by assumption, H9, rfl⟩ (by k_extra "sub"))
theorem fp_num (r a ck tS nl fl : Addr) (ev : Value) (x1 x2 : Value) (t1 t9 : Tok) (L : Addr) (m : Str → Option Value) (news : List (Addr × Obj)) (hm : M54 m ck tS nl fl t9) (hr : (r, tup [.ref a, ev]) ∈ news) (ha : (a, tup [.str "int" t1, x1, x2]) ∈ news) :
    Turn54 w p loose mean mg mb L m news (.ref r) 20 (fun _ _ => False) (fun C sp => C = 78 ∧ sp = 9) := by
  intro dp un gd outer A₀ base g s Q E B F XG N T hd hu hret hexc
  obtain ⟨m1, m2, m3, m4, m5⟩ := hm
  k_dflt (show wpAny _ _ (assign (Expr.Tuple _ _ _) _ _) _ _ _)
  k_steps
  rename News _ _ _ _ => N9
  rename Fr _ _ _ _ => F9
  rename Holds1 _ _ => H9
  refine ⟨_, _, _, _, rfl, xc_78 (XG.keeps F9.keep), (N9 _ (.head _)).1, rfl, rfl, ?_⟩
  exact hexc _ _ _ _ _ ⟨rfl, rfl⟩ (Raised.sub ⟨_, _, _, _, _, _, F9, N9, by assumption, by assumption, H9, rfl⟩ (by k_extra "sub"))
theorem words_25 : True := by
  k_with "call ref cons nil" => (fail_if_success (open Mine.FinTJ in skip)); (k_dflt ((with_unfolding_all refine' use_c (own_ok _ _ _ _ _ ?u133hw) ?u133ke ?u133ka ?u133kB ?u133kF ?u133kX ?u133kN ?u133kT ?u133hk ?u133hd ?u133hu ?_); (case u133ke => exact rfl); (case u133ka => exact rfl); (case u133kB => assumption); (case u133kF => assumption); (case u133kX => k_in); (case u133kN => assumption); (case u133kT => assumption); (case u133hw => assumption); (case u133hk => first | rfl | assumption); (case u133hd => ktr_room); (case u133hu => ktr_units); (intro qqv9 qqn9 qqh9 qqtk9 qqp9 qqF9 qqN9; obtain ⟨qqe1, qqe2⟩ := qqp9; subst qqe1; subst qqe2; (try k_sweep); (try dsimp only))))
  k_with "call ref cons nil" => (fail_if_success (open Mine.FinTJ in skip)); (k_dflt ((with_unfolding_all refine' use_c (hidden_ok _ _ _ _ _ _ _ ?u134hw ?u134hdot ?u134kH ?u134kG) ?u134ke ?u134ka ?u134kB ?u134kF ?u134kX ?u134kN ?u134kT ?u134hk ?u134hd ?u134hu ?_); (case u134ke => exact rfl); (case u134ka => exact rfl); (case u134kB => assumption); (case u134kF => assumption); (case u134kX => k_in); (case u134kN => assumption); (case u134kT => assumption); (case u134hw => assumption); (case u134hdot => assumption); (case u134kG => k_mem); (case u134kH => (refine' HCtx.mono ?u134zs ?u134zh; (case u134zh => assumption); (case u134zs => k_extra "sub"))); (case u134hk => first | rfl | assumption); (case u134hd => ktr_room); (case u134hu => ktr_units); (intro qqv9 qqn9 qqh9 qqtk9 qqp9 qqF9 qqN9; obtain ⟨qqe1, qqe2⟩ := qqp9; subst qqe1; subst qqe2; (try k_sweep); (try dsimp only))))
  k_with "compareOp NotIn str ref" => (fail_if_success (open Mine.FinTJ in skip)); ((k_dflt (refine notin_list_strs (isList_of_news (by k_asm) (by k_mem)) (by assumption) ?_); (rename (List.any _ _ = _) => qqhz; rw [qqhz]); (try dsimp only)))
  trivial
noncomputable def names54 : List Str := ["a", "_", "B", "T"]
theorem fp_bad (r a ck tS nl fl : Addr) (ev : Value) (w0 : Str) (sp : Int) (t1 t2 t3 t9 : Tok) (vs : List Value) (nn : Nat) (L : Addr) (m : Str → Option Value) (news : List (Addr × Obj)) (hm : M54 m ck tS nl fl t9) (hr : (r, tup [.ref a, ev]) ∈ news) (ha : (a, tup [.str "name" t1, .int sp t2, .str w0 t3]) ∈ news)
    (hw : w0.length ≤ 10) (H : HCtx w news ck) (hn : (nl, W.listOf vs.toArray nn) ∈ news) (hv : StrsAre vs names54) (hbad : (names54.any (· == w0)) = false) :
    Turn54 w p loose mean mg mb L m news (.ref r) 20 (fun _ _ => False) (fun C sp' => C = 66 ∧ sp' = sp) := by
  intro dp un gd outer A₀ base g s Q E B F XG N T hd hu hret hexc
  obtain ⟨m1, m2, m3, m4, m5⟩ := hm
  obtain ⟨wd, nd, rS, t5, t6, ⟨d1, o1, i1, j1, a1, a2, a3⟩, Hr⟩ := H
  k_dflt (show wpAny _ _ (assign (Expr.Tuple _ _ _) _ _) _ _ _)
  k_steps
  rename News _ _ _ _ => N9
  rename Fr _ _ _ _ => F9
  rename Holds1 _ _ => H9
  refine ⟨_, _, _, _, rfl, xc_66 (XG.keeps F9.keep), (N9 _ (.head _)).1, rfl, rfl, ?_⟩
  exact hexc _ _ _ _ _ ⟨rfl, rfl⟩ (Raised.sub ⟨_, _, _, _, _, _, F9, N9, by assumption, by assumption, H9, rfl⟩ (by k_extra "sub"))
theorem fp_us (r a ck tS nl fl : Addr) (ev : Value) (sp : Int) (t1 t2 t3 t9 : Tok) (vs : List Value) (nn : Nat) (L : Addr) (m : Str → Option Value) (news : List (Addr × Obj)) (hm : M54 m ck tS nl fl t9) (hr : (r, tup [.ref a, ev]) ∈ news) (ha : (a, tup [.str "name" t1, .int sp t2, .str "_" t3]) ∈ news)
    (H : HCtx w news ck) (hn : (nl, W.listOf vs.toArray nn) ∈ news) (hv : StrsAre vs names54) :
    Turn54 w p loose mean mg mb L m news (.ref r) 20 (fun _ _ => False) (fun C sp' => C = 66 ∧ sp' = sp) := by
  intro dp un gd outer A₀ base g s Q E B F XG N T hd hu hret hexc
  have hw : (Str.ofString "_").length ≤ 10 := by decide
  have hbad : (names54.any (· == Str.ofString "_")) = true := by decide
  obtain ⟨m1, m2, m3, m4, m5⟩ := hm
  obtain ⟨wd, nd, rS, t5, t6, ⟨d1, o1, i1, j1, a1, a2, a3⟩, Hr⟩ := H
  k_dflt (show wpAny _ _ (assign (Expr.Tuple _ _ _) _ _) _ _ _)
  k_steps
  rename News _ _ _ _ => N9
  rename Fr _ _ _ _ => F9
  rename Holds1 _ _ => H9
  refine ⟨_, _, _, _, rfl, xc_66 (XG.keeps F9.keep), (N9 _ (.head _)).1, rfl, rfl, ?_⟩
  exact hexc _ _ _ _ _ ⟨rfl, rfl⟩ (Raised.sub ⟨_, _, _, _, _, _, F9, N9, by assumption, by assumption, H9, rfl⟩ (by k_extra "sub"))
theorem strs_get {vs : List Value} {ys : List Str} (hi : StrsAre vs ys) : vs.length = ys.length ∧ ∀ i (h : i < vs.length) (h' : i < ys.length), ∃ t, vs[i] = .str ys[i] t := by
  induction hi with
  | nil => exact ⟨rfl, fun i h => absurd h (Nat.not_lt_zero _)⟩
  | cons y t r ih =>
    refine ⟨congrArg (· + 1) ih.1, fun i h h' => ?_⟩
    cases i with
    | zero => exact ⟨t, rfl⟩
    | succ i => exact ih.2 i (Nat.lt_of_succ_lt_succ h) (Nat.lt_of_succ_lt_succ h')
theorem index_strs {prog : Program} {w : World} {A : Around} {E : Value → Shared → Prop} {s : Shared} {l : Addr} {vs : List Value} {ys : List Str} {n : Nat} {k : Str} {t : Tok} {Q : Value → Shared → Prop} (hl : s.heap.get? l = some (W.listOf vs.toArray n)) (hi : StrsAre vs ys) (j : Nat) (hj : ys[j]? = some k) (hno : ∀ i < j, ys[i]? ≠ some k) (hz : (j : Int) < 2 ^ 63 - 1)
    (h : Q (.int j s.toks) { s with toks := s.toks + 1 }) : wpAny (model prog w) A (call (.builtin "list.index") [.ref l, .str k t]) Q E s := by
  obtain ⟨hlen, hg⟩ := strs_get hi
  obtain ⟨hj1, hj2⟩ := List.getElem?_eq_some_iff.mp hj
  refine call_meets PySem.F.slot_list_index ⟨_, hl, rfl⟩ PySem.F.entry_list_index (PySem.F.args_list_index_2 _ _) (PySem.MeetsSeq.list_index l vs.toArray n (.str k t) (isStrOf k) (fun y hy => eq_isStrOf k t hi y (by simpa using hy)) j (by simpa [hlen] using hj1) hz ?_ ?_) ⟨hl, h⟩
  · obtain ⟨u, e⟩ := hg j (hlen ▸ hj1) hj1
    show isStrOf k vs[j] = true
    rw [e, hj2]
    simp [isStrOf]
  · intro i hi1 hi2
    have h1 : i < vs.length := by simpa using hi1
    obtain ⟨u, e⟩ := hg i h1 (hlen ▸ h1)
    show isStrOf k vs[i] = false
    rw [e]
    have := hno i hi2
    rw [List.getElem?_eq_getElem (hlen ▸ h1)] at this
    simpa [isStrOf] using this
theorem words_26 : True := by
  k_with "call builtin:list.index cons nil" => (fail_if_success (open Mine.FinTJ in skip)); ((k_dflt (refine' index_strs (News.get ?u136N ?u136m) ?u136hv _ ?u136hj ?u136hno ?u136hz ?_; (case u136N => k_asm); (case u136m => k_mem); (case u136hv => assumption); (case u136hj => assumption); (case u136hno => assumption); (case u136hz => assumption)); (try dsimp only)))
  k_with "call builtin:list.append cons nil" => (fail_if_success (open Mine.FinTJ in skip)); ((k_dflt (refine' append_K ?u137k1 ?u137k2 ?u137k3 ?_ ?u137z; (case u137k1 => k_asm); (case u137k2 => k_asm); (case u137k3 => k_upd); (case u137z => assumption)); intro qqh' qqF' qqN'; (try k_sweep)))
  trivial
theorem fp_good (r a ck tS nl fl : Addr) (ev : Value) (w0 : Str) (sp : Int) (t1 t2 t3 t7 t8 t9 : Tok) (vs : List Value) (nn : Nat) (fs : List Value) (ns : List Int) (nf : Nat) (I : Addr) (oI : Obj) (X : List (Addr × Obj)) (L : Addr) (m : Str → Option Value)
    (hm : M54 m ck tS nl fl t9) (hr : (r, tup [.ref a, ev]) ∈ X) (ha : (a, tup [.str "name" t1, .int sp t2, .str w0 t3]) ∈ X) (hw : w0.length ≤ 10) (H : HCtx w X ck) (hS : (tS, tup [.str "named" t7, .str "main.S" t8]) ∈ X) (hn : (nl, W.listOf vs.toArray nn) ∈ X) (hv : StrsAre vs names54) (hgood : (names54.any (· == w0)) = true) (hus : (w0 == "_") = false)
    (hdot : (Builtin.Str.occurrences w0 "." 0 w0.length 1).isEmpty = true) (j : Nat) (hj : names54[j]? = some w0) (hno : ∀ i < j, names54[i]? ≠ some w0) (hz : (j : Int) < 2 ^ 63 - 1) (hf : IntsAre fs ns) (hfz : fs.toArray.size ≤ sizeLine) (hI : I ≠ fl) (hX : ∀ q ∈ X, q.1 ≠ fl) :
    Turn54 w p loose mean mg mb L m ((I, oI) :: (fl, W.listOf fs.toArray nf) :: X) (.ref r) 20 (fun m' n' => (ns.any (· == (j : Int))) = false ∧ M54 m' ck tS nl fl t9 ∧ ∃ t n2, n' = (I, oI) :: (fl, W.listOf (fs ++ [Value.int (j : Int) t]).toArray n2) :: X) (fun C sp' => C = 66 ∧ sp' = sp ∧ (ns.any (· == (j : Int))) = true) := by
  intro dp un gd outer A₀ base g s Q E B F XG N T hd hu hret hexc
  obtain ⟨m1, m2, m3, m4, m5⟩ := hm
  have H9 := H
  obtain ⟨wd, nd, rS, t5, t6, ⟨d1, o1, i1, j1, a1, a2, a3⟩, Hr⟩ := H
  k_dflt (show wpAny _ _ (assign (Expr.Tuple _ _ _) _ _) _ _ _)
  k_steps
  · rename News _ _ _ _ => N9
    rename Fr _ _ _ _ => F9
    rename Holds1 _ _ => H9
    refine ⟨_, _, _, _, rfl, xc_66 (XG.keeps F9.keep), (N9 _ (.head _)).1, rfl, rfl, ?_⟩
    exact hexc _ _ _ _ _ ⟨rfl, rfl, by assumption⟩ (Raised.sub ⟨_, _, _, _, _, _, F9, N9, by assumption, by assumption, H9, rfl⟩ (by k_extra "sub"))
  k_steps
  rename News _ _ _ _ => N9
  rename Fr _ _ _ _ => F9
  refine' hret _ _ _ _ ?zp F9 ?zn
  case zn => rw [List.push_toArray] at N9; exact N9
  case zp => exact ⟨by assumption, ⟨m1, m2, m3, m4, m5⟩, _, _, rfl⟩

end
theorem FinTJ.z : True := trivial
-- TK
section
theorem StTK.z : True := by
  w_top off
  trivial
variable {w : World} {p : Program} {loose : List Str} {mean : ExcName → Option Value} {mg mb : Str → Option Value}
noncomputable def placeOf (x : Str) : Option Nat := if x = "a" then some 0 else if x = "B" then some 2 else if x = "T" then some 3 else none
noncomputable def Okd : Kd → Prop
  | .nm x => x = "a" ∨ x = "B" ∨ x = "T" ∨ x = "_" ∨ x = "z"
  | _ => True
/-- what field_places finds -/
inductive R54 where
  | ok (ns : List Int) | exc (C : Addr) (sp : Int)
noncomputable def res54 : Int → List Kd → List Int → R54
  | _, [], ns => .ok ns
  | i, .nm x :: r, ns => match placeOf x with
    | some j => if ns.any (· == (j : Int)) then .exc 66 i else res54 (i + 1) r (ns ++ [(j : Int)])
    | none => .exc 66 i
  | _, _ :: _, _ => .exc 78 9
noncomputable def RowsAre (X : List (Addr × Obj)) : Int → List Kd → List Value → Prop
  | _, [], vs => vs = []
  | i, c :: cs, vs => ∃ r kv ev r', vs = .ref r :: r' ∧ (r, tup [kv, ev]) ∈ X ∧ KeyIs X i c kv ∧ RowsAre X (i + 1) cs r'
theorem IntsAre.snoc {fs : List Value} {ns : List Int} (h : IntsAre fs ns) (j : Int) (t : Tok) : IntsAre (fs ++ [.int j t]) (ns ++ [j]) := by
  induction h with
  | nil => exact .cons j t .nil
  | cons n u r ih => exact .cons n u ih
section
variable {dp un : Nat} {gd : Option (List Code)} {outer : List Env} {A₀ : Around} {base g : Heap} {s : Shared} {Q : Flow → Shared → Prop} {E : Value → Shared → Prop} {L : Addr}
theorem fp_loop (ck tS nl fl rw I : Addr) (lo : Obj) (t7 t8 t9 : Tok) (vs : List Value) (nn : Nat) (X : List (Addr × Obj)) (B : Below A₀ base outer g) (XG : (Mine.Kb w.params).In g) (T : Top p loose mean mg mb g) (hd : dp + 20 < recursionLimit) (hu : un + 8 * 20 < cLine)
    (H : HCtx w X ck) (hS : (tS, tup [.str "named" t7, .str "main.S" t8]) ∈ X) (hn : (nl, W.listOf vs.toArray nn) ∈ X) (hv : StrsAre vs names54) (hI : @Ne Nat I fl) (hXI : ∀ q ∈ X, q.1 ≠ I) (hX : ∀ q ∈ X, q.1 ≠ fl) (hrw : (rw, lo) ∈ X) :
    ∀ (cs : List Kd) (xs : List Value) (i : Int) (m : Str → Option Value) (fs : List Value) (ns : List Int) (nf : Nat), RowsAre X i cs xs → (∀ c ∈ cs, Okd c) → IntsAre fs ns → fs.length + cs.length ≤ 10 → M54 m ck tS nl fl t9 →
      (∀ m' fs' ns' n' h' tk', res54 i cs ns = .ok ns' → IntsAre fs' ns' → fs'.length ≤ 10 → M54 m' ck tS nl fl t9 → Fr g L h' m' → News g L h' ((fl, W.listOf fs'.toArray n') :: X) → Q .next { s with heap := h', toks := tk' }) →
      (∀ e C sp h' tk', res54 i cs ns = .exc C sp → Raised g L h' X e C sp → E (.ref e) { s with heap := h', toks := tk' }) →
      ItemsRest pw' w (ktrTop dp un gd "field_places" (fdTop 54).scope L 400 (.ref 399) [] outer) E g (envX "field_places" (fdTop 54).scope L 400 (.ref 399) []) (forT st54) (forB st54) Q s [(I, "tuple_iterator")] [(rw, lo)] (xs.map .val) m ((fl, W.listOf fs.toArray nf) :: X) := by
  intro cs
  induction cs with
  | nil =>
    rintro xs i m fs ns nf rfl - hf hl hm hret -
    exact fun h tk F N => hret m fs ns nf h tk rfl hf (by simpa using hl) hm F N
  | cons c cs ih =>
    rintro xs i m fs ns nf ⟨r, kv, ev, r', rfl, hr, hk, hrest⟩ hc hf hl hm hret hexc
    have hc0 := hc c (.head _)
    refine ItemsRest.val fun h tk F => AllObj.cons fun o _ => AllObj.nil fun N => ?_
    have fin : ∀ (e C : Addr) (sp : Int) (h' : Heap) (tk' : Nat), res54 i (c :: cs) ns = .exc C sp → Raised g L h' ([(I, o)] ++ (fl, W.listOf fs.toArray nf) :: X) e C sp → E (.ref e) { s with heap := h', toks := tk' } := fun e C sp h' tk' h1 h2 => hexc e C sp h' tk' h1 (h2.sub fun q hq => .tail _ (.tail _ hq))
    have mm : ∀ q ∈ X, q ∈ [(I, o)] ++ (fl, W.listOf fs.toArray nf) :: X := fun q hq => .tail _ (.tail _ hq)
    cases c with
    | non =>
      have hk' : kv = .none := hk
      subst hk'
      exact fp_none r ck tS nl fl ev t9 L m _ hm (mm _ hr) dp un gd outer A₀ base g _ _ E B F XG N T hd hu (fun _ _ _ _ h => h.elim) fun e C sp h' tk' hP R => fin e C sp h' tk' (by obtain ⟨rfl, rfl⟩ := hP; rfl) R
    | num =>
      obtain ⟨a, t1, t2, t3, rfl, ha⟩ := hk
      exact fp_num r a ck tS nl fl ev _ _ t1 t9 L m _ hm (mm _ hr) (mm _ ha) dp un gd outer A₀ base g _ _ E B F XG N T hd hu (fun _ _ _ _ h => h.elim) fun e C sp h' tk' hP R => fin e C sp h' tk' (by obtain ⟨rfl, rfl⟩ := hP; rfl) R
    | nm x =>
      obtain ⟨a, t1, t2, t3, rfl, ha⟩ := hk
      have good : ∀ (j : Nat), placeOf x = some j → x.length ≤ 10 → (names54.any (· == x)) = true → (x == "_") = false → (Builtin.Str.occurrences x "." 0 x.length 1).isEmpty = true → names54[j]? = some x → (∀ i < j, names54[i]? ≠ some x) → (j : Int) < 2 ^ 63 - 1 →
          wpAny (model pw' w) (ktrTop dp un gd "field_places" (fdTop 54).scope L 400 (.ref 399) [] outer) (assign (forT st54) (envX "field_places" (fdTop 54).scope L 400 (.ref 399) []) (.ref r))
            (fun _ s₂ => wpAny (model pw' w) (ktrTop dp un gd "field_places" (fdTop 54).scope L 400 (.ref 399) [] outer) (execs (forB st54) (envX "field_places" (fdTop 54).scope L 400 (.ref 399) []))
              (UnrPostW g L { s with heap := h, toks := tk } [(I, o)] (fun m' n' => SubL [(rw, lo)] n' ∧ ItemsRest pw' w (ktrTop dp un gd "field_places" (fdTop 54).scope L 400 (.ref 399) [] outer) E g (envX "field_places" (fdTop 54).scope L 400 (.ref 399) []) (forT st54) (forB st54) Q s [(I, "tuple_iterator")] [(rw, lo)] (r'.map .val) m' n') Q) E s₂) E { s with heap := h, toks := tk } := by
        intro j hp hw hgood hus hdot hj hno hz
        refine fp_good r a ck tS nl fl ev x i t1 t2 t3 t7 t8 t9 vs nn fs ns nf I o X L m hm hr ha hw H hS hn hv hgood hus hdot j hj hno hz hf (by rw [List.size_toArray, sizeLine_eq]; simp at hl; omega) hI hX dp un gd outer A₀ base g _ _ E B F XG N T hd hu ?_ ?_
        · rintro m' n' h' tk' ⟨hb, hm', t, n2, rfl⟩ F' N'
          refine ⟨h', tk', m', _, rfl, F', N', fun p hp q hq => ?_, ⟨.tail _ hrw, trivial⟩, ?_⟩
          · rw [List.mem_singleton.mp hq]
            rcases List.mem_cons.mp hp with rfl | hp
            · exact Ne.symm hI
            · exact hXI p hp
          · have e : res54 i (.nm x :: cs) ns = res54 (i + 1) cs (ns ++ [(j : Int)]) := by
              show (match placeOf x with | some j => if ns.any (· == (j : Int)) then R54.exc 66 i else res54 (i + 1) cs (ns ++ [(j : Int)]) | none => .exc 66 i) = _
              rw [hp]
              show (if ns.any (· == (j : Int)) then R54.exc 66 i else res54 (i + 1) cs (ns ++ [(j : Int)])) = _
              rw [hb]
              rfl
            rw [e] at hret hexc
            exact ih r' (i + 1) m' _ _ n2 hrest (fun c hc' => hc c (.tail _ hc')) (IntsAre.snoc hf _ t) (by simp at hl ⊢; omega) hm' hret hexc
        · rintro e C sp h' tk' ⟨rfl, hs, hb⟩ R
          refine fin e 66 i h' tk' ?_ (hs ▸ R)
          show (match placeOf x with | some j => if ns.any (· == (j : Int)) then R54.exc 66 i else res54 (i + 1) cs (ns ++ [(j : Int)]) | none => .exc 66 i) = _
          rw [hp]
          show (if ns.any (· == (j : Int)) then R54.exc 66 i else res54 (i + 1) cs (ns ++ [(j : Int)])) = _
          rw [hb]
          rfl
      rcases hc0 with rfl | rfl | rfl | rfl | rfl
      · exact good 0 rfl (by decide) (by decide) (by decide) (by decide +kernel) (by decide) (by decide) (by decide)
      · exact good 2 rfl (by decide) (by decide) (by decide) (by decide +kernel) (by decide) (by decide) (by decide)
      · exact good 3 rfl (by decide) (by decide) (by decide) (by decide +kernel) (by decide) (by decide) (by decide)
      · exact fp_us r a ck tS nl fl ev i t1 t2 t3 t9 vs nn L m _ hm (mm _ hr) (mm _ ha) (H.mono mm) (mm _ hn) hv dp un gd outer A₀ base g _ _ E B F XG N T hd hu (fun _ _ _ _ h => h.elim) fun e C sp h' tk' hP R => fin e C sp h' tk' (by obtain ⟨rfl, rfl⟩ := hP; rfl) R
      · exact fp_bad r a ck tS nl fl ev "z" i t1 t2 t3 t9 vs nn L m _ hm (mm _ hr) (mm _ ha) (by decide) (H.mono mm) (mm _ hn) hv (by decide) dp un gd outer A₀ base g _ _ E B F XG N T hd hu (fun _ _ _ _ h => h.elim) fun e C sp h' tk' hP R => fin e C sp h' tk' (by obtain ⟨rfl, rfl⟩ := hP; rfl) R
end

end
theorem FinTK.z : True := trivial
-- TL
section
theorem StTL.z : True := by
  w_top off
  trivial
variable {w : World} {p : Program} {loose : List Str} {mean : ExcName → Option Value} {mg mb : Str → Option Value}
theorem KeyIs.mono {X Y : List (Addr × Obj)} (s : ∀ q ∈ X, q ∈ Y) : ∀ {c : Kd} {sp : Int} {kv : Value}, KeyIs X sp c kv → KeyIs Y sp c kv :=
  fun {c sp kv} h => by
    cases c
    · exact h
    all_goals
      obtain ⟨a, t1, t2, t3, e, h⟩ := h
      exact ⟨a, t1, t2, t3, e, s _ h⟩
theorem RowsAre.mono {X Y : List (Addr × Obj)} (s : ∀ q ∈ X, q ∈ Y) : ∀ {cs : List Kd} {i : Int} {xs : List Value}, RowsAre X i cs xs → RowsAre Y i cs xs := by
  intro cs
  induction cs with
  | nil => exact fun h => h
  | cons c cs ih =>
    rintro i xs ⟨r, kv, ev, r', e, h1, h2, h3⟩
    exact ⟨r, kv, ev, r', e, s _ h1, h2.mono s, ih h3⟩
theorem words_27 : True := by
  k_with "exec For Tuple Name cons nil" => (fail_if_success (open Mine.FinTL in skip)); (refine stop_ ?_)
  trivial
theorem fp_ok (ck tS fsA rw f1 f2 f3 f4 : Addr) (t7 t8 t9 u1 u2 u3 u4 : Tok) (x1 x2 x3 x4 y1 y2 y3 y4 : Value) (i : Int) (cs : List Kd) (xs : List Value) (X : List (Addr × Obj)) (H : HCtx w X ck) (hS : (tS, tup [.str "named" t7, .str "main.S" t8]) ∈ X)
    (hF : (fsA, tup [.ref f1, .ref f2, .ref f3, .ref f4]) ∈ X) (h1 : (f1, tup [.str "a" u1, x1, y1]) ∈ X) (h2 : (f2, tup [.str "_" u2, x2, y2]) ∈ X) (h3 : (f3, tup [.str "B" u3, x3, y3]) ∈ X) (h4 : (f4, tup [.str "T" u4, x4, y4]) ∈ X)
    (hrw : (rw, tup xs) ∈ X) (hrows : RowsAre X i cs xs) (hc : ∀ c ∈ cs, Okd c) (hl : cs.length ≤ 10) :
    CtrR pw' w p loose mean mg mb 400 [.ref ck, .ref tS, .ref fsA, .ref rw, .int 9 t9] X 24 (fun v n' => ∃ fl ns fs n, res54 i cs [] = .ok ns ∧ v = .ref fl ∧ IntsAre fs ns ∧ fs.length ≤ 10 ∧ n' = (fl, W.listOf fs.toArray n) :: X) (fun C sp => res54 i cs [] = .exc C sp) := by
  intro dp un gd cn cs' ad ccd cl outer A₀ base h₀ L m s Q E B F XG N T hk hd hu hret hexc
  have N0 := N
  refine wpAny_call ?_
  first | (k_dflt ktr_enter) | fail "no way in"
  k_steps
  refine go_on ?_
  rename Fr _ _ _ _ => F9
  rename News _ _ _ _ => N9
  rename Below _ _ (_ :: _) _ => B9
  rename (Fr h₀ L _ m) => FG9
  rename (Mine.Kb _).In _ => X9
  rename Top _ _ _ _ _ _ => T9
  rename (∀ q ∈ X, q.1 ≠ _) => o9
  refine For_turns F9 ?_
  first | (with_reducible refine tok_gen ?_; intro tk) | (k_unfold; (try dsimp only)) | (k_end; wrow_close) | walk1 | (dsimp only; walk1) | (leave1; walk_say "STEP leave1"; try dsimp only)
  refine iter_tupTurns (vs := xs) (n := 0) rfl F9 (News.tl N9) (by k_mem) rfl rfl (fun I hI => ?_)
  clear N9
  have hIX : ∀ q ∈ _ :: X, q.1 ≠ I := fun q hq => Nat.ne_of_lt (hI q (List.mem_cons_of_mem _ hq))
  have hIf := Nat.ne_of_gt (hI _ (.head _))
  with_unfolding_all refine' fp_loop ck tS _ _ rw I (tup xs) t7 t8 t9 [.str "a" u1, .str "_" u2, .str "B" u3, .str "T" u4] 4 _ B9 X9 T9 ?hd ?hu (H.mono fun q hq => .tail _ hq) (.tail _ hS) (.head _) (.cons _ _ (.cons _ _ (.cons _ _ (.cons _ _ .nil)))) hIf hIX ?hX (.tail _ hrw) cs xs i _ [] [] 0 ?hrows hc .nil ?hl ?hm ?hret ?hexc
  case hm => exact ⟨rfl, rfl, rfl, rfl, rfl⟩
  case hd => ktr_room
  case hu => ktr_units
  case hX => k_dflt k_all
  case hl => simpa using hl
  case hrows => exact hrows.mono fun q hq => .tail _ hq
  case hexc =>
    intro e C sp h' tk' hres R
    obtain ⟨m', t, D, oD, ms, ts, F, N, h1, h2, h3, h4⟩ := R.sub (fun q hq => .tail _ hq)
    refine rz_raise B9 FG9 F N h1 h2 h3 h4 (fun q hq => (N0 q hq).2.1) (fun h2 R => hexc _ _ _ _ _ hres R) rfl
  case hret =>
    rintro m' fs' ns' n' h' tk' hres hf' hl' ⟨m1, m2, m3, m4, m5⟩ F' N'
    k_steps
    refine' hret _ _ _ _ ⟨_, ns', fs', n', hres, rfl, hf', hl', rfl⟩ ?zF ?zn
    case zF => assumption
    case zn => rename News h₀ L _ _ => N5; exact fun q hq => N5 q ((List.mem_cons.mp hq).elim (fun e => e ▸ .head _) fun hq => .tail _ (.tail _ hq))

end
theorem FinTL.z : True := trivial
-- TM
section
theorem StTM.z : True := by
  w_top off
  trivial
variable {w : World} {p : Program} {loose : List Str} {mean : ExcName → Option Value} {mg mb : Str → Option Value}
noncomputable def step54 (i : Int) (c : Kd) : R54 → R54
  | .exc C sp => .exc C sp
  | .ok ns => res54 i [c] ns
theorem res54_snoc (c : Kd) : ∀ (cs : List Kd) (i : Int) (ns : List Int), res54 i (cs ++ [c]) ns = step54 (i + (cs.length : Int)) c (res54 i cs ns)
  | [], i, ns => by simp [res54, step54]
  | .non :: cs, i, ns => rfl
  | .num :: cs, i, ns => rfl
  | .nm x :: cs, i, ns => by
    have ih := fun ns => res54_snoc c cs (i + 1) ns
    show (match placeOf x with | some j => if ns.any (· == (j : Int)) then R54.exc 66 i else res54 (i + 1) (cs ++ [c]) (ns ++ [(j : Int)]) | none => .exc 66 i) = step54 _ c (match placeOf x with | some j => if ns.any (· == (j : Int)) then R54.exc 66 i else res54 (i + 1) cs (ns ++ [(j : Int)]) | none => .exc 66 i)
    cases placeOf x with
    | none => rfl
    | some j =>
      dsimp only
      by_cases h : ns.any (· == (j : Int)) = true
      · rw [if_pos h, if_pos h]; rfl
      · rw [if_neg h, if_neg h, ih]
        have e : i + 1 + (cs.length : Int) = i + ((Kd.nm x :: cs).length : Int) := by simp; omega
        rw [e]
noncomputable def DueIs (X : List (Addr × Obj)) : R54 → Value → Prop
  | .ok _, dv => dv = .none
  | .exc C sp, dv => ∃ d tw ts, dv = .ref d ∧ (d, tup [.str (wordOf C) tw, .int sp ts]) ∈ X
noncomputable def PlaceVal : Kd → Value → Prop
  | .nm x, pv => match placeOf x with
    | some j => ∃ t, pv = .int (j : Int) t
    | none => pv = .none
  | _, pv => pv = .none
/-- a key as it is drawn -/
noncomputable def Key0 (X : List (Addr × Obj)) : Kd → Value → Prop
  | .non, kv => kv = .none
  | .num, kv => ∃ a t1 t2 t3, kv = .ref a ∧ (a, tup [.str "int" t1, .int 0 t2, .int 2 t3]) ∈ X
  | .nm x, kv => ∃ a t1 t2 t3, kv = .ref a ∧ (a, tup [.str "name" t1, .int 0 t2, .str x t3]) ∈ X
noncomputable abbrev st118 : Stmt := ((fdTop 118).body.drop 4).headD (.Pass ⟨0,0,0,0⟩)
noncomputable abbrev Turn55 (w : World) (p : Program) (loose : List Str) (mean : ExcName → Option Value) (mg mb : Str → Option Value) (i : Nat) (L : Addr) (m : Str → Option Value) (news : List (Addr × Obj)) (k : Nat) (Post : (Str → Option Value) → List (Addr × Obj) → Prop) : Prop :=
  ∀ (dp un : Nat) (gd : Option (List Code)) (outer : List Env) (A₀ : Around) (base g : Heap) (s : Shared) (Q : Flow → Shared → Prop) (E : Value → Shared → Prop),
    Below A₀ base outer g → Fr g L s.heap m → (Mine.Kb w.params).In g → News g L s.heap news → Top p loose mean mg mb g → dp + k < recursionLimit → un + 8 * k < cLine →
    (∀ m' news' h' tk', Post m' news' → Fr g L h' m' → News g L h' news' → Q .next { s with heap := h', toks := tk' }) →
    wpAny (model pw' w) (ktrTop dp un gd "_law_places_right" (fdTop 118).scope L 1055 (.ref 1054) (cellsFrom (L + 1) (fdTop 118).scope.names []) outer) (execs ((forB st118).drop i) (envX "_law_places_right" (fdTop 118).scope L 1055 (.ref 1054) (cellsFrom (L + 1) (fdTop 118).scope.names []))) Q E s
noncomputable def PostB (m : Str → Option Value) (Z Y : List (Addr × Obj)) (fl : Addr) (fs : List Value) (pv : Value) (I : Addr) (oI : Obj) (r : R54) (m' : Str → Option Value) (n' : List (Addr × Obj)) : Prop :=
  ∃ dv' own n2, n' = (I, oI) :: (fl, W.listOf (fs ++ [pv]).toArray n2) :: (own ++ Y) ∧ (∀ p ∈ own, ∀ q ∈ Z, q.1 < p.1) ∧ m' "due" = some dv' ∧ (∀ y : Str, y ≠ "due" → m' y = m y) ∧ DueIs (own ++ Y) r dv' ∧ (∀ ns, r = .ok ns → IntsAre (fs ++ [pv]) ns)
theorem words_28 : True := by
  k_with "call builtin:list.append cons nil" => (fail_if_success (open Mine.FinTM in skip)); ((k_dflt (refine' append_K ?u139k1 ?u139k2 ?u139k3 ?_ ?u139z; (case u139k1 => k_asm); (case u139k2 => k_asm); (case u139k3 => k_upd); (case u139z => assumption)); intro qqh' qqF' qqN'; (try k_sweep)))
  trivial
section
variable {kv pv dv : Value} {sp : Int} {t1 : Tok} {fl : Addr} {fs : List Value} {nf : Nat} {I : Addr} {oI : Obj} {Y : List (Addr × Obj)} {L : Addr} {m : Str → Option Value}
theorem words_29 : True := by
  k_with "zo" => (fail_if_success (open Mine.FinTM in skip)); ((rename (∀ q ∈ (_ : List (Addr × Obj)), ∀ p ∈ (_ : List (Addr × Obj)), q.1 < p.1) => qqfr; exact fun p hp q hq => qqfr q hq p hp))
  trivial
theorem postB_new {Z : List (Addr × Obj)} {d C : Addr} {n2 : Nat} {wd : Str} {tw ts : Tok} {m' : Str → Option Value} (e : wd = wordOf C) (l : ∀ q ∈ Z, q.1 < d) (h1 : m' "due" = some (.ref d)) (h2 : ∀ y : Str, y ≠ "due" → m' y = m y) :
    PostB m Z Y fl fs pv I oI (.exc C sp) m' ((I, oI) :: (fl, W.listOf (fs ++ [pv]).toArray n2) :: ([(d, tup [.str wd tw, .int sp ts])] ++ Y)) := by
  subst e
  exact ⟨_, [(d, _)], n2, rfl, fun p hp q hq => by rw [List.mem_singleton.mp hp]; exact l q hq, h1, h2, ⟨d, tw, ts, rfl, List.mem_append_left _ (List.Mem.head _)⟩, fun _ h => nomatch h⟩
theorem lt_B0 {d : Addr} {C : Addr} {sp' : Int} {tw ts : Tok} (hd : (d, tup [.str (wordOf C) tw, .int sp' ts]) ∈ Y) (m2 : m "place" = some pv) (m3 : m "due" = some (.ref d)) (m4 : m "found" = some (.ref fl)) (hz : fs.toArray.size ≤ sizeLine) (hI : @Ne Nat I fl) (hY : ∀ q ∈ Y, q.1 ≠ fl) :
    Turn55 w p loose mean mg mb 3 L m ((I, oI) :: (fl, W.listOf fs.toArray nf) :: Y) 16 (PostB m ((I, oI) :: (fl, W.listOf fs.toArray nf) :: Y) Y fl fs pv I oI (.exc C sp')) := by
  intro dp un gd outer A₀ base g s Q E B F XG N T hdp hu hret
  k_dflt (show wpAny _ _ (execs (List.cons _ _) _) _ _ _)
  k_steps
  rename Fr _ _ _ _ => F9
  rename News _ _ _ _ => N9
  rw [List.push_toArray] at N9
  refine' hret _ ((I, oI) :: (fl, _) :: ([] ++ Y)) _ _ ⟨_, [], _, rfl, ?zo, ?zd, ?ze, ?zr, ?zk⟩ F9 ?zn
  case zd => exact m3
  case ze => exact fun _ _ => rfl
  case zr => exact ⟨d, tw, ts, rfl, hd⟩
  case zk => exact fun _ h => nomatch h
  case zo => exact fun _ h => nomatch h
  case zn => exact N9
theorem lt_B1 (m1 : m "key" = some .none) (m2 : m "place" = some pv) (m3 : m "due" = some .none) (m4 : m "found" = some (.ref fl)) (hz : fs.toArray.size ≤ sizeLine) (hI : @Ne Nat I fl) (hY : ∀ q ∈ Y, q.1 ≠ fl) :
    Turn55 w p loose mean mg mb 3 L m ((I, oI) :: (fl, W.listOf fs.toArray nf) :: Y) 16 (PostB m ((I, oI) :: (fl, W.listOf fs.toArray nf) :: Y) Y fl fs pv I oI (.exc 78 9)) := by
  intro dp un gd outer A₀ base g s Q E B F XG N T hdp hu hret
  k_dflt (show wpAny _ _ (execs (List.cons _ _) _) _ _ _)
  k_steps
  rename Fr _ _ _ _ => F9
  rename News _ _ _ _ => N9
  rw [List.push_toArray] at N9
  refine' hret _ ((I, oI) :: (fl, _) :: (_ ++ Y)) _ _ ⟨_, _, _, rfl, ?zo, ?zd, ?ze, ?zr, ?zk⟩ F9 ?zn
  case zd => rfl
  case ze => exact fun y hy => if_neg hy
  case zr => exact ⟨_, _, _, rfl, List.mem_append_left _ (by assumption)⟩
  case zk => exact fun _ h => nomatch h
  case zn =>
    intro q hq
    rcases List.mem_cons.mp hq with rfl | hq
    · exact N9 _ (by k_dflt k_mem)
    · rcases List.mem_cons.mp hq with rfl | hq
      · exact N9 _ (by k_dflt k_mem)
      · rcases List.mem_append.mp hq with hq | hq
        · exact N9 q (List.mem_append_left _ hq)
        · exact N9 q (by k_extra "mm")
  case zo => walk_at "zo"
theorem lt_B2 {a : Addr} {x1 x2 : Value} {t2 : Tok} (m1 : m "key" = some (.ref a)) (ha : (a, tup [.str "int" t2, x1, x2]) ∈ Y) (m2 : m "place" = some pv) (m3 : m "due" = some .none) (m4 : m "found" = some (.ref fl)) (hz : fs.toArray.size ≤ sizeLine) (hI : @Ne Nat I fl) (hY : ∀ q ∈ Y, q.1 ≠ fl) :
    Turn55 w p loose mean mg mb 3 L m ((I, oI) :: (fl, W.listOf fs.toArray nf) :: Y) 16 (PostB m ((I, oI) :: (fl, W.listOf fs.toArray nf) :: Y) Y fl fs pv I oI (.exc 78 9)) := by
  intro dp un gd outer A₀ base g s Q E B F XG N T hdp hu hret
  k_dflt (show wpAny _ _ (execs (List.cons _ _) _) _ _ _)
  k_steps
  rename Fr _ _ _ _ => F9
  rename News _ _ _ _ => N9
  rw [List.push_toArray] at N9
  refine' hret _ ((I, oI) :: (fl, _) :: (_ ++ Y)) _ _ ⟨_, _, _, rfl, ?zo, ?zd, ?ze, ?zr, ?zk⟩ F9 ?zn
  case zd => rfl
  case ze => exact fun y hy => if_neg hy
  case zr => exact ⟨_, _, _, rfl, List.mem_append_left _ (by assumption)⟩
  case zk => exact fun _ h => nomatch h
  case zn =>
    intro q hq
    rcases List.mem_cons.mp hq with rfl | hq
    · exact N9 _ (by k_dflt k_mem)
    · rcases List.mem_cons.mp hq with rfl | hq
      · exact N9 _ (by k_dflt k_mem)
      · rcases List.mem_append.mp hq with hq | hq
        · exact N9 q (List.mem_append_left _ hq)
        · exact N9 q (by k_extra "mm")
  case zo => walk_at "zo"
theorem lt_B3 {a : Addr} {x1 x2 : Value} {t2 : Tok} (m1 : m "key" = some (.ref a)) (ha : (a, tup [.str "name" t2, x1, x2]) ∈ Y) (m5 : m "spot" = some (.int sp t1)) (m2 : m "place" = some .none) (m3 : m "due" = some .none) (m4 : m "found" = some (.ref fl)) (hz : fs.toArray.size ≤ sizeLine) (hI : @Ne Nat I fl) (hY : ∀ q ∈ Y, q.1 ≠ fl) :
    Turn55 w p loose mean mg mb 3 L m ((I, oI) :: (fl, W.listOf fs.toArray nf) :: Y) 16 (PostB m ((I, oI) :: (fl, W.listOf fs.toArray nf) :: Y) Y fl fs .none I oI (.exc 66 sp)) := by
  intro dp un gd outer A₀ base g s Q E B F XG N T hdp hu hret
  k_dflt (show wpAny _ _ (execs (List.cons _ _) _) _ _ _)
  k_steps
  rename Fr _ _ _ _ => F9
  rename News _ _ _ _ => N9
  rw [List.push_toArray] at N9
  refine' hret _ _ _ _ (postB_new ?ze ?zl ?zd ?zo) F9 ?zn
  case zl => assumption
  case ze => exact rfl
  case zd => rfl
  case zo => exact fun y hy => if_neg hy
  case zn =>
    intro q hq
    rcases List.mem_cons.mp hq with rfl | hq
    · exact N9 _ (by k_dflt k_mem)
    · rcases List.mem_cons.mp hq with rfl | hq
      · exact N9 _ (by k_dflt k_mem)
      · rcases List.mem_cons.mp hq with rfl | hq
        · exact N9 _ (by k_dflt k_mem)
        · have hq : q ∈ Y := hq; exact N9 q (by k_extra "mm")
theorem lt_B4 {a : Addr} {x1 x2 : Value} {t2 t3 : Tok} {j : Nat} {ns : List Int} (hf : IntsAre fs ns) (m1 : m "key" = some (.ref a)) (ha : (a, tup [.str "name" t2, x1, x2]) ∈ Y) (m5 : m "spot" = some (.int sp t1)) (m2 : m "place" = some (.int (j : Int) t3)) (m3 : m "due" = some .none) (m4 : m "found" = some (.ref fl)) (hz : fs.toArray.size ≤ sizeLine) (hI : @Ne Nat I fl) (hY : ∀ q ∈ Y, q.1 ≠ fl) :
    Turn55 w p loose mean mg mb 3 L m ((I, oI) :: (fl, W.listOf fs.toArray nf) :: Y) 16 (PostB m ((I, oI) :: (fl, W.listOf fs.toArray nf) :: Y) Y fl fs (.int (j : Int) t3) I oI (if ns.any (· == (j : Int)) then .exc 66 sp else .ok (ns ++ [(j : Int)]))) := by
  intro dp un gd outer A₀ base g s Q E B F XG N T hdp hu hret
  k_dflt (show wpAny _ _ (execs (List.cons _ _) _) _ _ _)
  k_steps
  · rename (_ = true) => hb
    rw [if_pos hb] at hret
    rename Fr _ _ _ _ => F9
    rename News _ _ _ _ => N9
    rw [List.push_toArray] at N9
    refine' hret _ _ _ _ (postB_new ?ze ?zl ?zd ?zo) F9 ?zn
    case zl => assumption
    case ze => exact rfl
    case zd => rfl
    case zo => exact fun y hy => if_neg hy
    case zn =>
      intro q hq
      rcases List.mem_cons.mp hq with rfl | hq
      · exact N9 _ (by k_dflt k_mem)
      · rcases List.mem_cons.mp hq with rfl | hq
        · exact N9 _ (by k_dflt k_mem)
        · rcases List.mem_cons.mp hq with rfl | hq
          · exact N9 _ (by k_dflt k_mem)
          · have hq : q ∈ Y := hq; exact N9 q (by k_extra "mm")
  · k_steps
    rename (_ = false) => hb
    rw [if_neg (by rw [hb]; decide)] at hret
    rename Fr _ _ _ _ => F9
    rename News _ _ _ _ => N9
    rw [List.push_toArray] at N9
    refine' hret _ ((I, oI) :: (fl, _) :: ([] ++ Y)) _ _ ⟨_, [], _, rfl, ?zo, ?zd, ?ze, ?zr, ?zk⟩ F9 ?zn
    case zd => exact m3
    case ze => exact fun _ _ => rfl
    case zr => exact rfl
    case zk => exact fun ns' h => by cases h; exact IntsAre.snoc hf _ _
    case zo => exact fun _ h => nomatch h
    case zn => exact N9
end

end
theorem FinTM.z : True := trivial
-- TN
section
theorem StTN.z : True := by
  w_top off
  trivial
variable {w : World} {p : Program} {loose : List Str} {mean : ExcName → Option Value} {mg mb : Str → Option Value}
theorem t55_mono {i : Nat} {L : Addr} {m : Str → Option Value} {n1 n2 : List (Addr × Obj)} {k : Nat} {P : (Str → Option Value) → List (Addr × Obj) → Prop} (s : ∀ q ∈ n1, q ∈ n2) (h : Turn55 w p loose mean mg mb i L m n1 k P) : Turn55 w p loose mean mg mb i L m n2 k P :=
  fun dp un gd outer A₀ base g s' Q E B F XG N T hd hu hret => h dp un gd outer A₀ base g s' Q E B F XG (fun q hq => N q (s q hq)) T hd hu hret
section
variable {kv pv dv : Value} {sp : Int} {t1 : Tok} {fl : Addr} {fs : List Value} {nf : Nat} {I : Addr} {oI : Obj} {Y : List (Addr × Obj)} {L : Addr} {m : Str → Option Value}
theorem lt_Ball (c : Kd) (r : R54) (hc : Okd c) (hD : DueIs Y r dv) (hr : ∀ ns, r = .ok ns → IntsAre fs ns) (hk : Key0 Y c kv) (hp : PlaceVal c pv) (m1 : m "key" = some kv) (m2 : m "place" = some pv) (m3 : m "due" = some dv) (m4 : m "found" = some (.ref fl)) (m5 : m "spot" = some (.int sp t1)) (hz : fs.toArray.size ≤ sizeLine) (hI : @Ne Nat I fl) (hY : ∀ q ∈ Y, q.1 ≠ fl) :
    Turn55 w p loose mean mg mb 3 L m ((I, oI) :: (fl, W.listOf fs.toArray nf) :: Y) 16 (PostB m ((I, oI) :: (fl, W.listOf fs.toArray nf) :: Y) Y fl fs pv I oI (step54 sp c r)) := by
  cases r with
  | exc C sp' =>
    obtain ⟨d, tw, ts, rfl, hd⟩ := hD
    exact lt_B0 hd m2 m3 m4 hz hI hY
  | ok ns =>
    have hf := hr ns rfl
    cases hD
    cases c with
    | non =>
      cases hk
      exact lt_B1 m1 m2 m3 m4 hz hI hY
    | num =>
      obtain ⟨a, t2, t3, t4, rfl, ha⟩ := hk
      exact lt_B2 m1 ha m2 m3 m4 hz hI hY
    | nm x =>
      obtain ⟨a, t2, t3, t4, rfl, ha⟩ := hk
      show Turn55 _ _ _ _ _ _ 3 L m _ 16 (PostB m _ Y fl fs pv I oI (match placeOf x with | some j => if ns.any (· == (j : Int)) then R54.exc 66 sp else res54 (sp + 1) [] (ns ++ [(j : Int)]) | none => .exc 66 sp))
      have hp' : (match placeOf x with | some j => ∃ t, pv = .int (j : Int) t | none => pv = .none) := hp
      cases hx : placeOf x with
      | none =>
        rw [hx] at hp'
        have hp'' : pv = .none := hp'
        subst hp''
        exact lt_B3 m1 ha m5 m2 m3 m4 hz hI hY
      | some j =>
        rw [hx] at hp'
        obtain ⟨t, rfl⟩ : ∃ t, pv = .int (j : Int) t := hp'
        exact lt_B4 hf m1 ha m5 m2 m3 m4 hz hI hY
end
noncomputable def RowIs (X : List (Addr × Obj)) (sp : Int) (c : Kd) (v : Value) : Prop := ∃ r kv ev, v = .ref r ∧ (r, tup [kv, ev]) ∈ X ∧ KeyIs X sp c kv
section
variable {dv : Value} {sp kk : Int} {t1 t2 : Tok} {fl rl rwl : Addr} {o oR : Obj} {fs xs : List Value} {nf nx : Nat} {I : Addr} {oI : Obj} {X : List (Addr × Obj)} {L : Addr} {m : Str → Option Value}
noncomputable abbrev Z55 (fl rl rwl : Addr) (o : Obj) (fs xs : List Value) (nf nx : Nat) (I : Addr) (oI : Obj) (X : List (Addr × Obj)) : List (Addr × Obj) := (I, oI) :: (rl, o) :: (fl, W.listOf fs.toArray nf) :: (rwl, W.listOf xs.toArray nx) :: X
noncomputable def PostAB (m : Str → Option Value) (fl rl rwl : Addr) (o : Obj) (fs xs : List Value) (nf nx : Nat) (I : Addr) (oI : Obj) (X : List (Addr × Obj)) (sp : Int) (c : Kd) (r : R54) (m' : Str → Option Value) (n' : List (Addr × Obj)) : Prop :=
  ∃ own rv pv dv' n1 n2, n' = Z55 fl rl rwl o (fs ++ [pv]) (xs ++ [rv]) n1 n2 I oI (own ++ X) ∧ (∀ p ∈ own, ∀ q ∈ Z55 fl rl rwl o fs xs nf nx I oI X, q.1 < p.1) ∧ RowIs own sp c rv ∧ PlaceVal c pv ∧ m' "due" = some dv' ∧ (∀ y : Str, y ≠ "due" → y ≠ "place" → m' y = m y) ∧ DueIs (own ++ X) (step54 sp c r) dv' ∧ (∀ ns, step54 sp c r = .ok ns → IntsAre (fs ++ [pv]) ns)
theorem lt_fin {m' : Str → Option Value} {own : List (Addr × Obj)} {rv kv pv : Value} {n2 : Nat} (c : Kd) (r : R54) (ho : Reel o) (hc : Okd c) (hD : DueIs X r dv) (hr : ∀ ns, r = .ok ns → IntsAre fs ns) (hk : Key0 X c kv) (hp : PlaceVal c pv) (m1 : m' "key" = some kv) (m2 : m' "place" = some pv) (m3 : m' "due" = some dv) (m4 : m' "found" = some (.ref fl)) (m5 : m' "spot" = some (.int sp t1)) (hm : ∀ y : Str, y ≠ "place" → m' y = m y)
    (hz : fs.toArray.size ≤ sizeLine) (hI : @Ne Nat I fl) (hrl : @Ne Nat rl fl) (hrw : @Ne Nat rwl fl) (hX : ∀ q ∈ X, q.1 ≠ fl) (hown : ∀ p ∈ own, ∀ q ∈ Z55 fl rl rwl o fs xs nf nx I oI X, q.1 < p.1) (hrow : RowIs own sp c rv) :
    Turn55 w p loose mean mg mb 3 L m' ((I, oI) :: (fl, W.listOf fs.toArray nf) :: (rl, o) :: (rwl, W.listOf (xs ++ [rv]).toArray n2) :: (own ++ X)) 16 (PostAB m fl rl rwl o fs xs nf nx I oI X sp c r) := by
  intro dp un gd outer A₀ base g s Q E B F XG N T hdp hu hret
  have up : ∀ q ∈ X, q ∈ (rl, o) :: (rwl, W.listOf (xs ++ [rv]).toArray n2) :: (own ++ X) := fun q hq => .tail _ (.tail _ (List.mem_append_right _ hq))
  refine lt_Ball c r hc (dv := dv) (kv := kv) (pv := pv) ?_ hr ?_ hp m1 m2 m3 m4 m5 hz hI ?_ dp un gd outer A₀ base g s Q E B F XG N T hdp hu ?_
  · cases r with
    | ok ns => exact hD
    | exc C sp' => obtain ⟨d, tw, ts, e, hd⟩ := hD; exact ⟨d, tw, ts, e, up _ hd⟩
  · cases c with
    | non => exact hk
    | num => obtain ⟨a, t2, t3, t4, e, ha⟩ := hk; exact ⟨a, t2, t3, t4, e, up _ ha⟩
    | nm x => obtain ⟨a, t2, t3, t4, e, ha⟩ := hk; exact ⟨a, t2, t3, t4, e, up _ ha⟩
  · intro q hq
    rcases List.mem_cons.mp hq with rfl | hq
    · exact hrl
    · rcases List.mem_cons.mp hq with rfl | hq
      · exact hrw
      · rcases List.mem_append.mp hq with hq | hq
        · exact Nat.ne_of_gt (hown q hq (fl, W.listOf fs.toArray nf) (.tail _ (.tail _ (.head _))))
        · exact hX q hq
  · rintro m2' n' h' tk' ⟨dv', own2, n3, rfl, hl, hd', hm', hD', hr'⟩ F' N'
    refine hret m2' (Z55 fl rl rwl o (fs ++ [pv]) (xs ++ [rv]) n3 n2 I oI ((own2 ++ own) ++ X)) h' tk' ⟨own2 ++ own, rv, pv, dv', n3, n2, rfl, ?_, ?_, hp, hd', fun y h1 h2 => (hm' y h1).trans (hm y h2), ?_, hr'⟩ F' ?_
    · intro p hp q hq
      rcases List.mem_append.mp hp with hp | hp
      · simp only [List.mem_cons] at hq
        rcases hq with e | e | e | e | hq
        · exact hl p hp q (e ▸ .head _)
        · exact hl p hp q (e ▸ .tail _ (.tail _ (.head _)))
        · exact e ▸ hl p hp (fl, W.listOf fs.toArray nf) (.tail _ (.head _))
        · exact e ▸ hl p hp (rwl, W.listOf (xs ++ [rv]).toArray n2) (.tail _ (.tail _ (.tail _ (.head _))))
        · exact hl p hp q (.tail _ (.tail _ (up q hq)))
      · exact hown p hp q hq
    · obtain ⟨r', kv', ev, e, h1, h2⟩ := hrow
      exact ⟨r', kv', ev, e, List.mem_append_right _ h1, h2.mono fun q hq => List.mem_append_right _ hq⟩
    · cases hs : step54 sp c r with
      | ok ns => rw [hs] at hD'; exact hD'
      | exc C sp' =>
        rw [hs] at hD'
        obtain ⟨d, tw, ts, e, hd⟩ := hD'
        refine ⟨d, tw, ts, e, ?_⟩
        rcases List.mem_append.mp hd with hd | hd
        · exact List.mem_append_left _ (List.mem_append_left _ hd)
        · rcases List.mem_cons.mp hd with e | hd
          · obtain ⟨a, b, ta, tb, n, rfl, _⟩ := ho
            exact absurd (show Value.type "tuple" = Value.type "list" from congrArg (fun q : Addr × Obj => q.2.cls) e) (by decide)
          · rcases List.mem_cons.mp hd with e | hd
            · exact absurd (show Value.type "tuple" = Value.type "list" from congrArg (fun q : Addr × Obj => q.2.cls) e) (by decide)
            · rw [List.append_assoc]
              exact List.mem_append_right _ hd
    · intro q hq
      simp only [List.mem_cons, List.mem_append] at hq
      refine N' q ?_
      simp only [List.mem_cons, List.mem_append]
      rcases hq with e | e | e | e | (h | h) | h
      · exact .inl e
      · exact .inr (.inr (.inr (.inl e)))
      · exact .inr (.inl e)
      · exact .inr (.inr (.inr (.inr (.inl e))))
      · exact .inr (.inr (.inl h))
      · exact .inr (.inr (.inr (.inr (.inr (.inl h)))))
      · exact .inr (.inr (.inr (.inr (.inr (.inr h)))))
end

end
theorem FinTN.z : True := trivial
-- PA
section
theorem StPA.z : True := by
  w_top off
  trivial
variable {w : World} {p : Program} {loose : List Str} {mean : ExcName → Option Value} {mg mb : Str → Option Value}
theorem words_30 : True := by
  k_with "WhlIf" => (fail_if_success (open Mine.FinPA in skip)); ((refine WhlIf.no (by assumption) ?_))
  trivial
theorem if_f {α : Sort u} {b : Bool} {x y : α} (h : b = false) : (if b = true then x else y) = y := by rw [h]; rfl
theorem cw_0 (a : Addr) (t : Tok) (w0 : Str) (x y z : Value) (news : List (Addr × Obj)) (hw : (w0 == "face") = false) (h : (a, tup [.str w0 t, x, y, z]) ∈ news) :
    Ctr pw' w p loose mean mg mb 421 [.ref a] news 6 (fun v n' => v = (if (w0 == "const") = true then .ref a else .none) ∧ n' = news) := by
  intro dp un gd cn cs ad ccd cl outer A₀ base h₀ L m s Q E B F X N T hk hd hu hret
  refine wpAny_call ?_
  first | (k_dflt ktr_enter) | fail "no way in"
  k_steps
  · exact hret _ _ _ _ ⟨(if_pos (by assumption)).symm, rfl⟩ (by assumption) (by assumption)
  k_steps
  exact hret _ _ _ _ ⟨(if_f (by assumption)).symm, rfl⟩ (by assumption) (by assumption)
theorem cw_1 (a b : Addr) (t t1 t2 : Tok) (w0 : Str) (x y z x1 : Value) (news : List (Addr × Obj)) (hw : (w0 == "face") = false) (h : (a, tup [.str w0 t, x, y, z]) ∈ news) (h1 : (b, tup [.str "face" t1, x1, .int 1 t2, .ref a]) ∈ news) :
    Ctr pw' w p loose mean mg mb 421 [.ref b] news 6 (fun v n' => v = (if (w0 == "const") = true then .ref a else .none) ∧ n' = news) := by
  intro dp un gd cn cs ad ccd cl outer A₀ base h₀ L m s Q E B F X N T hk hd hu hret
  refine wpAny_call ?_
  first | (k_dflt ktr_enter) | fail "no way in"
  k_steps
  · exact hret _ _ _ _ ⟨(if_pos (by assumption)).symm, rfl⟩ (by assumption) (by assumption)
  k_steps
  exact hret _ _ _ _ ⟨(if_f (by assumption)).symm, rfl⟩ (by assumption) (by assumption)
theorem cw_2 (a b c : Addr) (t t1 t2 t3 t4 : Tok) (w0 : Str) (x y z x1 x2 : Value) (news : List (Addr × Obj)) (hw : (w0 == "face") = false) (h : (a, tup [.str w0 t, x, y, z]) ∈ news) (h1 : (b, tup [.str "face" t1, x1, .int 1 t2, .ref a]) ∈ news) (h2 : (c, tup [.str "face" t3, x2, .int 1 t4, .ref b]) ∈ news) :
    Ctr pw' w p loose mean mg mb 421 [.ref c] news 6 (fun v n' => v = (if (w0 == "const") = true then .ref a else .none) ∧ n' = news) := by
  intro dp un gd cn cs ad ccd cl outer A₀ base h₀ L m s Q E B F X N T hk hd hu hret
  refine wpAny_call ?_
  first | (k_dflt ktr_enter) | fail "no way in"
  k_steps
  · exact hret _ _ _ _ ⟨(if_pos (by assumption)).symm, rfl⟩ (by assumption) (by assumption)
  k_steps
  exact hret _ _ _ _ ⟨(if_f (by assumption)).symm, rfl⟩ (by assumption) (by assumption)
theorem one_atV {f' : Addr} {args' : List Value} {news : List (Addr × Obj)} {f : Obj → List (Addr × Obj)} {vs : List Value} {n1 : Nat} {sm : Addr} {rl : Addr} {o : Obj} {dp un : Nat} {gd : Option (List Code)} {cn : Str} {cs : PySem.Scope} {ad : Addr} {ccd : Value} {cl : List (Str × Addr)} {outer : List Env} {A₀ : Around} {base h₀ : Heap} {L : Addr} {m : Str → Option Value} {s : Shared} {Q E : Value → Shared → Prop}
    (e : f' = 1022) (ea : args' = [.ref rl, .ref sm]) (B : Below A₀ base outer h₀) (F : Fr h₀ L s.heap m) (X : (Mine.Kb w.params).In h₀) (N : News h₀ L s.heap news) (T : Top p loose mean mg mb h₀) (ho : Reel o) (hU : ∀ o', Upd rl o o' news (f o')) (hsm : (sm, W.listOf vs.toArray n1) ∈ news) (hl0 : 0 < vs.length) (hl1 : vs.length < 1000) (hne : sm ≠ rl)
    (hk : cs.kind = .function) (hd : dp + 2 < recursionLimit) (hu : un + 8 * 2 < cLine)
    (hret : ∀ v ∈ vs, ∀ o' h' tk', Reel o' → Fr h₀ L h' m → News h₀ L h' (f o') → Q v { s with heap := h', toks := tk' }) :
    wpAny (model pw' w) (ktrTop dp un gd cn cs L ad ccd cl outer) (call (.ref f') args') Q E s := by
  subst e
  subst ea
  exact one_at B F X N T ho hU hsm hl0 hl1 hne hk hd hu hret
theorem wound_atV {f' : Addr} {args' : List Value} {news : List (Addr × Obj)} {f : Obj → List (Addr × Obj)} {many : Int} {tm : Tok} {rl : Addr} {o : Obj} {dp un : Nat} {gd : Option (List Code)} {cn : Str} {cs : PySem.Scope} {ad : Addr} {ccd : Value} {cl : List (Str × Addr)} {outer : List Env} {A₀ : Around} {base h₀ : Heap} {L : Addr} {m : Str → Option Value} {s : Shared} {Q E : Value → Shared → Prop}
    (e : f' = 1015) (ea : args' = [.ref rl, .int many tm]) (B : Below A₀ base outer h₀) (F : Fr h₀ L s.heap m) (X : (Mine.Kb w.params).In h₀) (N : News h₀ L s.heap news) (T : Top p loose mean mg mb h₀) (ho : Reel o) (hU : ∀ o', Upd rl o o' news (f o')) (hm : 0 < many) (hm2 : many < 1000)
    (hk : cs.kind = .function) (hd : dp + 1 < recursionLimit) (hu : un + 8 * 1 < cLine)
    (hret : ∀ d t o' h' tk', 0 ≤ d → d < many → Reel o' → Fr h₀ L h' m → News h₀ L h' (f o') → Q (.int d t) { s with heap := h', toks := tk' }) :
    wpAny (model pw' w) (ktrTop dp un gd cn cs L ad ccd cl outer) (call (.ref f') args') Q E s := by
  subst e
  subst ea
  exact wound_at B F X N T ho hU hm hm2 hk hd hu hret
theorem eq_same {prog : Program} {A : Around} {E : Value → Shared → Prop} {s : Shared} {h₀ : Heap} {L a : Addr} {vs : List Value} {news : List (Addr × Obj)} {Q : Value → Shared → Prop} (N : News h₀ L s.heap news) (h : (a, tup vs) ∈ news) (hu : A.units < cLine) (hQ : Q (.bool true) s) :
    wpAny (model prog w) A (compareOp .Eq (.ref a) (.ref a)) Q E s := by
  have hT : s.heap.IsTuple a vs.toArray := ⟨_, (N _ h).1, rfl, _, rfl⟩
  refine cmp_ofEq (PySem.SeqAt.RcAt.tuples (e := fun _ => true) hT hT hu (fun j _ _ => PySem.SeqAt.EqAt.same _) _ _ _ _ ?_)
  have e : ((List.range (min vs.toArray.size vs.toArray.size)).all (fun _ => true) && vs.toArray.size == vs.toArray.size) = true := by simp
  rw [e]
  exact hQ
/-- what the rest of a def's body does -/
noncomputable abbrev BodyK (w : World) (p : Program) (loose : List Str) (mean : ExcName → Option Value) (mg mb : Str → Option Value) (q : Str) (d : DefRec) (f : Addr) (cd : Value) (i : Nat) (L : Addr) (m : Str → Option Value) (news : List (Addr × Obj)) (k : Nat) (Post : Value → List (Addr × Obj) → Prop) : Prop :=
  ∀ (dp un : Nat) (gd : Option (List Code)) (outer : List Env) (A₀ : Around) (base g : Heap) (s : Shared) (Q : Flow → Shared → Prop) (E : Value → Shared → Prop),
    Below A₀ base outer g → Fr g L s.heap m → (Mine.Kb w.params).In g → News g L s.heap news → Top p loose mean mg mb g → dp + k < recursionLimit → un + 8 * k < cLine → PassesOwn (model pw' w) (ktrTop dp un gd q d.scope L f cd [] outer) (envX q d.scope L f cd []) E →
    (∀ v news' h' tk' m', Post v news' → Fr g L h' m' → News g L h' news' → Q (.ret v) ⟨h', s.gens, s.drawn, tk', s.os⟩) →
    wpAny (model pw' w) (ktrTop dp un gd q d.scope L f cd [] outer) (execs (d.body.drop i) (envX q d.scope L f cd [])) Q E s
theorem bk_mono {q : Str} {d : DefRec} {f : Addr} {cd : Value} {i : Nat} {L : Addr} {m : Str → Option Value} {n1 n2 : List (Addr × Obj)} {k : Nat} {P : Value → List (Addr × Obj) → Prop} (s : ∀ q ∈ n1, q ∈ n2) (h : BodyK w p loose mean mg mb q d f cd i L m n1 k P) : BodyK w p loose mean mg mb q d f cd i L m n2 k P :=
  fun dp un gd outer A₀ base g s' Q E B F XG N T hd hu hE hret => h dp un gd outer A₀ base g s' Q E B F XG (fun q hq => N q (s q hq)) T hd hu hE hret
theorem iter_rangeN {prog : Program} {w : World} {A : Around} {E : Value → Shared → Prop} {s : Shared} {env : Env} {h₀ : Heap} {x : Str} {body : List Stmt} {Q : Flow → Shared → Prop} {r : Addr} {n : Nat} {t₀ u₀ v₀ : Tok} {m₀ : Str → Option Value} {news : List (Addr × Obj)} (hn : n < 4)
    (hh : A.handled = none) (hr : IsRange s.heap r 0 (n : Int) 1 t₀ u₀ v₀) (F : Fr h₀ env.locals s.heap m₀) (N : News h₀ env.locals s.heap news)
    (rest₀ : ∀ I : Addr, (∀ p ∈ news, p.1 < I) → RangeRest prog w A E h₀ env x body Q s I 0 n n 0 m₀ news) :
    wpAny (model prog w) A (pyIter (.ref r)) (fun it s₂ => LoopAtV prog w A h₀ env x body Q E it s₂) E s := by
  refine iter_rangeUnr (n := n) hh hr ?_ ?_ F N rest₀
  · have h4 : n = 0 ∨ n = 1 ∨ n = 2 ∨ n = 3 := by omega
    rcases h4 with rfl | rfl | rfl | rfl <;> decide +kernel
  · have h4 : n = 0 ∨ n = 1 ∨ n = 2 ∨ n = 3 := by omega
    rcases h4 with rfl | rfl | rfl | rfl <;> decide +kernel

end
theorem FinPA.z : True := trivial
-- PC
section
theorem StPC.z : True := by
  w_top off
  trivial
variable {w : World} {p : Program} {loose : List Str} {mean : ExcName → Option Value} {mg mb : Str → Option Value}
theorem words_31 : True := by
  k_with "call ref cons nil" => (fail_if_success (open Mine.FinPC in skip)); (k_dflt ((with_unfolding_all refine' use_c (cw_0 _ _ _ _ _ _ _ ?u142hw ?u142hh) ?u142ke ?u142ka ?u142kB ?u142kF ?u142kX ?u142kN ?u142kT ?u142hk ?u142hd ?u142hu ?_); (case u142ke => exact rfl); (case u142ka => exact rfl); (case u142kB => assumption); (case u142kF => assumption); (case u142kX => k_in); (case u142kN => assumption); (case u142kT => assumption); (case u142hw => assumption); (case u142hh => k_mem); (case u142hk => first | rfl | assumption); (case u142hd => ktr_room); (case u142hu => ktr_units); (intro qqv9 qqn9 qqh9 qqtk9 qqp9 qqF9 qqN9; obtain ⟨qqe1, qqe2⟩ := qqp9; (first | (replace qqe1 := qqe1.trans (if_pos (by assumption))) | (replace qqe1 := qqe1.trans (if_f (by assumption)))); subst qqe1; subst qqe2; (try k_sweep); (try dsimp only))))
  k_with "call ref cons nil" => (fail_if_success (open Mine.FinPC in skip)); (k_dflt ((with_unfolding_all refine' use_c (cw_1 _ _ _ _ _ _ _ _ _ _ _ ?u143hw ?u143hh ?u143h1) ?u143ke ?u143ka ?u143kB ?u143kF ?u143kX ?u143kN ?u143kT ?u143hk ?u143hd ?u143hu ?_); (case u143ke => exact rfl); (case u143ka => exact rfl); (case u143kB => assumption); (case u143kF => assumption); (case u143kX => k_in); (case u143kN => assumption); (case u143kT => assumption); (case u143hw => assumption); (case u143h1 => k_mem); (case u143hh => k_mem); (case u143hk => first | rfl | assumption); (case u143hd => ktr_room); (case u143hu => ktr_units); (intro qqv9 qqn9 qqh9 qqtk9 qqp9 qqF9 qqN9; obtain ⟨qqe1, qqe2⟩ := qqp9; (first | (replace qqe1 := qqe1.trans (if_pos (by assumption))) | (replace qqe1 := qqe1.trans (if_f (by assumption)))); subst qqe1; subst qqe2; (try k_sweep); (try dsimp only))))
  k_with "call ref cons nil" => (fail_if_success (open Mine.FinPC in skip)); (k_dflt ((with_unfolding_all refine' use_c (cw_2 _ _ _ _ _ _ _ _ _ _ _ _ _ _ _ ?u144hw ?u144hh ?u144h1 ?u144h2) ?u144ke ?u144ka ?u144kB ?u144kF ?u144kX ?u144kN ?u144kT ?u144hk ?u144hd ?u144hu ?_); (case u144ke => exact rfl); (case u144ka => exact rfl); (case u144kB => assumption); (case u144kF => assumption); (case u144kX => k_in); (case u144kN => assumption); (case u144kT => assumption); (case u144hw => assumption); (case u144h2 => k_mem); (case u144h1 => k_mem); (case u144hh => k_mem); (case u144hk => first | rfl | assumption); (case u144hd => ktr_room); (case u144hu => ktr_units); (intro qqv9 qqn9 qqh9 qqtk9 qqp9 qqF9 qqN9; obtain ⟨qqe1, qqe2⟩ := qqp9; (first | (replace qqe1 := qqe1.trans (if_pos (by assumption))) | (replace qqe1 := qqe1.trans (if_f (by assumption)))); subst qqe1; subst qqe2; (try k_sweep); (try dsimp only))))
  k_with "call ref cons nil" => (fail_if_success (open Mine.FinPC in skip)); (focus k_dflt ((with_unfolding_all refine' wound_atV ?u145ke ?u145ka ?u145kB ?u145kF ?u145kX ?u145kN ?u145kT ?u145kR ?u145kU ?u145hm ?u145hm2 ?u145hk ?u145hd ?u145hu ?_); (case u145ke => exact rfl); (case u145ka => exact rfl); (case u145kB => assumption); (case u145kF => assumption); (case u145kX => k_in); (case u145kN => assumption); (case u145kT => assumption); (case u145kU => (intro qqo'; k_upd)); (case u145kR => assumption); (case u145hm => decide); (case u145hm2 => decide); (case u145hk => first | rfl | assumption); (case u145hd => ktr_room); (case u145hu => ktr_units); (intro qqd1 qqt1 qqo1 qqh1 qqtk1 qqhd0 qqhd1 qqhR1 qqF1 qqN1; (try dsimp only at qqN1); (try k_sweep); (try dsimp only))))
  k_with "exec For Name Call cons nil" => (fail_if_success (open Mine.FinPC in skip)); ((k_here; k_dflt (refine' For_invVF ?u146F ?u146k1 ?u146k2 ?_ ?u146hs ?u146hE; (case u146F => k_asm); (case u146k1 => exact rfl); (case u146k2 => exact rfl); (case u146hs => exact fun _ => rfl); (case u146hE => first | assumption | passes_own); k_whole)))
  k_with "compareOp Eq ref ref" => (fail_if_success (open Mine.FinPC in skip)); ((k_dflt (refine' eq_same ?u147N ?u147m ?u147u ?_; (case u147N => k_asm); (case u147m => k_mem); (case u147u => ktr_units))))
  k_with "pyIter ref" => (fail_if_success (open Mine.FinPC in skip)); (refine stop_ ?_)
  trivial
noncomputable abbrev BK120 (w : World) (p : Program) (loose : List Str) (mean : ExcName → Option Value) (mg mb : Str → Option Value) := BodyK w p loose mean mg mb "_law_constant_right" (fdTop 120) 1069 (.ref 1068)
/-- some faces over a thing -/
noncomputable def FaceOn (X : List (Addr × Obj)) (a : Addr) : Nat → Addr → Prop
  | 0, b => b = a
  | n + 1, b => ∃ c t x t2, (b, tup [.str "face" t, x, .int 1 t2, .ref c]) ∈ X ∧ FaceOn X a n c
theorem FaceOn.mono {X Y : List (Addr × Obj)} {a : Addr} (s : ∀ q ∈ X, q ∈ Y) : ∀ {n : Nat} {b : Addr}, FaceOn X a n b → FaceOn Y a n b := by
  intro n
  induction n with
  | zero => exact fun h => h
  | succ n ih =>
    rintro b ⟨c, t, x, t2, h, r⟩
    exact ⟨c, t, x, t2, s _ h, ih r⟩
noncomputable abbrev st120 : Stmt := ((fdTop 120).body.drop 3).headD (.Pass ⟨0,0,0,0⟩)
theorem face_fin {g h' : Heap} {L D fc b rl I : Addr} {t t2 : Tok} {it o : Obj} {X : List (Addr × Obj)} (N : News g L h' ((D, tup [.str "face" t, .ref fc, .int 1 t2, .ref b]) :: (I, it) :: (rl, o) :: X)) : News g L h' ((I, it) :: (rl, o) :: ([(D, tup [.str "face" t, .ref fc, .int 1 t2, .ref b])] ++ X)) := by
  intro q hq
  refine N q ?_
  simp only [List.mem_cons, List.mem_append, List.not_mem_nil, or_false] at hq ⊢
  rcases hq with e | e | e | e
  · exact .inr (.inl e)
  · exact .inr (.inr (.inl e))
  · exact .inl e
  · exact .inr (.inr (.inr e))
theorem const_turn (rl a fc b : Addr) (j : Nat) (I : Addr) (it : Obj) (X : List (Addr × Obj)) (L : Addr) (m : Str → Option Value) (o : Obj) (hb : FaceOn X a j b) (m2 : m "face" = some (.ref fc)) (m3 : m "made" = some (.ref b)) {dp un : Nat} {gd : Option (List Code)} {outer : List Env} {A₀ : Around} {base g : Heap} {s : Shared} {Q : Flow → Shared → Prop} {E : Value → Shared → Prop}
    (B : Below A₀ base outer g) (F : Fr g L s.heap m) (XG : (Mine.Kb w.params).In g) (N : News g L s.heap ((I, it) :: (rl, o) :: X)) (T : Top p loose mean mg mb g) (hd : dp + 14 < recursionLimit) (hu : un + 8 * 14 < cLine)
    (hret : ∀ m' own b' h' tk', FaceOn (own ++ X) a (j + 1) b' → m' "made" = some (.ref b') → (∀ y : Str, y ≠ "made" → m' y = m y) → (∀ q ∈ own, ∀ r ∈ (I, it) :: (rl, o) :: X, r.1 < q.1) → Fr g L h' m' → News g L h' ((I, it) :: (rl, o) :: (own ++ X)) → Q .next { s with heap := h', toks := tk' }) :
    wpAny (model pw' w) (ktrTop dp un gd "_law_constant_right" (fdTop 120).scope L 1069 (.ref 1068) [] outer) (execs (forB st120) (envX "_law_constant_right" (fdTop 120).scope L 1069 (.ref 1068) [])) Q E s := by
  k_dflt (show wpAny _ _ (execs (List.cons _ _) _) _ _ _)
  k_steps
  rename News _ _ _ _ => N9
  rename Fr _ _ _ _ => F9
  refine' hret _ [(_, _)] _ _ _ ⟨_, _, _, _, .head _, hb.mono (fun q hq => .tail _ hq)⟩ ?z1 ?z2 ?z3 F9 ?zn
  case z1 => rfl
  case z2 => exact fun y hy => if_neg hy
  case z3 => intro q hq r hr; rw [List.mem_singleton.mp hq]; revert r; assumption
  case zn => exact face_fin N9
section
variable {dp un : Nat} {gd : Option (List Code)} {outer : List Env} {A₀ : Around} {base g : Heap} {s : Shared} {Q : Flow → Shared → Prop} {E : Value → Shared → Prop} {L : Addr}
theorem const_loop (rl a fc I : Addr) (o : Obj) (n : Nat) (B : Below A₀ base outer g) (XG : (Mine.Kb w.params).In g) (T : Top p loose mean mg mb g) (hd : dp + 14 < recursionLimit) (hu : un + 8 * 14 < cLine) (hI : @Ne Nat rl I) :
    ∀ (k i j : Nat) (X : List (Addr × Obj)) (b : Addr) (m : Str → Option Value), FaceOn X a j b → m "face" = some (.ref fc) → m "made" = some (.ref b) → m "inner" = some (.ref a) → (∀ q ∈ X, q.1 ≠ I) → (∀ q ∈ X, q.1 ≠ rl) →
      (∀ m' X' b' h' tk', (∀ q ∈ X, q ∈ X') → FaceOn X' a (j + k) b' → m' "made" = some (.ref b') → m' "inner" = some (.ref a) → (∀ q ∈ X', q.1 ≠ rl) → Fr g L h' m' → News g L h' ((rl, o) :: X') → Q .next { s with heap := h', toks := tk' }) →
      RangeRest pw' w (ktrTop dp un gd "_law_constant_right" (fdTop 120).scope L 1069 (.ref 1068) [] outer) E g (envX "_law_constant_right" (fdTop 120).scope L 1069 (.ref 1068) []) "turn" (forB st120) Q s I 0 n k i m ((rl, o) :: X) := by
  intro k
  induction k with
  | zero =>
    intro i j X b m hb m1 m2 m3 hX hr hret
    exact fun h tk F N => hret m X b h tk (fun _ h => h) hb m2 m3 hr F N
  | succ k ih =>
    intro i j X b m hb m1 m2 m3 hX hr hret
    refine RangeRest.succ fun t h tk F N => ?_
    refine const_turn rl a fc b j I _ X L (fun y => if y = "turn" then some (.int (0 + (i : Int)) t) else m y) o hb ((if_neg (by decide)).trans m1) ((if_neg (by decide)).trans m2) B F XG N T hd hu ?_
    intro m' own b' h' tk' hb' e1 e2 hl F' N'
    have hl1 : ∀ q ∈ own, q.1 ≠ I := fun q hq => Nat.ne_of_gt (hl q hq _ (.head _))
    have hl2 : ∀ q ∈ own, q.1 ≠ rl := fun q hq => Nat.ne_of_gt (hl q hq _ (.tail _ (.head _)))
    refine ⟨h', tk', m', (rl, o) :: (own ++ X), rfl, F', N', ?_, ?_⟩
    · intro q hq
      rcases List.mem_cons.mp hq with rfl | hq
      · exact hI
      · exact (List.mem_append.mp hq).elim (hl1 q) (hX q)
    · refine ih (i + 1) (j + 1) (own ++ X) b' m' hb' ((e2 "face" (by decide)).trans ((if_neg (by decide)).trans m1)) e1 ((e2 "inner" (by decide)).trans ((if_neg (by decide)).trans m3)) (fun q hq => (List.mem_append.mp hq).elim (hl1 q) (hX q)) (fun q hq => (List.mem_append.mp hq).elim (hl2 q) (hr q)) ?_
      intro m2' X' b2 h2 tk2 hs hf
      rw [Nat.add_assoc, Nat.add_comm 1 k] at hf
      exact hret m2' X' b2 h2 tk2 (fun q hq => hs q (List.mem_append_right _ hq)) hf
end
theorem const_C (rl a b : Addr) (n : Nat) (hn : n < 3) (t : Tok) (w0 : Str) (x y z : Value) (o : Obj) (X : List (Addr × Obj)) (L : Addr) (m : Str → Option Value) (ho : Reel o) (hw : (w0 == "face") = false) (h : (a, tup [.str w0 t, x, y, z]) ∈ X)
    (hb : FaceOn X a n b) (m2 : m "made" = some (.ref b)) (m3 : m "inner" = some (.ref a)) (c : Bool) (hc : (w0 == "const") = c) :
    BK120 w p loose mean mg mb 4 L m X 12 (fun v n' => v = .bool true ∧ n' = X) := by
  intro dp un gd outer A₀ base g s Q E B F XG N T hd hu hE hret
  k_dflt (show wpAny _ _ (execs (List.cons _ _) _) _ _ _)
  rcases n with _ | _ | _ | n
  · cases hb
    cases c
    · k_steps
      exact hret _ _ _ _ _ ⟨rfl, rfl⟩ (by assumption) (by assumption)
    · k_steps
      exact hret _ _ _ _ _ ⟨rfl, rfl⟩ (by assumption) (by assumption)
  · obtain ⟨c1, t1, x1, t2, h1, hb⟩ := hb
    cases hb
    cases c
    · k_steps
      exact hret _ _ _ _ _ ⟨rfl, rfl⟩ (by assumption) (by assumption)
    · k_steps
      exact hret _ _ _ _ _ ⟨rfl, rfl⟩ (by assumption) (by assumption)
  · obtain ⟨c1, t1, x1, t2, h1, c2, t3, x2, t4, h2, hb⟩ := hb
    cases hb
    cases c
    · k_steps
      exact hret _ _ _ _ _ ⟨rfl, rfl⟩ (by assumption) (by assumption)
    · k_steps
      exact hret _ _ _ _ _ ⟨rfl, rfl⟩ (by assumption) (by assumption)
  · omega
theorem const_B (rl a fc : Addr) (t : Tok) (w0 : Str) (x y z : Value) (o : Obj) (X : List (Addr × Obj)) (L : Addr) (m : Str → Option Value) (ho : Reel o) (hw : (w0 == "face") = false) (h : (a, tup [.str w0 t, x, y, z]) ∈ X) (hr : ∀ q ∈ X, q.1 ≠ rl)
    (m1 : m "reel" = some (.ref rl)) (m2 : m "face" = some (.ref fc)) (m3 : m "inner" = some (.ref a)) (c : Bool) (hc : (w0 == "const") = c) :
    BK120 w p loose mean mg mb 2 L m ((rl, o) :: X) 14 (fun v n' => v = .bool true ∧ ∃ o', Reel o' ∧ n' = (rl, o') :: X) := by
  intro dp un gd outer A₀ base g s Q E B F XG N T hd hu hE hret
  k_dflt (show wpAny _ _ (execs (List.cons _ _) _) _ _ _)
  k_steps
  refine go_on ?_
  rename Fr _ _ _ _ => F9
  rename News _ _ _ _ => N9
  rename IsRange _ _ _ _ _ _ _ _ => R9
  rename (0 ≤ _) => q0
  rename (_ < (3 : Int)) => q1
  rename Reel _ => hR9
  obtain ⟨n9, rfl⟩ := Int.eq_ofNat_of_zero_le q0
  refine iter_rangeN (by omega) rfl R9 F9 N9 (fun I hI => ?_)
  refine const_loop rl a fc I _ _ B XG T hd hu (Nat.ne_of_lt (hI _ (.head _))) _ 0 0 X a _ rfl m2 rfl m3 (fun q hq => Nat.ne_of_lt (hI q (.tail _ hq))) hr ?_
  intro m' X' b' h' tk' hs hf e1 e2 hr' F' N'
  dsimp only
  refine const_C rl a b' _ ?_ t w0 x y z _ ((rl, _) :: X') L m' hR9 hw (.tail _ (hs _ h)) (hf.mono fun q hq => .tail _ hq) e1 e2 c hc dp un gd outer A₀ base g { s with heap := h', toks := tk' } Q E B F' XG N' T (by omega) (by omega) hE ?_
  · rw [Nat.zero_add]; omega
  · rintro v n' h2 tk2 m2 ⟨rfl, rfl⟩ F2 N2
    exact hret _ _ _ _ _ ⟨rfl, _, hR9, rfl⟩ F2 (fun q hq => N2 q ((List.mem_cons.mp hq).elim (fun e => e ▸ .head _) fun hq => .tail _ (hs q hq)))
theorem words_32 : True := by
  k_with "call ref cons nil" => (fail_if_success (open Mine.FinPC in skip)); (focus k_dflt ((with_unfolding_all refine' one_atV ?u149ke ?u149ka ?u149kB ?u149kF ?u149kX ?u149kN ?u149kT ?u149kR ?u149kU ?u149hsm ?u149hl0 ?u149hl1 ?u149hne ?u149hk ?u149hd ?u149hu ?_); (case u149ke => exact rfl); (case u149ka => exact rfl); (case u149kB => assumption); (case u149kF => assumption); (case u149kX => k_in); (case u149kN => assumption); (case u149kT => assumption); (case u149kU => (intro qqo'; k_upd)); (case u149kR => assumption); (case u149hsm => k_mem); (case u149hl0 => simp); (case u149hl1 => simp); (case u149hne => k_ne); (case u149hk => first | rfl | assumption); (case u149hd => ktr_room); (case u149hu => ktr_units); (intro qqv1 qqhv1 qqo1 qqh1 qqtk1 qqhR1 qqF1 qqN1; (try dsimp only at qqN1); (try k_sweep); (try dsimp only))))
  k_with "execs cons" => (fail_if_success (open Mine.FinPC in skip)); (((with_reducible show wpAny _ _ (execs (Stmt.Assign [Expr.Name (PySem.Str.ofString "made") _] _ _ :: _) _) _ _ _); refine stop_ ?_))
  k_with "hA" => (fail_if_success (open Mine.FinPC in skip)); ((refine' mem_sansA ?u151a ?u151b; (case u151a => k_dflt k_mem); (case u151b => (repeat' (first | exact List.forall_mem_nil _ | (refine' List.forall_mem_cons.mpr ⟨?_, ?_⟩))); all_goals k_dflt k_ne)))
  k_with "hs" => (fail_if_success (open Mine.FinPC in skip)); ((repeat' (first | exact sansA_sub | (refine' List.forall_mem_cons.mpr ⟨?_, ?_⟩))); all_goals k_dflt k_mem)
  trivial
noncomputable def InnerOk (l : List (Addr × Obj)) (v : Value) : Prop := ∃ a w0 t x y z, (a, tup [.str w0 t, x, y, z]) ∈ l ∧ v = .ref a ∧ (w0 == ("face" : Str)) = false
theorem inner_of {g h : Heap} {L : Addr} {l : List (Addr × Obj)} (_N : News g L h l) {vs : List Value} {v : Value} (hv : v ∈ vs) (k : ∀ u ∈ vs, InnerOk l u) : InnerOk l v := k v hv
theorem reel_ne {g h : Heap} {L a rl : Addr} {o : Obj} {vs : List Value} {l : List (Addr × Obj)} (N : News g L h l) (ho : Reel o) (m1 : (rl, o) ∈ l) (m2 : (a, tup vs) ∈ l) : a ≠ rl := by
  rintro rfl
  obtain ⟨x, y, ta, tb, n, rfl, -⟩ := ho
  have e := (N _ m1).1.symm.trans (N _ m2).1
  exact absurd (show Value.type "list" = Value.type "tuple" from congrArg Obj.cls (Option.some.inj e)) (by decide)
theorem const_right (rl : Addr) (o : Obj) (ho : Reel o) (news : List (Addr × Obj)) (h1 : ∀ q ∈ news, q.1 ≠ rl) :
    Ctr pw' w p loose mean mg mb 1069 [.ref rl] ((rl, o) :: news) 20 (fun v n' => v = .bool true ∧ ∃ o', Reel o' ∧ n' = (rl, o') :: news) := by
  intro dp un gd cn cs ad ccd cl outer A₀ base h₀ L m s Q E B F X N T hk hd hu hret
  refine wpAny_call ?_
  first | (k_dflt ktr_enter) | fail "no way in"
  k_steps
  refine go_on ?_
  rename Fr _ _ _ _ => F9
  rename News _ _ _ _ => N9
  rename Below _ _ (_ :: _) _ => B9
  rename Reel _ => hR9
  rename (_ ∈ [_, _, _]) => hv9
  obtain ⟨a9, w9, t9, x9, y9, z9, hm9, rfl, hw9⟩ := inner_of N9 hv9 (List.forall_mem_cons.mpr ⟨⟨_, _, _, _, _, _, by k_dflt k_mem, rfl, by decide⟩, List.forall_mem_cons.mpr ⟨⟨_, _, _, _, _, _, by k_dflt k_mem, rfl, by decide⟩, List.forall_mem_cons.mpr ⟨⟨_, _, _, _, _, _, by k_dflt k_mem, rfl, by decide⟩, List.forall_mem_nil _⟩⟩⟩)
  have hn9 := reel_ne N9 hR9 (by k_dflt k_mem) hm9
  with_unfolding_all refine' bk_mono ?hs (const_B rl a9 _ _ _ _ _ _ _ (sansA [rl] _) _ _ hR9 hw9 (mem_sansA hm9 (List.forall_mem_cons.mpr ⟨hn9, List.forall_mem_nil _⟩)) (sansA_ne (.head _)) ?m1 ?m2 ?m3 _ rfl) _ _ _ _ _ _ _ { heap := _, gens := s.gens, drawn := s.drawn, toks := _, os := s.os } _ _ B9 F9 ?X N9 ?T ?hd ?hu ?hE ?hret
  case m1 => rfl
  case m2 => rfl
  case m3 => rfl
  case X => k_in
  case T => assumption
  case hd => ktr_room
  case hu => ktr_units
  case hE => passes_own
  case hs => walk_at "hs"
  case hret =>
    rintro v n' h' tk' m' ⟨rfl, o', hR, rfl⟩ F1 N1
    k_steps
    rename News h₀ L _ _ => N8
    refine' hret _ _ _ _ ⟨rfl, o', hR, rfl⟩ ?zF (fun q hq => N8 q ?zn)
    case zF => assumption
    case zn =>
      rcases List.mem_cons.mp hq with rfl | hq
      · exact .head _
      · refine .tail _ (mem_sansA ?_ (List.forall_mem_cons.mpr ⟨h1 q hq, List.forall_mem_nil _⟩))
        k_extra "mm"

end
theorem FinPC.z : True := trivial
-- MX
section
theorem StMX.z : True := by
  w_top off
  trivial
open PySem PySem.W PyProof.Rows PySem.Calls
/-- keys that are texts or whole numbers -/
noncomputable def mixKind (prog : Program) (w : World) : KeyKind prog w (Str ⊕ Int) where
  is := fun k v => match k with
    | .inl x => Value.isStrOf x v
    | .inr i => Value.isInt i v
  hash := fun k => match k with
    | .inl x => hashStr w x
    | .inr i => hashInt i
  inj := fun v a b ha hb => by
    cases a <;> cases b
    · exact congrArg Sum.inl (Value.isStrOf_inj v _ _ ha hb)
    · obtain ⟨t, rfl⟩ := Value.isStrOf_shape ha; cases hb
    · obtain ⟨t, rfl⟩ := Value.isStrOf_shape hb; cases ha
    · exact congrArg Sum.inr (Value.isInt_inj v _ _ ha hb)
  byValue := fun k v h => by
    cases k
    · obtain ⟨t, rfl⟩ := Value.isStrOf_shape h; rfl
    · obtain ⟨t, rfl⟩ := Value.isInt_shape h; rfl
  pyHash := fun {A E s k v Q} hv h => by
    cases k
    · obtain ⟨t, rfl⟩ := Value.isStrOf_shape hv; exact wpAny_pyHash_str h
    · obtain ⟨t, rfl⟩ := Value.isInt_shape hv; exact wpAny_pyHash_int h
  eqBool := fun {A E s a b u v Q} hu hv h => by
    cases a <;> cases b
    · obtain ⟨t, rfl⟩ := Value.isStrOf_shape hu
      obtain ⟨t', rfl⟩ := Value.isStrOf_shape hv
      exact wpAny_eqBool_str (by simpa using h)
    · obtain ⟨t, rfl⟩ := Value.isStrOf_shape hu
      obtain ⟨t', rfl⟩ := Value.isInt_shape hv
      exact PySem.SeqAt.EqAt.str_int _ _ _ _ _ _ _ _ (by simpa using h)
    · obtain ⟨t, rfl⟩ := Value.isInt_shape hu
      obtain ⟨t', rfl⟩ := Value.isStrOf_shape hv
      exact PySem.SeqAt.EqAt.int_str _ _ _ _ _ _ _ _ (by simpa using h)
    · obtain ⟨t, rfl⟩ := Value.isInt_shape hu
      obtain ⟨t', rfl⟩ := Value.isInt_shape hv
      exact wpAny_eqBool_int (by
        have e : ∀ x y : Int, decide ((Sum.inr x : Str ⊕ Int) = .inr y) = (x == y) := fun x y => by by_cases z : x = y <;> simp [z]
        rw [e] at h
        exact h)
  «strs» := fun k x t v h => by
    cases k with
    | inl y =>
      obtain ⟨u, hu⟩ := Value.isStrOf_shape (x := y) (v := .str x t) h
      injection hu with hx
      subst hx
      cases v <;> rfl
    | inr i => cases h
section
variable {prog : Program} {w : World}
theorem pairs_mix : ∀ {es : List DictEntry} {kvs : List (Str × Value)}, Pairs (strKind prog w) es kvs → Pairs (mixKind prog w) es (kvs.map fun q => (.inl q.1, q.2)) := by
  intro es kvs h
  induction h with
  | nil => exact .nil
  | cons h1 h2 _ ih => exact .cons h1 h2 ih
theorem dict_mix {o : Obj} {kvs : List (Str × Value)} (h : o.IsDictOf (strKind prog w) kvs) : o.IsDictOf (mixKind prog w) (kvs.map fun q => (.inl q.1, q.2)) := by
  obtain ⟨es, ep, h1, h2, h3, h4, h5⟩ := h
  refine ⟨es, ep, h1, h2, fun e he => ?_, pairs_mix h4, ?_⟩
  · obtain ⟨k, a, b⟩ := h3 e he
    exact ⟨.inl k, a, b⟩
  · rw [List.map_map]
    have e : (kvs.map ((fun q : (Str ⊕ Int) × Value => q.1) ∘ fun q : Str × Value => (Sum.inl q.1, q.2))) = (kvs.map (·.1)).map Sum.inl := by rw [List.map_map]; rfl
    rw [e]
    exact List.Pairwise.map _ (fun a b n e => n (Sum.inl.inj e)) h5
theorem get_mix {A : Around} {E : Value → Shared → Prop} {s : Shared} {h₀ : Heap} {L d : Addr} {news : List (Addr × Obj)} {o : Obj} {kvs : List (Str × Value)} {i : Int} {t : Tok} {Q : Value → Shared → Prop} (N : News h₀ L s.heap news) (hp : (d, o) ∈ news) (hd : o.IsDictOf (strKind prog w) kvs) (lo : (d == sysModules) = false)
    (h : Q .none { s with toks := s.toks + 1 }) : wpAny (model prog w) A (call (.builtin "dict.get") [.ref d, .int i t]) Q E s := by
  refine kdg_get1 (knd := mixKind prog w) (k := .inr i) N hp (dict_mix hd) lo ?_ none ?_ h
  · show Value.isInt i (.int i t) = true
    simp [Value.isInt]
  · unfold valueAt
    have e : (kvs.map fun q : Str × Value => ((Sum.inl q.1 : Str ⊕ Int), q.2)).find? (fun kv => decide (kv.1 = Sum.inr i)) = none := by
      rw [List.find?_eq_none]
      intro q hq
      obtain ⟨r, -, rfl⟩ := List.mem_map.mp hq
      simp
    rw [e]
    rfl
end

end
theorem FinMX.z : True := trivial
-- SX
section
theorem StSX.z : True := by
  w_top off
  trivial
open PySem PySem.W PyProof.Rows PySem.Calls
theorem adjust_to (b n : Nat) (hb : b ≤ n) : Builtin.Slice.sliceAdjust none (some (b : Int)) 1 (n : Int) = ((0 : Int), (b : Int)) := by
  unfold Builtin.Slice.sliceAdjust
  have h1 : ¬ ((1 : Int) < 0) := by omega
  have h2 : ¬ ((b : Int) < 0) := by omega
  simp only [h1, h2, if_false]
  congr 1
  omega
theorem places_to (b : Nat) : Builtin.Slice.slicePlaces (0 : Int) (b : Int) 1 = b := by
  unfold Builtin.Slice.slicePlaces
  have h1 : (1 : Int) > 0 := by omega
  simp only [h1, if_true, Int.ediv_one]
  split <;> omega
section
variable {prog : Program} {w : World} {A : Around} {E : Value → Shared → Prop} {s : Shared}
theorem sliceApplied_to {sl : Addr} {b n : Nat} {u : Tok} {Q : Int × Int × Nat → Shared → Prop} (hs : s.heap.IsSliceOf sl .none (.int b u) .none) (hb : b ≤ n) (h : Q ((0 : Int), 1, b) s) :
    wpAny (model prog w) A (Builtin.Slice.sliceApplied (.ref sl) (pure (n : Int))) Q E s := by
  obtain ⟨os, hos, hcs, hds⟩ := id hs
  unfold Builtin.Slice.sliceApplied Builtin.Slice.sliceFields
  refine wpAny_bind (wpAny_bind (wpAny_field hos hds (x := .none) rfl (wpAny_bind (wpAny_field hos hds (x := .int b u) rfl (wpAny_bind (wpAny_field hos hds (x := .none) rfl (wpAny_pure ?_)))))))
  refine wpAny_bind (slicePart_none ?_)
  show wpAny _ _ (if ((1 : Int) == 0) = true then _ else _) _ _ s
  rw [if_neg (by decide)]
  refine wpAny_bind (slicePart_none (wpAny_bind (slicePart_int (wpAny_bind (wpAny_pure ?_)))))
  show wpAny _ _ (match Builtin.Slice.sliceAdjust none (some (b : Int)) 1 (n : Int) with | (lo, hi) => pure (lo, (1 : Int), Builtin.Slice.slicePlaces lo hi 1)) _ _ s
  rw [adjust_to b n hb]
  show wpAny _ _ (pure ((0 : Int), (1 : Int), Builtin.Slice.slicePlaces (0 : Int) (b : Int) 1)) _ _ s
  rw [places_to b]
  exact wpAny_pure h
theorem pick_to (xs : Array Value) (b : Nat) : ((List.range b).filterMap fun (k : Nat) => xs[((0 : Int) + (k : Int) * 1).toNat]?).toArray = (xs.toList.take b).toArray := by
  have e : (fun (k : Nat) => xs[((0 : Int) + (k : Int) * 1).toNat]?) = fun k => xs[0 + k]? := by
    funext k
    have : ((0 : Int) + (k : Int) * 1).toNat = 0 + k := by omega
    rw [this]
  rw [e]
  have := pick_run xs 0 b
  rw [List.filterMap_map] at this
  have e2 : ((fun x => xs[x]?) ∘ fun x => 0 + x) = fun k => xs[0 + k]? := rfl
  rw [e2] at this
  rw [this, List.drop_zero]
theorem getItem_tuple_to {t sl : Addr} {items : Array Value} {b : Nat} {u : Tok} {Q : Value → Shared → Prop} (ht : IsTup s.heap t items) (hs : s.heap.IsSliceOf sl .none (.int b u) .none) (hb : b < items.size)
    (h : Q (.ref s.heap.objs.size) { s with heap := s.heap.push { cls := .type "tuple", data := .seq (items.toList.take b).toArray } })
    (hsz : items.size ≤ sizeLine) : wpAny (model prog w) A (getItem (.ref t) (.ref sl)) Q E s := by
  have hdrop : sizeOk (.seq (items.toList.take b).toArray) := by
    show (items.toList.take b).toArray.size ≤ sizeLine
    rw [List.size_toArray, List.length_take, Array.length_toList]
    omega
  obtain ⟨os, hos, hcs, hds⟩ := id hs
  have hTs : s.TypeIs (.ref sl) "slice" := ⟨os, hos, hcs⟩
  unfold getItem
  try with_reducible refine wpAny_holding ?_
  first | refine wpAny_bind (wpAny_pure ?_) | skip
  refine wpAny_bind (wpAny_sequenceKey ht.typeIs (by decide) ?_)
  refine wpAny_bind (wpAny_callSpecial?_slot (name := Str.ofString "__getitem__") ht.typeIs slot_tuple_getitem
    (wpAny_call_entry slot_tuple_getitem ht.typeIs entry_tuple_getitem ?_ (args_tuple_getitem _ _)))
  show wpAny _ _ (Builtin.Tuple.tupleItemsOf (.ref t) >>= _) _ _ s
  refine wpAny_bind (tupleItemsOf_ ht ?_)
  refine wpAny_bind (wpAny_typeOf hTs ?_)
  rw [if_pos (by decide)]
  refine wpAny_bind (sliceApplied_to hs (Nat.le_of_lt hb) ?_)
  have hno : ¬ (((0 : Int) == 0 && (1 : Int) == 1 && b == items.size) = true) := by
    have : (b == items.size) = false := by rw [beq_eq_false_iff_ne]; omega
    rw [this]; simp
  show wpAny _ _ (if ((0 : Int) == 0 && (1 : Int) == 1 && b == items.size) = true then _ else _) _ _ s
  rw [if_neg hno, pick_to items b]
  first
    | exact wpAny_bind (m := Builtin.Tuple.tupleExact _) (wpAny_newObj_type (wpAny_pure ⟨_, rfl, wpAny_pure h⟩) hdrop)
    | exact wpAny_bind (m := Builtin.Tuple.tupleExact _) (wpAny_newObj_type (wpAny_bind (wpAny_pure (wpAny_pure ⟨_, rfl, wpAny_pure h⟩))) hdrop)
    | exact wpAny_bind (wpAny_bind (m := Builtin.Tuple.tupleExact _) (wpAny_newObj_type (wpAny_pure (wpAny_pure ⟨_, rfl, wpAny_pure h⟩)) hdrop))
    | exact wpAny_bind (wpAny_bind (m := Builtin.Tuple.tupleExact _) (wpAny_newObj_type (wpAny_pure ⟨_, rfl, wpAny_pure h⟩) hdrop))
variable {h₀ : Heap} {L : Addr} {m : Str → Option Value} {news : List (Addr × Obj)}
theorem slice_to {value slice : Expr} {t : Addr} {vs : List Value} {b n : Nat} {u : Tok} {Q : Value → Shared → Prop}
    (F : Fr h₀ L s.heap m) (N : News h₀ L s.heap news) (hm : (t, ({ cls := .type "tuple", data := .seq vs.toArray n } : Obj)) ∈ news) (hb : b < vs.length) (hsz : vs.length ≤ 10)
    (hs : subscripted slice false (.ref t) (.ref s.heap.objs.size) = operate [.ref s.heap.objs.size, .ref t] (getItem (.ref t) (.ref s.heap.objs.size)))
    (hg : ∀ r, letTemporaryGo value (.ref t) r = pure ())
    (h : ∀ D h', Fr h₀ L h' m → News h₀ L h' ((D, Mine.tup (vs.take b)) :: news) → (∀ p ∈ news, p.1 < D) → Q (.ref D) { s with heap := h' }) :
    wpAny (model prog w) A (subscriptTail value slice (.ref t) (.ref s.heap.objs.size)) Q E { s with heap := s.heap.push { cls := .type "slice", data := .fields #[.none, .int b u, .none] } } := by
  have ht : IsTup s.heap t vs.toArray := News.isTup N hm
  have ht' : IsTup (s.heap.push { cls := .type "slice", data := .fields #[.none, .int b u, .none] }) t vs.toArray := ht.keeps fun _ _ e => Heap.get?_push_of_some _ e
  refine subscriptTail_ops (s := { s with heap := s.heap.push { cls := .type "slice", data := .fields #[.none, .int b u, .none] } }) ht'.typeIs slot_tuple_getitem.lookup
    (getItem_tuple_to ht' (Heap.IsSliceOf.new ..) (by rw [List.size_toArray]; exact hb) ?_ (by rw [List.size_toArray, sizeLine_eq]; omega)) hs hg
  have N1 := News.push (F.push { cls := .type "slice", data := .fields #[.none, .int b u, .none] }) (N.grown fun _ _ e => Heap.get?_push_of_some _ e) { cls := .type "tuple", data := .seq (vs.toArray.toList.take b).toArray }
  rw [Heap.size_push] at N1
  show Q (.ref (s.heap.push _).objs.size) _
  rw [Heap.size_push]
  exact h _ _ ((F.push _).push _) N1 fun p hp => Nat.lt_succ_of_lt (Heap.lt_size (N p hp).1)
theorem slice_from {value slice : Expr} {t : Addr} {vs : List Value} {a n : Nat} {u : Tok} {Q : Value → Shared → Prop}
    (F : Fr h₀ L s.heap m) (N : News h₀ L s.heap news) (hm : (t, ({ cls := .type "tuple", data := .seq vs.toArray n } : Obj)) ∈ news) (h1 : 1 ≤ a) (ha : a ≤ vs.length) (hsz : vs.length ≤ 10)
    (hs : subscripted slice false (.ref t) (.ref s.heap.objs.size) = operate [.ref s.heap.objs.size, .ref t] (getItem (.ref t) (.ref s.heap.objs.size)))
    (hg : ∀ r, letTemporaryGo value (.ref t) r = pure ())
    (h : ∀ D h', Fr h₀ L h' m → News h₀ L h' ((D, Mine.tup (vs.drop a)) :: news) → (∀ p ∈ news, p.1 < D) → Q (.ref D) { s with heap := h' }) :
    wpAny (model prog w) A (subscriptTail value slice (.ref t) (.ref s.heap.objs.size)) Q E { s with heap := s.heap.push { cls := .type "slice", data := .fields #[.int a u, .none, .none] } } :=
  slice_tuple_from F N (News.isTup N hm) h1 (by rw [List.size_toArray]; exact ha) (fun h' F' N' => h _ h' F' N' fun p hp => Nat.lt_succ_of_lt (Heap.lt_size (N p hp).1)) hs hg (by rw [List.size_toArray, sizeLine_eq]; omega)
end

end
theorem FinSX.z : True := trivial
-- TO
section
theorem StTO.z : True := by
  w_top off
  trivial
variable {w : World} {p : Program} {loose : List Str} {mean : ExcName → Option Value} {mg mb : Str → Option Value}
/-- a turn, closed -/
structure T55 (w : World) (p : Program) (loose : List Str) (mean : ExcName → Option Value) (mg mb : Str → Option Value) (i : Nat) (L : Addr) (m : Str → Option Value) (news : List (Addr × Obj)) (k : Nat) (Post : (Str → Option Value) → List (Addr × Obj) → Prop) : Prop where
  go : Turn55 w p loose mean mg mb i L m news k Post
theorem words_33 : True := by
  k_with "execs cons" => (fail_if_success (open Mine.FinTO in skip)); (((with_reducible show wpAny _ _ (execs (Stmt.If _ _ _ _ :: _) _) _ _ _); refine stop_ ?_))
  k_with "call builtin:dict.get cons nil" => (fail_if_success (open Mine.FinTO in skip)); (((with_reducible show wpAny _ _ (call (Value.builtin _) [Value.ref _, Value.int _ _]) _ _ _); k_dflt (refine' get_mix ?u154N ?u154m ?u154d ?u154l ?_; (case u154N => k_asm); (case u154m => k_mem); (case u154d => k_asm); (case u154l => k_asm))))
  trivial
section
variable {dv rv kv : Value} {sp kk : Int} {t1 t2 : Tok} {fl rl rwl : Addr} {o oR : Obj} {fs xs : List Value} {nf nx : Nat} {I : Addr} {oI : Obj} {own X : List (Addr × Obj)} {L : Addr} {m : Str → Option Value}
theorem lt_Pnon (r : R54) (ho : Reel o) (hD : DueIs X r dv) (hr : ∀ ns, r = .ok ns → IntsAre fs ns) (m1 : m "key" = some .none) (m3 : m "due" = some dv) (m4 : m "found" = some (.ref fl)) (m5 : m "spot" = some (.int sp t1))
    (hz : fs.toArray.size ≤ sizeLine) (hI : @Ne Nat I fl) (hrl : @Ne Nat rl fl) (hrw : @Ne Nat rwl fl) (hX : ∀ q ∈ X, q.1 ≠ fl) (hown : ∀ p ∈ own, ∀ q ∈ Z55 fl rl rwl o fs xs nf nx I oI X, q.1 < p.1) (hrow : RowIs own sp .non rv) :
    T55 w p loose mean mg mb 2 L m ((I, oI) :: (fl, W.listOf fs.toArray nf) :: (rl, o) :: (rwl, W.listOf (xs ++ [rv]).toArray (nx + 1)) :: (own ++ X)) 16 (PostAB m fl rl rwl o fs xs nf nx I oI X sp .non r) := by
  refine ⟨?_⟩
  intro dp un gd outer A₀ base g s Q E B F XG N T hdp hu hret
  k_dflt (show wpAny _ _ (execs (List.cons _ _) _) _ _ _)
  k_steps
  refine go_on ?_
  rename News _ _ _ _ => N9
  rename Fr _ _ _ _ => F9
  with_unfolding_all refine' t55_mono ?hs (lt_fin (own := own) (rv := rv) (kv := .none) (pv := .none) (t1 := t1) .non r ho trivial hD hr rfl rfl ?m1 ?m2 ?m3 ?m4 ?m5 ?hm hz hI hrl hrw hX hown hrow) dp un gd outer A₀ base g { heap := _, gens := s.gens, drawn := s.drawn, toks := _, os := s.os } Q E B F9 XG N9 T hdp hu hret
  case m1 => exact m1
  case m2 => rfl
  case m3 => exact m3
  case m4 => exact m4
  case m5 => exact m5
  case hm => exact fun y hy => if_neg hy
  case hs => k_extra "sub"
theorem lt_Pnum (r : R54) {a : Addr} {u1 u2 u3 : Tok} (ho : Reel o) (hD : DueIs X r dv) (hr : ∀ ns, r = .ok ns → IntsAre fs ns) (m1 : m "key" = some (.ref a)) (ha : (a, tup [.str "int" u1, .int 0 u2, .int 2 u3]) ∈ X) (m3 : m "due" = some dv) (m4 : m "found" = some (.ref fl)) (m5 : m "spot" = some (.int sp t1))
    (hz : fs.toArray.size ≤ sizeLine) (hI : @Ne Nat I fl) (hrl : @Ne Nat rl fl) (hrw : @Ne Nat rwl fl) (hX : ∀ q ∈ X, q.1 ≠ fl) (hown : ∀ p ∈ own, ∀ q ∈ Z55 fl rl rwl o fs xs nf nx I oI X, q.1 < p.1) (hrow : RowIs own sp .num rv) :
    T55 w p loose mean mg mb 2 L m ((I, oI) :: (fl, W.listOf fs.toArray nf) :: (rl, o) :: (rwl, W.listOf (xs ++ [rv]).toArray (nx + 1)) :: (own ++ X)) 16 (PostAB m fl rl rwl o fs xs nf nx I oI X sp .num r) := by
  refine ⟨?_⟩
  intro dp un gd outer A₀ base g s Q E B F XG N T hdp hu hret
  k_dflt (show wpAny _ _ (execs (List.cons _ _) _) _ _ _)
  k_steps
  refine go_on ?_
  rename News _ _ _ _ => N9
  rename Fr _ _ _ _ => F9
  with_unfolding_all refine' t55_mono ?hs (lt_fin (own := own) (rv := rv) (kv := (.ref a)) (pv := .none) (t1 := t1) .num r ho trivial hD hr ⟨a, u1, u2, u3, rfl, ha⟩ rfl ?m1 ?m2 ?m3 ?m4 ?m5 ?hm hz hI hrl hrw hX hown hrow) dp un gd outer A₀ base g { heap := _, gens := s.gens, drawn := s.drawn, toks := _, os := s.os } Q E B F9 XG N9 T hdp hu hret
  case m1 => exact m1
  case m2 => rfl
  case m3 => exact m3
  case m4 => exact m4
  case m5 => exact m5
  case hm => exact fun y hy => if_neg hy
  case hs => k_extra "sub"
theorem lt_P0 (r : R54) {a : Addr} {u1 u2 u3 : Tok} (ho : Reel o) (hD : DueIs X r dv) (hr : ∀ ns, r = .ok ns → IntsAre fs ns) (m1 : m "key" = some (.ref a)) (ha : (a, tup [.str "name" u1, .int 0 u2, .str "a" u3]) ∈ X) (m3 : m "due" = some dv) (m4 : m "found" = some (.ref fl)) (m5 : m "spot" = some (.int sp t1))
    (hz : fs.toArray.size ≤ sizeLine) (hI : @Ne Nat I fl) (hrl : @Ne Nat rl fl) (hrw : @Ne Nat rwl fl) (hX : ∀ q ∈ X, q.1 ≠ fl) (hown : ∀ p ∈ own, ∀ q ∈ Z55 fl rl rwl o fs xs nf nx I oI X, q.1 < p.1) (hrow : RowIs own sp (.nm "a") rv) :
    T55 w p loose mean mg mb 2 L m ((I, oI) :: (fl, W.listOf fs.toArray nf) :: (rl, o) :: (rwl, W.listOf (xs ++ [rv]).toArray (nx + 1)) :: (own ++ X)) 16 (PostAB m fl rl rwl o fs xs nf nx I oI X sp (.nm "a") r) := by
  refine ⟨?_⟩
  intro dp un gd outer A₀ base g s Q E B F XG N T hdp hu hret
  k_dflt (show wpAny _ _ (execs (List.cons _ _) _) _ _ _)
  k_steps
  refine go_on ?_
  rename News _ _ _ _ => N9
  rename Fr _ _ _ _ => F9
  with_unfolding_all refine' t55_mono ?hs (lt_fin (own := own) (rv := rv) (kv := (.ref a)) (pv := (.int 0 _)) (t1 := t1) (.nm "a") r ho (.inl rfl) hD hr ⟨a, u1, u2, u3, rfl, ha⟩ ⟨_, rfl⟩ ?m1 ?m2 ?m3 ?m4 ?m5 ?hm hz hI hrl hrw hX hown hrow) dp un gd outer A₀ base g { heap := _, gens := s.gens, drawn := s.drawn, toks := _, os := s.os } Q E B F9 XG N9 T hdp hu hret
  case m1 => exact m1
  case m2 => rfl
  case m3 => exact m3
  case m4 => exact m4
  case m5 => exact m5
  case hm => exact fun y hy => if_neg hy
  case hs => k_extra "sub"
theorem lt_P1 (r : R54) {a : Addr} {u1 u2 u3 : Tok} (ho : Reel o) (hD : DueIs X r dv) (hr : ∀ ns, r = .ok ns → IntsAre fs ns) (m1 : m "key" = some (.ref a)) (ha : (a, tup [.str "name" u1, .int 0 u2, .str "B" u3]) ∈ X) (m3 : m "due" = some dv) (m4 : m "found" = some (.ref fl)) (m5 : m "spot" = some (.int sp t1))
    (hz : fs.toArray.size ≤ sizeLine) (hI : @Ne Nat I fl) (hrl : @Ne Nat rl fl) (hrw : @Ne Nat rwl fl) (hX : ∀ q ∈ X, q.1 ≠ fl) (hown : ∀ p ∈ own, ∀ q ∈ Z55 fl rl rwl o fs xs nf nx I oI X, q.1 < p.1) (hrow : RowIs own sp (.nm "B") rv) :
    T55 w p loose mean mg mb 2 L m ((I, oI) :: (fl, W.listOf fs.toArray nf) :: (rl, o) :: (rwl, W.listOf (xs ++ [rv]).toArray (nx + 1)) :: (own ++ X)) 16 (PostAB m fl rl rwl o fs xs nf nx I oI X sp (.nm "B") r) := by
  refine ⟨?_⟩
  intro dp un gd outer A₀ base g s Q E B F XG N T hdp hu hret
  k_dflt (show wpAny _ _ (execs (List.cons _ _) _) _ _ _)
  k_steps
  refine go_on ?_
  rename News _ _ _ _ => N9
  rename Fr _ _ _ _ => F9
  with_unfolding_all refine' t55_mono ?hs (lt_fin (own := own) (rv := rv) (kv := (.ref a)) (pv := (.int 2 _)) (t1 := t1) (.nm "B") r ho (.inr (.inl rfl)) hD hr ⟨a, u1, u2, u3, rfl, ha⟩ ⟨_, rfl⟩ ?m1 ?m2 ?m3 ?m4 ?m5 ?hm hz hI hrl hrw hX hown hrow) dp un gd outer A₀ base g { heap := _, gens := s.gens, drawn := s.drawn, toks := _, os := s.os } Q E B F9 XG N9 T hdp hu hret
  case m1 => exact m1
  case m2 => rfl
  case m3 => exact m3
  case m4 => exact m4
  case m5 => exact m5
  case hm => exact fun y hy => if_neg hy
  case hs => k_extra "sub"
theorem lt_P2 (r : R54) {a : Addr} {u1 u2 u3 : Tok} (ho : Reel o) (hD : DueIs X r dv) (hr : ∀ ns, r = .ok ns → IntsAre fs ns) (m1 : m "key" = some (.ref a)) (ha : (a, tup [.str "name" u1, .int 0 u2, .str "T" u3]) ∈ X) (m3 : m "due" = some dv) (m4 : m "found" = some (.ref fl)) (m5 : m "spot" = some (.int sp t1))
    (hz : fs.toArray.size ≤ sizeLine) (hI : @Ne Nat I fl) (hrl : @Ne Nat rl fl) (hrw : @Ne Nat rwl fl) (hX : ∀ q ∈ X, q.1 ≠ fl) (hown : ∀ p ∈ own, ∀ q ∈ Z55 fl rl rwl o fs xs nf nx I oI X, q.1 < p.1) (hrow : RowIs own sp (.nm "T") rv) :
    T55 w p loose mean mg mb 2 L m ((I, oI) :: (fl, W.listOf fs.toArray nf) :: (rl, o) :: (rwl, W.listOf (xs ++ [rv]).toArray (nx + 1)) :: (own ++ X)) 16 (PostAB m fl rl rwl o fs xs nf nx I oI X sp (.nm "T") r) := by
  refine ⟨?_⟩
  intro dp un gd outer A₀ base g s Q E B F XG N T hdp hu hret
  k_dflt (show wpAny _ _ (execs (List.cons _ _) _) _ _ _)
  k_steps
  refine go_on ?_
  rename News _ _ _ _ => N9
  rename Fr _ _ _ _ => F9
  with_unfolding_all refine' t55_mono ?hs (lt_fin (own := own) (rv := rv) (kv := (.ref a)) (pv := (.int 3 _)) (t1 := t1) (.nm "T") r ho (.inr (.inr (.inl rfl))) hD hr ⟨a, u1, u2, u3, rfl, ha⟩ ⟨_, rfl⟩ ?m1 ?m2 ?m3 ?m4 ?m5 ?hm hz hI hrl hrw hX hown hrow) dp un gd outer A₀ base g { heap := _, gens := s.gens, drawn := s.drawn, toks := _, os := s.os } Q E B F9 XG N9 T hdp hu hret
  case m1 => exact m1
  case m2 => rfl
  case m3 => exact m3
  case m4 => exact m4
  case m5 => exact m5
  case hm => exact fun y hy => if_neg hy
  case hs => k_extra "sub"
theorem lt_P3 (r : R54) {a : Addr} {u1 u2 u3 : Tok} (ho : Reel o) (hD : DueIs X r dv) (hr : ∀ ns, r = .ok ns → IntsAre fs ns) (m1 : m "key" = some (.ref a)) (ha : (a, tup [.str "name" u1, .int 0 u2, .str "_" u3]) ∈ X) (m3 : m "due" = some dv) (m4 : m "found" = some (.ref fl)) (m5 : m "spot" = some (.int sp t1))
    (hz : fs.toArray.size ≤ sizeLine) (hI : @Ne Nat I fl) (hrl : @Ne Nat rl fl) (hrw : @Ne Nat rwl fl) (hX : ∀ q ∈ X, q.1 ≠ fl) (hown : ∀ p ∈ own, ∀ q ∈ Z55 fl rl rwl o fs xs nf nx I oI X, q.1 < p.1) (hrow : RowIs own sp (.nm "_") rv) :
    T55 w p loose mean mg mb 2 L m ((I, oI) :: (fl, W.listOf fs.toArray nf) :: (rl, o) :: (rwl, W.listOf (xs ++ [rv]).toArray (nx + 1)) :: (own ++ X)) 16 (PostAB m fl rl rwl o fs xs nf nx I oI X sp (.nm "_") r) := by
  refine ⟨?_⟩
  intro dp un gd outer A₀ base g s Q E B F XG N T hdp hu hret
  k_dflt (show wpAny _ _ (execs (List.cons _ _) _) _ _ _)
  k_steps
  refine go_on ?_
  rename News _ _ _ _ => N9
  rename Fr _ _ _ _ => F9
  with_unfolding_all refine' t55_mono ?hs (lt_fin (own := own) (rv := rv) (kv := (.ref a)) (pv := .none) (t1 := t1) (.nm "_") r ho (.inr (.inr (.inr (.inl rfl)))) hD hr ⟨a, u1, u2, u3, rfl, ha⟩ rfl ?m1 ?m2 ?m3 ?m4 ?m5 ?hm hz hI hrl hrw hX hown hrow) dp un gd outer A₀ base g { heap := _, gens := s.gens, drawn := s.drawn, toks := _, os := s.os } Q E B F9 XG N9 T hdp hu hret
  case m1 => exact m1
  case m2 => rfl
  case m3 => exact m3
  case m4 => exact m4
  case m5 => exact m5
  case hm => exact fun y hy => if_neg hy
  case hs => k_extra "sub"
theorem lt_P4 (r : R54) {a : Addr} {u1 u2 u3 : Tok} (ho : Reel o) (hD : DueIs X r dv) (hr : ∀ ns, r = .ok ns → IntsAre fs ns) (m1 : m "key" = some (.ref a)) (ha : (a, tup [.str "name" u1, .int 0 u2, .str "z" u3]) ∈ X) (m3 : m "due" = some dv) (m4 : m "found" = some (.ref fl)) (m5 : m "spot" = some (.int sp t1))
    (hz : fs.toArray.size ≤ sizeLine) (hI : @Ne Nat I fl) (hrl : @Ne Nat rl fl) (hrw : @Ne Nat rwl fl) (hX : ∀ q ∈ X, q.1 ≠ fl) (hown : ∀ p ∈ own, ∀ q ∈ Z55 fl rl rwl o fs xs nf nx I oI X, q.1 < p.1) (hrow : RowIs own sp (.nm "z") rv) :
    T55 w p loose mean mg mb 2 L m ((I, oI) :: (fl, W.listOf fs.toArray nf) :: (rl, o) :: (rwl, W.listOf (xs ++ [rv]).toArray (nx + 1)) :: (own ++ X)) 16 (PostAB m fl rl rwl o fs xs nf nx I oI X sp (.nm "z") r) := by
  refine ⟨?_⟩
  intro dp un gd outer A₀ base g s Q E B F XG N T hdp hu hret
  k_dflt (show wpAny _ _ (execs (List.cons _ _) _) _ _ _)
  k_steps
  refine go_on ?_
  rename News _ _ _ _ => N9
  rename Fr _ _ _ _ => F9
  with_unfolding_all refine' t55_mono ?hs (lt_fin (own := own) (rv := rv) (kv := (.ref a)) (pv := .none) (t1 := t1) (.nm "z") r ho (.inr (.inr (.inr (.inr rfl)))) hD hr ⟨a, u1, u2, u3, rfl, ha⟩ rfl ?m1 ?m2 ?m3 ?m4 ?m5 ?hm hz hI hrl hrw hX hown hrow) dp un gd outer A₀ base g { heap := _, gens := s.gens, drawn := s.drawn, toks := _, os := s.os } Q E B F9 XG N9 T hdp hu hret
  case m1 => exact m1
  case m2 => rfl
  case m3 => exact m3
  case m4 => exact m4
  case m5 => exact m5
  case hm => exact fun y hy => if_neg hy
  case hs => k_extra "sub"
end

end
theorem FinTO.z : True := trivial
-- TQ
section
theorem StTQ.z : True := by
  w_top off
  trivial
variable {w : World} {p : Program} {loose : List Str} {mean : ExcName → Option Value} {mg mb : Str → Option Value}
theorem words_34 : True := by
  k_with "execs cons" => (fail_if_success (open Mine.FinTQ in skip)); (((with_reducible show wpAny _ _ (execs (Stmt.Assign [Expr.Name (PySem.Str.ofString "place") _] _ _ :: _) _) _ _ _); refine stop_ ?_))
  k_with "subscriptTail Name Slice ref ref" => (fail_if_success (open Mine.FinTQ in skip)); ((k_here; k_dflt (first | (refine' slice_to (b := 1) ?u156F ?u156N ?u156m ?u156b ?u156z ?u156s ?u156t ?_; (case u156F => k_asm); (case u156N => k_asm); (case u156m => k_mem); (case u156b => exact Nat.le_of_ble_eq_true rfl); (case u156z => exact Nat.le_of_ble_eq_true rfl); (case u156s => with_unfolding_all rfl); (case u156t => kmk_pure)) | (refine' slice_from (a := 2) ?u156F ?u156N ?u156m ?u156b ?u156c ?u156z ?u156s ?u156t ?_; (case u156F => k_asm); (case u156N => k_asm); (case u156m => k_mem); (case u156b => exact Nat.le_of_ble_eq_true rfl); (case u156c => exact Nat.le_of_ble_eq_true rfl); (case u156z => exact Nat.le_of_ble_eq_true rfl); (case u156s => with_unfolding_all rfl); (case u156t => kmk_pure))); intro qqD' qqh' qqF' qqN' qql1; (try dsimp only [List.take, List.drop] at qqN'); (try k_sweep)))
  k_with "call builtin:list.append cons nil" => (fail_if_success (open Mine.FinTQ in skip)); ((k_dflt (refine' append_K ?u157k1 ?u157k2 ?u157k3 ?_ ?u157z; (case u157k1 => k_asm); (case u157k2 => k_asm); (case u157k3 => k_upd); (case u157z => assumption)); intro qqh' qqF' qqN'; (try k_sweep)))
  trivial
section
variable {dv rv kv : Value} {sp kk : Int} {t1 t2 : Tok} {fl rl rwl : Addr} {o oR : Obj} {fs xs : List Value} {nf nx : Nat} {I : Addr} {oI : Obj} {own X : List (Addr × Obj)} {L : Addr} {m : Str → Option Value}
theorem t55_use {i : Nat} {L : Addr} {m : Str → Option Value} {news : List (Addr × Obj)} {k : Nat} {P : (Str → Option Value) → List (Addr × Obj) → Prop} (h : T55 w p loose mean mg mb i L m news k P) {dp un : Nat} {gd : Option (List Code)} {outer : List Env} {A₀ : Around} {base g : Heap} {s : Shared} {Q : Flow → Shared → Prop} {E : Value → Shared → Prop} {ss : List Stmt} (es : ss = (forB st118).drop i)
    (B : Below A₀ base outer g) (F : Fr g L s.heap m) (XG : (Mine.Kb w.params).In g) (N : News g L s.heap news) (T : Top p loose mean mg mb g) (hd : dp + k < recursionLimit) (hu : un + 8 * k < cLine)
    (hret : ∀ m' news' h' tk', P m' news' → Fr g L h' m' → News g L h' news' → Q .next { s with heap := h', toks := tk' }) :
    wpAny (model pw' w) (ktrTop dp un gd "_law_places_right" (fdTop 118).scope L 1055 (.ref 1054) (cellsFrom (L + 1) (fdTop 118).scope.names []) outer) (execs ss (envX "_law_places_right" (fdTop 118).scope L 1055 (.ref 1054) (cellsFrom (L + 1) (fdTop 118).scope.names []))) Q E s := by
  subst es
  exact h.go dp un gd outer A₀ base g s Q E B F XG N T hd hu hret
theorem R_non {g h' : Heap} {D e : Addr} {oe : Obj} (N : News g L h' ((D, tup [.none, .ref e]) :: (e, oe) :: (I, oI) :: (fl, W.listOf fs.toArray nf) :: (rl, o) :: (rwl, W.listOf (xs ++ [Value.ref D]).toArray (nx + 1)) :: X)) (l : ∀ q ∈ (e, oe) :: (I, oI) :: (fl, W.listOf fs.toArray nf) :: (rl, o) :: (rwl, W.listOf xs.toArray nx) :: X, q.1 < D) :
    News g L h' ((I, oI) :: (fl, W.listOf fs.toArray nf) :: (rl, o) :: (rwl, W.listOf (xs ++ [Value.ref D]).toArray (nx + 1)) :: ([(D, tup [.none, .ref e])] ++ X)) ∧ (∀ p ∈ [(D, tup [.none, .ref e])], ∀ q ∈ Z55 fl rl rwl o fs xs nf nx I oI X, q.1 < p.1) ∧ RowIs [(D, tup [.none, .ref e])] sp .non (.ref D) := by
  refine ⟨fun q hq => N q ?_, fun p hp q hq => ?_, ⟨D, _, _, rfl, .head _, rfl⟩⟩
  · simp only [List.mem_cons, List.mem_append, List.not_mem_nil, or_false] at hq ⊢
    rcases hq with h | h | h | h | h | h <;> simp [h]
  · rw [List.mem_singleton.mp hp]
    refine l q ?_
    simp only [List.mem_cons] at hq ⊢
    rcases hq with h | h | h | h | h <;> simp [h]
theorem R_key (c : Kd) {g h' : Heap} {D e a' d3 d4 d5 d6 : Addr} {oe oa o3 o4 o5 o6 : Obj} (N : News g L h' ((D, tup [.ref a', .ref e]) :: (e, oe) :: (a', oa) :: (d3, o3) :: (d4, o4) :: (d5, o5) :: (d6, o6) :: (I, oI) :: (fl, W.listOf fs.toArray nf) :: (rl, o) :: (rwl, W.listOf (xs ++ [Value.ref D]).toArray (nx + 1)) :: X))
    (l : ∀ q ∈ (e, oe) :: (a', oa) :: (d3, o3) :: (d4, o4) :: (d5, o5) :: (d6, o6) :: (I, oI) :: (fl, W.listOf fs.toArray nf) :: (rl, o) :: (rwl, W.listOf xs.toArray nx) :: X, q.1 < D) (l' : ∀ q ∈ (d3, o3) :: (d4, o4) :: (d5, o5) :: (d6, o6) :: (I, oI) :: (fl, W.listOf fs.toArray nf) :: (rl, o) :: (rwl, W.listOf xs.toArray nx) :: X, q.1 < a') (hk : KeyIs [(D, tup [.ref a', .ref e]), (a', oa)] sp c (.ref a')) :
    News g L h' ((I, oI) :: (fl, W.listOf fs.toArray nf) :: (rl, o) :: (rwl, W.listOf (xs ++ [Value.ref D]).toArray (nx + 1)) :: ([(D, tup [.ref a', .ref e]), (a', oa)] ++ X)) ∧ (∀ p ∈ [(D, tup [.ref a', .ref e]), (a', oa)], ∀ q ∈ Z55 fl rl rwl o fs xs nf nx I oI X, q.1 < p.1) ∧ RowIs [(D, tup [.ref a', .ref e]), (a', oa)] sp c (.ref D) := by
  refine ⟨fun q hq => N q ?_, fun p hp q hq => ?_, ⟨D, _, _, rfl, .head _, hk⟩⟩
  · simp only [List.mem_cons, List.mem_append, List.not_mem_nil, or_false] at hq ⊢
    rcases hq with h | h | h | h | (h | h) | h <;> simp [h]
  · have hm : ∀ u ∈ Z55 fl rl rwl o fs xs nf nx I oI X, u ∈ (I, oI) :: (fl, W.listOf fs.toArray nf) :: (rl, o) :: (rwl, W.listOf xs.toArray nx) :: X := fun u hu => by
      simp only [List.mem_cons] at hu ⊢
      rcases hu with h | h | h | h | h <;> simp [h]
    simp only [List.mem_cons, List.not_mem_nil, or_false] at hp
    rcases hp with rfl | rfl
    · exact l q (.tail _ (.tail _ (.tail _ (.tail _ (.tail _ (.tail _ (hm q hq)))))))
    · exact l' q (.tail _ (.tail _ (.tail _ (.tail _ (hm q hq)))))
theorem lt_Rnon (r : R54) (ho : Reel o) (hD : DueIs X r dv) (hr : ∀ ns, r = .ok ns → IntsAre fs ns) (m1 : m "key" = some .none) (mk : m "k" = some (.int kk t2)) (m3 : m "due" = some dv) (m4 : m "found" = some (.ref fl)) (m5 : m "spot" = some (.int sp t1)) (c3 : (L + 1 + 1 + 1, oR) ∈ X) (d3 : oR.data = .cell (some (.ref rwl)))
    (hz : fs.toArray.size ≤ sizeLine) (hz2 : xs.toArray.size ≤ sizeLine) (hI : @Ne Nat I fl) (hrl : @Ne Nat rl fl) (hrw : @Ne Nat rwl fl) (hX : ∀ q ∈ X, q.1 ≠ fl) (hI2 : @Ne Nat I rwl) (hrl2 : @Ne Nat rl rwl) (hX2 : ∀ q ∈ X, q.1 ≠ rwl) :
    T55 w p loose mean mg mb 1 L m ((I, oI) :: (fl, W.listOf fs.toArray nf) :: (rl, o) :: (rwl, W.listOf xs.toArray nx) :: X) 16 (PostAB m fl rl rwl o fs xs nf nx I oI X sp .non r) := by
  refine ⟨?_⟩
  intro dp un gd outer A₀ base g s Q E B F XG N T hdp hu hret
  k_dflt (show wpAny _ _ (execs (List.cons _ _) _) _ _ _)
  k_steps
  refine go_on ?_
  rename News _ _ _ _ => N9
  rename Fr _ _ _ _ => F9
  rw [List.push_toArray] at N9
  have h9 := R_non (sp := sp) N9 (by assumption)
  refine' t55_use (i := 2) (k := 16) (news := (I, oI) :: (fl, W.listOf fs.toArray nf) :: (rl, o) :: (rwl, _) :: (_ ++ X)) (P := PostAB m fl rl rwl o fs xs nf nx I oI X sp .non r) ?zh ?es ?zB ?zF ?zX ?zN ?zT ?zd ?zu ?zr
  case zN => exact h9.1
  case zF => exact F9
  case zr => exact hret
  case zB => exact B
  case zT => exact T
  case zX => exact XG
  case zd => exact hdp
  case zu => exact hu
  case es => kernel_rfl!
  exact lt_Pnon r ho hD hr m1 m3 m4 m5 hz hI hrl hrw hX h9.2.1 h9.2.2
theorem lt_Rnum (r : R54) {a : Addr} {u1 u2 u3 : Tok} (ho : Reel o) (hD : DueIs X r dv) (hr : ∀ ns, r = .ok ns → IntsAre fs ns) (m1 : m "key" = some (.ref a)) (ha : (a, tup [.str "int" u1, .int 0 u2, .int 2 u3]) ∈ X) (mk : m "k" = some (.int kk t2)) (m3 : m "due" = some dv) (m4 : m "found" = some (.ref fl)) (m5 : m "spot" = some (.int sp t1)) (c3 : (L + 1 + 1 + 1, oR) ∈ X) (d3 : oR.data = .cell (some (.ref rwl)))
    (hz : fs.toArray.size ≤ sizeLine) (hz2 : xs.toArray.size ≤ sizeLine) (hI : @Ne Nat I fl) (hrl : @Ne Nat rl fl) (hrw : @Ne Nat rwl fl) (hX : ∀ q ∈ X, q.1 ≠ fl) (hI2 : @Ne Nat I rwl) (hrl2 : @Ne Nat rl rwl) (hX2 : ∀ q ∈ X, q.1 ≠ rwl) :
    T55 w p loose mean mg mb 1 L m ((I, oI) :: (fl, W.listOf fs.toArray nf) :: (rl, o) :: (rwl, W.listOf xs.toArray nx) :: X) 16 (PostAB m fl rl rwl o fs xs nf nx I oI X sp .num r) := by
  refine ⟨?_⟩
  intro dp un gd outer A₀ base g s Q E B F XG N T hdp hu hret
  k_dflt (show wpAny _ _ (execs (List.cons _ _) _) _ _ _)
  k_steps
  refine go_on ?_
  rename News _ _ _ _ => N9
  rename Fr _ _ _ _ => F9
  rw [List.push_toArray] at N9
  have h9 := R_key (sp := sp) .num N9 (by assumption) (by assumption) ⟨_, _, _, _, rfl, .tail _ (.head _)⟩
  refine' t55_use (i := 2) (k := 16) (news := (I, oI) :: (fl, W.listOf fs.toArray nf) :: (rl, o) :: (rwl, _) :: (_ ++ X)) (P := PostAB m fl rl rwl o fs xs nf nx I oI X sp .num r) ?zh ?es ?zB ?zF ?zX ?zN ?zT ?zd ?zu ?zr
  case zN => exact h9.1
  case zF => exact F9
  case zr => exact hret
  case zB => exact B
  case zT => exact T
  case zX => exact XG
  case zd => exact hdp
  case zu => exact hu
  case es => kernel_rfl!
  exact lt_Pnum r ho hD hr m1 ha m3 m4 m5 hz hI hrl hrw hX h9.2.1 h9.2.2
theorem lt_Rnm (r : R54) {a : Addr} {u1 u2 u3 : Tok} {x : Str} (hc : Okd (.nm x)) (ho : Reel o) (hD : DueIs X r dv) (hr : ∀ ns, r = .ok ns → IntsAre fs ns) (m1 : m "key" = some (.ref a)) (ha : (a, tup [.str "name" u1, .int 0 u2, .str x u3]) ∈ X) (mk : m "k" = some (.int kk t2)) (m3 : m "due" = some dv) (m4 : m "found" = some (.ref fl)) (m5 : m "spot" = some (.int sp t1)) (c3 : (L + 1 + 1 + 1, oR) ∈ X) (d3 : oR.data = .cell (some (.ref rwl)))
    (hz : fs.toArray.size ≤ sizeLine) (hz2 : xs.toArray.size ≤ sizeLine) (hI : @Ne Nat I fl) (hrl : @Ne Nat rl fl) (hrw : @Ne Nat rwl fl) (hX : ∀ q ∈ X, q.1 ≠ fl) (hI2 : @Ne Nat I rwl) (hrl2 : @Ne Nat rl rwl) (hX2 : ∀ q ∈ X, q.1 ≠ rwl) :
    T55 w p loose mean mg mb 1 L m ((I, oI) :: (fl, W.listOf fs.toArray nf) :: (rl, o) :: (rwl, W.listOf xs.toArray nx) :: X) 16 (PostAB m fl rl rwl o fs xs nf nx I oI X sp (.nm x) r) := by
  refine ⟨?_⟩
  intro dp un gd outer A₀ base g s Q E B F XG N T hdp hu hret
  k_dflt (show wpAny _ _ (execs (List.cons _ _) _) _ _ _)
  k_steps
  refine go_on ?_
  rename News _ _ _ _ => N9
  rename Fr _ _ _ _ => F9
  rw [List.push_toArray] at N9
  have h9 := R_key (sp := sp) (.nm x) N9 (by assumption) (by assumption) ⟨_, _, _, _, rfl, .tail _ (.head _)⟩
  refine' t55_use (i := 2) (k := 16) (news := (I, oI) :: (fl, W.listOf fs.toArray nf) :: (rl, o) :: (rwl, _) :: (_ ++ X)) (P := PostAB m fl rl rwl o fs xs nf nx I oI X sp (.nm x) r) ?zh ?es ?zB ?zF ?zX ?zN ?zT ?zd ?zu ?zr
  case zN => exact h9.1
  case zF => exact F9
  case zr => exact hret
  case zB => exact B
  case zT => exact T
  case zX => exact XG
  case zd => exact hdp
  case zu => exact hu
  case es => kernel_rfl!
  clear hret F9 N9 T XG B
  have hc' : x = "a" ∨ x = "B" ∨ x = "T" ∨ x = "_" ∨ x = "z" := hc
  rcases hc' with rfl | rfl | rfl | rfl | rfl
  · exact lt_P0 r ho hD hr m1 ha m3 m4 m5 hz hI hrl hrw hX h9.2.1 h9.2.2
  · exact lt_P1 r ho hD hr m1 ha m3 m4 m5 hz hI hrl hrw hX h9.2.1 h9.2.2
  · exact lt_P2 r ho hD hr m1 ha m3 m4 m5 hz hI hrl hrw hX h9.2.1 h9.2.2
  · exact lt_P3 r ho hD hr m1 ha m3 m4 m5 hz hI hrl hrw hX h9.2.1 h9.2.2
  · exact lt_P4 r ho hD hr m1 ha m3 m4 m5 hz hI hrl hrw hX h9.2.1 h9.2.2
end

end
theorem FinTQ.z : True := trivial
-- TR
section
theorem StTR.z : True := by
  w_top off
  trivial
variable {w : World} {p : Program} {loose : List Str} {mean : ExcName → Option Value} {mg mb : Str → Option Value}
theorem words_35 : True := by
  k_with "call ref cons nil" => (fail_if_success (open Mine.FinTR in skip)); (focus k_dflt ((with_unfolding_all refine' one_atV ?u158ke ?u158ka ?u158kB ?u158kF ?u158kX ?u158kN ?u158kT ?u158kR ?u158kU ?u158hsm ?u158hl0 ?u158hl1 ?u158hne ?u158hk ?u158hd ?u158hu ?_); (case u158ke => exact rfl); (case u158ka => exact rfl); (case u158kB => assumption); (case u158kF => assumption); (case u158kX => k_in); (case u158kN => assumption); (case u158kT => assumption); (case u158kU => (intro qqo'; k_upd)); (case u158kR => assumption); (case u158hsm => k_mem); (case u158hl0 => simp); (case u158hl1 => simp); (case u158hne => k_ne); (case u158hk => first | rfl | assumption); (case u158hd => ktr_room); (case u158hu => ktr_units); (intro qqv1 qqhv1 qqo1 qqh1 qqtk1 qqhR1 qqF1 qqN1; (try dsimp only at qqN1); (try k_sweep); (try dsimp only))))
  k_with "execs cons" => (fail_if_success (open Mine.FinTR in skip)); (((with_reducible show wpAny _ _ (execs (Stmt.Expr _ _ :: _) _) _ _ _); refine stop_ ?_))
  k_with "subscriptTail Name Constant ref int" => (fail_if_success (open Mine.FinTR in skip)); ((k_dflt (refine' PyProof.Rows.item_listL (isList_of_news ?u160N ?u160m) ?u160a ?u160b ?u160c ?_; (case u160N => k_asm); (case u160m => k_mem); (case u160a => decide); (case u160b => decide); (case u160c => rfl))))
  trivial
section
variable {dv : Value} {kk : Int} {t2 : Tok} {fl rl rwl kl : Addr} {o oR : Obj} {fs xs : List Value} {nf nx nk : Nat} {I : Addr} {oI : Obj} {X : List (Addr × Obj)} {L : Addr} {m : Str → Option Value}
noncomputable def PostK (m : Str → Option Value) (fl rl rwl : Addr) (fs xs : List Value) (nf nx : Nat) (I : Addr) (oI : Obj) (X : List (Addr × Obj)) (sp : Int) (r : R54) (m' : Str → Option Value) (n' : List (Addr × Obj)) : Prop :=
  ∃ c o' m1, Okd c ∧ Reel o' ∧ (∀ y : Str, y ≠ "key" → y ≠ "spot" → m1 y = m y) ∧ PostAB m1 fl rl rwl o' fs xs nf nx I oI X sp c r m' n'
theorem K_mono {g h' : Heap} {L rl fl rwl I : Addr} {q1 q2 q3 : Addr × Obj} {o1 oI a b : Obj} {X : List (Addr × Obj)} (N : News g L h' (q1 :: q2 :: q3 :: (I, oI) :: (rl, o1) :: (fl, a) :: (rwl, b) :: X)) : News g L h' ((I, oI) :: (fl, a) :: (rl, o1) :: (rwl, b) :: X) := by
  intro q hq
  refine N q ?_
  simp only [List.mem_cons] at hq ⊢
  rcases hq with h | h | h | h | h <;> simp [h]
theorem mem8 {v k1 k2 k3 k4 k5 k6 k7 : Value} (h : v ∈ [k1, k2, k3, k4, k5, k6, k7, k1]) : v ∈ [k1, k2, k3, k4, k5, k6, k7] := by
  simp only [List.mem_cons, List.not_mem_nil, or_false] at h ⊢
  rcases h with h | h | h | h | h | h | h | h <;> simp [h]
theorem lt_K (r : R54) (k1 k2 k3 k4 k5 k6 k7 : Value) (hK : ∀ v ∈ [k1, k2, k3, k4, k5, k6, k7], ∃ c, Okd c ∧ Key0 X c v) (ho : Reel o) (hD : DueIs X r dv) (hr : ∀ ns, r = .ok ns → IntsAre fs ns) (m1 : m "reel" = some (.ref rl)) (m2 : m "keys" = some (.ref kl)) (hkl : (kl, W.listOf [k1, k2, k3, k4, k5, k6, k7].toArray nk) ∈ X) (mk : m "k" = some (.int kk t2)) (m3 : m "due" = some dv) (m4 : m "found" = some (.ref fl)) (c3 : (L + 1 + 1 + 1, oR) ∈ X) (d3 : oR.data = .cell (some (.ref rwl)))
    (hz : fs.toArray.size ≤ sizeLine) (hz2 : xs.toArray.size ≤ sizeLine) (hI : @Ne Nat I fl) (hrl : @Ne Nat rl fl) (hrw : @Ne Nat rwl fl) (hX : ∀ q ∈ X, q.1 ≠ fl) (hI2 : @Ne Nat I rwl) (hrl2 : @Ne Nat rl rwl) (hX2 : ∀ q ∈ X, q.1 ≠ rwl) (hI3 : @Ne Nat I rl) (hX3 : ∀ q ∈ X, q.1 ≠ rl) :
    T55 w p loose mean mg mb 0 L m ((I, oI) :: (rl, o) :: (fl, W.listOf fs.toArray nf) :: (rwl, W.listOf xs.toArray nx) :: X) 20 (PostK m fl rl rwl fs xs nf nx I oI X (20 + kk) r) := by
  refine ⟨?_⟩
  intro dp un gd outer A₀ base g s Q E B F XG N T hdp hu hret
  k_dflt (show wpAny _ _ (execs (List.cons _ _) _) _ _ _)
  k_steps
  refine go_on ?_
  rename News _ _ _ _ => N9
  rename Fr _ _ _ _ => F9
  rename Reel _ => hR9
  rename (_ ∈ [_, _, _, _, _, _, _, _]) => hv9
  have N8 := K_mono N9
  obtain ⟨c, hc, hk9⟩ := hK _ (mem8 hv9)
  clear hv9 N9
  cases c with
  | non =>
    cases hk9
    refine' t55_use (i := 1) (k := 16) (news := _) (P := PostAB _ fl rl rwl _ fs xs nf nx I oI X (20 + kk) .non r) ?zh1 ?es1 ?zB1 ?zF1 ?zX1 ?zN1 ?zT1 ?zd1 ?zu1 ?zr1
    case zN1 => exact N8
    case zF1 => exact F9
    case zB1 => exact B
    case zT1 => exact T
    case zX1 => exact XG
    case zd1 => ktr_room
    case zu1 => ktr_units
    case es1 => kernel_rfl!
    case zh1 =>
      refine' lt_Rnon r hR9 hD hr ?q1 ?qk ?q3 ?q4 ?q5 c3 d3 hz hz2 hI hrl hrw hX hI2 hrl2 hX2
      case q1 => rfl
      case qk => exact mk
      case q3 => exact m3
      case q4 => exact m4
      case q5 => rfl
    case zr1 => exact fun m' n' h' tk' hP F' N' => hret m' n' h' tk' ⟨.non, _, _, hc, hR9, fun y h1 h2 => (if_neg h1).trans (if_neg h2), hP⟩ F' N'
  | num =>
    obtain ⟨a9, u1, u2, u3, rfl, ha⟩ := hk9
    refine' t55_use (i := 1) (k := 16) (news := _) (P := PostAB _ fl rl rwl _ fs xs nf nx I oI X (20 + kk) .num r) ?zh2 ?es2 ?zB2 ?zF2 ?zX2 ?zN2 ?zT2 ?zd2 ?zu2 ?zr2
    case zN2 => exact N8
    case zF2 => exact F9
    case zB2 => exact B
    case zT2 => exact T
    case zX2 => exact XG
    case zd2 => ktr_room
    case zu2 => ktr_units
    case es2 => kernel_rfl!
    case zh2 =>
      refine' lt_Rnum r hR9 hD hr ?q1 ha ?qk ?q3 ?q4 ?q5 c3 d3 hz hz2 hI hrl hrw hX hI2 hrl2 hX2
      case q1 => rfl
      case qk => exact mk
      case q3 => exact m3
      case q4 => exact m4
      case q5 => rfl
    case zr2 => exact fun m' n' h' tk' hP F' N' => hret m' n' h' tk' ⟨.num, _, _, hc, hR9, fun y h1 h2 => (if_neg h1).trans (if_neg h2), hP⟩ F' N'
  | nm x =>
    obtain ⟨a9, u1, u2, u3, rfl, ha⟩ := hk9
    refine' t55_use (i := 1) (k := 16) (news := _) (P := PostAB _ fl rl rwl _ fs xs nf nx I oI X (20 + kk) (.nm x) r) ?zh3 ?es3 ?zB3 ?zF3 ?zX3 ?zN3 ?zT3 ?zd3 ?zu3 ?zr3
    case zN3 => exact N8
    case zF3 => exact F9
    case zB3 => exact B
    case zT3 => exact T
    case zX3 => exact XG
    case zd3 => ktr_room
    case zu3 => ktr_units
    case es3 => kernel_rfl!
    case zh3 =>
      refine' lt_Rnm r hc hR9 hD hr ?q1 ha ?qk ?q3 ?q4 ?q5 c3 d3 hz hz2 hI hrl hrw hX hI2 hrl2 hX2
      case q1 => rfl
      case qk => exact mk
      case q3 => exact m3
      case q4 => exact m4
      case q5 => rfl
    case zr3 => exact fun m' n' h' tk' hP F' N' => hret m' n' h' tk' ⟨(.nm x), _, _, hc, hR9, fun y h1 h2 => (if_neg h1).trans (if_neg h2), hP⟩ F' N'
end

end
theorem FinTR.z : True := trivial
-- TS
section
theorem StTS.z : True := by
  w_top off
  trivial
variable {w : World} {p : Program} {loose : List Str} {mean : ExcName → Option Value} {mg mb : Str → Option Value}
theorem rows_snoc {own X : List (Addr × Obj)} {c : Kd} {rv : Value} {sp : Int} (h : RowIs own sp c rv) : ∀ {cs : List Kd} {i : Int} {xs : List Value}, RowsAre X i cs xs → i + (cs.length : Int) = sp → RowsAre (own ++ X) i (cs ++ [c]) (xs ++ [rv])
  | [], i, xs, hx, e => by
    have hx' : xs = [] := hx
    subst hx'
    have e' : i = sp := by simpa using e
    subst e'
    obtain ⟨r, kv, ev, rfl, h1, h2⟩ := h
    exact ⟨r, kv, ev, [], rfl, List.mem_append_left _ h1, h2.mono fun q hq => List.mem_append_left _ hq, rfl⟩
  | d :: cs, i, xs, ⟨r, kv, ev, r', e1, h1, h2, h3⟩, e => by
    subst e1
    refine ⟨r, kv, ev, r' ++ [rv], rfl, List.mem_append_right _ h1, h2.mono fun q hq => List.mem_append_right _ hq, rows_snoc h h3 ?_⟩
    simp only [List.length_cons] at e
    omega
theorem Key0.mono {X Y : List (Addr × Obj)} (s : ∀ q ∈ X, q ∈ Y) : ∀ {c : Kd} {kv : Value}, Key0 X c kv → Key0 Y c kv :=
  fun {c kv} h => by
    cases c
    · exact h
    all_goals
      obtain ⟨a, t1, t2, t3, e, h⟩ := h
      exact ⟨a, t1, t2, t3, e, s _ h⟩
section
variable {dp un : Nat} {gd : Option (List Code)} {outer : List Env} {A₀ : Around} {base g : Heap} {s : Shared} {Q : Flow → Shared → Prop} {E : Value → Shared → Prop} {L : Addr}
theorem places_loop (rl fl rwl kl I : Addr) (k1 k2 k3 k4 k5 k6 k7 : Value) (nk n : Nat) (oR : Obj) (d3 : oR.data = .cell (some (.ref rwl))) (B : Below A₀ base outer g) (XG : (Mine.Kb w.params).In g) (T : Top p loose mean mg mb g) (hd : dp + 20 < recursionLimit) (hu : un + 8 * 20 < cLine)
    (hI : @Ne Nat I fl) (hI2 : @Ne Nat I rwl) (hI3 : @Ne Nat I rl) (hrl : @Ne Nat rl fl) (hrl2 : @Ne Nat rl rwl) (hrw : @Ne Nat rwl fl) :
    ∀ (k i : Nat) (cs : List Kd) (fs xs : List Value) (nf nx : Nat) (o : Obj) (dv : Value) (X : List (Addr × Obj)) (m : Str → Option Value), cs.length = i → Reel o → (∀ c ∈ cs, Okd c) → RowsAre X 20 cs xs → xs.length = i → fs.length = i → i + k ≤ 3 →
      DueIs X (res54 20 cs []) dv → (∀ ns, res54 20 cs [] = .ok ns → IntsAre fs ns) → (∀ v ∈ [k1, k2, k3, k4, k5, k6, k7], ∃ c, Okd c ∧ Key0 X c v) → (kl, W.listOf [k1, k2, k3, k4, k5, k6, k7].toArray nk) ∈ X → (L + 1 + 1 + 1, oR) ∈ X → (∀ q ∈ X, q.1 ≠ fl) → (∀ q ∈ X, q.1 ≠ rwl) → (∀ q ∈ X, q.1 ≠ rl) → (∀ q ∈ X, q.1 ≠ I) →
      m "reel" = some (.ref rl) → m "keys" = some (.ref kl) → m "due" = some dv → m "found" = some (.ref fl) →
      (∀ m' X' cs' fs' xs' nf' nx' o' dv' h' tk', (∀ q ∈ X, q ∈ X') → cs'.length = i + k → (∀ c ∈ cs', Okd c) → Reel o' → RowsAre X' 20 cs' xs' → xs'.length = i + k → fs'.length = i + k → DueIs X' (res54 20 cs' []) dv' → (∀ ns, res54 20 cs' [] = .ok ns → IntsAre fs' ns) →
        (∀ q ∈ X', q.1 ≠ fl) → (∀ q ∈ X', q.1 ≠ rwl) → (∀ q ∈ X', q.1 ≠ rl) → m' "due" = some dv' → m' "found" = some (.ref fl) → Fr g L h' m' → News g L h' ((rl, o') :: (fl, W.listOf fs'.toArray nf') :: (rwl, W.listOf xs'.toArray nx') :: X') → Q .next { s with heap := h', toks := tk' }) →
      RangeRest pw' w (ktrTop dp un gd "_law_places_right" (fdTop 118).scope L 1055 (.ref 1054) (cellsFrom (L + 1) (fdTop 118).scope.names []) outer) E g (envX "_law_places_right" (fdTop 118).scope L 1055 (.ref 1054) (cellsFrom (L + 1) (fdTop 118).scope.names [])) "k" (forB st118) Q s I 0 n k i m ((rl, o) :: (fl, W.listOf fs.toArray nf) :: (rwl, W.listOf xs.toArray nx) :: X) := by
  intro k
  induction k with
  | zero =>
    intro i cs fs xs nf nx o dv X m hl ho hc hrows hx hf hik hD hr hK hkl c3 hX hX2 hX3 hXI m1 m2 m3 m4 hret
    exact fun h tk F N => hret m X cs fs xs nf nx o dv h tk (fun _ h => h) hl hc ho hrows hx hf hD hr hX hX2 hX3 m3 m4 F N
  | succ k ih =>
    intro i cs fs xs nf nx o dv X m hl ho hc hrows hx hf hik hD hr hK hkl c3 hX hX2 hX3 hXI m1 m2 m3 m4 hret
    refine RangeRest.succ fun t h tk F N => ?_
    refine' t55_use (i := 0) (k := 20) (news := _) (P := PostK (fun y => if y = "k" then some (.int (0 + (i : Int)) t) else m y) fl rl rwl fs xs nf nx I _ X (20 + (0 + (i : Int))) (res54 20 cs [])) ?zh ?es ?zB ?zF ?zX ?zN ?zT ?zd ?zu ?zr
    case zN => exact N
    case zF => exact F
    case zB => exact B
    case zT => exact T
    case zX => exact XG
    case zd => exact hd
    case zu => exact hu
    case es => rfl
    case zh =>
      refine' lt_K _ k1 k2 k3 k4 k5 k6 k7 hK ho hD hr ?q1 ?q2 hkl ?qk ?q3 ?q4 c3 d3 ?hz ?hz2 hI hrl hrw hX hI2 hrl2 hX2 hI3 hX3
      case q1 => exact m1
      case q2 => exact m2
      case qk => rfl
      case q3 => exact m3
      case q4 => exact m4
      case hz => rw [List.size_toArray, sizeLine_eq]; omega
      case hz2 => rw [List.size_toArray, sizeLine_eq]; omega
    case zr =>
      rintro m' n' h' tk' ⟨c, o1, mm, hcc, ho1, hmm, own, rv, pv, dv', n1, n2, rfl, hown, hrow, hpv, hdue, hm', hD', hr'⟩ F' N'
      have e0 : (20 : Int) + (cs.length : Int) = 20 + (0 + (i : Int)) := by rw [hl]; omega
      have er : res54 20 (cs ++ [c]) [] = step54 (20 + (0 + (i : Int))) c (res54 20 cs []) := by rw [res54_snoc, e0]
      have up : ∀ q ∈ X, q ∈ own ++ X := fun q hq => List.mem_append_right _ hq
      have off : ∀ {a : Addr} {ob : Obj}, (a, ob) ∈ Z55 fl rl rwl o1 fs xs nf nx I (itR (0 + ((i + 1 : Nat) : Int)) ((n : Int) - ((i + 1 : Nat) : Int))) X → ∀ q ∈ own, q.1 ≠ a := fun hm q hq => Nat.ne_of_gt (hown q hq _ hm)
      have oI1 : ∀ q ∈ own, q.1 ≠ I := off (.head _)
      have orl : ∀ q ∈ own, q.1 ≠ rl := off (.tail _ (.head _))
      have ofl : ∀ q ∈ own, q.1 ≠ fl := off (.tail _ (.tail _ (.head _)))
      have orw : ∀ q ∈ own, q.1 ≠ rwl := off (.tail _ (.tail _ (.tail _ (.head _))))
      have keep : ∀ y : Str, y ≠ "due" → y ≠ "place" → y ≠ "key" → y ≠ "spot" → y ≠ "k" → m' y = m y := fun y a1 a2 a3 a4 a5 => (hm' y a1 a2).trans ((hmm y a3 a4).trans (if_neg a5))
      refine ⟨h', tk', m', (rl, o1) :: (fl, W.listOf (fs ++ [pv]).toArray n1) :: (rwl, W.listOf (xs ++ [rv]).toArray n2) :: (own ++ X), rfl, F', N', ?_, ?_⟩
      · intro q hq
        simp only [List.mem_cons, List.mem_append] at hq
        rcases hq with rfl | rfl | rfl | hq | hq
        · exact Ne.symm hI3
        · exact Ne.symm hI
        · exact Ne.symm hI2
        · exact oI1 q hq
        · exact hXI q hq
      · refine ih (i + 1) (cs ++ [c]) (fs ++ [pv]) (xs ++ [rv]) n1 n2 o1 dv' (own ++ X) m' (by simp [hl]) ho1 ?_ (rows_snoc hrow hrows e0) (by simp [hx]) (by simp [hf]) (by omega) (er ▸ hD') (er ▸ hr') (fun v hv => let ⟨c, a, b⟩ := hK v hv; ⟨c, a, b.mono up⟩) (up _ hkl) (up _ c3)
          (fun q hq => (List.mem_append.mp hq).elim (ofl q) (hX q)) (fun q hq => (List.mem_append.mp hq).elim (orw q) (hX2 q)) (fun q hq => (List.mem_append.mp hq).elim (orl q) (hX3 q)) (fun q hq => (List.mem_append.mp hq).elim (oI1 q) (hXI q))
          ((keep "reel" (by decide) (by decide) (by decide) (by decide) (by decide)).trans m1) ((keep "keys" (by decide) (by decide) (by decide) (by decide) (by decide)).trans m2) hdue ((keep "found" (by decide) (by decide) (by decide) (by decide) (by decide)).trans m4) ?_
        · intro d hd'
          rcases List.mem_append.mp hd' with h1 | h1
          · exact hc d h1
          · rw [List.mem_singleton.mp h1]; exact hcc
        · intro m2' X' cs' fs' xs' nf' nx' o' dv2 h2 tk2 hs hl2 hc2 ho2 hrows2 hx2 hf2
          have e : i + 1 + k = i + (k + 1) := by omega
          rw [e] at hl2 hx2 hf2
          exact hret m2' X' cs' fs' xs' nf' nx' o' dv2 h2 tk2 (fun q hq => hs q (up q hq)) hl2 hc2 ho2 hrows2 hx2 hf2
end

end
theorem FinTS.z : True := trivial
-- TT
section
theorem StTT.z : True := by
  w_top off
  trivial
variable {w : World} {p : Program} {loose : List Str} {mean : ExcName → Option Value} {mg mb : Str → Option Value}
theorem res54_two : ∀ (cs : List Kd) (i : Int) (ns : List Int) (C : Addr) (sp : Int), res54 i cs ns = .exc C sp → C = 66 ∨ C = 78
  | [], _, _, _, _, h => nomatch h
  | .non :: _, _, _, _, _, h => by cases h; exact .inr rfl
  | .num :: _, _, _, _, _, h => by cases h; exact .inr rfl
  | .nm x :: cs, i, ns, C, sp, h => by
    have h' : (match placeOf x with | some j => if ns.any (· == (j : Int)) then R54.exc 66 i else res54 (i + 1) cs (ns ++ [(j : Int)]) | none => .exc 66 i) = .exc C sp := h
    cases hp : placeOf x with
    | none => rw [hp] at h'; cases h'; exact .inl rfl
    | some j =>
      rw [hp] at h'
      dsimp only at h'
      by_cases hb : ns.any (· == (j : Int)) = true
      · rw [if_pos hb] at h'; cases h'; exact .inl rfl
      · rw [if_neg hb] at h'; exact res54_two cs _ _ C sp h'
theorem use_r {f f' : Addr} {args args' : List Value} {news : List (Addr × Obj)} {k : Nat} {Post : Value → List (Addr × Obj) → Prop} {PE : Addr → Int → Prop} (C : CtrR pw' w p loose mean mg mb f args news k Post PE)
    {dp un : Nat} {gd : Option (List Code)} {cn : Str} {cs : PySem.Scope} {ad : Addr} {ccd : Value} {cl : List (Str × Addr)} {outer : List Env} {A₀ : Around} {base h₀ : Heap} {L : Addr} {m : Str → Option Value} {s : Shared} {Q E : Value → Shared → Prop} (e : f' = f) (ea : args' = args)
    (B : Below A₀ base outer h₀) (F : Fr h₀ L s.heap m) (X : (Mine.Kb w.params).In h₀) (N : News h₀ L s.heap news) (T : Top p loose mean mg mb h₀) (hk : cs.kind = .function) (hd : dp + k < recursionLimit) (hu : un + 8 * k < cLine)
    (hret : ∀ v news' h' tk', Post v news' → Fr h₀ L h' m → News h₀ L h' news' → Q v { s with heap := h', toks := tk' })
    (hexc : ∀ e C sp h' tk', PE C sp → Rz h₀ L m (envX cn cs L ad ccd cl :: outer) news e C sp h' → E (.ref e) { s with heap := h', toks := tk' }) :
    wpAny (model pw' w) (ktrTop dp un gd cn cs L ad ccd cl outer) (call (.ref f') args') Q E s := by
  subst e
  subst ea
  exact C dp un gd cn cs ad ccd cl outer A₀ base h₀ L m s Q E B F X N T hk hd hu hret hexc
/-- _law_tried, used at a call whose callee changes nothing -/
theorem use_tried0 {fl : Addr} {oc : Value} {od : Option Addr} {fd : FuncData} {osl : Array (Option Value)} {news : List (Addr × Obj)} {k : Nat} {f' : Addr} {args' : List Value} (PV : Value → List (Addr × Obj) → Prop) (PE : Addr → Int → Prop)
    {dp un : Nat} {gd : Option (List Code)} {cn : Str} {cs : PySem.Scope} {ad : Addr} {ccd : Value} {cl : List (Str × Addr)} {outer : List Env} {A₀ : Around} {base h₀ : Heap} {L : Addr} {m : Str → Option Value} {s : Shared} {Q E : Value → Shared → Prop}
    (e : f' = 1029) (ea : args' = [.ref fl]) (B : Below A₀ base outer h₀) (F : Fr h₀ L s.heap m) (XB : (Mine.Kb w.params).In base) (TB : Top p loose mean mg mb base) (N : News h₀ L s.heap news) (X : (Mine.Kb w.params).In h₀) (T : Top p loose mean mg mb h₀) (hk : cs.kind = .function) (hd : dp + (k + 2) < recursionLimit) (hu : un + 8 * (k + 2) < cLine)
    (hfl : (fl, (⟨oc, od, .func fd, osl⟩ : Obj)) ∈ news) (hcall : CtrR pw' w p loose mean mg mb fl [] news k (fun v n' => ∃ own, PV v own ∧ n' = own ++ news) PE) (hP : ∀ C sp, PE C sp → C = 66 ∨ C = 78 ∨ C = 90)
    (hret : ∀ v own h' tk' h₀', KtsTurn (outer.filterMap (·.frame)) h₀ h₀' → PV v own → Fr h₀' L h' m → News h₀' L h' (own ++ news) → Below A₀ base outer h₀' → (Mine.Kb w.params).In h₀' → Top p loose mean mg mb h₀' → Q v ⟨h', s.gens, s.drawn, tk', s.os⟩)
    (hexc : ∀ C sp t tw ts h' tk' h₀', KtsTurn (outer.filterMap (·.frame)) h₀ h₀' → PE C sp → (∀ q ∈ news, q.1 < t) → Fr h₀' L h' m → News h₀' L h' ((t, tup [.str (wordOf C) tw, .int sp ts]) :: news) → Below A₀ base outer h₀' → (Mine.Kb w.params).In h₀' → Top p loose mean mg mb h₀' → Q (.ref t) ⟨h', s.gens, s.drawn, tk', s.os⟩) :
    wpAny (model pw' w) (ktrTop dp un gd cn cs L ad ccd cl outer) (call (.ref f') args') Q E s := by
  refine use_t (tried_ok fl oc od fd osl news hfl k _ PE hcall hP) e ea B F XB TB N X T hk hd hu ?_
  rintro v n' h' tk' g' t (⟨own, hv, rfl⟩ | ⟨C, sp, tt, tw, ts, hE, rfl, hl, rfl⟩) F' N' B' X' T'
  · exact hret v own h' tk' g' t hv F' N' B' X' T'
  · exact hexc C sp tt tw ts h' tk' g' t hE hl F' N' B' X' T'
theorem hd1054 {P : Params} {h : Heap} (X : (Kb P).In h) : CodeHd h 1054 1052 := ⟨_, _, _, _, _, _, _, _, _, X 1054 _ rfl, rfl, rfl, rfl, rfl, rfl, rfl, rfl, rfl, by decide⟩
theorem words_36 : True := by
  k_with "kn_code" => (fail_if_success (open Mine.FinTT in skip)); (first | exact hd1054 (by assumption))
  k_with "call ref cons nil" => (fail_if_success (open Mine.FinTT in skip)); (((with_reducible show wpAny _ _ (call (Value.ref 1029) _) _ _ _); refine stop_ ?_))
  k_with "call ref cons cons" => (fail_if_success (open Mine.FinTT in skip)); (((with_reducible show wpAny _ _ (call (Value.ref 400) _) _ _ _); refine stop_ ?_))
  k_with "call ref cons nil" => (fail_if_success (open Mine.FinTT in skip)); (((with_reducible show wpAny _ _ (call (Value.ref 400) _) _ _ _); refine stop_ ?_))
  k_with "call type:tuple cons nil" => (fail_if_success (open Mine.FinTT in skip)); ((k_dflt (refine' kde_tupleOf (items := List.toArray _) ?u165k1 ?u165k2 (isList_of_news ?u165k3 ?u165k4) ?u165k5 rfl ?_; (case u165k1 => k_asm); (case u165k2 => k_asm); (case u165k3 => k_asm); (case u165k4 => k_mem); (case u165k5 => assumption)); intro qqD' qqh' qqF' qqN' qql1; (try k_sweep)))
  k_with "compareOp Eq ref ref" => (fail_if_success (open Mine.FinTT in skip)); (refine stop_ ?_)
  trivial
noncomputable abbrev BT118 (w : World) (p : Program) (loose : List Str) (mean : ExcName → Option Value) (mg mb : Str → Option Value) := BodyT w p loose mean mg mb "_law_places_right" (fdTop 118) 1055 (.ref 1054)
/-- what the call of field_places reads -/
structure Pl (w : World) (X : List (Addr × Obj)) (L ck fsA rwl f1 f2 f3 f4 : Addr) (xs : List Value) (nx : Nat) (cs : List Kd) : Prop where
  c1 : ∃ o, (L + 1, o) ∈ X ∧ o.data = .cell (some (.ref ck))
  c2 : ∃ o, (L + 1 + 1, o) ∈ X ∧ o.data = .cell (some (.ref fsA))
  c3 : ∃ o, (L + 1 + 1 + 1, o) ∈ X ∧ o.data = .cell (some (.ref rwl))
  H : HCtx w X ck
  hF : (fsA, tup [.ref f1, .ref f2, .ref f3, .ref f4]) ∈ X
  h1 : ∃ u x y, (f1, tup [.str "a" u, x, y]) ∈ X
  h2 : ∃ u x y, (f2, tup [.str "_" u, x, y]) ∈ X
  h3 : ∃ u x y, (f3, tup [.str "B" u, x, y]) ∈ X
  h4 : ∃ u x y, (f4, tup [.str "T" u, x, y]) ∈ X
  hr : (rwl, W.listOf xs.toArray nx) ∈ X
  rows : RowsAre X 20 cs xs
  okd : ∀ c ∈ cs, Okd c
  len : cs.length ≤ 10
  sz : xs.toArray.size ≤ 16384
theorem places_Bok (ck fsA rwl f1 f2 f3 f4 fl : Addr) (xs fs : List Value) (nx nf : Nat) (cs : List Kd) (ns : List Int) (X : List (Addr × Obj)) (L : Addr) (m : Str → Option Value) (hP : Pl w X L ck fsA rwl f1 f2 f3 f4 xs nx cs) (h0 : ∀ q ∈ X, q.1 ≠ 1052) (hres : res54 20 cs [] = .ok ns) (m3 : m "due" = some .none) (m4 : m "found" = some (.ref fl)) (hfl : (fl, W.listOf fs.toArray nf) ∈ X) (hints : IntsAre fs ns) :
    BT118 w p loose mean mg mb 5 L m ((1052, tabObj #[]) :: X) 40 (fun v n' => v = .bool true ∧ ∃ ps, n' = (1052, tabObj ps) :: X) := by
  intro dp un gd outer A₀ base g s Q E B F XB TB N XG T hk hd hu hret
  have hc0 := hd1054 XG
  k_dflt (show wpAny _ _ (execs (List.cons _ _) _) _ _ _)
  obtain ⟨⟨oC, c1, d1⟩, ⟨oF, c2, d2⟩, ⟨oR, c3, d3⟩, H, hF, ⟨u1, x1, y1, h1⟩, ⟨u2, x2, y2, h2⟩, ⟨u3, x3, y3, h3⟩, ⟨u4, x4, y4, h4⟩, hr, rows, okd, len, sz⟩ := hP
  k_steps
  refine go_on ?_
  with_unfolding_all refine' use_tried0 (fun v own => ∃ fl' fs' n, v = .ref fl' ∧ IntsAre fs' ns ∧ own = [(fl', W.listOf fs'.toArray n)]) (fun _ _ => False) ?ke ?ka ?kB ?kF ?kXB ?kTB ?kN ?kX ?kT ?hk ?hd ?hu ?hfl ?hcall ?hP ?hret ?hexc (k := 32)
  case ke => exact rfl
  case ka => exact rfl
  case kB => assumption
  case kF => assumption
  case kXB => assumption
  case kTB => assumption
  case kN => assumption
  case kX => k_in
  case kT => assumption
  case hk => rfl
  case hd => ktr_room
  case hu => ktr_units
  case hfl => k_dflt k_mem
  case hP => exact fun _ _ h => h.elim
  case hexc => exact fun _ _ _ _ _ _ _ _ _ h => h.elim
  case hcall =>
    intro dp un gd cn cs' ad ccd cl outer A₀ base h₀ L m s Q E B F XG N T hk hd hu hret hexc
    refine wpAny_call ?_
    k_dflt kla_enter
    k_steps
    refine go_on ?_
    rename News _ _ _ _ => N9
    rename Fr _ _ _ (fun y => List.lookup y _) => F9
    with_unfolding_all refine' use_r (fp_ok ck _ fsA _ f1 f2 f3 f4 _ _ _ u1 u2 u3 u4 x1 x2 x3 x4 y1 y2 y3 y4 20 cs xs _ ?pH ?pS ?pF ?p1 ?p2 ?p3 ?p4 ?prw ?prows okd len) ?ke ?ka ?kB F9 ?kX N9 ?kT ?hk ?hd ?hu ?hret2 ?hexc2
    case ke => exact rfl
    case ka => exact rfl
    case kB => assumption
    case kX => k_in
    case kT => assumption
    case pH => exact H.mono (by k_extra "sub")
    case pS => k_dflt k_mem
    case pF => k_dflt k_mem
    case p1 => k_dflt k_mem
    case p2 => k_dflt k_mem
    case p3 => k_dflt k_mem
    case p4 => k_dflt k_mem
    case prw => k_dflt k_mem
    case prows => exact rows.mono (by k_extra "sub")
    case hk => first | rfl | assumption
    case hd => ktr_room
    case hu => ktr_units
    case hexc2 =>
      rintro e C sp h' tk' hres' R
      rw [hres] at hres'
      cases hres'
    case hret2 =>
      rintro v9 n9 h9 tk9 ⟨fl', ns', fs', n', hres', rfl, hi', hl', rfl⟩ F8 N8
      rw [hres] at hres'
      cases hres'
      dsimp only
      k_steps
      rename News h₀ L _ _ => N5
      refine' hret _ _ _ _ ⟨[(fl', _)], ⟨fl', fs', n', rfl, hi', rfl⟩, rfl⟩ ?zF ?zn
      case zF => assumption
      case zn =>
        intro q hq
        refine N5 q ?_
        rcases List.mem_append.mp hq with h | h
        · rw [List.mem_singleton.mp h]; exact .head _
        · exact .tail _ (by k_extra "mm")
  case hret =>
    rintro v own h' tk' g' T1 ⟨fl', fs', n', rfl, hi', rfl⟩ F1 N1 B1 X1 TT1
    k_steps
    refine go_on ?_
    refine ke_eq_ints (isList_of_news N1 (.head _)) (isList_of_news N1 (by k_dflt k_mem)) hi' hints (by ktr_units) ?_
    rw [decide_eq_true rfl]
    replace N1 : News g' L h' _ := fun q hq => N1 q (List.mem_append_right _ hq)
    k_steps
    refine' hret _ ((1052, _) :: X) _ _ _ _ T1 ⟨rfl, _, rfl⟩ F1 ?zn B1
    case zn =>
      intro q hq
      rcases List.mem_cons.mp hq with rfl | hq
      · exact N1 _ (by k_dflt k_mem)
      · exact N1 q (by k_extra "mm")

end
theorem FinTT.z : True := trivial
-- TW
section
theorem StTW.z : True := by
  w_top off
  trivial
variable {w : World} {p : Program} {loose : List Str} {mean : ExcName → Option Value} {mg mb : Str → Option Value}
theorem exc_eq {h : Heap} {t d C : Addr} {sp : Int} {tw ts tw0 ts0 : Tok} (h1 : h.get? t = some (tup [.str (wordOf C) tw, .int sp ts])) (h2 : h.get? d = some (tup [.str (wordOf C) tw0, .int sp ts0])) (hC : C = 66 ∨ C = 78) :
    ∃ dd as bs, Reads h (.ref t) dd as ∧ Reads h (.ref d) dd bs ∧ PySem.SeqAt.shaped dd = true ∧ PyData.eqv dd dd = true := by
  have hs : PySem.SeqAt.shaped (.tuple [.str (wordOf C), .int sp]) = true := by
    rcases hC with rfl | rfl
    · rw [show wordOf 66 = "name fault" from rfl]; first | ked_shaped | kernel_rfl!
    · rw [show wordOf 78 = "type fault" from rfl]; first | ked_shaped | kernel_rfl!
  exact ⟨_, _, _, Reads.tuple h1 rfl rfl (.cons (.str _ _) (.cons (.int _ _) .nil)), Reads.tuple h2 rfl rfl (.cons (.str _ _) (.cons (.int _ _) .nil)), hs, PySem.SeqAt.eqv_refl _ (PySem.SeqAt.canLay_of_shaped hs)⟩
theorem words_37 : True := by
  k_with "kn_code" => (fail_if_success (open Mine.FinTW in skip)); (first | exact hd1054 (by assumption))
  k_with "call ref cons nil" => (fail_if_success (open Mine.FinTW in skip)); (((with_reducible show wpAny _ _ (call (Value.ref 1029) _) _ _ _); refine stop_ ?_))
  k_with "call ref cons cons" => (fail_if_success (open Mine.FinTW in skip)); (((with_reducible show wpAny _ _ (call (Value.ref 400) _) _ _ _); refine stop_ ?_))
  k_with "call ref cons nil" => (fail_if_success (open Mine.FinTW in skip)); (((with_reducible show wpAny _ _ (call (Value.ref 400) _) _ _ _); refine stop_ ?_))
  k_with "call type:tuple cons nil" => (fail_if_success (open Mine.FinTW in skip)); ((k_dflt (refine' kde_tupleOf (items := List.toArray _) ?u171k1 ?u171k2 (isList_of_news ?u171k3 ?u171k4) ?u171k5 rfl ?_; (case u171k1 => k_asm); (case u171k2 => k_asm); (case u171k3 => k_asm); (case u171k4 => k_mem); (case u171k5 => assumption)); intro qqD' qqh' qqF' qqN' qql1; (try k_sweep)))
  k_with "compareOp Eq ref ref" => (fail_if_success (open Mine.FinTW in skip)); (refine stop_ ?_)
  trivial
theorem places_Bexc (ck fsA rwl f1 f2 f3 f4 : Addr) (xs : List Value) (nx : Nat) (cs : List Kd) (C0 : Addr) (sp0 : Int) (d : Addr) (tw0 ts0 : Tok) (X : List (Addr × Obj)) (L : Addr) (m : Str → Option Value) (hP : Pl w X L ck fsA rwl f1 f2 f3 f4 xs nx cs) (h0 : ∀ q ∈ X, q.1 ≠ 1052) (hres : res54 20 cs [] = .exc C0 sp0) (m3 : m "due" = some (.ref d)) (hdd : (d, tup [.str (wordOf C0) tw0, .int sp0 ts0]) ∈ X) :
    BT118 w p loose mean mg mb 5 L m ((1052, tabObj #[]) :: X) 40 (fun v n' => v = .bool true ∧ ∃ ps, n' = (1052, tabObj ps) :: X) := by
  intro dp un gd outer A₀ base g s Q E B F XB TB N XG T hk hd hu hret
  have hc0 := hd1054 XG
  k_dflt (show wpAny _ _ (execs (List.cons _ _) _) _ _ _)
  obtain ⟨⟨oC, c1, d1⟩, ⟨oF, c2, d2⟩, ⟨oR, c3, d3⟩, H, hF, ⟨u1, x1, y1, h1⟩, ⟨u2, x2, y2, h2⟩, ⟨u3, x3, y3, h3⟩, ⟨u4, x4, y4, h4⟩, hr, rows, okd, len, sz⟩ := hP
  k_steps
  refine go_on ?_
  with_unfolding_all refine' use_tried0 (fun _ _ => False) (fun C sp => C = C0 ∧ sp = sp0) ?ke ?ka ?kB ?kF ?kXB ?kTB ?kN ?kX ?kT ?hk ?hd ?hu ?hfl ?hcall ?hP ?hret ?hexc (k := 32)
  case ke => exact rfl
  case ka => exact rfl
  case kB => assumption
  case kF => assumption
  case kXB => assumption
  case kTB => assumption
  case kN => assumption
  case kX => k_in
  case kT => assumption
  case hk => rfl
  case hd => ktr_room
  case hu => ktr_units
  case hfl => k_dflt k_mem
  case hP => exact fun C sp h => (res54_two cs 20 [] C sp (by rw [h.1, h.2]; exact hres)).elim .inl fun h => .inr (.inl h)
  case hret => exact fun _ _ _ _ _ _ h => h.elim
  case hcall =>
    intro dp un gd cn cs' ad ccd cl outer A₀ base h₀ L m s Q E B F XG N T hk hd hu hret hexc
    refine wpAny_call ?_
    k_dflt kla_enter
    k_steps
    refine go_on ?_
    rename News _ _ _ _ => N9
    rename Fr _ _ _ (fun y => List.lookup y _) => F9
    with_unfolding_all refine' use_r (fp_ok ck _ fsA _ f1 f2 f3 f4 _ _ _ u1 u2 u3 u4 x1 x2 x3 x4 y1 y2 y3 y4 20 cs xs _ ?pH ?pS ?pF ?p1 ?p2 ?p3 ?p4 ?prw ?prows okd len) ?ke ?ka ?kB F9 ?kX N9 ?kT ?hk ?hd ?hu ?hret2 ?hexc2
    case ke => exact rfl
    case ka => exact rfl
    case kB => assumption
    case kX => k_in
    case kT => assumption
    case pH => exact H.mono (by k_extra "sub")
    case pS => k_dflt k_mem
    case pF => k_dflt k_mem
    case p1 => k_dflt k_mem
    case p2 => k_dflt k_mem
    case p3 => k_dflt k_mem
    case p4 => k_dflt k_mem
    case prw => k_dflt k_mem
    case prows => exact rows.mono (by k_extra "sub")
    case hk => first | rfl | assumption
    case hd => ktr_room
    case hu => ktr_units
    case hret2 =>
      rintro v9 n9 h9 tk9 ⟨fl', ns', fs', n', hres', -⟩ F8 N8
      rw [hres] at hres'
      cases hres'
    case hexc2 =>
      rintro e C sp h' tk' hres' R
      rw [hres] at hres'
      cases hres'
      k_unfold
      refine rz_next (A₁ := A₀) (base := base) rfl rfl (by assumption) F9 (news_ne (by assumption) N9) R (fun h2 R2 => ?_)
      exact hexc _ _ _ _ _ ⟨rfl, rfl⟩ (R2.sub (by k_extra "sub"))
  case hexc =>
    rintro C sp t tw ts h' tk' g' T1 ⟨rfl, rfl⟩ hl F1 N1 B1 X1 TT1
    k_steps
    refine go_on ?_
    obtain ⟨dd, as, bs, q1, q2, q3, q4⟩ := exc_eq (N1 _ (.head _)).1 (N1 _ (by k_dflt k_mem : (d, tup [.str (wordOf C) tw0, .int sp ts0]) ∈ _)).1 (res54_two cs 20 [] C sp hres)
    refine eq_dataH q1 q2 q3 q3 (by ktr_units) ?_
    rw [q4]
    k_steps
    refine' hret _ ((1052, _) :: X) _ _ _ _ T1 ⟨rfl, _, rfl⟩ F1 ?zn B1
    case zn =>
      intro q hq
      rcases List.mem_cons.mp hq with rfl | hq
      · exact N1 _ (by k_dflt k_mem)
      · exact N1 q (by k_extra "mm")

end
theorem FinTW.z : True := trivial
-- TY
section
theorem StTY.z : True := by
  w_top off
  trivial
variable {w : World} {p : Program} {loose : List Str} {mean : ExcName → Option Value} {mg mb : Str → Option Value}
theorem KeyIs.monoT {X Y : List (Addr × Obj)} (s : ∀ a vs, (a, tup vs) ∈ X → (a, tup vs) ∈ Y) : ∀ {c : Kd} {sp : Int} {kv : Value}, KeyIs X sp c kv → KeyIs Y sp c kv :=
  fun {c sp kv} h => by
    cases c
    · exact h
    all_goals
      obtain ⟨a, t1, t2, t3, e, h⟩ := h
      exact ⟨a, t1, t2, t3, e, s _ _ h⟩
theorem RowsAre.monoT {X Y : List (Addr × Obj)} (s : ∀ a vs, (a, tup vs) ∈ X → (a, tup vs) ∈ Y) : ∀ {cs : List Kd} {i : Int} {xs : List Value}, RowsAre X i cs xs → RowsAre Y i cs xs := by
  intro cs
  induction cs with
  | nil => exact fun h => h
  | cons c cs ih =>
    rintro i xs ⟨r, kv, ev, r', e, h1, h2, h3⟩
    exact ⟨r, kv, ev, r', e, s _ _ h1, h2.monoT s, ih h3⟩
theorem bt_use {i : Nat} {L : Addr} {m : Str → Option Value} {news : List (Addr × Obj)} {k : Nat} {P : Value → List (Addr × Obj) → Prop} (h : BT118 w p loose mean mg mb i L m news k P) {dp un : Nat} {gd : Option (List Code)} {outer : List Env} {A₀ : Around} {base g : Heap} {s : Shared} {Q : Flow → Shared → Prop} {E : Value → Shared → Prop} {ss : List Stmt} (es : ss = (fdTop 118).body.drop i)
    (B : Below A₀ base outer g) (F : Fr g L s.heap m) (XB : (Mine.Kb w.params).In base) (TB : Top p loose mean mg mb base) (N : News g L s.heap news) (XG : (Mine.Kb w.params).In g) (T : Top p loose mean mg mb g) (hd : dp + k < recursionLimit) (hu : un + 8 * k < cLine)
    (hret : ∀ v news' h' tk' g' m', KtsTurn (outer.filterMap (·.frame)) g g' → P v news' → Fr g' L h' m' → News g' L h' news' → Below A₀ base outer g' → Q (.ret v) ⟨h', s.gens, s.drawn, tk', s.os⟩) :
    wpAny (model pw' w) (ktrTop dp un gd "_law_places_right" (fdTop 118).scope L 1055 (.ref 1054) (cellsFrom (L + 1) (fdTop 118).scope.names []) outer) (execs ss (envX "_law_places_right" (fdTop 118).scope L 1055 (.ref 1054) (cellsFrom (L + 1) (fdTop 118).scope.names []))) Q E s := by
  subst es
  exact h dp un gd outer A₀ base g s Q E B F XB TB N XG T rfl hd hu hret
theorem tup_ne {g h : Heap} {L a b : Addr} {vs : List Value} {ps : Array Value} {Z : List (Addr × Obj)} (N : News g L h Z) (m1 : (b, tabObj ps) ∈ Z) (m2 : (a, tup vs) ∈ Z) : a ≠ b := by
  rintro rfl
  have e := (N _ m1).1.symm.trans (N _ m2).1
  exact absurd (show Value.none = Value.type "tuple" from congrArg Obj.cls (Option.some.inj e)) (fun h => nomatch h)
theorem words_38 : True := by
  k_with "call ref cons nil" => (fail_if_success (open Mine.FinTY in skip)); (focus k_dflt ((with_unfolding_all refine' wound_atV ?u173ke ?u173ka ?u173kB ?u173kF ?u173kX ?u173kN ?u173kT ?u173kR ?u173kU ?u173hm ?u173hm2 ?u173hk ?u173hd ?u173hu ?_); (case u173ke => exact rfl); (case u173ka => exact rfl); (case u173kB => assumption); (case u173kF => assumption); (case u173kX => k_in); (case u173kN => assumption); (case u173kT => assumption); (case u173kU => (intro qqo'; k_upd)); (case u173kR => assumption); (case u173hm => decide); (case u173hm2 => decide); (case u173hk => first | rfl | assumption); (case u173hd => ktr_room); (case u173hu => ktr_units); (intro qqd1 qqt1 qqo1 qqh1 qqtk1 qqhd0 qqhd1 qqhR1 qqF1 qqN1; (try dsimp only at qqN1); (try k_sweep); (try dsimp only))))
  k_with "exec For Name Call cons nil" => (fail_if_success (open Mine.FinTY in skip)); ((k_here; k_dflt (refine' For_invVF ?u174F ?u174k1 ?u174k2 ?_ ?u174hs ?u174hE; (case u174F => k_asm); (case u174k1 => exact rfl); (case u174k2 => exact rfl); (case u174hs => exact fun _ => rfl); (case u174hE => first | assumption | passes_own); k_whole)))
  k_with "call type:range cons nil" => (fail_if_success (open Mine.FinTY in skip)); ((k_dflt (refine' range1_rows ?u175F ?u175N ?_; (case u175F => k_asm); (case u175N => k_asm)); intro _ _ _ _ _ _ _ _ _))
  k_with "pyIter ref" => (fail_if_success (open Mine.FinTY in skip)); (refine stop_ ?_)
  trivial
theorem places_A (rl ck fsA kl fl rwl f1 f2 f3 f4 : Addr) (k1 k2 k3 k4 k5 k6 k7 : Value) (nk : Nat) (o oC oF oR : Obj) (X : List (Addr × Obj)) (L : Addr) (m : Str → Option Value) (ho : Reel o)
    (c1 : (L + 1, oC) ∈ X) (d1 : oC.data = .cell (some (.ref ck))) (c2 : (L + 1 + 1, oF) ∈ X) (d2 : oF.data = .cell (some (.ref fsA))) (c3 : (L + 1 + 1 + 1, oR) ∈ X) (d3 : oR.data = .cell (some (.ref rwl))) (H : HCtx w X ck)
    (hF : (fsA, tup [.ref f1, .ref f2, .ref f3, .ref f4]) ∈ X) (h1 : ∃ u x y, (f1, tup [.str "a" u, x, y]) ∈ X) (h2 : ∃ u x y, (f2, tup [.str "_" u, x, y]) ∈ X) (h3 : ∃ u x y, (f3, tup [.str "B" u, x, y]) ∈ X) (h4 : ∃ u x y, (f4, tup [.str "T" u, x, y]) ∈ X)
    (hkl : (kl, W.listOf [k1, k2, k3, k4, k5, k6, k7].toArray nk) ∈ X) (hK : ∀ v ∈ [k1, k2, k3, k4, k5, k6, k7], ∃ c, Okd c ∧ Key0 X c v)
    (x1 : ∀ q ∈ X, q.1 ≠ rl) (x2 : ∀ q ∈ X, q.1 ≠ fl) (x3 : ∀ q ∈ X, q.1 ≠ rwl) (x4 : ∀ q ∈ X, q.1 ≠ 1052) (n1 : @Ne Nat rl fl) (n2 : @Ne Nat rl rwl) (n3 : @Ne Nat rwl fl) (n4 : @Ne Nat rl 1052) (n5 : @Ne Nat fl 1052) (n6 : @Ne Nat rwl 1052)
    (m1 : m "reel" = some (.ref rl)) (m2 : m "keys" = some (.ref kl)) (m3 : m "due" = some .none) (m4 : m "found" = some (.ref fl)) (hEe : ∀ (dp un : Nat) (gd : Option (List Code)) (outer : List Env) (E : Value → Shared → Prop), True) :
    ∀ (dp un : Nat) (gd : Option (List Code)) (outer : List Env) (A₀ : Around) (base g : Heap) (s : Shared) (Q : Flow → Shared → Prop) (E : Value → Shared → Prop),
    Below A₀ base outer g → Fr g L s.heap m → (Mine.Kb w.params).In base → Top p loose mean mg mb base → News g L s.heap ((rl, o) :: (fl, W.listOf #[] 0) :: (rwl, W.listOf #[] 0) :: (1052, tabObj #[]) :: X) → (Mine.Kb w.params).In g → Top p loose mean mg mb g → dp + 58 < recursionLimit → un + 8 * 58 < cLine →
    PassesOwn (model pw' w) (ktrTop dp un gd "_law_places_right" (fdTop 118).scope L 1055 (.ref 1054) (cellsFrom (L + 1) (fdTop 118).scope.names []) outer) (envX "_law_places_right" (fdTop 118).scope L 1055 (.ref 1054) (cellsFrom (L + 1) (fdTop 118).scope.names [])) E →
    (∀ v news' h' tk' g' m', KtsTurn (outer.filterMap (·.frame)) g g' → (v = .bool true ∧ ∃ o' ps, Reel o' ∧ news' = (rl, o') :: (1052, tabObj ps) :: X) → Fr g' L h' m' → News g' L h' news' → Below A₀ base outer g' → Q (.ret v) ⟨h', s.gens, s.drawn, tk', s.os⟩) →
    wpAny (model pw' w) (ktrTop dp un gd "_law_places_right" (fdTop 118).scope L 1055 (.ref 1054) (cellsFrom (L + 1) (fdTop 118).scope.names []) outer) (execs ((fdTop 118).body.drop 4) (envX "_law_places_right" (fdTop 118).scope L 1055 (.ref 1054) (cellsFrom (L + 1) (fdTop 118).scope.names []))) Q E s := by
  intro dp un gd outer A₀ base g s Q E B F XB TB N XG T hd hu hE hret
  clear hEe
  k_dflt (show wpAny _ _ (execs (List.cons _ _) _) _ _ _)
  k_steps
  refine go_on ?_
  rename Fr _ _ _ _ => F9
  rename News _ _ _ _ => N9
  rename IsRange _ _ _ _ _ _ _ _ => R9
  rename (0 ≤ _) => q0
  rename (_ < (4 : Int)) => q1
  rename Reel _ => hR9
  obtain ⟨n9, rfl⟩ := Int.eq_ofNat_of_zero_le q0
  refine iter_rangeN (by omega) rfl R9 F9 N9 (fun I hI => ?_)
  have up : ∀ q ∈ X, q ∈ (1052, tabObj #[]) :: X := fun q hq => .tail _ hq
  have i1 : @Ne Nat I rl := Nat.ne_of_gt (hI _ (.head _))
  have i2 : @Ne Nat I fl := Nat.ne_of_gt (hI _ (.tail _ (.head _)))
  have i3 : @Ne Nat I rwl := Nat.ne_of_gt (hI _ (.tail _ (.tail _ (.head _))))
  refine places_loop rl fl rwl kl I k1 k2 k3 k4 k5 k6 k7 nk n9 oR d3 B XG T (by omega) (by omega) i2 i3 i1 n1 n2 n3 n9 0 [] [] [] 0 0 _ .none ((1052, tabObj #[]) :: X) m rfl hR9 (fun _ h => nomatch h) rfl rfl rfl (by omega) rfl (fun ns h => by cases h; exact .nil) (fun v hv => let ⟨c, a, b⟩ := hK v hv; ⟨c, a, b.mono up⟩) (up _ hkl) (up _ c3)
    (List.forall_mem_cons.mpr ⟨Ne.symm n5, x2⟩) (List.forall_mem_cons.mpr ⟨Ne.symm n6, x3⟩) (List.forall_mem_cons.mpr ⟨Ne.symm n4, x1⟩) (fun q hq => Nat.ne_of_lt (hI q (.tail _ (.tail _ (.tail _ hq))))) m1 m2 m3 m4 ?_
  intro m' X' cs fs xs nf nx o' dv h' tk' hs hl hc ho' hrows hx hf hD hr y1 y2 y3 e1 e2 F' N'
  dsimp only
  have hTab : (1052, tabObj #[]) ∈ (rl, o') :: (fl, W.listOf fs.toArray nf) :: (rwl, W.listOf xs.toArray nx) :: X' := .tail _ (.tail _ (.tail _ (hs _ (.head _))))
  have tin : ∀ a vs, (a, tup vs) ∈ X' → (a, tup vs) ∈ sansA [1052] ((rl, o') :: (fl, W.listOf fs.toArray nf) :: (rwl, W.listOf xs.toArray nx) :: X') := fun a vs hm => mem_sansA (.tail _ (.tail _ (.tail _ hm))) (List.forall_mem_cons.mpr ⟨tup_ne N' hTab (.tail _ (.tail _ (.tail _ hm))), List.forall_mem_nil _⟩)
  have xin : ∀ q ∈ X, q ∈ sansA [1052] ((rl, o') :: (fl, W.listOf fs.toArray nf) :: (rwl, W.listOf xs.toArray nx) :: X') := fun q hq => mem_sansA (.tail _ (.tail _ (.tail _ (hs _ (up q hq))))) (List.forall_mem_cons.mpr ⟨x4 q hq, List.forall_mem_nil _⟩)
  have hPl : Pl w (sansA [1052] ((rl, o') :: (fl, W.listOf fs.toArray nf) :: (rwl, W.listOf xs.toArray nx) :: X')) L ck fsA rwl f1 f2 f3 f4 xs nx cs :=
    ⟨⟨oC, xin _ c1, d1⟩, ⟨oF, xin _ c2, d2⟩, ⟨oR, xin _ c3, d3⟩, H.mono xin, xin _ hF, let ⟨u, x, y, h⟩ := h1; ⟨u, x, y, xin _ h⟩, let ⟨u, x, y, h⟩ := h2; ⟨u, x, y, xin _ h⟩, let ⟨u, x, y, h⟩ := h3; ⟨u, x, y, xin _ h⟩, let ⟨u, x, y, h⟩ := h4; ⟨u, x, y, xin _ h⟩,
      mem_sansA (.tail _ (.tail _ (.head _))) (List.forall_mem_cons.mpr ⟨n6, List.forall_mem_nil _⟩), hrows.monoT tin, hc, by omega, by rw [List.size_toArray]; omega⟩
  have hN : News g L h' ((1052, tabObj #[]) :: sansA [1052] ((rl, o') :: (fl, W.listOf fs.toArray nf) :: (rwl, W.listOf xs.toArray nx) :: X')) := fun q hq => (List.mem_cons.mp hq).elim (fun e => e ▸ N' _ hTab) fun hq => N' q (sansA_sub q hq)
  have fin : ∀ v news' h2 tk2 g2 m2, KtsTurn (outer.filterMap (·.frame)) g g2 → (v = .bool true ∧ ∃ ob, news' = (1052, tabObj ob) :: sansA [1052] ((rl, o') :: (fl, W.listOf fs.toArray nf) :: (rwl, W.listOf xs.toArray nx) :: X')) → Fr g2 L h2 m2 → News g2 L h2 news' → Below A₀ base outer g2 → Q (.ret v) ⟨h2, s.gens, s.drawn, tk2, s.os⟩ := by
    rintro v news' h2 tk2 g2 m2 T2 ⟨rfl, ob, rfl⟩ F2 N2 B2
    refine hret _ _ h2 tk2 g2 m2 T2 ⟨rfl, o', ob, ho', rfl⟩ F2 (fun q hq => N2 q ?_) B2
    rcases List.mem_cons.mp hq with rfl | hq
    · exact .tail _ (mem_sansA (.head _) (List.forall_mem_cons.mpr ⟨n4, List.forall_mem_nil _⟩))
    · rcases List.mem_cons.mp hq with rfl | hq
      · exact .head _
      · exact .tail _ (xin q hq)
  cases hres : res54 20 cs [] with
  | ok ns =>
    rw [hres] at hD
    have hD' : dv = .none := hD
    subst hD'
    refine' bt_use (P := fun v n' => v = .bool true ∧ ∃ ob, n' = (1052, tabObj ob) :: sansA [1052] ((rl, o') :: (fl, W.listOf fs.toArray nf) :: (rwl, W.listOf xs.toArray nx) :: X')) (k := 40) (i := 5) ?zh ?es B F' XB TB hN XG T (by omega) (by omega) fin
    case es => kernel_rfl!
    case zh => exact places_Bok ck fsA rwl f1 f2 f3 f4 fl xs fs nx nf cs ns _ L m' hPl (sansA_ne (.head _)) hres e1 e2 (mem_sansA (.tail _ (.head _)) (List.forall_mem_cons.mpr ⟨n5, List.forall_mem_nil _⟩)) (hr ns hres)
  | exc C sp =>
    rw [hres] at hD
    obtain ⟨d, tw, ts, rfl, hdd⟩ := hD
    refine' bt_use (P := fun v n' => v = .bool true ∧ ∃ ob, n' = (1052, tabObj ob) :: sansA [1052] ((rl, o') :: (fl, W.listOf fs.toArray nf) :: (rwl, W.listOf xs.toArray nx) :: X')) (k := 40) (i := 5) ?zh2 ?es2 B F' XB TB hN XG T (by omega) (by omega) fin
    case es2 => kernel_rfl!
    case zh2 => exact places_Bexc ck fsA rwl f1 f2 f3 f4 xs nx cs C sp d tw ts _ L m' hPl (sansA_ne (.head _)) hres e1 (tin _ _ hdd)

end
theorem FinTY.z : True := trivial
-- TX
section
theorem StTX.z : True := by
  w_top off
  trivial
variable {w : World} {p : Program} {loose : List Str} {mean : ExcName → Option Value} {mg mb : Str → Option Value}
theorem words_39 : True := by
  k_with "execs cons" => (fail_if_success (open Mine.FinTX in skip)); (((with_reducible show wpAny _ _ (execs (Stmt.For _ _ _ _ _ :: _) _) _ _ _); refine stop_ ?_))
  k_with "ktr_enter" => (fail_if_success (open Mine.FinTX in skip)); ((refine' code_defCT ?u178k1 ?u178k2 ?u178k3 ?u178k4 ?u178k5 ?u178kA ?u178kF ?u178kK ?u178k6 ?u178k7 ?u178k8 ?u178k9 ?u178kB ?u178kD ?_ ?u178c2 ?u178c3 ?u178c4; (case u178kA => exact rfl); (case u178kF => exact rfl); (case u178kK => first | exact rfl | assumption); (case u178k1 => k_asm); (case u178k2 => k_asm); (case u178k3 => k_asm); (case u178k4 => k_asm); (case u178k5 => k_asm); (case u178k6 => k_is); (case u178k7 => k_is); (case u178k8 => ktr_room); (case u178k9 => exact BindsTo.of_eq rfl); (case u178kB => exact rfl); (case u178kD => decide +kernel); (case u178c2 => exact rfl); (case u178c3 => exact rfl); (case u178c4 => exact rfl); k_whole; intro qqg' qqL' qqh' qqtk' qqcells' qqFG' qqF' qqN' qqY' qqB' qqX' qqT' qql1; (have qqlc1 := lt_up qql1 (Nat.lt_succ_self _)); (have qqlc2 := lt_up qqlc1 (Nat.lt_succ_self _)); (have qqlc3 := lt_up qqlc2 (Nat.lt_succ_self _)); (have qqlcW := qqlc2); k_cells qqY'; (try simp only [List.cons_append, List.nil_append] at qqN'); (try dsimp only); (k_dflt (show wpAny _ _ (execs (List.cons _ _) _) _ _ _)); (try k_fold)))
  k_with "hA" => (fail_if_success (open Mine.FinTX in skip)); ((refine' mem_sansA ?u179a ?u179b; (case u179a => k_dflt k_mem); (case u179b => (repeat' (first | exact List.forall_mem_nil _ | (refine' List.forall_mem_cons.mpr ⟨?_, ?_⟩))); all_goals k_dflt k_ne)))
  k_with "hs" => (fail_if_success (open Mine.FinTX in skip)); ((repeat' (first | exact sansA_sub | (refine' List.forall_mem_cons.mpr ⟨?_, ?_⟩))); all_goals k_dflt k_mem)
  trivial
theorem news_sub {g h : Heap} {L : Addr} {Y Z : List (Addr × Obj)} (N : News g L h Z) (s : ∀ q ∈ Y, q ∈ Z) : News g L h Y := fun q hq => N q (s q hq)
theorem far5 {a : Nat} (h : 1058 ≤ a) : a ≠ 1052 := by omega
theorem sans_keep {Z news : List (Addr × Obj)} {a b c d : Addr} (h1 : ∀ q ∈ news, q.1 ≠ a) (h2 : ∀ q ∈ news, q.1 ≠ b) (h3 : ∀ q ∈ news, q.1 ≠ c) (h4 : ∀ q ∈ news, q.1 ≠ d) (hs : ∀ q ∈ news, q ∈ Z) : ∀ q ∈ news, q ∈ sansA [a, b, c, d] Z := fun q hq => mem_sansA (hs q hq) (List.forall_mem_cons.mpr ⟨h1 q hq, List.forall_mem_cons.mpr ⟨h2 q hq, List.forall_mem_cons.mpr ⟨h3 q hq, List.forall_mem_cons.mpr ⟨h4 q hq, List.forall_mem_nil _⟩⟩⟩⟩)
theorem pa_use {L : Addr} {M : Model} {A : Around} {env : Env} {Q : Flow → Shared → Prop} {E : Value → Shared → Prop} {s : Shared} {ss : List Stmt} (es : ss = (fdTop 118).body.drop 4) (h : wpAny M A (execs ((fdTop 118).body.drop 4) env) Q E s) : wpAny M A (execs ss env) Q E s := es ▸ h
theorem places_right (rl ck : Addr) (o : Obj) (ho : Reel o) (news : List (Addr × Obj)) (h1 : ∀ q ∈ news, q.1 ≠ rl) (h2 : ∀ q ∈ news, q.1 ≠ 1052) (hr : @LE.le Nat _ 1058 rl) (H : HCtx w news ck) :
    CtrT pw' w p loose mean mg mb 1055 [.ref rl, .ref ck] ((rl, o) :: (1052, tabObj #[]) :: news) 60 (fun v n' => v = .bool true ∧ ∃ o' ps, Reel o' ∧ n' = (rl, o') :: (1052, tabObj ps) :: news) := by
  intro dp un gd cn cs ad ccd cl outer A₀ base h₀ L m s Q E B F XB TB N X T hk hd hu hret
  refine wpAny_call ?_
  k_dflt ktr_enter
  k_steps
  refine go_on ?_
  rename Fr _ _ _ _ => F9
  rename News _ _ _ _ => N9
  rename Below _ _ (_ :: _) _ => B9
  rename (_ = Data.cell _) => d3'
  have z1 := far5 hr
  with_unfolding_all refine' pa_use (L := 0) ?es (places_A rl ck _ _ _ _ _ _ _ _ _ _ _ _ _ _ _ _ _ _ _ _ (sansA [rl, _, _, 1052] _) _ _ ho ?c1 ?d1 ?c2 ?d2 ?c3 d3' ?H ?hF ?h1 ?h2 ?h3 ?h4 ?hkl ?hK (sansA_ne (.head _)) (sansA_ne (.tail _ (.head _))) (sansA_ne (.tail _ (.tail _ (.head _)))) (sansA_ne (.tail _ (.tail _ (.tail _ (.head _))))) ?n1 ?n2 ?n3 ?n4 ?n5 ?n6 ?m1 ?m2 ?m3 ?m4 (fun _ _ _ _ _ => trivial) _ _ _ _ _ _ _ { heap := _, gens := s.gens, drawn := s.drawn, toks := _, os := s.os } _ _ B9 F9 ?XB ?TB (news_sub N9 ?hs) ?XG ?T ?hd ?hu ?hE ?hret)
  case es => kernel_rfl!
  case m1 => rfl
  case m2 => rfl
  case m3 => rfl
  case m4 => rfl
  case XB => assumption
  case TB => assumption
  case XG => k_in
  case T => assumption
  case hd => ktr_room
  case hu => ktr_units
  case hE => passes_own
  case hs => walk_at "hs"
  case n1 => k_dflt k_ne
  case n2 => k_dflt k_ne
  case n3 => k_dflt k_ne
  case n4 => k_dflt k_ne
  case n5 => k_dflt k_ne
  case n6 => k_dflt k_ne
  case c1 => walk_at "hA"
  case c2 => walk_at "hA"
  case c3 => walk_at "hA"
  case d1 => first | assumption | rfl
  case d2 => first | assumption | rfl
  case H => exact H.mono (sans_keep h1 (by k_dflt k_all) (by k_dflt k_all) h2 (by k_extra "sub"))
  case hF => walk_at "hA"
  case h1 => exact ⟨_, _, _, by walk_at "hA"⟩
  case h2 => exact ⟨_, _, _, by walk_at "hA"⟩
  case h3 => exact ⟨_, _, _, by walk_at "hA"⟩
  case h4 => exact ⟨_, _, _, by walk_at "hA"⟩
  case hkl => walk_at "hA"
  case hK => exact List.forall_mem_cons.mpr ⟨⟨.nm "a", .inl rfl, ⟨_, _, _, _, rfl, by walk_at "hA"⟩⟩, List.forall_mem_cons.mpr ⟨⟨.nm "B", .inr (.inl rfl), ⟨_, _, _, _, rfl, by walk_at "hA"⟩⟩, List.forall_mem_cons.mpr ⟨⟨.nm "T", .inr (.inr (.inl rfl)), ⟨_, _, _, _, rfl, by walk_at "hA"⟩⟩, List.forall_mem_cons.mpr ⟨⟨.nm "_", .inr (.inr (.inr (.inl rfl))), ⟨_, _, _, _, rfl, by walk_at "hA"⟩⟩, List.forall_mem_cons.mpr ⟨⟨.nm "z", .inr (.inr (.inr (.inr rfl))), ⟨_, _, _, _, rfl, by walk_at "hA"⟩⟩, List.forall_mem_cons.mpr ⟨⟨.num, trivial, ⟨_, _, _, _, rfl, by walk_at "hA"⟩⟩, List.forall_mem_cons.mpr ⟨⟨.non, trivial, rfl⟩, List.forall_mem_nil _⟩⟩⟩⟩⟩⟩⟩
  case hret =>
    rintro v n' h' tk' g' m' T1 ⟨rfl, o', ps, hR, rfl⟩ F1 N1 B1
    refine ⟨g', _, m', (rl, o') :: (1052, tabObj ps) :: news, T1, F1, fun q hq => N1 q ?_, fun h₀' T0 F0' N0' B0' => hret _ _ _ _ _ T0 ⟨rfl, o', ps, hR, rfl⟩ F0' N0' B0'⟩
    rcases List.mem_cons.mp hq with rfl | hq
    · exact .head _
    · rcases List.mem_cons.mp hq with rfl | hq
      · exact .tail _ (.head _)
      · exact .tail _ (.tail _ (sans_keep h1 (by k_dflt k_all) (by k_dflt k_all) h2 (by k_extra "sub") q hq))

end
theorem FinTX.z : True := trivial
-- PB
section
theorem StPB.z : True := by
  w_top off
  trivial
variable {w : World} {p : Program} {loose : List Str} {mean : ExcName → Option Value} {mg mb : Str → Option Value}
theorem words_40 : True := by
  k_with "compareOp NotIn str ref" => (fail_if_success (open Mine.FinPB in skip)); ((k_dflt (refine kdg_notin (knd := PySem.strKind _ _) (by k_asm) (by k_mem) (by k_asm) (by k_asm) (strKind_is _ _ _ _) true (by rfl) ?_); (try dsimp only)))
  trivial
/-- what place_told reads -/
noncomputable def PCtx (w : World) (news : List (Addr × Obj)) (ck : Addr) : Prop := ∃ wd rd nd rT uT t1 t2, HasObj news 930 ck (fun o => Attr o "world" (some (.ref wd)) ∧ Attr o "readers" (some (.ref rd)) ∧ Attr o "expr" none) ∧ HasDict w news rd [("told", .ref 1036)] ∧
  HasObj news 997 wd (fun o => Attr o "named" (some (.ref nd)) ∧ Attr o "base_of" none) ∧ (∃ a b c d e, HasDict w news nd [("error", .ref a), ("runtime.Error", .ref b), ("sync.Mutex", .ref c), ("sync.WaitGroup", .ref d), ("main.T", .ref rT), ("main.S", .ref e)]) ∧
  HasObj news 954 rT (fun o => Attr o "underlying" (some (.ref uT))) ∧ (uT, tup [.str "int" t1, .str "int8" t2]) ∈ news
theorem PCtx.mono {news l : List (Addr × Obj)} {ck : Addr} (s : ∀ q ∈ news, q ∈ l) (H : PCtx w news ck) : PCtx w l ck :=
  H.imp fun _ => .imp fun _ => .imp fun _ => .imp fun _ => .imp fun _ => .imp fun _ => .imp fun _ h => ⟨h.1.mono s, h.2.1.mono s, h.2.2.1.mono s, h.2.2.2.1.imp fun _ => .imp fun _ => .imp fun _ => .imp fun _ => .imp fun _ d => d.mono s, h.2.2.2.2.1.mono s, s _ h.2.2.2.2.2⟩
theorem expr_ok (ck ky : Addr) (t1 : Tok) (x mv : Value) (news : List (Addr × Obj)) (H : PCtx w news ck) (h : (ky, tup [.str "told" t1, x, mv]) ∈ news) :
    Ctr pw' w p loose mean mg mb 840 [.ref ck, .ref ky] news 6 (fun v n' => v = mv ∧ n' = news) := by
  intro dp un gd cn cs ad ccd cl outer A₀ base h₀ L m s Q E B F X N T hk hd hu hret
  obtain ⟨wd, rd, nd, rT, uT, t2, t3, ⟨d1, o1, i1, j1, a1, a2, a3⟩, ⟨o2, i2, lo2, sd2⟩, -⟩ := H
  refine wpAny_call ?_
  first | (k_dflt ktr_enter) | fail "no way in"
  k_steps
  rename News h₀ L _ _ => N9
  exact hret _ _ _ _ ⟨rfl, rfl⟩ (by assumption) (fun q hq => N9 q (by k_extra "mm"))
theorem base_int (wd a : Addr) (t1 : Tok) (x : Value) (news : List (Addr × Obj)) (h : (a, tup [.str "int" t1, x]) ∈ news) :
    Ctr pw' w p loose mean mg mb 987 [.ref wd, .ref a] news 6 (fun v n' => v = .ref a ∧ n' = news) := by
  intro dp un gd cn cs ad ccd cl outer A₀ base h₀ L m s Q E B F X N T hk hd hu hret
  refine wpAny_call ?_
  first | (k_dflt ktr_enter) | fail "no way in"
  k_steps
  rename News h₀ L _ _ => N9
  exact hret _ _ _ _ ⟨rfl, rfl⟩ (by assumption) (fun q hq => N9 q (by k_extra "mm"))
theorem base_named (wd a : Addr) (t1 t2 : Tok) (news : List (Addr × Obj)) (h : (a, tup [.str "named" t1, .str "main.T" t2]) ∈ news) (nd rT uT : Addr) (t3 t4 : Tok) (H1 : HasObj news 997 wd (fun o => Attr o "named" (some (.ref nd)) ∧ Attr o "base_of" none)) (H2 : ∃ a b c d e, HasDict w news nd [("error", .ref a), ("runtime.Error", .ref b), ("sync.Mutex", .ref c), ("sync.WaitGroup", .ref d), ("main.T", .ref rT), ("main.S", .ref e)])
    (H3 : HasObj news 954 rT (fun o => Attr o "underlying" (some (.ref uT)))) (H4 : (uT, tup [.str "int" t3, .str "int8" t4]) ∈ news) :
    Ctr pw' w p loose mean mg mb 987 [.ref wd, .ref a] news 6 (fun v n' => v = .ref uT ∧ n' = news) := by
  intro dp un gd cn cs ad ccd cl outer A₀ base h₀ L m s Q E B F X N T hk hd hu hret
  obtain ⟨d2, o2, i2, j2, a2, a3⟩ := H1
  obtain ⟨x1, x2, x3, x4, x5, ⟨o3, i3, lo3, sd3⟩⟩ := H2
  obtain ⟨d4, o4, i4, j4, a5⟩ := H3
  refine wpAny_call ?_
  first | (k_dflt ktr_enter) | fail "no way in"
  k_steps
  rename News h₀ L _ _ => N9
  exact hret _ _ _ _ ⟨rfl, rfl⟩ (by assumption) (fun q hq => N9 q (by k_extra "mm"))
theorem words_41 : True := by
  k_with "call ref cons nil" => (fail_if_success (open Mine.FinPB in skip)); (k_dflt ((with_unfolding_all refine' use_c (base_int _ _ _ _ _ ?u182hh) ?u182ke ?u182ka ?u182kB ?u182kF ?u182kX ?u182kN ?u182kT ?u182hk ?u182hd ?u182hu ?_); (case u182ke => exact rfl); (case u182ka => exact rfl); (case u182kB => assumption); (case u182kF => assumption); (case u182kX => k_in); (case u182kN => assumption); (case u182kT => assumption); (case u182hh => k_mem); (case u182hk => first | rfl | assumption); (case u182hd => ktr_room); (case u182hu => ktr_units); (intro qqv9 qqn9 qqh9 qqtk9 qqp9 qqF9 qqN9; obtain ⟨qqe1, qqe2⟩ := qqp9; subst qqe1; subst qqe2; (try k_sweep); (try dsimp only))))
  k_with "call ref cons nil" => (fail_if_success (open Mine.FinPB in skip)); (k_dflt ((with_unfolding_all refine' use_c (base_named _ _ _ _ _ ?u183hh _ _ _ _ _ ?u183h1 ?u183h2 ?u183h3 ?u183h4) ?u183ke ?u183ka ?u183kB ?u183kF ?u183kX ?u183kN ?u183kT ?u183hk ?u183hd ?u183hu ?_); (case u183ke => exact rfl); (case u183ka => exact rfl); (case u183kB => assumption); (case u183kF => assumption); (case u183kX => k_in); (case u183kN => assumption); (case u183kT => assumption); (case u183hh => k_mem); (case u183h1 => assumption); (case u183h2 => assumption); (case u183h3 => assumption); (case u183h4 => k_mem); (case u183hk => first | rfl | assumption); (case u183hd => ktr_room); (case u183hu => ktr_units); (intro qqv9 qqn9 qqh9 qqtk9 qqp9 qqF9 qqN9; obtain ⟨qqe1, qqe2⟩ := qqp9; subst qqe1; subst qqe2; (try k_sweep); (try dsimp only))))
  trivial
theorem in_tup_strs {prog : Program} {w : World} {A : Around} {E : Value → Shared → Prop} {s : Shared} {h₀ : Heap} {L a : Addr} {news : List (Addr × Obj)} {vs : List Value} {ys : List Str} {k : Str} {t : Tok} {Q : Value → Shared → Prop} (N : News h₀ L s.heap news) (hm : (a, tup vs) ∈ news) (hi : StrsAre vs ys) (b : Bool) (hb : ys.any (· == k) = b)
    (h : Q (.bool b) s) : wpAny (model prog w) A (compareOp .In (.str k t) (.ref a)) Q E s :=
  PySem.SeqAt.in_tupleAt (isStrOf k) ⟨_, (N _ hm).1, rfl, _, rfl⟩ (fun y hy => (eq_isStrOf k t hi y (by simpa using hy)).at _ _) (by rw [← Array.any_toList, show vs.toArray.toList = vs from rfl, any_isStrOf k hi, hb]; exact h)
theorem words_42 : True := by
  k_with "strs" => (fail_if_success (open Mine.FinPB in skip)); (exact StrsAre.cons _ _ (StrsAre.cons _ _ StrsAre.nil))
  k_with "compareOp In str ref" => (fail_if_success (open Mine.FinPB in skip)); ((k_dflt (refine' in_tup_strs ?u185N ?u185m ?u185s _ ?u185b ?_; (case u185N => k_asm); (case u185m => k_mem); (case u185s => walk_at "strs"); (case u185b => rfl)); (try dsimp only)))
  trivial
/-- what is_integer reads of the world -/
noncomputable def WCtx (w : World) (news : List (Addr × Obj)) (wd : Addr) : Prop := ∃ nd rT uT t3 t4, HasObj news 997 wd (fun o => Attr o "named" (some (.ref nd)) ∧ Attr o "base_of" none) ∧ (∃ a b c d e, HasDict w news nd [("error", .ref a), ("runtime.Error", .ref b), ("sync.Mutex", .ref c), ("sync.WaitGroup", .ref d), ("main.T", .ref rT), ("main.S", .ref e)]) ∧ HasObj news 954 rT (fun o => Attr o "underlying" (some (.ref uT))) ∧ (uT, tup [.str "int" t3, .str "int8" t4]) ∈ news
theorem isint_int (wd a : Addr) (t1 t2 : Tok) (news : List (Addr × Obj)) (H : WCtx w news wd) (h : (a, tup [.str "int" t1, .str "int" t2]) ∈ news) :
    Ctr pw' w p loose mean mg mb 374 [.ref wd, .ref a] news 12 (fun v n' => v = .bool true ∧ n' = news) := by
  intro dp un gd cn cs ad ccd cl outer A₀ base h₀ L m s Q E B F X N T hk hd hu hret
  obtain ⟨nd, rT, uT, t3, t4, H1, H2, H3, H4⟩ := H
  have HH := H1
  obtain ⟨d2, o2, i2, j2, a2, a3⟩ := HH
  refine wpAny_call ?_
  first | (k_dflt ktr_enter) | fail "no way in"
  k_steps
  rename News h₀ L _ _ => N9
  exact hret _ _ _ _ ⟨rfl, rfl⟩ (by assumption) (fun q hq => N9 q (by k_extra "mm"))
theorem isint_named (wd a : Addr) (t1 t2 : Tok) (news : List (Addr × Obj)) (H : WCtx w news wd) (h : (a, tup [.str "named" t1, .str "main.T" t2]) ∈ news) :
    Ctr pw' w p loose mean mg mb 374 [.ref wd, .ref a] news 12 (fun v n' => v = .bool true ∧ n' = news) := by
  intro dp un gd cn cs ad ccd cl outer A₀ base h₀ L m s Q E B F X N T hk hd hu hret
  obtain ⟨nd, rT, uT, t3, t4, H1, H2, H3, H4⟩ := H
  have HH := H1
  obtain ⟨d2, o2, i2, j2, a2, a3⟩ := HH
  refine wpAny_call ?_
  first | (k_dflt ktr_enter) | fail "no way in"
  k_steps
  rename News h₀ L _ _ => N9
  exact hret _ _ _ _ ⟨rfl, rfl⟩ (by assumption) (fun q hq => N9 q (by k_extra "mm"))
theorem isint_uint (wd a : Addr) (t1 t2 : Tok) (news : List (Addr × Obj)) (H : WCtx w news wd) (h : (a, tup [.str "untyped" t1, .str "int" t2]) ∈ news) :
    Ctr pw' w p loose mean mg mb 374 [.ref wd, .ref a] news 12 (fun v n' => v = .bool true ∧ n' = news) := by
  intro dp un gd cn cs ad ccd cl outer A₀ base h₀ L m s Q E B F X N T hk hd hu hret
  obtain ⟨nd, rT, uT, t3, t4, H1, H2, H3, H4⟩ := H
  have HH := H1
  obtain ⟨d2, o2, i2, j2, a2, a3⟩ := HH
  refine wpAny_call ?_
  first | (k_dflt ktr_enter) | fail "no way in"
  k_steps
  rename News h₀ L _ _ => N9
  exact hret _ _ _ _ ⟨rfl, rfl⟩ (by assumption) (fun q hq => N9 q (by k_extra "mm"))
theorem isint_rune (wd a : Addr) (t1 t2 : Tok) (news : List (Addr × Obj)) (H : WCtx w news wd) (h : (a, tup [.str "untyped" t1, .str "rune" t2]) ∈ news) :
    Ctr pw' w p loose mean mg mb 374 [.ref wd, .ref a] news 12 (fun v n' => v = .bool true ∧ n' = news) := by
  intro dp un gd cn cs ad ccd cl outer A₀ base h₀ L m s Q E B F X N T hk hd hu hret
  obtain ⟨nd, rT, uT, t3, t4, H1, H2, H3, H4⟩ := H
  have HH := H1
  obtain ⟨d2, o2, i2, j2, a2, a3⟩ := HH
  refine wpAny_call ?_
  first | (k_dflt ktr_enter) | fail "no way in"
  k_steps
  rename News h₀ L _ _ => N9
  exact hret _ _ _ _ ⟨rfl, rfl⟩ (by assumption) (fun q hq => N9 q (by k_extra "mm"))
theorem isint_ustr (wd a : Addr) (t1 t2 : Tok) (news : List (Addr × Obj)) (H : WCtx w news wd) (h : (a, tup [.str "untyped" t1, .str "string" t2]) ∈ news) :
    Ctr pw' w p loose mean mg mb 374 [.ref wd, .ref a] news 12 (fun v n' => v = .bool false ∧ n' = news) := by
  intro dp un gd cn cs ad ccd cl outer A₀ base h₀ L m s Q E B F X N T hk hd hu hret
  obtain ⟨nd, rT, uT, t3, t4, H1, H2, H3, H4⟩ := H
  have HH := H1
  obtain ⟨d2, o2, i2, j2, a2, a3⟩ := HH
  refine wpAny_call ?_
  first | (k_dflt ktr_enter) | fail "no way in"
  k_steps
  rename News h₀ L _ _ => N9
  exact hret _ _ _ _ ⟨rfl, rfl⟩ (by assumption) (fun q hq => N9 q (by k_extra "mm"))
theorem isint_ubool (wd a : Addr) (t1 t2 : Tok) (news : List (Addr × Obj)) (H : WCtx w news wd) (h : (a, tup [.str "untyped" t1, .str "bool" t2]) ∈ news) :
    Ctr pw' w p loose mean mg mb 374 [.ref wd, .ref a] news 12 (fun v n' => v = .bool false ∧ n' = news) := by
  intro dp un gd cn cs ad ccd cl outer A₀ base h₀ L m s Q E B F X N T hk hd hu hret
  obtain ⟨nd, rT, uT, t3, t4, H1, H2, H3, H4⟩ := H
  have HH := H1
  obtain ⟨d2, o2, i2, j2, a2, a3⟩ := HH
  refine wpAny_call ?_
  first | (k_dflt ktr_enter) | fail "no way in"
  k_steps
  rename News h₀ L _ _ => N9
  exact hret _ _ _ _ ⟨rfl, rfl⟩ (by assumption) (fun q hq => N9 q (by k_extra "mm"))
/-- a type of whole numbers; another one -/
noncomputable def IntT (X : List (Addr × Obj)) (T : Addr) : Prop := (∃ t1 t2, (T, tup [.str "int" t1, .str "int" t2]) ∈ X) ∨ (∃ t1 t2, (T, tup [.str "named" t1, .str "main.T" t2]) ∈ X) ∨ (∃ t1 t2, (T, tup [.str "untyped" t1, .str "int" t2]) ∈ X) ∨ (∃ t1 t2, (T, tup [.str "untyped" t1, .str "rune" t2]) ∈ X)
noncomputable def NoIntT (X : List (Addr × Obj)) (T : Addr) : Prop := (∃ t1 t2, (T, tup [.str "untyped" t1, .str "string" t2]) ∈ X) ∨ (∃ t1 t2, (T, tup [.str "untyped" t1, .str "bool" t2]) ∈ X)
theorem isint_yes (wd a : Addr) (news : List (Addr × Obj)) (H : WCtx w news wd) (h : IntT news a) : Ctr pw' w p loose mean mg mb 374 [.ref wd, .ref a] news 12 (fun v n' => v = .bool true ∧ n' = news) := by
  rcases h with ⟨t6, t7, hT⟩ | ⟨t6, t7, hT⟩ | ⟨t6, t7, hT⟩ | ⟨t6, t7, hT⟩
  · exact isint_int wd a _ _ news H hT
  · exact isint_named wd a _ _ news H hT
  · exact isint_uint wd a _ _ news H hT
  · exact isint_rune wd a _ _ news H hT
theorem isint_no (wd a : Addr) (news : List (Addr × Obj)) (H : WCtx w news wd) (h : NoIntT news a) : Ctr pw' w p loose mean mg mb 374 [.ref wd, .ref a] news 12 (fun v n' => v = .bool false ∧ n' = news) := by
  rcases h with ⟨t6, t7, hT⟩ | ⟨t6, t7, hT⟩
  · exact isint_ustr wd a _ _ news H hT
  · exact isint_ubool wd a _ _ news H hT
theorem words_43 : True := by
  k_with "call ref cons nil" => (fail_if_success (open Mine.FinPB in skip)); (k_dflt ((with_unfolding_all refine' use_c (isint_yes _ _ _ ?u186H ?u186hh) ?u186ke ?u186ka ?u186kB ?u186kF ?u186kX ?u186kN ?u186kT ?u186hk ?u186hd ?u186hu ?_); (case u186ke => exact rfl); (case u186ka => exact rfl); (case u186kB => assumption); (case u186kF => assumption); (case u186kX => k_in); (case u186kN => assumption); (case u186kT => assumption); (case u186hh => assumption); (case u186H => assumption); (case u186hk => first | rfl | assumption); (case u186hd => ktr_room); (case u186hu => ktr_units); (intro qqv9 qqn9 qqh9 qqtk9 qqp9 qqF9 qqN9; obtain ⟨qqe1, qqe2⟩ := qqp9; subst qqe1; subst qqe2; (try k_sweep); (try dsimp only))))
  k_with "call ref cons nil" => (fail_if_success (open Mine.FinPB in skip)); (k_dflt ((with_unfolding_all refine' use_c (isint_no _ _ _ ?u187H ?u187hh) ?u187ke ?u187ka ?u187kB ?u187kF ?u187kX ?u187kN ?u187kT ?u187hk ?u187hd ?u187hu ?_); (case u187ke => exact rfl); (case u187ka => exact rfl); (case u187kB => assumption); (case u187kF => assumption); (case u187kX => k_in); (case u187kN => assumption); (case u187kT => assumption); (case u187hh => assumption); (case u187H => assumption); (case u187hk => first | rfl | assumption); (case u187hd => ktr_room); (case u187hu => ktr_units); (intro qqv9 qqn9 qqh9 qqtk9 qqp9 qqF9 qqN9; obtain ⟨qqe1, qqe2⟩ := qqp9; subst qqe1; subst qqe2; (try k_sweep); (try dsimp only))))
  k_with "call ref cons nil" => (fail_if_success (open Mine.FinPB in skip)); (k_dflt ((with_unfolding_all refine' use_c (expr_ok _ _ _ _ _ _ ?u188H ?u188hh) ?u188ke ?u188ka ?u188kB ?u188kF ?u188kX ?u188kN ?u188kT ?u188hk ?u188hd ?u188hu ?_); (case u188ke => exact rfl); (case u188ka => exact rfl); (case u188kB => assumption); (case u188kF => assumption); (case u188kX => k_in); (case u188kN => assumption); (case u188kT => assumption); (case u188hh => k_mem); (case u188H => (refine' PCtx.mono ?u188zs ?u188zh; (case u188zh => assumption); (case u188zs => k_extra "sub"))); (case u188hk => first | rfl | assumption); (case u188hd => ktr_room); (case u188hu => ktr_units); (intro qqv9 qqn9 qqh9 qqtk9 qqp9 qqF9 qqN9; obtain ⟨qqe1, qqe2⟩ := qqp9; subst qqe1; subst qqe2; (try k_sweep); (try dsimp only))))
  trivial
theorem PCtx.wc {news : List (Addr × Obj)} {ck : Addr} (H : PCtx w news ck) : ∃ wd, HasObj news 930 ck (fun o => Attr o "world" (some (.ref wd)) ∧ Attr o "expr" none) ∧ WCtx w news wd :=
  H.imp fun _ h => h.elim fun _ h => ⟨h.elim fun _ h => h.elim fun _ h => h.elim fun _ h => h.elim fun _ h => h.elim fun _ h => h.1.imp fun _ => .imp fun _ h => ⟨h.1, h.2.1, h.2.2.1, h.2.2.2.2⟩, h.imp fun _ => .imp fun _ => .imp fun _ => .imp fun _ => .imp fun _ h => h.2.2⟩
theorem words_44 : True := by
  k_with "exec Raise some none" => (fail_if_success (open Mine.FinPB in skip)); ((first | refine raiseT rfl ?_ | refine raiseN rfl ?_ | refine raiseC rfl ?_))
  k_with "call ref cons nil" => (fail_if_success (open Mine.FinPB in skip)); (((with_unfolding_all refine' newX _ _ _ _ _ _ ?u190kB ?u190kF ?u190kX ?u190kN ?u190kT ?u190XX ?u190hi ?u190hk ?u190hd ?u190hu ?_); (case u190kB => assumption); (case u190kF => assumption); (case u190kX => assumption); (case u190kN => assumption); (case u190kT => assumption); (case u190XX => first | exact xc_78 (by assumption) | exact xc_66 (by assumption) | exact xc_90 (by assumption)); (case u190hi => rfl); (case u190hk => rfl); (case u190hd => ktr_room); (case u190hu => ktr_units); intro qqe1 qqD1 qqt1 qqoD1 qqh1 qqtk1 qqF1 qqN1 qqhne1 qqhap1 qqHD1))
  trivial
theorem exc_sub {g h : Heap} {L : Addr} {a b : Addr × Obj} {Y Z : List (Addr × Obj)} (N : News g L h (a :: b :: Z)) (s : ∀ q ∈ Y, q ∈ Z) : News g L h (a :: b :: Y) := fun q hq => N q ((List.mem_cons.mp hq).elim (fun e => e ▸ .head _) fun hq => (List.mem_cons.mp hq).elim (fun e => e ▸ .tail _ (.head _)) fun hq => .tail _ (.tail _ (s q hq)))
theorem exc_off {e : Addr} {Y Z : List (Addr × Obj)} (h : ∀ q ∈ Z, q.1 ≠ e) (s : ∀ q ∈ Y, q ∈ Z) : ∀ q ∈ Y, q.1 ≠ e := fun q hq => h q (s q hq)
theorem pt_num (ck ky mk : Addr) (T : Addr) (t1 t2 t3 t4 : Tok) (n : Int) (x : Value) (news : List (Addr × Obj)) (H : PCtx w news ck) (h : (ky, tup [.str "told" t1, .int 31 t2, .ref mk]) ∈ news) (h2 : (mk, tup [.str "const" t3, .ref T, x, .int n t4]) ∈ news) (hT : IntT news T) (hn : 0 ≤ n ∧ n < 1048576) :
    CtrR pw' w p loose mean mg mb 414 [.ref ck, .ref ky] news 24 (fun v n' => ∃ t, v = .int n t ∧ n' = news) (fun _ _ => False) := by
  intro dp un gd cn cs ad ccd cl outer A₀ base h₀ L m s Q E B F X N T hk hd hu hret hexc
  obtain ⟨wd, ⟨d1, o1, i1, j1, a1, a2⟩, HW⟩ := H.wc
  refine wpAny_call ?_
  first | (k_dflt ktr_enter) | fail "no way in"
  k_steps
  rename News h₀ L _ _ => N9
  exact hret _ _ _ _ ⟨_, rfl, rfl⟩ (by assumption) (fun q hq => N9 q (by k_extra "mm"))
theorem pt_out (ck ky mk : Addr) (T : Addr) (t1 t2 t3 t4 : Tok) (n : Int) (x : Value) (news : List (Addr × Obj)) (H : PCtx w news ck) (h : (ky, tup [.str "told" t1, .int 31 t2, .ref mk]) ∈ news) (h2 : (mk, tup [.str "const" t3, .ref T, x, .int n t4]) ∈ news) (hT : IntT news T) (hn : ¬ (0 ≤ n ∧ n < 1048576)) :
    CtrR pw' w p loose mean mg mb 414 [.ref ck, .ref ky] news 24 (fun _ _ => False) (fun C sp => C = 90 ∧ sp = 31) := by
  intro dp un gd cn cs ad ccd cl outer A₀ base h₀ L m s Q E B F X N T hk hd hu hret hexc
  obtain ⟨wd, ⟨d1, o1, i1, j1, a1, a2⟩, HW⟩ := H.wc
  refine wpAny_call ?_
  first | (k_dflt ktr_enter) | fail "no way in"
  k_steps
  · rename News _ _ _ _ => N9
    rename Holds1 _ _ => H9
    rename Fr _ _ _ _ => F9
    refine ⟨_, _, _, _, rfl, (xc_90 ((by assumption : Frag.In _ _).keeps F9.keep)), (N9 _ (.head _)).1, rfl, rfl, ?_⟩
    refine rz_raise (by assumption) (by assumption) F9 (exc_sub N9 (by k_extra "sub")) (by assumption) (exc_off (by assumption) (by k_extra "sub")) H9 rfl (fun q hq => (N q hq).2.1) (fun h' R => ?_) rfl
    exact hexc _ _ _ _ _ ⟨rfl, rfl⟩ R
  k_steps
  rename News _ _ _ _ => N9
  rename Holds1 _ _ => H9
  rename Fr _ _ _ _ => F9
  refine ⟨_, _, _, _, rfl, (xc_90 ((by assumption : Frag.In _ _).keeps F9.keep)), (N9 _ (.head _)).1, rfl, rfl, ?_⟩
  refine rz_raise (by assumption) (by assumption) F9 (exc_sub N9 (by k_extra "sub")) (by assumption) (exc_off (by assumption) (by k_extra "sub")) H9 rfl (fun q hq => (N q hq).2.1) (fun h' R => ?_) rfl
  exact hexc _ _ _ _ _ ⟨rfl, rfl⟩ R
theorem pt_no (ck ky mk : Addr) (T : Addr) (t1 t2 t3 : Tok) (x y : Value) (news : List (Addr × Obj)) (H : PCtx w news ck) (h : (ky, tup [.str "told" t1, .int 31 t2, .ref mk]) ∈ news) (h2 : (mk, tup [.str "const" t3, .ref T, x, y]) ∈ news) (hT : NoIntT news T) :
    CtrR pw' w p loose mean mg mb 414 [.ref ck, .ref ky] news 24 (fun _ _ => False) (fun C sp => C = 78 ∧ sp = 31) := by
  intro dp un gd cn cs ad ccd cl outer A₀ base h₀ L m s Q E B F X N T hk hd hu hret hexc
  obtain ⟨wd, ⟨d1, o1, i1, j1, a1, a2⟩, HW⟩ := H.wc
  refine wpAny_call ?_
  first | (k_dflt ktr_enter) | fail "no way in"
  k_steps
  rename News _ _ _ _ => N9
  rename Holds1 _ _ => H9
  rename Fr _ _ _ _ => F9
  refine ⟨_, _, _, _, rfl, (xc_78 ((by assumption : Frag.In _ _).keeps F9.keep)), (N9 _ (.head _)).1, rfl, rfl, ?_⟩
  refine rz_raise (by assumption) (by assumption) F9 (exc_sub N9 (by k_extra "sub")) (by assumption) (exc_off (by assumption) (by k_extra "sub")) H9 rfl (fun q hq => (N q hq).2.1) (fun h' R => ?_) rfl
  exact hexc _ _ _ _ _ ⟨rfl, rfl⟩ R
theorem pt_loc (ck ky mk : Addr) (t1 t2 t3 : Tok) (x y z : Value) (news : List (Addr × Obj)) (H : PCtx w news ck) (h : (ky, tup [.str "told" t1, .int 31 t2, .ref mk]) ∈ news) (h2 : (mk, tup [.str "local" t3, x, y, z]) ∈ news) :
    CtrR pw' w p loose mean mg mb 414 [.ref ck, .ref ky] news 24 (fun _ _ => False) (fun C sp => C = 78 ∧ sp = 31) := by
  intro dp un gd cn cs ad ccd cl outer A₀ base h₀ L m s Q E B F X N T hk hd hu hret hexc
  obtain ⟨wd, ⟨d1, o1, i1, j1, a1, a2⟩, HW⟩ := H.wc
  refine wpAny_call ?_
  first | (k_dflt ktr_enter) | fail "no way in"
  k_steps
  rename News _ _ _ _ => N9
  rename Holds1 _ _ => H9
  rename Fr _ _ _ _ => F9
  refine ⟨_, _, _, _, rfl, (xc_78 ((by assumption : Frag.In _ _).keeps F9.keep)), (N9 _ (.head _)).1, rfl, rfl, ?_⟩
  refine rz_raise (by assumption) (by assumption) F9 (exc_sub N9 (by k_extra "sub")) (by assumption) (exc_off (by assumption) (by k_extra "sub")) H9 rfl (fun q hq => (N q hq).2.1) (fun h' R => ?_) rfl
  exact hexc _ _ _ _ _ ⟨rfl, rfl⟩ R

end
theorem FinPB.z : True := trivial
-- PD
section
theorem StPD.z : True := by
  w_top off
  trivial
variable {w : World} {p : Program} {loose : List Str} {mean : ExcName → Option Value} {mg mb : Str → Option Value}
theorem hd1061 {P : Params} {h : Heap} (X : (Kb P).In h) : CodeHd h 1061 1057 := ⟨_, _, _, _, _, _, _, _, _, X 1061 _ rfl, rfl, rfl, rfl, rfl, rfl, rfl, rfl, rfl, by decide⟩
theorem words_45 : True := by
  k_with "kn_code" => (fail_if_success (open Mine.FinPD in skip)); (first | exact hd1061 (by assumption))
  k_with "call ref cons nil" => (fail_if_success (open Mine.FinPD in skip)); (((with_reducible show wpAny _ _ (call (Value.ref 1029) _) _ _ _); refine stop_ ?_))
  k_with "call ref cons nil" => (fail_if_success (open Mine.FinPD in skip)); (((with_reducible show wpAny _ _ (call (Value.ref 414) _) _ _ _); refine stop_ ?_))
  k_with "call ref cons cons" => (fail_if_success (open Mine.FinPD in skip)); (((with_reducible show wpAny _ _ (call (Value.ref 414) _) _ _ _); refine stop_ ?_))
  trivial
noncomputable abbrev BT119 (w : World) (p : Program) (loose : List Str) (mean : ExcName → Option Value) (mg mb : Str → Option Value) := BodyT w p loose mean mg mb "_law_place_right" (fdTop 119) 1062 (.ref 1061)
theorem exc_eq2 {h : Heap} {t d C : Addr} {sp : Int} {tw ts tw0 ts0 : Tok} (h1 : h.get? t = some (tup [.str (wordOf C) tw, .int sp ts])) (h2 : h.get? d = some (tup [.str (wordOf C) tw0, .int sp ts0])) (hC : C = 78 ∨ C = 90) :
    ∃ dd as bs, Reads h (.ref t) dd as ∧ Reads h (.ref d) dd bs ∧ PySem.SeqAt.shaped dd = true ∧ PyData.eqv dd dd = true := by
  have hs : PySem.SeqAt.shaped (.tuple [.str (wordOf C), .int sp]) = true := by
    rcases hC with rfl | rfl
    · rw [show wordOf 78 = "type fault" from rfl]; first | ked_shaped | kernel_rfl!
    · rw [show wordOf 90 = "const fault" from rfl]; first | ked_shaped | kernel_rfl!
  exact ⟨_, _, _, Reads.tuple h1 rfl rfl (.cons (.str _ _) (.cons (.int _ _) .nil)), Reads.tuple h2 rfl rfl (.cons (.str _ _) (.cons (.int _ _) .nil)), hs, PySem.SeqAt.eqv_refl _ (PySem.SeqAt.canLay_of_shaped hs)⟩
theorem words_46 : True := by
  k_with "compareOp Eq ref ref" => (fail_if_success (open Mine.FinPD in skip)); (refine stop_ ?_)
  trivial
theorem place_Cint (ck mk : Addr) (n : Int) (t0 : Tok) (oC oM : Obj) (X : List (Addr × Obj)) (L : Addr) (m : Str → Option Value) (c1 : (L + 1, oC) ∈ X) (d1 : oC.data = .cell (some (.ref ck))) (c2 : (L + 1 + 1, oM) ∈ X) (d2 : oM.data = .cell (some (.ref mk))) (h0 : ∀ q ∈ X, q.1 ≠ 1057) (m3 : m "due" = some (.int n t0))
    (hC : ∀ (ky : Addr) (t1 t2 : Tok) (news : List (Addr × Obj)), (∀ q ∈ X, q ∈ news) → (ky, tup [.str "told" t1, .int 31 t2, .ref mk]) ∈ news → CtrR pw' w p loose mean mg mb 414 [.ref ck, .ref ky] news 24 (fun v n' => ∃ t, v = .int n t ∧ n' = news) (fun _ _ => False)) :
    BT119 w p loose mean mg mb 4 L m ((1057, tabObj #[]) :: X) 40 (fun v n' => v = .bool true ∧ ∃ ps, n' = (1057, tabObj ps) :: X) := by
  intro dp un gd outer A₀ base g s Q E B F XB TB N XG T hk hd hu hret
  have hc0 := hd1061 XG
  k_dflt (show wpAny _ _ (execs (List.cons _ _) _) _ _ _)
  k_steps
  refine go_on ?_
  with_unfolding_all refine' use_tried0 (fun v own => ∃ t, v = .int n t ∧ own = []) (fun _ _ => False) ?ke ?ka ?kB ?kF ?kXB ?kTB ?kN ?kX ?kT ?hk ?hd ?hu ?hfl ?hcall ?hP ?hret ?hexc (k := 32)
  case ke => exact rfl
  case ka => exact rfl
  case kB => assumption
  case kF => assumption
  case kXB => assumption
  case kTB => assumption
  case kN => assumption
  case kX => k_in
  case kT => assumption
  case hk => rfl
  case hd => ktr_room
  case hu => ktr_units
  case hfl => k_dflt k_mem
  case hP => exact fun _ _ h => h.elim
  case hexc => exact fun _ _ _ _ _ _ _ _ _ h => h.elim
  case hcall =>
    intro dp un gd cn cs' ad ccd cl outer A₀ base h₀ L m s Q E B F XG N T hk hd hu hret hexc
    refine wpAny_call ?_
    k_dflt kla_enter
    k_steps
    refine go_on ?_
    rename News _ _ _ _ => N9
    rename Fr _ _ _ (fun y => List.lookup y _) => F9
    with_unfolding_all refine' use_r (hC _ _ _ _ ?pX ?pk) ?ke ?ka ?kB F9 ?kX N9 ?kT ?hk ?hd ?hu ?hret2 ?hexc2
    case ke => exact rfl
    case ka => exact rfl
    case kB => assumption
    case kX => k_in
    case kT => assumption
    case pX => k_extra "sub"
    case pk => k_dflt k_mem
    case hk => first | rfl | assumption
    case hd => ktr_room
    case hu => ktr_units
    case hexc2 => exact fun _ _ _ _ _ h => h.elim
    case hret2 =>
      rintro v9 n9 h9 tk9 ⟨t9, rfl, rfl⟩ F8 N8
      dsimp only
      k_steps
      rename News h₀ L _ _ => N5
      refine' hret _ _ _ _ ⟨[], ⟨_, rfl, rfl⟩, rfl⟩ ?zF ?zn
      case zF => assumption
      case zn =>
        intro q hq
        rcases List.mem_append.mp hq with h | h
        · exact nomatch h
        · exact N5 q (by k_extra "mm")
  case hret =>
    rintro v own h' tk' g' T1 ⟨t9, rfl, rfl⟩ F1 N1 B1 X1 TT1
    k_steps
    rw [beq_self_eq_true n]
    replace N1 : News g' L h' _ := fun q hq => N1 q (List.mem_append_right _ hq)
    refine' hret _ ((1057, _) :: X) _ _ _ _ T1 ⟨rfl, _, rfl⟩ F1 ?zn B1
    case zn =>
      intro q hq
      rcases List.mem_cons.mp hq with rfl | hq
      · exact N1 _ (by k_dflt k_mem)
      · exact N1 q (by k_extra "mm")
theorem place_Cexc (ck mk d C0 : Addr) (t0 t00 : Tok) (oC oM : Obj) (X : List (Addr × Obj)) (L : Addr) (m : Str → Option Value) (c1 : (L + 1, oC) ∈ X) (d1 : oC.data = .cell (some (.ref ck))) (c2 : (L + 1 + 1, oM) ∈ X) (d2 : oM.data = .cell (some (.ref mk))) (h0 : ∀ q ∈ X, q.1 ≠ 1057) (m3 : m "due" = some (.ref d)) (hdd : (d, tup [.str (wordOf C0) t0, .int 31 t00]) ∈ X) (hC0 : C0 = 78 ∨ C0 = 90)
    (hC : ∀ (ky : Addr) (t1 t2 : Tok) (news : List (Addr × Obj)), (∀ q ∈ X, q ∈ news) → (ky, tup [.str "told" t1, .int 31 t2, .ref mk]) ∈ news → CtrR pw' w p loose mean mg mb 414 [.ref ck, .ref ky] news 24 (fun _ _ => False) (fun C sp => C = C0 ∧ sp = 31)) :
    BT119 w p loose mean mg mb 4 L m ((1057, tabObj #[]) :: X) 40 (fun v n' => v = .bool true ∧ ∃ ps, n' = (1057, tabObj ps) :: X) := by
  intro dp un gd outer A₀ base g s Q E B F XB TB N XG T hk hd hu hret
  have hc0 := hd1061 XG
  k_dflt (show wpAny _ _ (execs (List.cons _ _) _) _ _ _)
  k_steps
  refine go_on ?_
  with_unfolding_all refine' use_tried0 (fun _ _ => False) (fun C sp => C = C0 ∧ sp = 31) ?ke ?ka ?kB ?kF ?kXB ?kTB ?kN ?kX ?kT ?hk ?hd ?hu ?hfl ?hcall ?hP ?hret ?hexc (k := 32)
  case ke => exact rfl
  case ka => exact rfl
  case kB => assumption
  case kF => assumption
  case kXB => assumption
  case kTB => assumption
  case kN => assumption
  case kX => k_in
  case kT => assumption
  case hk => rfl
  case hd => ktr_room
  case hu => ktr_units
  case hfl => k_dflt k_mem
  case hP => exact fun C sp h => hC0.elim (fun e => .inr (.inl (h.1.trans e))) fun e => .inr (.inr (h.1.trans e))
  case hret => exact fun _ _ _ _ _ _ h => h.elim
  case hcall =>
    intro dp un gd cn cs' ad ccd cl outer A₀ base h₀ L m s Q E B F XG N T hk hd hu hret hexc
    refine wpAny_call ?_
    k_dflt kla_enter
    k_steps
    refine go_on ?_
    rename News _ _ _ _ => N9
    rename Fr _ _ _ (fun y => List.lookup y _) => F9
    with_unfolding_all refine' use_r (hC _ _ _ _ ?pX ?pk) ?ke ?ka ?kB F9 ?kX N9 ?kT ?hk ?hd ?hu ?hret2 ?hexc2
    case ke => exact rfl
    case ka => exact rfl
    case kB => assumption
    case kX => k_in
    case kT => assumption
    case pX => k_extra "sub"
    case pk => k_dflt k_mem
    case hk => first | rfl | assumption
    case hd => ktr_room
    case hu => ktr_units
    case hret2 => exact fun _ _ _ _ h => h.elim
    case hexc2 =>
      rintro e C sp h' tk' ⟨rfl, rfl⟩ R
      k_unfold
      refine rz_next (A₁ := A₀) (base := base) rfl rfl (by assumption) F9 (news_ne (by assumption) N9) R (fun h2 R2 => ?_)
      exact hexc _ _ _ _ _ ⟨rfl, rfl⟩ (R2.sub (by k_extra "sub"))
  case hexc =>
    rintro C sp t tw ts h' tk' g' T1 ⟨rfl, rfl⟩ hl F1 N1 B1 X1 TT1
    k_steps
    refine go_on ?_
    obtain ⟨dd, as, bs, q1, q2, q3, q4⟩ := exc_eq2 (N1 _ (.head _)).1 (N1 _ (by k_dflt k_mem : (d, tup [.str (wordOf C) t0, .int 31 t00]) ∈ _)).1 hC0
    refine eq_dataH q1 q2 q3 q3 (by ktr_units) ?_
    rw [q4]
    k_steps
    refine' hret _ ((1057, _) :: X) _ _ _ _ T1 ⟨rfl, _, rfl⟩ F1 ?zn B1
    case zn =>
      intro q hq
      rcases List.mem_cons.mp hq with rfl | hq
      · exact N1 _ (by k_dflt k_mem)
      · exact N1 q (by k_extra "mm")

end
theorem FinPD.z : True := trivial
-- PE
section
theorem StPE.z : True := by
  w_top off
  trivial
variable {w : World} {p : Program} {loose : List Str} {mean : ExcName → Option Value} {mg mb : Str → Option Value}
theorem bt_useG {q : Str} {d : DefRec} {f : Addr} {cd : Value} {i : Nat} {L : Addr} {m : Str → Option Value} {news : List (Addr × Obj)} {k : Nat} {P : Value → List (Addr × Obj) → Prop} (h : BodyT w p loose mean mg mb q d f cd i L m news k P) {dp un : Nat} {gd : Option (List Code)} {outer : List Env} {A₀ : Around} {base g : Heap} {s : Shared} {Q : Flow → Shared → Prop} {E : Value → Shared → Prop} {ss : List Stmt} (es : ss = d.body.drop i) (hk : d.scope.kind = .function)
    (B : Below A₀ base outer g) (F : Fr g L s.heap m) (XB : (Mine.Kb w.params).In base) (TB : Top p loose mean mg mb base) (N : News g L s.heap news) (XG : (Mine.Kb w.params).In g) (T : Top p loose mean mg mb g) (hd : dp + k < recursionLimit) (hu : un + 8 * k < cLine)
    (hret : ∀ v news' h' tk' g' m', KtsTurn (outer.filterMap (·.frame)) g g' → P v news' → Fr g' L h' m' → News g' L h' news' → Below A₀ base outer g' → Q (.ret v) ⟨h', s.gens, s.drawn, tk', s.os⟩) :
    wpAny (model pw' w) (ktrTop dp un gd q d.scope L f cd (cellsFrom (L + 1) d.scope.names []) outer) (execs ss (envX q d.scope L f cd (cellsFrom (L + 1) d.scope.names []))) Q E s := by
  subst es
  exact h dp un gd outer A₀ base g s Q E B F XB TB N XG T hk hd hu hret
theorem sans_one {Z news : List (Addr × Obj)} {a : Addr} (h1 : ∀ q ∈ news, q.1 ≠ a) (hs : ∀ q ∈ news, q ∈ Z) : ∀ q ∈ news, q ∈ sansA [a] Z := fun q hq => mem_sansA (hs q hq) (List.forall_mem_cons.mpr ⟨h1 q hq, List.forall_mem_nil _⟩)
theorem words_47 : True := by
  k_with "execs cons" => (fail_if_success (open Mine.FinPE in skip)); (((with_reducible show wpAny _ _ (execs (Stmt.Return _ _ :: _) _) _ _ _); refine stop_ ?_))
  k_with "strs" => (fail_if_success (open Mine.FinPE in skip)); (exact StrsAre.cons _ _ (StrsAre.cons _ _ StrsAre.nil))
  k_with "compareOp NotIn str ref" => (fail_if_success (open Mine.FinPE in skip)); ((k_dflt (refine' notin_list_strs (isList_of_news ?u198N ?u198m) ?u198s ?_; (case u198N => k_asm); (case u198m => k_mem); (case u198s => walk_at "strs")); ((rename (List.any _ _ = _) => qqhz; rw [qqhz])); (try dsimp only)))
  k_with "hA" => (fail_if_success (open Mine.FinPE in skip)); ((refine' mem_sansA ?u199a ?u199b; (case u199a => k_dflt k_mem); (case u199b => (repeat' (first | exact List.forall_mem_nil _ | (refine' List.forall_mem_cons.mpr ⟨?_, ?_⟩))); all_goals k_dflt k_ne)))
  k_with "hs" => (fail_if_success (open Mine.FinPE in skip)); ((repeat' (first | exact sansA_sub | (refine' List.forall_mem_cons.mpr ⟨?_, ?_⟩))); all_goals k_dflt k_mem)
  trivial
theorem place_use {Z X : List (Addr × Obj)} {L : Addr} {m : Str → Option Value} {dp un : Nat} {gd : Option (List Code)} {outer : List Env} {A₀ : Around} {base g : Heap} {s : Shared} {Q : Flow → Shared → Prop} {E : Value → Shared → Prop} {ss : List Stmt} (es : ss = (fdTop 119).body.drop 4)
    (B : Below A₀ base outer g) (F : Fr g L s.heap m) (XB : (Mine.Kb w.params).In base) (TB : Top p loose mean mg mb base) (N : News g L s.heap Z) (XG : (Mine.Kb w.params).In g) (T : Top p loose mean mg mb g) (hd : dp + 40 < recursionLimit) (hu : un + 8 * 40 < cLine) (hz : (1057, tabObj #[]) ∈ Z) (hx : ∀ q ∈ X, q ∈ Z) (h0 : ∀ q ∈ X, q.1 ≠ 1057)
    (h : (∀ q ∈ X, q ∈ sansA [1057] Z) → BT119 w p loose mean mg mb 4 L m ((1057, tabObj #[]) :: sansA [1057] Z) 40 (fun v n' => v = .bool true ∧ ∃ ps, n' = (1057, tabObj ps) :: sansA [1057] Z))
    (hret : ∀ v news' h' tk' g' m', KtsTurn (outer.filterMap (·.frame)) g g' → (v = .bool true ∧ ∃ ps, news' = (1057, tabObj ps) :: X) → Fr g' L h' m' → News g' L h' news' → Below A₀ base outer g' → Q (.ret v) ⟨h', s.gens, s.drawn, tk', s.os⟩) :
    wpAny (model pw' w) (ktrTop dp un gd "_law_place_right" (fdTop 119).scope L 1062 (.ref 1061) (cellsFrom (L + 1) (fdTop 119).scope.names []) outer) (execs ss (envX "_law_place_right" (fdTop 119).scope L 1062 (.ref 1061) (cellsFrom (L + 1) (fdTop 119).scope.names []))) Q E s := by
  subst es
  have up := sans_one h0 hx
  refine h up dp un gd outer A₀ base g s Q E B F XB TB (fun q hq => (List.mem_cons.mp hq).elim (fun e => e ▸ N _ hz) fun hq => N q (sansA_sub q hq)) XG T rfl hd hu ?_
  rintro v n' h' tk' g' m' T1 ⟨rfl, ob, rfl⟩ F1 N1 B1
  exact hret _ _ h' tk' g' m' T1 ⟨rfl, ob, rfl⟩ F1 (fun q hq => N1 q ((List.mem_cons.mp hq).elim (fun e => e ▸ .head _) fun hq => .tail _ (up q hq))) B1
theorem IntT.mono {X Y : List (Addr × Obj)} {T : Addr} (s : ∀ q ∈ X, q ∈ Y) (h : IntT X T) : IntT Y T := by
  rcases h with ⟨t1, t2, h⟩ | ⟨t1, t2, h⟩ | ⟨t1, t2, h⟩ | ⟨t1, t2, h⟩
  · exact .inl ⟨t1, t2, s _ h⟩
  · exact .inr (.inl ⟨t1, t2, s _ h⟩)
  · exact .inr (.inr (.inl ⟨t1, t2, s _ h⟩))
  · exact .inr (.inr (.inr ⟨t1, t2, s _ h⟩))
theorem NoIntT.mono {X Y : List (Addr × Obj)} {T : Addr} (s : ∀ q ∈ X, q ∈ Y) (h : NoIntT X T) : NoIntT Y T := by
  rcases h with ⟨t1, t2, h⟩ | ⟨t1, t2, h⟩
  · exact .inl ⟨t1, t2, s _ h⟩
  · exact .inr ⟨t1, t2, s _ h⟩
theorem place_Bnum (ck mk : Addr) (Ty : Addr) (t3 t4 t6 t7 : Tok) (n : Int) (x : Value) (y1 y2 : Str) (oC oM : Obj) (X : List (Addr × Obj)) (L : Addr) (m : Str → Option Value) (H : PCtx w X ck) (c1 : (L + 1, oC) ∈ X) (d1 : oC.data = .cell (some (.ref ck))) (c2 : (L + 1 + 1, oM) ∈ X) (d2 : oM.data = .cell (some (.ref mk))) (h0 : ∀ q ∈ X, q.1 ≠ 1057) (h2 : (mk, tup [.str "const" t3, .ref Ty, x, .int n t4]) ∈ X) (hT : IntT X Ty) (hT2 : (Ty, tup [.str y1 t6, .str y2 t7]) ∈ X) (hy : ([("string" : Str), "bool"].any (· == y2)) = false) :
    BT119 w p loose mean mg mb 2 L m ((1057, tabObj #[]) :: X) 44 (fun v n' => v = .bool true ∧ ∃ ps, n' = (1057, tabObj ps) :: X) := by
  intro dp un gd outer A₀ base g s Q E B F XB TB N XG T hk hd hu hret
  k_dflt (show wpAny _ _ (execs (List.cons _ _) _) _ _ _)
  have e20 : (2 : Int) ^ Int.toNat 20 = 1048576 := by decide +kernel
  by_cases h1 : 0 ≤ n
  · by_cases h2' : n < 2 ^ Int.toNat 20
    · have hn : 0 ≤ n ∧ n < 1048576 := ⟨h1, e20 ▸ h2'⟩
      k_steps
      all_goals try exact absurd h2' (by assumption)
      refine go_on ?_
      rename Fr _ _ _ _ => F9
      rename News _ _ _ _ => N9
      refine' place_use (X := X) ?es B F9 XB TB N9 XG T ?hd ?hu ?hz ?hx h0 (fun up0 => ?zh) hret
      case es => kernel_rfl!
      case hz => k_dflt k_mem
      case hx => k_extra "sub"
      case hd => ktr_room
      case hu => ktr_units
      case zh =>
        refine' place_Cint ck mk n _ oC oM (sansA [1057] _) L _ ?c1 ?d1 ?c2 ?d2 (sansA_ne (.head _)) ?m3 ?hC
        case c1 => exact up0 _ c1
        case d1 => exact d1
        case c2 => exact up0 _ c2
        case d2 => exact d2
        case m3 => rfl
        case hC =>
          intro ky t1 t2 news hX9 hky
          have up : ∀ q ∈ X, q ∈ news := fun q hq => hX9 q (up0 q hq)
          exact pt_num ck ky mk Ty _ _ _ _ n x news (H.mono up) hky (up _ h2) (hT.mono up) hn
    · have hn : ¬ (0 ≤ n ∧ n < 1048576) := fun h => h2' (e20 ▸ h.2)
      k_steps
      all_goals try exact absurd (by assumption) h2'
      k_steps
      refine go_on ?_
      rename Fr _ _ _ _ => F9
      rename News _ _ _ _ => N9
      refine' place_use (X := X) ?es B F9 XB TB N9 XG T ?hd ?hu ?hz ?hx h0 (fun up0 => ?zh) hret
      case es => kernel_rfl!
      case hz => k_dflt k_mem
      case hx => k_extra "sub"
      case hd => ktr_room
      case hu => ktr_units
      case zh =>
        refine' place_Cexc ck mk _ 90 _ _ oC oM (sansA [1057] _) L _ ?c1 ?d1 ?c2 ?d2 (sansA_ne (.head _)) ?m3 ?hdd ?hC0 ?hC
        case c1 => exact up0 _ c1
        case d1 => exact d1
        case c2 => exact up0 _ c2
        case d2 => exact d2
        case m3 => rfl
        case hdd => (show (_, tup [Value.str (PySem.Str.ofString "const fault") _, _]) ∈ _); walk_at "hA"
        case hC0 => first | exact .inl rfl | exact .inr rfl
        case hC =>
          intro ky t1 t2 news hX9 hky
          have up : ∀ q ∈ X, q ∈ news := fun q hq => hX9 q (up0 q hq)
          exact pt_out ck ky mk Ty _ _ _ _ n x news (H.mono up) hky (up _ h2) (hT.mono up) hn
  · have hn : ¬ (0 ≤ n ∧ n < 1048576) := fun h => h1 h.1
    k_steps
    refine go_on ?_
    rename Fr _ _ _ _ => F9
    rename News _ _ _ _ => N9
    refine' place_use (X := X) ?es B F9 XB TB N9 XG T ?hd ?hu ?hz ?hx h0 (fun up0 => ?zh) hret
    case es => kernel_rfl!
    case hz => k_dflt k_mem
    case hx => k_extra "sub"
    case hd => ktr_room
    case hu => ktr_units
    case zh =>
      refine' place_Cexc ck mk _ 90 _ _ oC oM (sansA [1057] _) L _ ?c1 ?d1 ?c2 ?d2 (sansA_ne (.head _)) ?m3 ?hdd ?hC0 ?hC
      case c1 => exact up0 _ c1
      case d1 => exact d1
      case c2 => exact up0 _ c2
      case d2 => exact d2
      case m3 => rfl
      case hdd => (show (_, tup [Value.str (PySem.Str.ofString "const fault") _, _]) ∈ _); walk_at "hA"
      case hC0 => first | exact .inl rfl | exact .inr rfl
      case hC =>
        intro ky t1 t2 news hX9 hky
        have up : ∀ q ∈ X, q ∈ news := fun q hq => hX9 q (up0 q hq)
        exact pt_out ck ky mk Ty _ _ _ _ n x news (H.mono up) hky (up _ h2) (hT.mono up) hn
theorem place_Bno (ck mk : Addr) (Ty : Addr) (t3 t6 t7 : Tok) (x y : Value) (y1 y2 : Str) (oC oM : Obj) (X : List (Addr × Obj)) (L : Addr) (m : Str → Option Value) (H : PCtx w X ck) (c1 : (L + 1, oC) ∈ X) (d1 : oC.data = .cell (some (.ref ck))) (c2 : (L + 1 + 1, oM) ∈ X) (d2 : oM.data = .cell (some (.ref mk))) (h0 : ∀ q ∈ X, q.1 ≠ 1057) (h2 : (mk, tup [.str "const" t3, .ref Ty, x, y]) ∈ X) (hT : NoIntT X Ty) (hT2 : (Ty, tup [.str y1 t6, .str y2 t7]) ∈ X) (hy : ([("string" : Str), "bool"].any (· == y2)) = true) :
    BT119 w p loose mean mg mb 2 L m ((1057, tabObj #[]) :: X) 44 (fun v n' => v = .bool true ∧ ∃ ps, n' = (1057, tabObj ps) :: X) := by
  intro dp un gd outer A₀ base g s Q E B F XB TB N XG T hk hd hu hret
  k_dflt (show wpAny _ _ (execs (List.cons _ _) _) _ _ _)
  k_steps
  refine go_on ?_
  rename Fr _ _ _ _ => F9
  rename News _ _ _ _ => N9
  refine' place_use (X := X) ?es B F9 XB TB N9 XG T ?hd ?hu ?hz ?hx h0 (fun up0 => ?zh) hret
  case es => kernel_rfl!
  case hz => k_dflt k_mem
  case hx => k_extra "sub"
  case hd => ktr_room
  case hu => ktr_units
  case zh =>
    refine' place_Cexc ck mk _ 78 _ _ oC oM (sansA [1057] _) L _ ?c1 ?d1 ?c2 ?d2 (sansA_ne (.head _)) ?m3 ?hdd ?hC0 ?hC
    case c1 => exact up0 _ c1
    case d1 => exact d1
    case c2 => exact up0 _ c2
    case d2 => exact d2
    case m3 => rfl
    case hdd => (show (_, tup [Value.str (PySem.Str.ofString "type fault") _, _]) ∈ _); walk_at "hA"
    case hC0 => first | exact .inl rfl | exact .inr rfl
    case hC =>
      intro ky t1 t2 news hX9 hky
      have up : ∀ q ∈ X, q ∈ news := fun q hq => hX9 q (up0 q hq)
      exact pt_no ck ky mk Ty _ _ _ x y news (H.mono up) hky (up _ h2) (hT.mono up)
theorem place_Bloc (ck mk : Addr) (t3 : Tok) (x y z : Value) (oC oM : Obj) (X : List (Addr × Obj)) (L : Addr) (m : Str → Option Value) (H : PCtx w X ck) (c1 : (L + 1, oC) ∈ X) (d1 : oC.data = .cell (some (.ref ck))) (c2 : (L + 1 + 1, oM) ∈ X) (d2 : oM.data = .cell (some (.ref mk))) (h0 : ∀ q ∈ X, q.1 ≠ 1057) (h2 : (mk, tup [.str "local" t3, x, y, z]) ∈ X) :
    BT119 w p loose mean mg mb 2 L m ((1057, tabObj #[]) :: X) 44 (fun v n' => v = .bool true ∧ ∃ ps, n' = (1057, tabObj ps) :: X) := by
  intro dp un gd outer A₀ base g s Q E B F XB TB N XG T hk hd hu hret
  k_dflt (show wpAny _ _ (execs (List.cons _ _) _) _ _ _)
  k_steps
  refine go_on ?_
  rename Fr _ _ _ _ => F9
  rename News _ _ _ _ => N9
  refine' place_use (X := X) ?es B F9 XB TB N9 XG T ?hd ?hu ?hz ?hx h0 (fun up0 => ?zh) hret
  case es => kernel_rfl!
  case hz => k_dflt k_mem
  case hx => k_extra "sub"
  case hd => ktr_room
  case hu => ktr_units
  case zh =>
    refine' place_Cexc ck mk _ 78 _ _ oC oM (sansA [1057] _) L _ ?c1 ?d1 ?c2 ?d2 (sansA_ne (.head _)) ?m3 ?hdd ?hC0 ?hC
    case c1 => exact up0 _ c1
    case d1 => exact d1
    case c2 => exact up0 _ c2
    case d2 => exact d2
    case m3 => rfl
    case hdd => (show (_, tup [Value.str (PySem.Str.ofString "type fault") _, _]) ∈ _); walk_at "hA"
    case hC0 => first | exact .inl rfl | exact .inr rfl
    case hC =>
      intro ky t1 t2 news hX9 hky
      have up : ∀ q ∈ X, q ∈ news := fun q hq => hX9 q (up0 q hq)
      exact pt_loc ck ky mk _ _ _ x y z news (H.mono up) hky (up _ h2)

end
theorem FinPE.z : True := trivial
-- PF
section
theorem StPF.z : True := by
  w_top off
  trivial
variable {w : World} {p : Program} {loose : List Str} {mean : ExcName → Option Value} {mg mb : Str → Option Value}
/-- what is drawn -/
noncomputable def MadeOk (X : List (Addr × Obj)) (v : Value) : Prop := ∃ mk, v = .ref mk ∧
  ((∃ Ty t3 t4 t6 t7 n x y1 y2, (mk, tup [.str "const" t3, .ref Ty, x, .int n t4]) ∈ X ∧ IntT X Ty ∧ (Ty, tup [.str y1 t6, .str y2 t7]) ∈ X ∧ ([("string" : Str), "bool"].any (· == y2)) = false) ∨
   (∃ Ty t3 t6 t7 x y y1 y2, (mk, tup [.str "const" t3, .ref Ty, x, y]) ∈ X ∧ NoIntT X Ty ∧ (Ty, tup [.str y1 t6, .str y2 t7]) ∈ X ∧ ([("string" : Str), "bool"].any (· == y2)) = true) ∨
   (∃ t3 x y z, (mk, tup [.str "local" t3, x, y, z]) ∈ X))
theorem IntT.monoT {X Y : List (Addr × Obj)} {T : Addr} (s : ∀ a vs, (a, tup vs) ∈ X → (a, tup vs) ∈ Y) (h : IntT X T) : IntT Y T := by
  rcases h with ⟨t1, t2, h⟩ | ⟨t1, t2, h⟩ | ⟨t1, t2, h⟩ | ⟨t1, t2, h⟩
  · exact .inl ⟨t1, t2, s _ _ h⟩
  · exact .inr (.inl ⟨t1, t2, s _ _ h⟩)
  · exact .inr (.inr (.inl ⟨t1, t2, s _ _ h⟩))
  · exact .inr (.inr (.inr ⟨t1, t2, s _ _ h⟩))
theorem NoIntT.monoT {X Y : List (Addr × Obj)} {T : Addr} (s : ∀ a vs, (a, tup vs) ∈ X → (a, tup vs) ∈ Y) (h : NoIntT X T) : NoIntT Y T := by
  rcases h with ⟨t1, t2, h⟩ | ⟨t1, t2, h⟩
  · exact .inl ⟨t1, t2, s _ _ h⟩
  · exact .inr ⟨t1, t2, s _ _ h⟩
theorem MadeOk.monoT {X Y : List (Addr × Obj)} {v : Value} (s : ∀ a vs, (a, tup vs) ∈ X → (a, tup vs) ∈ Y) (h : MadeOk X v) : MadeOk Y v := by
  obtain ⟨mk, e, ⟨Ty, t3, t4, t6, t7, n, x, y1, y2, h1, h2, h3, h4⟩ | ⟨Ty, t3, t6, t7, x, y, y1, y2, h1, h2, h3, h4⟩ | ⟨t3, x, y, z, h1⟩⟩ := h
  · exact ⟨mk, e, .inl ⟨Ty, t3, t4, t6, t7, n, x, y1, y2, s _ _ h1, h2.monoT s, s _ _ h3, h4⟩⟩
  · exact ⟨mk, e, .inr (.inl ⟨Ty, t3, t6, t7, x, y, y1, y2, s _ _ h1, h2.monoT s, s _ _ h3, h4⟩)⟩
  · exact ⟨mk, e, .inr (.inr ⟨t3, x, y, z, s _ _ h1⟩)⟩
theorem place_B (ck : Addr) (v : Value) (oC oM : Obj) (X : List (Addr × Obj)) (L : Addr) (m : Str → Option Value) (H : PCtx w X ck) (c1 : (L + 1, oC) ∈ X) (d1 : oC.data = .cell (some (.ref ck))) (c2 : (L + 1 + 1, oM) ∈ X) (d2 : oM.data = .cell (some v)) (h0 : ∀ q ∈ X, q.1 ≠ 1057) (hM : MadeOk X v) :
    BT119 w p loose mean mg mb 2 L m ((1057, tabObj #[]) :: X) 44 (fun v n' => v = .bool true ∧ ∃ ps, n' = (1057, tabObj ps) :: X) := by
  obtain ⟨mk, rfl, ⟨Ty, t3, t4, t6, t7, n, x, y1, y2, h1, h2, h3, h4⟩ | ⟨Ty, t3, t6, t7, x, y, y1, y2, h1, h2, h3, h4⟩ | ⟨t3, x, y, z, h1⟩⟩ := hM
  · exact place_Bnum ck mk Ty t3 t4 t6 t7 n x y1 y2 oC oM X L m H c1 d1 c2 d2 h0 h1 h2 h3 h4
  · exact place_Bno ck mk Ty t3 t6 t7 x y y1 y2 oC oM X L m H c1 d1 c2 d2 h0 h1 h2 h3 h4
  · exact place_Bloc ck mk t3 x y z oC oM X L m H c1 d1 c2 d2 h0 h1
theorem int_of {vs : List Value} {v : Value} (hv : v ∈ vs) (k : ∀ u ∈ vs, ∃ n t, u = Value.int n t) : ∃ n t, v = Value.int n t := k v hv
theorem made_of {g h : Heap} {L : Addr} {l : List (Addr × Obj)} (_N : News g L h l) {vs : List Value} {v : Value} (hv : v ∈ vs) (k : ∀ u ∈ vs, MadeOk l u) : MadeOk l v := k v hv
theorem place_use2 {rl ck : Addr} {o oC oM : Obj} {v : Value} {Z news : List (Addr × Obj)} {L : Addr} {m : Str → Option Value} {dp un : Nat} {gd : Option (List Code)} {outer : List Env} {A₀ : Around} {base g : Heap} {s : Shared} {Q : Flow → Shared → Prop} {E : Value → Shared → Prop} {ss : List Stmt} (es : ss = (fdTop 119).body.drop 2)
    (B : Below A₀ base outer g) (F : Fr g L s.heap m) (XB : (Mine.Kb w.params).In base) (TB : Top p loose mean mg mb base) (N : News g L s.heap Z) (XG : (Mine.Kb w.params).In g) (T : Top p loose mean mg mb g) (hd : dp + 44 < recursionLimit) (hu : un + 8 * 44 < cLine) (ho : Reel o) (mrl : (rl, o) ∈ Z) (hz : (1057, tabObj #[]) ∈ Z) (n0 : @Ne Nat rl 1057)
    (c1 : (L + 1, oC) ∈ Z) (d1 : oC.data = .cell (some (.ref ck))) (e1 : @Ne Nat (L + 1) 1057) (c2 : (L + 1 + 1, oM) ∈ Z) (d2 : oM.data = .cell (some v)) (e2 : @Ne Nat (L + 1 + 1) 1057) (hx : ∀ q ∈ news, q ∈ Z) (h2 : ∀ q ∈ news, q.1 ≠ 1057) (H : PCtx w news ck) (hM : MadeOk Z v)
    (hret : ∀ v news' h' tk' g' m', KtsTurn (outer.filterMap (·.frame)) g g' → (v = .bool true ∧ ∃ o' ps, Reel o' ∧ news' = (rl, o') :: (1057, tabObj ps) :: news) → Fr g' L h' m' → News g' L h' news' → Below A₀ base outer g' → Q (.ret v) ⟨h', s.gens, s.drawn, tk', s.os⟩) :
    wpAny (model pw' w) (ktrTop dp un gd "_law_place_right" (fdTop 119).scope L 1062 (.ref 1061) (cellsFrom (L + 1) (fdTop 119).scope.names []) outer) (execs ss (envX "_law_place_right" (fdTop 119).scope L 1062 (.ref 1061) (cellsFrom (L + 1) (fdTop 119).scope.names []))) Q E s := by
  subst es
  have up := sans_one h2 hx
  have one : ∀ {a : Addr} {ob : Obj}, (a, ob) ∈ Z → @Ne Nat a 1057 → (a, ob) ∈ sansA [1057] Z := fun hm hn => mem_sansA hm (List.forall_mem_cons.mpr ⟨hn, List.forall_mem_nil _⟩)
  refine place_B ck v oC oM (sansA [1057] Z) L m (H.mono up) (one c1 e1) d1 (one c2 e2) d2 (sansA_ne (.head _)) (hM.monoT fun a vs hm => one hm (tup_ne N hz hm)) dp un gd outer A₀ base g s Q E B F XB TB (fun q hq => (List.mem_cons.mp hq).elim (fun e => e ▸ N _ hz) fun hq => N q (sansA_sub q hq)) XG T rfl hd hu ?_
  rintro v n' h' tk' g' m' T1 ⟨rfl, ob, rfl⟩ F1 N1 B1
  refine hret _ _ h' tk' g' m' T1 ⟨rfl, o, ob, ho, rfl⟩ F1 (fun q hq => N1 q ?_) B1
  rcases List.mem_cons.mp hq with rfl | hq
  · exact .tail _ (one mrl n0)
  · rcases List.mem_cons.mp hq with rfl | hq
    · exact .head _
    · exact .tail _ (up q hq)
theorem far6 {a : Nat} (h : 1058 ≤ a) : a ≠ 1057 := by omega
theorem words_48 : True := by
  k_with "call ref cons nil" => (fail_if_success (open Mine.FinPF in skip)); (focus k_dflt ((with_unfolding_all refine' one_atV ?u201ke ?u201ka ?u201kB ?u201kF ?u201kX ?u201kN ?u201kT ?u201kR ?u201kU ?u201hsm ?u201hl0 ?u201hl1 ?u201hne ?u201hk ?u201hd ?u201hu ?_); (case u201ke => exact rfl); (case u201ka => exact rfl); (case u201kB => assumption); (case u201kF => assumption); (case u201kX => k_in); (case u201kN => assumption); (case u201kT => assumption); (case u201kU => (intro qqo'; k_upd)); (case u201kR => assumption); (case u201hsm => k_mem); (case u201hl0 => simp); (case u201hl1 => simp); (case u201hne => k_ne); (case u201hk => first | rfl | assumption); (case u201hd => ktr_room); (case u201hu => ktr_units); (intro qqv1 qqhv1 qqo1 qqh1 qqtk1 qqhR1 qqF1 qqN1; (try dsimp only at qqN1); (try k_sweep); (try dsimp only))))
  k_with "execs cons" => (fail_if_success (open Mine.FinPF in skip)); (((with_reducible show wpAny _ _ (execs (Stmt.Assign [Expr.Name (PySem.Str.ofString "made") _] _ _ :: _) _) _ _ _); refine stop_ ?_))
  k_with "execs cons" => (fail_if_success (open Mine.FinPF in skip)); (((with_reducible show wpAny _ _ (execs (Stmt.Assign [Expr.Name (PySem.Str.ofString "due") _] _ _ :: _) _) _ _ _); refine stop_ ?_))
  k_with "ktr_enter" => (fail_if_success (open Mine.FinPF in skip)); ((refine' code_defCT ?u204k1 ?u204k2 ?u204k3 ?u204k4 ?u204k5 ?u204kA ?u204kF ?u204kK ?u204k6 ?u204k7 ?u204k8 ?u204k9 ?u204kB ?u204kD ?_ ?u204c2 ?u204c3 ?u204c4; (case u204kA => exact rfl); (case u204kF => exact rfl); (case u204kK => first | exact rfl | assumption); (case u204k1 => k_asm); (case u204k2 => k_asm); (case u204k3 => k_asm); (case u204k4 => k_asm); (case u204k5 => k_asm); (case u204k6 => k_is); (case u204k7 => k_is); (case u204k8 => ktr_room); (case u204k9 => exact BindsTo.of_eq rfl); (case u204kB => exact rfl); (case u204kD => decide +kernel); (case u204c2 => exact rfl); (case u204c3 => exact rfl); (case u204c4 => exact rfl); k_whole; intro qqg' qqL' qqh' qqtk' qqcells' qqFG' qqF' qqN' qqY' qqB' qqX' qqT' qql1; (have qqlc1 := lt_up qql1 (Nat.lt_succ_self _)); (have qqlc2 := lt_up qqlc1 (Nat.lt_succ_self _)); (have qqlc3 := lt_up qqlc2 (Nat.lt_succ_self _)); (have qqlcW := qqlc2); k_cells qqY'; (try simp only [List.cons_append, List.nil_append] at qqN'); (try dsimp only); (k_dflt (show wpAny _ _ (execs (List.cons _ _) _) _ _ _)); (try k_fold)))
  trivial
theorem place_right (rl ck : Addr) (o : Obj) (ho : Reel o) (news : List (Addr × Obj)) (h1 : ∀ q ∈ news, q.1 ≠ rl) (h2 : ∀ q ∈ news, q.1 ≠ 1057) (hr : @LE.le Nat _ 1058 rl) (H : PCtx w news ck) :
    CtrT pw' w p loose mean mg mb 1062 [.ref rl, .ref ck] ((rl, o) :: (1057, tabObj #[]) :: news) 60 (fun v n' => v = .bool true ∧ ∃ o' ps, Reel o' ∧ n' = (rl, o') :: (1057, tabObj ps) :: news) := by
  intro dp un gd cn cs ad ccd cl outer A₀ base h₀ L m s Q E B F XB TB N X T hk hd hu hret
  have z1 := far6 hr
  refine wpAny_call ?_
  k_dflt ktr_enter
  k_steps
  refine go_on ?_
  rename (_ ∈ [_, _, _, _, _]) => hv9
  obtain ⟨n9, t9, rfl⟩ := int_of hv9 (List.forall_mem_cons.mpr ⟨⟨_, _, rfl⟩, List.forall_mem_cons.mpr ⟨⟨_, _, rfl⟩, List.forall_mem_cons.mpr ⟨⟨_, _, rfl⟩, List.forall_mem_cons.mpr ⟨⟨_, _, rfl⟩, List.forall_mem_cons.mpr ⟨⟨_, _, rfl⟩, List.forall_mem_nil _⟩⟩⟩⟩⟩)
  clear hv9
  refine wpAny_execs_cons ?_
  k_steps
  refine go_on ?_
  rename (_ ∈ [_, _, _, _, _, _, _, _]) => hv9
  rename Fr _ _ _ _ => F9
  rename News _ _ _ _ => N9
  rename Below _ _ (_ :: _) _ => B9
  rename Reel _ => hR9
  rename (_ = Data.cell _) => d2'
  have hM9 := made_of N9 hv9 (List.forall_mem_cons.mpr ⟨⟨_, rfl, .inl ⟨_, _, _, _, _, _, _, _, _, by k_dflt k_mem, .inr (.inr (.inl ⟨_, _, by k_dflt k_mem⟩)), by k_dflt k_mem, by decide⟩⟩, List.forall_mem_cons.mpr ⟨⟨_, rfl, .inl ⟨_, _, _, _, _, _, _, _, _, by k_dflt k_mem, .inl ⟨_, _, by k_dflt k_mem⟩, by k_dflt k_mem, by decide⟩⟩, List.forall_mem_cons.mpr ⟨⟨_, rfl, .inl ⟨_, _, _, _, _, _, _, _, _, by k_dflt k_mem, .inr (.inr (.inr ⟨_, _, by k_dflt k_mem⟩)), by k_dflt k_mem, by decide⟩⟩, List.forall_mem_cons.mpr ⟨⟨_, rfl, .inl ⟨_, _, _, _, _, _, _, _, _, by k_dflt k_mem, .inr (.inl ⟨_, _, by k_dflt k_mem⟩), by k_dflt k_mem, by decide⟩⟩, List.forall_mem_cons.mpr ⟨⟨_, rfl, .inr (.inr ⟨_, _, _, _, by k_dflt k_mem⟩)⟩, List.forall_mem_cons.mpr ⟨⟨_, rfl, .inr (.inl ⟨_, _, _, _, _, _, _, _, by k_dflt k_mem, .inl ⟨_, _, by k_dflt k_mem⟩, by k_dflt k_mem, by decide⟩)⟩, List.forall_mem_cons.mpr ⟨⟨_, rfl, .inr (.inl ⟨_, _, _, _, _, _, _, _, by k_dflt k_mem, .inr ⟨_, _, by k_dflt k_mem⟩, by k_dflt k_mem, by decide⟩)⟩, List.forall_mem_cons.mpr ⟨⟨_, rfl, .inl ⟨_, _, _, _, _, _, _, _, _, by k_dflt k_mem, .inr (.inr (.inl ⟨_, _, by k_dflt k_mem⟩)), by k_dflt k_mem, by decide⟩⟩, List.forall_mem_nil _⟩⟩⟩⟩⟩⟩⟩⟩)
  with_unfolding_all refine' place_use2 (rl := rl) (ck := ck) (news := news) ?es B9 F9 ?XB ?TB N9 ?XG ?T ?hd ?hu hR9 ?mrl ?hz z1 ?c1 ?d1 ?e1 ?c2 d2' ?e2 ?hx h2 H hM9 ?hret
  case es => kernel_rfl!
  case XB => assumption
  case TB => assumption
  case XG => k_in
  case T => assumption
  case hd => ktr_room
  case hu => ktr_units
  case mrl => k_dflt k_mem
  case hz => k_dflt k_mem
  case c1 => k_dflt k_mem
  case d1 => first | assumption | rfl
  case e1 => k_dflt k_ne
  case c2 => k_dflt k_mem
  case e2 => k_dflt k_ne
  case hx => k_extra "sub"
  case hret =>
    rintro v n' h' tk' g' m' T1 ⟨rfl, o', ps, hR, rfl⟩ F1 N1 B1
    exact ⟨g', _, m', (rl, o') :: (1057, tabObj ps) :: news, T1, F1, N1, fun h₀' T0 F0' N0' B0' => hret _ _ _ _ _ T0 ⟨rfl, o', ps, hR, rfl⟩ F0' N0' B0'⟩

end
theorem FinPF.z : True := trivial
-- PG
section
theorem StPG.z : True := by
  w_top off
  trivial
variable {w : World} {p : Program} {loose : List Str} {mean : ExcName → Option Value} {mg mb : Str → Option Value}
theorem dropped_ok (mv tv : Value) (t0 : Tok) (news : List (Addr × Obj)) :
    Ctr pw' w p loose mean mg mb 407 [mv, tv, .int 6 t0] news 8 (fun v n' => ∃ own a t1 r c, v = .ref a ∧ n' = own ++ news ∧ (a, tup [.str "index" t1, tv, .int 6 t0, .ref r, .ref c]) ∈ own ∧
      (∃ ar rs t2 t3, (r, tup [.str "row" t2, .ref ar, .int 6 t0, .int 2 t3, .ref rs]) ∈ own ∧ (∃ t4 t5, (ar, tup [.str "array" t4, .int 2 t5, tv]) ∈ own) ∧ (∃ r1 t6, (rs, tup [.ref r1]) ∈ own ∧ (r1, tup [.int 0 t6, mv]) ∈ own)) ∧
      (∃ wt t7 t8, (c, tup [.str "const" t7, .ref wt, .int 6 t0, .int 1 t8]) ∈ own ∧ ∃ t9 t10, (wt, tup [.str "int" t9, .str "int" t10]) ∈ own)) := by
  intro dp un gd cn cs ad ccd cl outer A₀ base h₀ L m s Q E B F X N T hk hd hu hret
  refine wpAny_call ?_
  first | (k_dflt ktr_enter) | fail "no way in"
  k_steps
  rename News h₀ L _ _ => N9
  rw [← List.append_assoc] at N9
  refine' hret _ _ _ _ ⟨_, _, _, _, _, rfl, rfl, ?a, ⟨_, _, _, _, ?b, ⟨_, _, ?c⟩, ⟨_, _, ?d, ?e⟩⟩, ⟨_, _, _, ?f, ⟨_, _, ?g⟩⟩⟩ (by assumption) N9
  case a => k_dflt k_mem
  case b => k_dflt k_mem
  case c => k_dflt k_mem
  case d => k_dflt k_mem
  case e => k_dflt k_mem
  case f => k_dflt k_mem
  case g => k_dflt k_mem
theorem fmG (x : Int) (m : Int) (h : 0 < m) : x.fmod m = x % m := Int.fmod_eq_emod_of_nonneg _ (Int.le_of_lt h)
theorem reel_new {a x : Int} {ta tb : Tok} {n : Nat} (ha : 0 ≤ a) : Reel (W.listOf #[.int a ta, .int (x.fmod 2147483647) tb] n) := by
  refine ⟨a, _, ta, tb, n, rfl, ha, ?_, ?_⟩
  · rw [fmG x 2147483647 (by decide)]; exact Int.emod_nonneg _ (by decide)
  · rw [fmG x 2147483647 (by decide)]; exact Int.emod_lt_of_pos _ (by decide)
theorem reel_ok (sc : Addr) (its : List Value) (ns : List Int) (hi : IntsAre its ns) (hlen : ns.length ≤ 63) (news : List (Addr × Obj)) :
    ∀ (dp un : Nat) (gd : Option (List Code)) (cn : Str) (cs : PySem.Scope) (ad : Addr) (ccd : Value) (cl : List (Str × Addr)) (outer : List Env) (A₀ : Around) (base h₀ : Heap) (L : Addr) (m : Str → Option Value) (s : Shared) (Q E : Value → Shared → Prop),
    Below A₀ base outer h₀ → Fr h₀ L s.heap m → (Mine.Kb w.params).In h₀ → News h₀ L s.heap news → Top p loose mean mg mb h₀ → h₀.IsList sc its.toArray → cs.kind = .function → dp + 4 < recursionLimit → un + 8 * 4 < cLine →
    (∀ rl o h' tk', Reel o → (∀ q ∈ news, q.1 < rl) → Fr h₀ L h' m → News h₀ L h' ((rl, o) :: news) → Q (.ref rl) { s with heap := h', toks := tk' }) →
    wpAny (model pw' w) (ktrTop dp un gd cn cs L ad ccd cl outer) (call (.ref 1008) [.ref sc]) Q E s := by
  intro dp un gd cn cs ad ccd cl outer A₀ base h₀ L m s Q E B F X N T hL hk hd hu hret
  refine wpAny_call ?_
  first | (k_dflt ktr_enter) | fail "no way in"
  rename Fr h₀ L _ m => FG9
  have h10 : (0 : Int) ≤ 10 ^ Int.toNat 18 := by decide +kernel
  have hL9 := (let ⟨o, e, r⟩ := hL; ⟨o, FG9.keep _ _ e, r⟩ : Heap.IsList _ sc its.toArray)
  k_steps
  · rename News h₀ L _ _ => N9
    exact hret _ _ _ _ (reel_new (by first | exact Int.le_refl _ | exact Int.le_trans h10 (by assumption))) (by assumption) (by assumption) N9
  k_steps
  · rename News h₀ L _ _ => N9
    exact hret _ _ _ _ (reel_new (by first | exact Int.le_refl _ | exact Int.le_trans h10 (by assumption))) (by assumption) (by assumption) N9
  k_steps
  rename News h₀ L _ _ => N9
  exact hret _ _ _ _ (reel_new (by first | exact Int.le_refl _ | exact Int.le_trans h10 (by assumption))) (by assumption) (by assumption) N9

end
theorem FinPG.z : True := trivial
-- LB
section
theorem StLB.z : True := by
  w_top off
  trivial
variable {w : World} {p : Program} {loose : List Str} {mean : ExcName → Option Value} {mg mb : Str → Option Value}
noncomputable def ClsOk (o : Obj) : Prop := o.cls ≠ .none ∧ o.cls ≠ .type "list"
theorem clsOk_inst {C d : Addr} : ClsOk (instObj C d) := ⟨(fun h => nomatch h), (fun h => nomatch h)⟩
theorem clsOk_dict {es : List DictEntry} {n : Nat} : ClsOk (dictOf es n) := ⟨(fun h => nomatch h), fun h => absurd (Value.type.inj h) (by decide)⟩
theorem clsOk_tup {vs : List Value} : ClsOk (tup vs) := ⟨(fun h => nomatch h), fun h => absurd (Value.type.inj h) (by decide)⟩
theorem clsOk_sd {w : World} {o : Obj} {l : List (Str × Value)} (h : SD w o l) : ClsOk o := by
  obtain ⟨es, ep, ⟨h1, -⟩, -⟩ := h
  exact ⟨(fun e => by rw [h1] at e; exact nomatch e), fun e => by rw [h1] at e; exact absurd (Value.type.inj e) (by decide)⟩
section
variable {Z Y : List (Addr × Obj)}
theorem HasDict.monoC {d : Addr} {kv : List (Str × Value)} (s : ∀ q ∈ Z, ClsOk q.2 → q ∈ Y) (H : HasDict w Z d kv) : HasDict w Y d kv := let ⟨o, h1, h2, h3⟩ := H; ⟨o, s _ h1 (clsOk_sd h3), h2, h3⟩
theorem chk_attr {a b c d e f : Value} {o : Obj} (h : ChkD w a b c d e f o) : ClsOk o ∧ Attr o "world" (some a) ∧ Attr o "package" (some b) ∧ Attr o "scope" (some c) ∧ Attr o "readers" (some e) ∧ Attr o "expr" none ∧ Attr o "typex" none := by
  obtain ⟨t1, t2, t3, t4, t5, t6, t7, t8, t9, t10, t11, t12, t13, t14, t15, t16, t17, a1, a2, a3, a4, a5, a6, a7, a8, a9, rfl⟩ := h
  exact ⟨clsOk_dict, ⟨_, _, rfl, by k_get⟩, ⟨_, _, rfl, by k_get⟩, ⟨_, _, rfl, by k_get⟩, ⟨_, _, rfl, by k_get⟩, ⟨_, _, rfl, by k_get⟩, ⟨_, _, rfl, by k_get⟩⟩
theorem world_attr {nd : Addr} {o : Obj} (h : WorldD w nd o) : ClsOk o ∧ Attr o "named" (some (.ref nd)) ∧ Attr o "settled" none ∧ Attr o "base_of" none := by
  obtain ⟨t0, t1, t2, t3, t4, t5, t6, t7, t8, t9, t10, t11, t12, t13, t14, t15, t16, t17, t18, t19, t20, t21, t22, t23, t24, t25, t26, t27, t28, t29, t30, t31, t32, t33, t34, rfl⟩ := h
  exact ⟨clsOk_dict, ⟨_, _, rfl, by k_get⟩, ⟨_, _, rfl, by k_get⟩, ⟨_, _, rfl, by k_get⟩⟩
theorem named_attr {a b c e9 : Value} {o : Obj} (h : NamedD w a b c e9 o) : ClsOk o ∧ Attr o "package" (some b) ∧ Attr o "underlying" (some c) := by
  obtain ⟨t1, t2, t3, t4, rfl⟩ := h
  exact ⟨clsOk_dict, ⟨_, _, rfl, by k_get⟩, ⟨_, _, rfl, by k_get⟩⟩
theorem scope_attr {r : Addr} {o : Obj} (h : ScopeD w r o) : ClsOk o ∧ Attr o "find" none ∧ Attr o "row" none ∧ Attr o "rows" (some (.ref r)) := by
  obtain ⟨t1, t2, t3, rfl⟩ := h
  exact ⟨clsOk_dict, ⟨_, _, rfl, by k_get⟩, ⟨_, _, rfl, by k_get⟩, ⟨_, _, rfl, by k_get⟩⟩
theorem row_attr {a b c d e : Value} {o : Obj} (h : RowD w a b c d e o) : ClsOk o ∧ Attr o "entry" (some b) := by
  obtain ⟨t1, t2, t3, t4, t5, t6, rfl⟩ := h
  exact ⟨clsOk_dict, ⟨_, _, rfl, by k_get⟩⟩
theorem ctx_of {ck : Addr} (s : ∀ q ∈ Z, ClsOk q.2 → q ∈ Y) (H : Chk w Z ck) : (∃ eT, TCtx w Y ck eT) ∧ HCtx w Y ck ∧ PCtx w Y ck := by
  obtain ⟨wd, nd, sc, rw, sr, rT, rS, en, eT, uT, uS, eS, mT, mS, rd, t1, t2, ⟨d1, o1, i1, j1, p1⟩, ⟨d2, o2, i2, j2, p2⟩, ⟨a, b, c, d, p3⟩, ⟨t3, t4, d4, o4, i4, j4, p4⟩, ⟨t5, t6, p5⟩, ⟨t7, t8, d6, o6, i6, j6, p6⟩, -, ⟨d7, o7, i7, j7, p7⟩, p8, ⟨x1, x2, x3, x4, d9, o9, i9, j9, p9⟩, ⟨t9, p10⟩, ⟨t10, t11, p11⟩, p12⟩ := H
  obtain ⟨g1, q1, q2, q3, q4, q5, q6⟩ := chk_attr p1
  obtain ⟨g2, q7, q8, q9⟩ := world_attr p2
  obtain ⟨g4, q10, q11⟩ := named_attr p4
  obtain ⟨g6, q12, q13⟩ := named_attr p6
  obtain ⟨g7, q14, q15, q16⟩ := scope_attr p7
  obtain ⟨g9, q17⟩ := row_attr p9
  have I : ∀ {C x dx : Addr}, (x, instObj C dx) ∈ Z → (x, instObj C dx) ∈ Y := fun h => s _ h clsOk_inst
  have U : ∀ {x : Addr} {vs : List Value}, (x, tup vs) ∈ Z → (x, tup vs) ∈ Y := fun h => s _ h clsOk_tup
  refine ⟨⟨eT, wd, sc, t1, t10, t11, ⟨d1, o1, I i1, s _ j1 g1, q1, q2, q3, q6⟩, ⟨rw, sr, en, t9, ⟨d2, o2, I i2, s _ j2 g2, q8⟩, ⟨d7, o7, I i7, s _ j7 g7, q14, q15, q16⟩, p8.monoC s, ⟨d9, o9, I i9, s _ j9 g9, q17⟩, U p10⟩, U p11⟩, ?_, ?_⟩
  · exact ⟨wd, nd, rS, t1, t8, ⟨d1, o1, I i1, s _ j1 g1, q1, q2, q5⟩, ⟨d2, o2, I i2, s _ j2 g2, q7⟩, ⟨a, b, c, d, rT, p3.monoC s⟩, ⟨d6, o6, I i6, s _ j6 g6, q12⟩⟩
  · exact ⟨wd, rd, nd, rT, uT, t5, t6, ⟨d1, o1, I i1, s _ j1 g1, q1, q4, q5⟩, p12.monoC s, ⟨d2, o2, I i2, s _ j2 g2, q7, q9⟩, ⟨a, b, c, d, rS, p3.monoC s⟩, ⟨d4, o4, I i4, s _ j4 g4, q11⟩, U p5⟩
end

end
theorem FinLB.z : True := trivial
-- LC
section
theorem StLC.z : True := by
  w_top off
  trivial
variable {w : World} {p : Program} {loose : List Str} {mean : ExcName → Option Value} {mg mb : Str → Option Value}
noncomputable abbrev fullD (dT dM : PyData) : PyData := .tuple [.str "index", dT, .int 6, .tuple [.str "row", .tuple [.str "array", .int 2, dT], .int 6, .int 2, .tuple [.tuple [.int 0, dM]]], .tuple [.str "const", .tuple [.str "int", .str "int"], .int 6, .int 1]]
noncomputable abbrev dFace : PyData := .tuple [.str "interface", .tuple []]
noncomputable abbrev dMade (d : Int) : PyData := .tuple [.str "local", dFace, .int 2, .int d]
noncomputable def IsTD (dT : PyData) : Prop := dT = .tuple [.str "string"] ∨ dT = .tuple [.str "ptr", dFace] ∨ dT = .tuple [.str "named", .str "main.T"]
theorem full_shaped {dT : PyData} (h : IsTD dT) (d : Int) : PySem.SeqAt.shaped (fullD dT (dMade d)) = true := by
  rcases h with rfl | rfl | rfl <;> kernel_rfl!
theorem reads_full {h : Heap} {a r c ar rs r1 wt : Addr} {tv mv : Value} {dT dM : PyData} {as bs : List Addr} {t0 t00 t01 t1 t2 t3 t4 t5 t6 t7 t8 t9 t10 : Tok} (hT : Reads h tv dT as) (hM : Reads h mv dM bs)
    (g1 : h.get? a = some (tup [.str "index" t1, tv, .int 6 t0, .ref r, .ref c])) (g2 : h.get? r = some (tup [.str "row" t2, .ref ar, .int 6 t00, .int 2 t3, .ref rs])) (g3 : h.get? ar = some (tup [.str "array" t4, .int 2 t5, tv])) (g4 : h.get? rs = some (tup [.ref r1])) (g5 : h.get? r1 = some (tup [.int 0 t6, mv]))
    (g6 : h.get? c = some (tup [.str "const" t7, .ref wt, .int 6 t01, .int 1 t8])) (g7 : h.get? wt = some (tup [.str "int" t9, .str "int" t10])) : ∃ cs, Reads h (.ref a) (fullD dT dM) cs :=
  have r1' : Reads h (.ref r1) _ _ := Reads.tuple g5 rfl rfl (.cons (.int _ _) (.cons hM .nil))
  have rs' : Reads h (.ref rs) _ _ := Reads.tuple g4 rfl rfl (.cons r1' .nil)
  have ar' : Reads h (.ref ar) _ _ := Reads.tuple g3 rfl rfl (.cons (.str _ _) (.cons (.int _ _) (.cons hT .nil)))
  have r' : Reads h (.ref r) _ _ := Reads.tuple g2 rfl rfl (.cons (.str _ _) (.cons ar' (.cons (.int _ _) (.cons (.int _ _) (.cons rs' .nil)))))
  have wt' : Reads h (.ref wt) _ _ := Reads.tuple g7 rfl rfl (.cons (.str _ _) (.cons (.str _ _) .nil))
  have c' : Reads h (.ref c) _ _ := Reads.tuple g6 rfl rfl (.cons (.str _ _) (.cons wt' (.cons (.int _ _) (.cons (.int _ _) .nil))))
  ⟨_, Reads.tuple g1 rfl rfl (.cons (.str _ _) (.cons hT (.cons (.int _ _) (.cons r' (.cons c' .nil)))))⟩
/-- a type that is drawn -/
noncomputable def TOk (l : List (Addr × Obj)) (v : Value) : Prop := (∃ a t, v = .ref a ∧ (a, tup [.str "string" t]) ∈ l) ∨ (∃ a t f t2 e, v = .ref a ∧ (a, tup [.str "ptr" t, .ref f]) ∈ l ∧ (f, tup [.str "interface" t2, .ref e]) ∈ l ∧ (e, tup []) ∈ l) ∨ (∃ a t t2, v = .ref a ∧ (a, tup [.str "named" t, .str "main.T" t2]) ∈ l)
theorem TOk.reads {g h : Heap} {L : Addr} {l : List (Addr × Obj)} {v : Value} (H : TOk l v) (N : News g L h l) : ∃ dT as, IsTD dT ∧ Reads h v dT as := by
  rcases H with ⟨a, t, rfl, h1⟩ | ⟨a, t, f, t2, e, rfl, h1, h2, h3⟩ | ⟨a, t, t2, rfl, h1⟩
  · exact ⟨_, _, .inl rfl, Reads.tuple (N _ h1).1 rfl rfl (.cons (.str _ _) .nil)⟩
  · have re : Reads h (.ref e) _ _ := Reads.tuple (N _ h3).1 rfl rfl .nil
    have rf : Reads h (.ref f) _ _ := Reads.tuple (N _ h2).1 rfl rfl (.cons (.str _ _) (.cons re .nil))
    exact ⟨_, _, .inr (.inl rfl), Reads.tuple (N _ h1).1 rfl rfl (.cons (.str _ _) (.cons rf .nil))⟩
  · exact ⟨_, _, .inr (.inr rfl), Reads.tuple (N _ h1).1 rfl rfl (.cons (.str _ _) (.cons (.str _ _) .nil))⟩
theorem tok_of {g h : Heap} {L : Addr} {l : List (Addr × Obj)} (_N : News g L h l) {vs : List Value} {v : Value} (hv : v ∈ vs) (k : ∀ u ∈ vs, TOk l u) : TOk l v := k v hv
theorem ne_full {prog : Program} {A : Around} {E : Value → Shared → Prop} {s : Shared} {g : Heap} {L : Addr} {Z : List (Addr × Obj)} {Q : Value → Shared → Prop} {a r c ar rs r1 wt b r' c' ar' rs' r1' wt' mk fc em : Addr} {tv : Value} {d : Int} {t0 t00 t01 t1 t2 t3 t4 t5 t6 t7 t8 t9 t10 s0 s00 s01 s1 s2 s3 s4 s5 s6 s7 s8 s9 s10 u1 u2 u3 u4 : Tok} (N : News g L s.heap Z) (hT : TOk Z tv)
    (g1 : (a, tup [.str "index" t1, tv, .int 6 t0, .ref r, .ref c]) ∈ Z) (g2 : (r, tup [.str "row" t2, .ref ar, .int 6 t00, .int 2 t3, .ref rs]) ∈ Z) (g3 : (ar, tup [.str "array" t4, .int 2 t5, tv]) ∈ Z) (g4 : (rs, tup [.ref r1]) ∈ Z) (g5 : (r1, tup [.int 0 t6, .ref mk]) ∈ Z) (g6 : (c, tup [.str "const" t7, .ref wt, .int 6 t01, .int 1 t8]) ∈ Z) (g7 : (wt, tup [.str "int" t9, .str "int" t10]) ∈ Z)
    (k1 : (b, tup [.str "index" s1, tv, .int 6 s0, .ref r', .ref c']) ∈ Z) (k2 : (r', tup [.str "row" s2, .ref ar', .int 6 s00, .int 2 s3, .ref rs']) ∈ Z) (k3 : (ar', tup [.str "array" s4, .int 2 s5, tv]) ∈ Z) (k4 : (rs', tup [.ref r1']) ∈ Z) (k5 : (r1', tup [.int 0 s6, .ref mk]) ∈ Z) (k6 : (c', tup [.str "const" s7, .ref wt', .int 6 s01, .int 1 s8]) ∈ Z) (k7 : (wt', tup [.str "int" s9, .str "int" s10]) ∈ Z)
    (q1 : (mk, tup [.str "local" u1, .ref fc, .int 2 u2, .int d u3]) ∈ Z) (q2 : (fc, tup [.str "interface" u4, .ref em]) ∈ Z) (q3 : (em, tup []) ∈ Z) (hu : A.units + 64 < cLine) (h : Q (.bool false) s) : wpAny (model prog w) A (compareOp .NotEq (.ref a) (.ref b)) Q E s := by
  obtain ⟨dT, as, hD, hR⟩ := hT.reads N
  have re : Reads s.heap (.ref em) _ _ := Reads.tuple (N _ q3).1 rfl rfl .nil
  have rf : Reads s.heap (.ref fc) _ _ := Reads.tuple (N _ q2).1 rfl rfl (.cons (.str _ _) (.cons re .nil))
  have rm : Reads s.heap (.ref mk) (dMade d) _ := Reads.tuple (N _ q1).1 rfl rfl (.cons (.str _ _) (.cons rf (.cons (.int _ _) (.cons (.int _ _) .nil))))
  obtain ⟨cs, x1⟩ := reads_full hR rm (N _ g1).1 (N _ g2).1 (N _ g3).1 (N _ g4).1 (N _ g5).1 (N _ g6).1 (N _ g7).1
  obtain ⟨ds, x2⟩ := reads_full hR rm (N _ k1).1 (N _ k2).1 (N _ k3).1 (N _ k4).1 (N _ k5).1 (N _ k6).1 (N _ k7).1
  have sh := full_shaped hD d
  refine ne_dataH x1 x2 sh sh hu ?_
  rw [PySem.SeqAt.eqv_refl _ (PySem.SeqAt.canLay_of_shaped sh)]
  exact h
/-- the tables, as they lie at the end -/
noncomputable def TabsIn (l : List (Addr × Obj)) : Prop := ∃ p1 p2 p3 p4, (717, tabObj p1) ∈ l ∧ (1045, tabObj p2) ∈ l ∧ (1052, tabObj p3) ∈ l ∧ (1057, tabObj p4) ∈ l
theorem words_49 : True := by
  k_with "call ref cons nil" => (fail_if_success (open Mine.FinLC in skip)); (focus k_dflt ((with_unfolding_all refine' one_atV ?u205ke ?u205ka ?u205kB ?u205kF ?u205kX ?u205kN ?u205kT ?u205kR ?u205kU ?u205hsm ?u205hl0 ?u205hl1 ?u205hne ?u205hk ?u205hd ?u205hu ?_); (case u205ke => exact rfl); (case u205ka => exact rfl); (case u205kB => assumption); (case u205kF => assumption); (case u205kX => k_in); (case u205kN => assumption); (case u205kT => assumption); (case u205kU => (intro qqo'; k_upd)); (case u205kR => assumption); (case u205hsm => k_mem); (case u205hl0 => simp); (case u205hl1 => simp); (case u205hne => k_ne); (case u205hk => first | rfl | assumption); (case u205hd => ktr_room); (case u205hu => ktr_units); (intro qqv1 qqhv1 qqo1 qqh1 qqtk1 qqhR1 qqF1 qqN1; (try dsimp only at qqN1); (try k_sweep); (try dsimp only))))
  k_with "call ref cons nil" => (fail_if_success (open Mine.FinLC in skip)); (focus k_dflt ((with_unfolding_all refine' wound_atV ?u206ke ?u206ka ?u206kB ?u206kF ?u206kX ?u206kN ?u206kT ?u206kR ?u206kU ?u206hm ?u206hm2 ?u206hk ?u206hd ?u206hu ?_); (case u206ke => exact rfl); (case u206ka => exact rfl); (case u206kB => assumption); (case u206kF => assumption); (case u206kX => k_in); (case u206kN => assumption); (case u206kT => assumption); (case u206kU => (intro qqo'; k_upd)); (case u206kR => assumption); (case u206hm => decide); (case u206hm2 => decide); (case u206hk => first | rfl | assumption); (case u206hd => ktr_room); (case u206hu => ktr_units); (intro qqd1 qqt1 qqo1 qqh1 qqtk1 qqhd0 qqhd1 qqhR1 qqF1 qqN1; (try dsimp only at qqN1); (try k_sweep); (try dsimp only))))
  k_with "call ref cons cons" => (fail_if_success (open Mine.FinLC in skip)); (((with_reducible show wpAny _ _ (call (Value.ref 407) _) _ _ _); refine stop_ ?_))
  k_with "call ref cons nil" => (fail_if_success (open Mine.FinLC in skip)); (((with_reducible show wpAny _ _ (call (Value.ref 407) _) _ _ _); refine stop_ ?_))
  k_with "call ref cons nil" => (fail_if_success (open Mine.FinLC in skip)); (((with_reducible show wpAny _ _ (call (Value.ref 1062) _) _ _ _); refine stop_ ?_))
  k_with "call ref cons nil" => (fail_if_success (open Mine.FinLC in skip)); (((with_reducible show wpAny _ _ (call (Value.ref 1069) _) _ _ _); refine stop_ ?_))
  k_with "compareOp NotEq ref ref" => (fail_if_success (open Mine.FinLC in skip)); (refine stop_ ?_)
  trivial
theorem law_tail (fa : Addr) (cd : Value) (rl ck fc em : Addr) (tf : Tok) (o : Obj) (p1 p2 p3 : Array Value) (Y : List (Addr × Obj)) (L : Addr) (m : Str → Option Value) (ho : Reel o) (H : PCtx w Y ck) (hr : @LE.le Nat _ 1058 rl) (y1 : ∀ q ∈ Y, q.1 ≠ rl) (y2 : ∀ q ∈ Y, q.1 ≠ 717) (y3 : ∀ q ∈ Y, q.1 ≠ 1045) (y4 : ∀ q ∈ Y, q.1 ≠ 1052) (y5 : ∀ q ∈ Y, q.1 ≠ 1057)
    (f1 : (fc, tup [.str "interface" tf, .ref em]) ∈ Y) (f2 : (em, tup []) ∈ Y) (m1 : m "reel" = some (.ref rl)) (m2 : m "checker" = some (.ref ck)) (m3 : m "face" = some (.ref fc)) :
    BodyT w p loose mean mg mb "law" (fdTop 121) fa cd 4 L m ((rl, o) :: (1052, tabObj p3) :: (1045, tabObj p2) :: (717, tabObj p1) :: (1057, tabObj #[]) :: Y) 80 (fun v n' => v = .bool true ∧ TabsIn n') := by
  intro dp un gd outer A₀ base g s Q E B F XB TB N XG T hk hd hu hret
  k_dflt (show wpAny _ _ (execs (List.cons _ _) _) _ _ _)
  k_steps
  refine go_on ?_
  with_unfolding_all refine' use_c (dropped_ok _ _ _ _) ?ke ?ka ?kB ?kF ?kX ?kN ?kT ?hk ?hd ?hu ?_
  case ke => exact rfl
  case ka => exact rfl
  case kB => assumption
  case kF => assumption
  case kX => k_in
  case kN => assumption
  case kT => assumption
  case hk => first | rfl | assumption
  case hd => ktr_room
  case hu => ktr_units
  rintro v9 n9 h9 tk9 ⟨own9, a9, t1, r9, c9, rfl, rfl, g1, ⟨ar, rs, t2, t3, g2, ⟨t4, t5, g3⟩, r1, t6, g4, g5⟩, wt, t7, t8, g6, t9, t10, g7⟩ F9 N9
  k_sweep
  try dsimp only
  k_steps
  refine go_on ?_
  rename News _ _ _ _ => N8
  rename (_ ∈ [_, _, _]) => hv9
  have hT := tok_of N8 hv9 (List.forall_mem_cons.mpr ⟨.inl ⟨_, _, rfl, by k_dflt k_mem⟩, List.forall_mem_cons.mpr ⟨.inr (.inl ⟨_, _, _, _, _, rfl, by k_dflt k_mem, by k_dflt k_mem, by k_dflt k_mem⟩), List.forall_mem_cons.mpr ⟨.inr (.inr ⟨_, _, _, rfl, by k_dflt k_mem⟩), List.forall_mem_nil _⟩⟩⟩)
  refine' ne_full N8 hT ?x1 ?x2 ?x3 ?x4 ?x5 ?x6 ?x7 ?k1 ?k2 ?k3 ?k4 ?k5 ?k6 ?k7 ?q1 ?q2 ?q3 ?hu ?_
  case x1 => exact List.mem_append_right _ (by k_dflt k_mem)
  case k1 => k_dflt k_mem
  case x2 => k_dflt k_mem
  case x3 => k_dflt k_mem
  case x4 => k_dflt k_mem
  case x5 => k_dflt k_mem
  case x6 => k_dflt k_mem
  case x7 => k_dflt k_mem
  case k2 => k_dflt k_mem
  case k3 => k_dflt k_mem
  case k4 => k_dflt k_mem
  case k5 => k_dflt k_mem
  case k6 => k_dflt k_mem
  case k7 => k_dflt k_mem
  case q1 => k_dflt k_mem
  case q2 => k_dflt k_mem
  case q3 => k_dflt k_mem
  case hu => ktr_units
  k_steps
  refine go_on ?_
  rename News _ _ _ _ => N7
  have z1 := far1 hr
  have z2 := far2 hr
  have z3 := far5 hr
  have z4 := far6 hr
  with_unfolding_all refine' use_t (place_right rl ck _ ?ho ((1052, tabObj p3) :: (1045, tabObj p2) :: (717, tabObj p1) :: Y) ?h1 ?h2 hr ?H) ?ke ?ka ?kB ?kF ?kXB ?kTB (news_sub N7 ?hs) ?kX ?kT ?hk ?hd ?hu ?_
  case ke => exact rfl
  case ka => exact rfl
  case kB => assumption
  case kF => assumption
  case kXB => assumption
  case kTB => assumption
  case kX => k_in
  case kT => assumption
  case hk => first | rfl | assumption
  case hd => ktr_room
  case hu => ktr_units
  case ho => rename Reel _ => hR9; exact hR9
  case h1 => exact List.forall_mem_cons.mpr ⟨Ne.symm z3, List.forall_mem_cons.mpr ⟨Ne.symm z1, List.forall_mem_cons.mpr ⟨Ne.symm z2, y1⟩⟩⟩
  case h2 => exact List.forall_mem_cons.mpr ⟨by show (1052 : Nat) ≠ 1057; decide, List.forall_mem_cons.mpr ⟨by show (1045 : Nat) ≠ 1057; decide, List.forall_mem_cons.mpr ⟨by show (717 : Nat) ≠ 1057; decide, y5⟩⟩⟩
  case H => exact H.mono fun q hq => .tail _ (.tail _ (.tail _ hq))
  case hs =>
    refine List.forall_mem_cons.mpr ⟨by k_dflt k_mem, List.forall_mem_cons.mpr ⟨by k_dflt k_mem, List.forall_mem_cons.mpr ⟨by k_dflt k_mem, List.forall_mem_cons.mpr ⟨by k_dflt k_mem, List.forall_mem_cons.mpr ⟨by k_dflt k_mem, ?_⟩⟩⟩⟩⟩
    k_extra "sub"
  rintro v n' h' tk' g' T1 ⟨rfl, o1, ps, hR1, rfl⟩ F1 N1 B1 X1 TT1
  k_steps
  refine go_on ?_
  with_unfolding_all refine' use_c (const_right rl o1 hR1 ((1057, tabObj ps) :: (1052, tabObj p3) :: (1045, tabObj p2) :: (717, tabObj p1) :: Y) ?h1b) ?keb ?kab ?kBb ?kFb ?kXb ?kNb ?kTb ?hkb ?hdb ?hub ?_
  case keb => exact rfl
  case kab => exact rfl
  case kBb => assumption
  case kFb => assumption
  case kXb => k_in
  case kNb => assumption
  case kTb => assumption
  case hkb => first | rfl | assumption
  case hdb => ktr_room
  case hub => ktr_units
  case h1b => exact List.forall_mem_cons.mpr ⟨Ne.symm z4, List.forall_mem_cons.mpr ⟨Ne.symm z3, List.forall_mem_cons.mpr ⟨Ne.symm z1, List.forall_mem_cons.mpr ⟨Ne.symm z2, y1⟩⟩⟩⟩
  rintro v n' h2 tk2 ⟨rfl, o2, hR2, rfl⟩ F2 N2
  try dsimp only
  k_steps
  refine' hret _ _ _ _ _ _ T1 ⟨rfl, p1, p2, p3, ps, ?e1, ?e2, ?e3, ?e4⟩ ?zF ?zN B1
  case zF => assumption
  case zN => assumption
  case e1 => k_dflt k_mem
  case e2 => k_dflt k_mem
  case e3 => k_dflt k_mem
  case e4 => k_dflt k_mem

end
theorem FinLC.z : True := trivial
-- LD
section
theorem StLD.z : True := by
  w_top off
  trivial
variable {w : World} {p : Program} {loose : List Str} {mean : ExcName → Option Value} {mg mb : Str → Option Value}
theorem words_50 : True := by
  k_with "call ref cons nil" => (fail_if_success (open Mine.FinLD in skip)); (k_dflt ((with_unfolding_all refine' use_c (cw_2 _ _ _ _ _ _ _ _ _ _ _ _ _ _ _ ?u212hw ?u212hh ?u212h1 ?u212h2) ?u212ke ?u212ka ?u212kB ?u212kF ?u212kX ?u212kN ?u212kT ?u212hk ?u212hd ?u212hu ?_); (case u212ke => exact rfl); (case u212ka => exact rfl); (case u212kB => assumption); (case u212kF => assumption); (case u212kX => k_in); (case u212kN => assumption); (case u212kT => assumption); (case u212hw => assumption); (case u212h2 => k_mem); (case u212h1 => k_mem); (case u212hh => k_mem); (case u212hk => first | rfl | assumption); (case u212hd => ktr_room); (case u212hu => ktr_units); (intro qqv9 qqn9 qqh9 qqtk9 qqp9 qqF9 qqN9; obtain ⟨qqe1, qqe2⟩ := qqp9; (first | (replace qqe1 := qqe1.trans (if_pos (by assumption))) | (replace qqe1 := qqe1.trans (if_f (by assumption)))); subst qqe1; subst qqe2; (try k_sweep); (try dsimp only))))
  k_with "compareOp NotEq ref ref" => (fail_if_success (open Mine.FinLD in skip)); (refine stop_ ?_)
  k_with "call ref nil" => (fail_if_success (open Mine.FinLD in skip)); (((with_reducible show wpAny _ _ (call (Value.ref 1043) _) _ _ _); refine stop_ ?_))
  k_with "call ref cons nil" => (fail_if_success (open Mine.FinLD in skip)); (((with_reducible show wpAny _ _ (call (Value.ref 1008) _) _ _ _); refine stop_ ?_))
  k_with "call ref cons nil" => (fail_if_success (open Mine.FinLD in skip)); (((with_reducible show wpAny _ _ (call (Value.ref 1050) _) _ _ _); refine stop_ ?_))
  k_with "call ref cons nil" => (fail_if_success (open Mine.FinLD in skip)); (((with_reducible show wpAny _ _ (call (Value.ref 1055) _) _ _ _); refine stop_ ?_))
  trivial
theorem ne_one {prog : Program} {A : Around} {E : Value → Shared → Prop} {s : Shared} {g : Heap} {L : Addr} {Z : List (Addr × Obj)} {Q : Value → Shared → Prop} {a b : Addr} {t1 t2 t3 t4 t5 : Tok} (N : News g L s.heap Z) (h1 : (a, tup [.str "const" t1, .ref b, .int 1 t2, .int 4 t3]) ∈ Z) (h2 : (b, tup [.str "int" t4, .str "int" t5]) ∈ Z) (hu : A.units + 64 < cLine) (h : Q (.bool false) s) : wpAny (model prog w) A (compareOp .NotEq (.ref a) (.ref a)) Q E s := by
  have r2 : Reads s.heap (.ref b) _ _ := Reads.tuple (N _ h2).1 rfl rfl (.cons (.str _ _) (.cons (.str _ _) .nil))
  have r1 : Reads s.heap (.ref a) _ _ := Reads.tuple (N _ h1).1 rfl rfl (.cons (.str _ _) (.cons r2 (.cons (.int _ _) (.cons (.int _ _) .nil))))
  have sh : PySem.SeqAt.shaped (.tuple [.str "const", .tuple [.str "int", .str "int"], .int 1, .int 4]) = true := by decide +kernel
  refine ne_dataH r1 r1 sh sh hu ?_
  rw [PySem.SeqAt.eqv_refl _ (PySem.SeqAt.canLay_of_shaped sh)]
  exact h
theorem words_51 : True := by
  k_with "execs cons" => (fail_if_success (open Mine.FinLD in skip)); (((with_reducible show wpAny _ _ (execs (Stmt.Assign [Expr.Tuple [Expr.Name (PySem.Str.ofString "T") _, _] _ _] _ _ :: _) _) _ _ _); refine stop_ ?_))
  trivial
theorem law_keep {g h : Heap} {L rl : Addr} {Z : List (Addr × Obj)} (N : News g L h Z) (hl : ∀ q ∈ Z, q.1 < rl) (a1 : (717, tabObj #[]) ∈ Z) (a2 : (1045, tabObj #[]) ∈ Z) (a3 : (1052, tabObj #[]) ∈ Z) (a4 : (1057, tabObj #[]) ∈ Z) : ∀ q ∈ Z, ClsOk q.2 → q ∈ sansA [rl, 717, 1045, 1052, 1057] Z := by
  intro q hq hc
  have ne : ∀ {b : Addr}, (b, tabObj #[]) ∈ Z → q.1 ≠ b := fun {b} hb e => by
    have h1 := (N _ hb).1
    have h2 := (N _ hq).1
    rw [e, h1] at h2
    exact hc.1 (by rw [← Option.some.inj h2])
  exact mem_sansA hq (List.forall_mem_cons.mpr ⟨Nat.ne_of_lt (hl q hq), List.forall_mem_cons.mpr ⟨ne a1, List.forall_mem_cons.mpr ⟨ne a2, List.forall_mem_cons.mpr ⟨ne a3, List.forall_mem_cons.mpr ⟨ne a4, List.forall_mem_nil _⟩⟩⟩⟩⟩)
theorem law_use {A : Around} {env : Env} {ss : List Stmt} {fa : Addr} {cd : Value} {sc : Addr} {its : List Value} {ns : List Int} {L : Addr} {m : Str → Option Value} {dp un : Nat} {gd : Option (List Code)} {outer : List Env} {A₀ : Around} {g : Heap} {s : Shared} {Q : Flow → Shared → Prop} {E : Value → Shared → Prop} (eA : A = ktrTop dp un gd "law" (fdTop 121).scope L fa cd [] outer) (ee : env = envX "law" (fdTop 121).scope L fa cd []) (es : ss = (fdTop 121).body)
    (B : Below A₀ g outer g) (F : Fr g L s.heap m) (XB : (Mine.Kb w.params).In g) (TB : Top p loose mean mg mb g) (N : News g L s.heap [((717 : Addr), tabObj #[]), (1045, tabObj #[]), (1052, tabObj #[]), (1057, tabObj #[])]) (hL : g.IsList sc its.toArray) (hi : IntsAre its ns) (hlen : ns.length ≤ 63) (m1 : m "script" = some (.ref sc)) (hd : dp + 90 < recursionLimit) (hu : un + 8 * 90 < cLine)
    (hret : ∀ news' h' tk' g' m', TabsIn news' → Fr g' L h' m' → News g' L h' news' → Below A₀ g outer g' → Q (.ret (.bool true)) ⟨h', s.gens, s.drawn, tk', s.os⟩) :
    wpAny (model pw' w) A (execs ss env) Q E s := by
  subst eA
  subst ee
  subst es
  have XG := XB
  have T := TB
  k_dflt (show wpAny _ _ (execs (List.cons _ _) _) _ _ _)
  k_steps
  refine go_on ?_
  rename News _ _ _ _ => N1
  refine' ne_one N1 ?h1 ?h2 ?hu ?_
  case h1 => k_dflt k_mem
  case h2 => k_dflt k_mem
  case hu => ktr_units
  k_steps
  refine go_on ?_
  rename News _ _ _ _ => N2
  with_unfolding_all refine' use_c (lchk_ok _) ?ke ?ka ?kB ?kF ?kX N2 ?kT ?hk ?hd ?hu ?_
  case ke => exact rfl
  case ka => exact rfl
  case kB => assumption
  case kF => assumption
  case kX => k_in
  case kT => assumption
  case hk => first | rfl | assumption
  case hd => ktr_room
  case hu => ktr_units
  rintro v9 n9 h9 tk9 ⟨ck, rfl, hC, hsub⟩ F9 N9
  try dsimp only
  have t1 := hsub (717, tabObj #[]) (by k_dflt k_mem)
  have t2 := hsub (1045, tabObj #[]) (by k_dflt k_mem)
  have t3 := hsub (1052, tabObj #[]) (by k_dflt k_mem)
  have t4 := hsub (1057, tabObj #[]) (by k_dflt k_mem)
  have f1 := hsub (_, tup [.str "interface" _, .ref _]) (by k_dflt k_mem)
  have f2 := hsub (_, tup []) (by k_dflt k_mem)
  k_steps
  refine go_on ?_
  rename News g L _ n9 => N3
  rename Fr g L _ _ => F3
  with_unfolding_all refine' reel_ok sc its ns hi hlen n9 _ _ _ _ _ _ _ _ _ _ _ _ _ _ _ _ _ ?rB F3 ?rX N3 ?rT hL ?rk ?rd ?ru ?_
  case rB => assumption
  case rX => k_in
  case rT => assumption
  case rk => first | rfl | assumption
  case rd => ktr_room
  case ru => ktr_units
  intro rl o1 h1 tk1 hR1 hlt F4 N4
  try dsimp only
  have hr : @LE.le Nat _ 1058 rl := hlt _ t4
  have z1 := far1 hr
  have z2 := far2 hr
  have z3 := far5 hr
  have z4 := far6 hr
  have keep := law_keep N3 hlt t1 t2 t3 t4
  have f1' := keep _ f1 clsOk_tup
  have f2' := keep _ f2 clsOk_tup
  obtain ⟨⟨eT, HT⟩, HH, HP⟩ := ctx_of keep hC
  k_steps
  refine go_on ?_
  rename News _ _ _ _ => N5
  have y1 : ∀ q ∈ sansA [rl, 717, 1045, 1052, 1057] n9, q.1 ≠ rl := sansA_ne (.head _)
  have y2 : ∀ q ∈ sansA [rl, 717, 1045, 1052, 1057] n9, q.1 ≠ 717 := sansA_ne (.tail _ (.head _))
  have y3 : ∀ q ∈ sansA [rl, 717, 1045, 1052, 1057] n9, q.1 ≠ 1045 := sansA_ne (.tail _ (.tail _ (.head _)))
  have y4 : ∀ q ∈ sansA [rl, 717, 1045, 1052, 1057] n9, q.1 ≠ 1052 := sansA_ne (.tail _ (.tail _ (.tail _ (.head _))))
  have y5 : ∀ q ∈ sansA [rl, 717, 1045, 1052, 1057] n9, q.1 ≠ 1057 := sansA_ne (.tail _ (.tail _ (.tail _ (.tail _ (.head _)))))
  with_unfolding_all refine' use_t (type_right rl ck eT _ hR1 ((1052, tabObj #[]) :: (1057, tabObj #[]) :: sansA [rl, 717, 1045, 1052, 1057] n9) ?g1 ?g2 ?g3 hr ?gH) ?ke1 ?ka1 ?kB1 ?kF1 ?kXB1 ?kTB1 (news_sub N5 ?hs1) ?kX1 ?kT1 ?hk1 ?hd1 ?hu1 ?_
  case ke1 => exact rfl
  case ka1 => exact rfl
  case kB1 => assumption
  case kF1 => assumption
  case kX1 => k_in
  case kT1 => assumption
  case hk1 => first | rfl | assumption
  case hd1 => ktr_room
  case hu1 => ktr_units
  case kXB1 => assumption
  case kTB1 => assumption
  case g1 => exact List.forall_mem_cons.mpr ⟨Ne.symm z3, List.forall_mem_cons.mpr ⟨Ne.symm z4, y1⟩⟩
  case g2 => exact List.forall_mem_cons.mpr ⟨by show (1052 : Nat) ≠ 1045; decide, List.forall_mem_cons.mpr ⟨by show (1057 : Nat) ≠ 1045; decide, y3⟩⟩
  case g3 => exact List.forall_mem_cons.mpr ⟨by show (1052 : Nat) ≠ 717; decide, List.forall_mem_cons.mpr ⟨by show (1057 : Nat) ≠ 717; decide, y2⟩⟩
  case gH => exact HT.mono fun q hq => .tail _ (.tail _ hq)
  case hs1 =>
    exact List.forall_mem_cons.mpr ⟨.tail _ (.head _), List.forall_mem_cons.mpr ⟨.tail _ (.tail _ t2), List.forall_mem_cons.mpr ⟨.tail _ (.tail _ t1), List.forall_mem_cons.mpr ⟨.tail _ (.tail _ t3), List.forall_mem_cons.mpr ⟨.tail _ (.tail _ t4), fun q hq => .tail _ (.tail _ (sansA_sub q hq))⟩⟩⟩⟩⟩
  rintro v n1 h1' tk1' g1 T1 ⟨rfl, o2, ps1, ps2, hR2, rfl⟩ F6 N6 B6 X6 TT6
  k_steps
  refine go_on ?_
  with_unfolding_all refine' use_t (places_right rl ck _ hR2 ((1045, tabObj ps1) :: (717, tabObj ps2) :: (1057, tabObj #[]) :: sansA [rl, 717, 1045, 1052, 1057] n9) ?g4 ?g5 hr ?gH2) ?ke2 ?ka2 ?kB2 ?kF2 ?kXB2 ?kTB2 (news_sub N6 ?hs2) ?kX2 ?kT2 ?hk2 ?hd2 ?hu2 ?_
  case ke2 => exact rfl
  case ka2 => exact rfl
  case kB2 => assumption
  case kF2 => assumption
  case kX2 => k_in
  case kT2 => assumption
  case hk2 => first | rfl | assumption
  case hd2 => ktr_room
  case hu2 => ktr_units
  case kXB2 => assumption
  case kTB2 => assumption
  case g4 => exact List.forall_mem_cons.mpr ⟨Ne.symm z1, List.forall_mem_cons.mpr ⟨Ne.symm z2, List.forall_mem_cons.mpr ⟨Ne.symm z4, y1⟩⟩⟩
  case g5 => exact List.forall_mem_cons.mpr ⟨by show (1045 : Nat) ≠ 1052; decide, List.forall_mem_cons.mpr ⟨by show (717 : Nat) ≠ 1052; decide, List.forall_mem_cons.mpr ⟨by show (1057 : Nat) ≠ 1052; decide, y4⟩⟩⟩
  case gH2 => exact HH.mono fun q hq => .tail _ (.tail _ (.tail _ hq))
  case hs2 =>
    intro q hq
    simp only [List.mem_cons] at hq ⊢
    rcases hq with e | e | e | e | e | e <;> simp [e]
  rintro v n2 h2' tk2' g2 T2 ⟨rfl, o3, ps3, hR3, rfl⟩ F7 N7 B7 X7 TT7
  k_steps
  refine go_on ?_
  rename Fr _ _ _ _ => F8
  refine' bt_useG (P := fun v n' => v = .bool true ∧ TabsIn n') (k := 80) (i := 4) (news := (rl, o3) :: (1052, tabObj ps3) :: (1045, tabObj ps1) :: (717, tabObj ps2) :: (1057, tabObj #[]) :: sansA [rl, 717, 1045, 1052, 1057] n9) ?zh ?es rfl B7 F8 XB TB ?zN X7 TT7 ?zd ?zu ?zr
  case es => kernel_rfl!
  case zN => assumption
  case zd => ktr_room
  case zu => ktr_units
  case zr =>
    rintro v news' h' tk' g' m' T3 ⟨rfl, hP⟩ F9 N9 B9
    exact hret news' h' tk' g' m' hP F9 N9 B9
  case zh =>
    refine' law_tail fa cd rl ck _ _ _ _ _ _ _ _ L _ hR3 HP hr y1 y2 y3 y4 y5 f1' f2' ?m1 ?m2 ?m3
    case m1 => rfl
    case m2 => rfl
    case m3 => rfl

end
theorem FinLD.z : True := trivial
-- LA
section
theorem StLA.z : True := by
  w_top off
  trivial
variable {w : World} {p : Program} {loose : List Str} {mean : ExcName → Option Value} {mg mb : Str → Option Value}
theorem kf_kb {P : Params} {h : Heap} (Y : (Kf P).In h) : (Kb P).In h := fun a o e => Y a o (by
  show List.lookup a (Kb P ++ _) = some o
  rw [List.lookup_append, e]
  rfl)
theorem tabs_at {P : Params} {h : Heap} (Y : (Kf P).In h) : TabsAt [(721, 717), (1049, 1045), (1054, 1052), (1061, 1057)] h :=
  List.forall_mem_cons.mpr ⟨⟨hd721 (kf_kb Y), Y 717 _ rfl⟩, List.forall_mem_cons.mpr ⟨⟨hd1049 (kf_kb Y), Y 1045 _ rfl⟩, List.forall_mem_cons.mpr ⟨⟨hd1054 (kf_kb Y), Y 1052 _ rfl⟩, List.forall_mem_cons.mpr ⟨⟨hd1061 (kf_kb Y), Y 1057 _ rfl⟩, List.forall_mem_nil _⟩⟩⟩⟩
theorem law_walk : WalkO qv loose0 (XL qv []) (fun w h => (Kf w.params).In h) rowL.toRowW dLaw [] (fun f vs => PySem.call f vs) := by
  intro w s₀ s₁ mg mb G Y fa o pm cd doc dV kV ho hd hcd hD hmg hg args vals as hpre hlay hrd hwl hlo
  have KX := kf_kb Y
  have X := (Ground.X G).1
  have V := (Ground.X G).2
  refine Ground.open G ?_
  intro T B D TE TW
  try (refine guard_noD D (by decide +kernel) ?_; clear D)
  have hT9 := tabs_at Y
  clear hmg
  wrow_args hpre hlay hrd hwl hlo
  first | refine callC_kw (enter_call ?_) | refine enter_call ?_
  w_top on
  kn_posts
  w_call any ho hd hcd hD T F
  clear hd
  kn_ghosts F T
  try k_fold
  rename Fr _ _ _ _ => F9
  rename News _ _ _ _ => N9
  rename Frag.In _ _ => X9
  rename Top _ _ _ _ _ _ => T9
  rename Below _ _ _ _ => B9
  rename Heap.IsList (ghostOf _ _) _ _ => L9
  rename IntsAre _ _ => hI9
  have hE9 : dLaw = fdTop 121 := by kernel_rfl!
  have hp9 : rowL.prog = pw' := by kernel_rfl!
  have hn9 : (fdTop 121).name = "law" := by kernel_rfl!
  rw [hE9, hp9, hn9]
  generalize hS9 : (fdTop 121).body = ss9
  refine' law_use ?eA ?ee hS9.symm B9 F9 X9 T9 N9 L9 hI9 ?hlen ?m1 ?hd ?hu ?ret
  case eA => rfl
  case ee => rfl
  case m1 => rfl
  case hlen => omega
  case hd => ktr_room
  case hu => ktr_units
  case ret =>
    rintro news' h' tk' g' m' ⟨p1, p2, p3, p4, a1, a2, a3, a4⟩ F1 N1 B1
    refine ⟨?_, GrownAt.of N1 a1, GrownAt.of N1 a2, GrownAt.of N1 a3, GrownAt.of N1 a4, trivial⟩
    refine goodW_bool ⟨F1.ns, fun b o e => F1.keep b o (B1.stays b o e), F9.above⟩ hg (fun _ => rfl) ?post rfl
    case post => first | rfl | kernel_rfl!

end
theorem FinLA.z : True := trivial
end
-- FIN
section
open PySem PySem.W PyProof.Rows PySem.Calls
theorem fin : PySem.Challenge.rw_xm0190_01.Holds := hd Kf kAs0 hAs0 compA_all compB_all compC_all hk0' wellSaid0 law_walk
end
end
end Mine
theorem PySem.Challenge.cw_xm0190_01_holds : PySem.Challenge.rw_xm0190_01.Holds := by
  exact Mine.fin
